import PyProof.Rows.All
import HandS.EndBits
import HandS.CallSlots
import HandS.ExcOwn
import HandS.WordsExc
import PyProof.ReprRoads
import HandS.Iter
import HandS.TupAny
import HandS.List
import Wide.All
import OpenK.AllK
import Wide.FinOn
import HandS.ForMost
import HandS.ForExc
import HandS.Wide
import HandS.Flow
import HandS.Zip
import KE.DataEq
import HandS.Lambda
import HandS.IsInst
import HandS.EndTab
import HandS.SortKw
import PyProof.MinMaxWalk
import PyProof.WalkInts
import HandS.Text
import HandS.TupLe
import HandS.More
import HandS.DictEq
import HandS.DeepEq
import KE.LtSeq
import KE.LtData
import HandS.SortOrd
import HandS.SortRule
import HandS.RevRange
import HandS.Rev
import HandS.Deep
import HandS.Replace
import KE.GoesMore
import HandS.ClsMeth
import HandS.Conv
import HandS.Codes
import KE.KExcIs
import HandS.ExcIs
import HandS.ExcField
import HandS.TryOnly
import PyProof.StrBlock2
import PyProof.Draws
import PyProof.EnumMake
import HandS.ExcInit
import HandS.ReplaceLit
import HandS.StrMore
import PyProof.StrLawsReplace
import KE.SortKeyHeap
import KE.DataFind
import KE.SortData
import KE.KDictSum
import KE.KDictList
import HandS.ExcValue
import HandS.SetFor
import HandS.Strs
import HandS.Spec
import PySem.Challenge.RW_selfsay_k04_whole_put_behind_one_another
set_option Elab.async false
set_option linter.all false
set_option maxRecDepth 100000
set_option maxHeartbeats 4000000
/-! Pl0: promises of defs that may count on no repr being under way, and on one frame for one call. -/
namespace L2
open PySem PySem.Spec PyProof.Rows
/-- room for k calls within one another; no repr is under way -/
structure RoomW (k : Nat) (A : Around) : Prop where
  gd : A.guards = some []
  dp : A.depth + k + 8 < recursionLimit
  un : A.units + 4 * k + 220 < cLine
structure RoomG (k : Nat) (A : Around) : Prop where
  hd : A.handled = none
  gd : A.guards = some []
  dp : A.depth + k + 8 < recursionLimit
  un : A.units + 4 * k + 220 < cLine
theorem RoomG.w {k : Nat} {A : Around} (r : RoomG k A) : RoomW k A := ⟨r.gd, r.dp, r.un⟩
theorem RoomG.mono {j k : Nat} {A : Around} (r : RoomG k A) (h : j ≤ k) : RoomG j A := ⟨r.hd, r.gd, by have := r.dp; omega, by have := r.un; omega⟩
theorem RoomG.deeper {k : Nat} {A : Around} (r : RoomG (k + 1) A) (env : Env) : RoomG k (A.deeper env) :=
  ⟨r.hd, r.gd, by have := r.dp; show A.depth + 1 + k + 8 < _; omega, by have := r.un; show A.units + 3 + 4 * k + 220 < _; omega⟩
theorem RoomG.depth {k : Nat} {A : Around} (r : RoomG k A) : A.depth < recursionLimit := by have := r.dp; omega
theorem RoomG.units {k : Nat} {A : Around} (r : RoomG k A) : A.units + 64 < cLine := by have := r.un; omega
/-- room in the library's own sense -/
theorem RoomG.room {n k : Nat} {A : Around} (r : RoomG n A) (h : 4 * k ≤ n) : Room k A := ⟨r.hd, by have := r.dp; omega, by have := r.un; omega⟩
structure FnG (P : Program) (w : World) (K : PySem.W.Frag) (mg : Str → Option Value) (base : Heap) (CX : CXT) (k : Nat) (f : Addr) (fd : FuncData) (ps : List Str) (sp : Sp) : Prop where
  len : ∀ vs H Q E, sp vs H Q E → vs.length = ps.length
  run : ∀ (A : Around) (outer : List Env) (s : Shared) (H : Hp) (args : Args) (us : List Value) (vs : List V) (Q : VK) (E : XK), RoomG k A → Env0 P w K mg base A outer s H → BindsTo s fd args (ps.zip us) → Vals vs us → sp vs H Q E →
    codeAny (model P w) A (.call (.ref f) args) (CR CX outer P w H s Q E) s
theorem FnG.mono {P : Program} {w : World} {K : PySem.W.Frag} {mg : Str → Option Value} {base : Heap} {CX : CXT} {j k : Nat} {f : Addr} {fd : FuncData} {ps : List Str} {sp : Sp} (F : FnG P w K mg base CX j f fd ps sp) (h : j ≤ k) :
    FnG P w K mg base CX k f fd ps sp := ⟨F.len, fun A outer s H args us vs Q E hr => F.run A outer s H args us vs Q E (hr.mono h)⟩
theorem FnG.imp {P : Program} {w : World} {K : PySem.W.Frag} {mg : Str → Option Value} {base : Heap} {CX : CXT} {k : Nat} {f : Addr} {fd : FuncData} {ps : List Str} {sp sp' : Sp} (F : FnG P w K mg base CX k f fd ps sp)
    (h : ∀ vs H Q E, sp' vs H Q E → sp vs H Q E) : FnG P w K mg base CX k f fd ps sp' :=
  ⟨fun vs H Q E q => F.len vs H Q E (h _ _ _ _ q), fun A outer s H args us vs Q E hr he hb hv hs => F.run A outer s H args us vs Q E hr he hb hv (h _ _ _ _ hs)⟩
section
variable {X : Cx} {CX : CXT} {k : Nat} {f C : Addr} {fd : FuncData} {ps : List Str} {sp : Sp} {dvs : List V} {ds : List Value} {E : XK} {x m : Str} {p pos apos : Pos} {e o : Expr} {es : List Expr} {ta : TE} {t : TA}
end
section
variable {X : Cx} {CX : CXT} {k : Nat} {f : Addr} {fd : FuncData} {ps : List Str} {sp : Sp} {dvs : List V} {ds : List Value} {E : St → XK} {x : Str} {p pos : Pos} {e : Expr} {es : List Expr} {t : TA}
theorem run_fnSDG {pins : List (Addr × Obj)} {σ : St} {H : Hp} {s : Shared} {Q : VK} {us : List Value} {vs : List V} (F : FnG X.prog X.w X.K X.mg X.base CX k f fd ps sp) (hr : RoomG k X.A) (hb : Binds X.K fd ps ds) (hd : Vals dvs ds) (hx : PassesAt CX X σ (E σ))
    (I : Inv X pins σ H s) (r : Vals vs us) (h : sp (vs ++ dvs) H Q (E σ)) : wpAny (model X.prog X.w) X.A (call (.ref f) us) (EP X pins σ Q) X.xe s := by
  have r2 : Vals (vs ++ dvs) (us ++ ds) := r.append hd
  have hl : (us ++ ds).length = ps.length := by rw [← r2.length]; exact F.len _ _ _ _ h
  refine wpAny_call (codeAny_mono (F.run X.A X.stack s H ⟨us, []⟩ (us ++ ds) (vs ++ dvs) Q (E σ) hr I.env0 (hb s us I.kIn hl) r2 h) fun r s' hq => ?_)
  cases r with
  | error e => exact hx pins H s e s' I hq
  | ok fl =>
    cases fl with
    | ret u => exact I.after hq
    | next => exact False.elim hq
    | brk => exact False.elim hq
    | cont => exact False.elim hq
theorem pe_callSDG (F : FnG X.prog X.w X.K X.mg X.base CX k f fd ps sp) (hr : RoomG k X.A) (hg : Gl X x) (hm : X.mg x = some (.ref f)) (hk : PySem.W.keepIn X.K (.ref f) = true) (hb : Binds X.K fd ps ds) (hd : Vals dvs ds) (hx : ∀ σ, PassesAt CX X σ (E σ))
    (ha : PA X (e :: es) t) (hdb : (x == ("__debug__" : Str)) = false := by decide) (he : starEach (e :: es) X.env = (false, eval e X.env) :: starEach es X.env := by rfl) (hpl : (backTo pos (starEach es X.env)).any (·.1) = false := by rfl) :
    PE X (.Call (.Name x p) (e :: es) [] pos) (tCallSD sp dvs E t) := by
  refine ⟨fun pins s σ H Q I h => ?_⟩
  refine wpAny_Call_Name_kw (ld_glob I hg hm ?_ hdb)
  refine PySem.W.callWith_K (h₀ := X.base) I.ok.mod.kin hk (thn (ha.run pos pins s σ H _ I h) fun us s1 ⟨vs, H1, I1, r, q⟩ => ⟨I1.kIn, ?_⟩) he hpl
  exact run_fnSDG F hr hb hd (hx σ) I1 r q
end
theorem fn_ofG {CX : CXT} {P : Program} {w : World} {K : PySem.W.Frag} {mg : Str → Option Value} {base : Heap} {k : Nat} {f : Addr} {name qual : Str} {params : Arguments} {body : List Stmt} {scope : Scope} {dV kV doc pm cdv ct oc : Value} {an od : Option Addr}
    {osl : Array (Option Value)} {N ps : List Str} {sp : Sp} (lk : K.lookup f = some ⟨oc, od, .func (PySem.W.fnOf name qual params body scope dV kV doc pm an cdv ct), osl⟩) (hcd : PySem.W.codeIn K cdv qual = true) (S : FnScope N ps scope)
    (len : ∀ vs H Q E, sp vs H Q E → vs.length = ps.length)
    (hbody : ∀ (A : Around) (outer : List Env) (s : Shared) (H : Hp) (vs : List V) (Q : VK) (E : XK), RoomG k (A.deeper (envOfC qual scope s.heap.objs.size f cdv)) → sp vs H Q E →
      ∃ t, PSs (cxOf CX P w K mg base N qual scope f cdv A outer s H E) body t ∧ t { nx := fun _ H' => Q .non H', rt := Q } (start N vs) H) :
    FnG P w K mg base CX (k + 1) f (PySem.W.fnOf name qual params body scope dV kV doc pm an cdv ct) ps sp := by
  refine ⟨len, fun A outer s H args us vs Q E hr e0 hb r hsp => ?_⟩
  have hl := len _ _ _ _ hsp
  have KX : K.In s.heap := e0.mod.kin.keeps fun b o e => (e0.bs b o e).1
  have lim : s.heap.NoLimit := e0.mod.nolimit.keeps fun b o e => (e0.bs b o e).1
  have hkind : ∀ y ∈ ps.zip us, scope.names.lookup y.1 = some .local ∨ (scope.names.lookup y.1 = some .cell ∧ ((cellsFrom (s.heap.objs.size + 1) scope.names []).lookup y.1).isSome = true) := fun ⟨n, v⟩ hy => by
    rcases S.par n (List.of_mem_zip hy).1 with q | q
    · exact .inl q
    · exact .inr ⟨q, PySem.W.cellsFrom_some _ _ _ (.inl q)⟩
  refine codeAny_call_function hr.depth (KX _ _ lk) rfl S.co S.gen rfl (PySem.W.codeRec_of KX hcd) (hb _ _ _ _ ?_)
  refine wpAny_newFunctionEnv_cells S.kind hkind fun env he s1 x => ?_
  subst he
  refine ⟨lim.keeps x.toInCall.keep, codeAny_func ?_⟩
  obtain ⟨t, ht, hq⟩ := hbody A outer s H vs Q E (hr.deeper _) hsp
  have I : Inv (cxOf CX P w K mg base N qual scope f cdv A outer s H E) [] (start N vs) H s1 := inv_start S hr.hd e0 hl r x
  refine wpAny_mono (ht.run [] s1 (start N vs) H _ I hq) (fun fl s' hs => ?_) fun e s' hs => hs
  have fin : ∀ {σ' : St} {H' : Hp} {v : V} {u : Value}, Inv (cxOf CX P w K mg base N qual scope f cdv A outer s H E) [] σ' H' s' → RelV v u → Q v H' → CE outer P w H s Q u s' :=
    fun {σ' H' v u} J rv q => ⟨v, H', J.os, J.bare, J.base, J.hok, rv, q⟩
  cases fl with
  | ret u =>
    obtain ⟨v, σ', H', J, rv, q⟩ := hs
    exact fin J rv q
  | next =>
    obtain ⟨σ', H', J, q⟩ := hs
    exact fin (v := V.non) (u := Value.none) J rfl q
  | brk =>
    obtain ⟨_, _, _, q⟩ := hs
    exact False.elim q
  | cont =>
    obtain ⟨_, _, _, q⟩ := hs
    exact False.elim q
section
variable {P : Program} {w : World} {K : PySem.W.Frag} {mg : Str → Option Value} {base : Heap}
theorem Fun.okXG {x qual : Str} {st : Stmt} {f : Addr} {fd : FuncData} {N ps : List Str} {k : Nat} {sp : Sp} (F : Fun K x qual st f fd) (S : FnScope N ps (defScope st)) (len : ∀ vs H Q E, sp vs H Q E → vs.length = ps.length)
    (hbody : ∀ (cdv : Value) (A : Around) (outer : List Env) (s : Shared) (H : Hp) (vs : List V) (Q : VK) (E : XK), fd.code = cdv → RoomG k (A.deeper (envOfC qual (defScope st) s.heap.objs.size f cdv)) → sp vs H Q E →
      ∃ t, PSs (cxOf (L2.CX P w) P w K mg base N qual (defScope st) f cdv A outer s H E) (defBody st) t ∧ t { nx := fun _ H' => Q .non H', rt := Q } (start N vs) H) : FnG P w K mg base (L2.CX P w) (k + 1) f fd ps sp := by
  obtain ⟨oc, od, kV, doc, pm, an, cdv, ct, osl, rfl, lk, hcd⟩ := F.ex
  exact fn_ofG lk hcd S len fun A outer s H vs Q E hr hsp => hbody cdv A outer s H vs Q E rfl hr hsp
end
theorem law_callG {P : Program} {w : World} {K : PySem.W.Frag} {mg mb : Str → Option Value} {CX : CXT} {k : Nat} {fa a : Addr} {fd : FuncData} {x : Str} {sp : Sp} {s₁ : Shared} {vs : List Value} {ns : List Int}
    (KX : K.In s₁.heap) (hns : s₁.heap.Ns mainGlobals mg) (hb : s₁.heap.Ns builtinsNs mb) (hbb : ∀ x : Str, x ≠ "__name__" → mb x = bootBuiltins x) (hlim : s₁.heap.NoLimit) (hg : s₁.gens = #[])
    (ha : s₁.heap.get? a = some { cls := .type "list", data := .seq vs.toArray }) (hi : IntsAre vs ns) (hl : ns.length ≤ sizeLine) (hr : RoomG k callerA)
    (F : ∀ base : Heap, K.In base → base.Ns mainGlobals mg → FnG P w K mg base CX k fa fd [x] sp) (hbind : ∀ (s : Shared) (u : Value), BindsTo s fd ⟨[u], []⟩ [(x, u)])
    (hsp : ∀ H : Hp, Only H → SqL K H a (ns.map V.int) → sp [.ref a] H (fun v _ => v = .bl true) fun _ _ _ => False)
    (hCX : ∀ H e s', CX [] H s₁ (fun _ _ _ => False) e s' → False) :
    codeAny (model P w) callerA (.call (.ref fa) ⟨[.ref a], []⟩) (fun r s' => r = .ok (.ret (.bool true)) ∧ OldK s₁.heap s'.heap ∧ s'.os = s₁.os ∧ AllBare s'.gens) s₁ := by
  have rv := vals_ints hi
  have lenV := hi.length
  -- from an abstract heap in which nothing but the script may be tracked
  have core : ∀ H : Hp, Only H → SqL K H a (ns.map V.int) → HOk P w H s₁.heap → (∀ b, H b ≠ none → b = a) → (H a ≠ none → K.lookup a = none) →
      codeAny (model P w) callerA (.call (.ref fa) ⟨[.ref a], []⟩) (fun r s' => r = .ok (.ret (.bool true)) ∧ OldK s₁.heap s'.heap ∧ s'.os = s₁.os ∧ AllBare s'.gens) s₁ := by
    intro H hO hS hok hA hK
    have base_of : ∀ {b : Addr} {o : Obj}, s₁.heap.get? b = some o → H b = none → (hidT s₁.heap H).get? b = some o := fun e n => hidT_get e n
    have noA : ∀ {b : Addr} {o : Obj} {es : Array DictEntry} {ep : Nat}, s₁.heap.get? b = some o → o.data = .dict es ep → H b = none := fun {b o es ep} e d => by
      cases q : H b with
      | none => rfl
      | some u =>
        have e' : b = a := hA b (by rw [q]; simp)
        subst e'
        rw [ha] at e; cases e
        have d' : Data.seq vs.toArray _ = Data.dict es ep := d
        cases d'
    have nsK : ∀ {b : Addr} {m : Str → Option Value}, s₁.heap.Ns b m → (hidT s₁.heap H).Ns b m := fun {b m} ⟨o, es, ep, e, d, r⟩ => ⟨o, es, ep, base_of e (noA e d), d, r⟩
    have hKb : K.In (hidT s₁.heap H) := fun b o e => base_of (KX b o e) (by
      cases q : H b with
      | none => rfl
      | some u =>
        have e' : b = a := hA b (by rw [q]; simp)
        subst e'
        rw [hK (by rw [q]; simp)] at e; cases e)
    have hM : Mod K mg (hidT s₁.heap H) := ⟨hKb, nsK hns, ⟨mb, nsK hb, hbb⟩, let ⟨mc, h1, h2⟩ := hlim; ⟨mc, nsK h1, h2⟩⟩
    have e0 : Env0 P w K mg (hidT s₁.heap H) callerA [] s₁ H := ⟨rfl, hM, fun b o e => of_hidT e, Nat.le_of_eq (hidT_size _ _), trivial, fun b hb => absurd (show b ∈ ([] : List Addr) from hb) (by simp), hok, .of_eq hg⟩
    refine codeAny_mono ((F _ hKb (nsK hns)).run callerA [] s₁ H ⟨[.ref a], []⟩ [.ref a] [.ref a] _ _ hr e0 (hbind s₁ (.ref a)) (.cons rfl .nil) (hsp H hO hS)) fun r s' h => ?_
    cases r with
    | error e => exact (hCX H e s' h).elim
    | ok fl =>
      cases fl with
      | next => exact False.elim h
      | brk => exact False.elim h
      | cont => exact False.elim h
      | ret u =>
        obtain ⟨v, H', os, bare, un, hok', r', q⟩ := h
        have q' : v = .bl true := q
        subst q'
        obtain rfl : u = Value.bool true := r'
        refine ⟨rfl, OldK.of_keep fun b o e => ?_, os, bare⟩
        cases q : H b with
        | none => exact un.keep b o e q (by intro z; exact absurd (show b ∈ ([] : List Addr) from z) (by simp)) (by simp)
        | some u =>
          rcases hO b with z | ⟨ob, xs, z⟩
          · rw [q] at z; cases z
          · have z2 := un.frzs b ob _ z
            obtain ⟨e1, _⟩ := hok b _ z
            obtain ⟨e2, _⟩ := hok' b _ z2
            rw [e] at e1; cases e1
            exact e2
  cases hk : K.lookup a with
  | some o =>
    -- the script is one of the module's own objects
    have e := KX a o hk
    rw [ha] at e
    cases e
    refine core (fun _ => none) (fun _ => .inl rfl) (.inr ⟨_, vs.toArray, _, hk, rfl, rfl, rfl, by rw [List.size_toArray, lenV]; exact hl, by simpa using rv⟩) (fun b u z => by have z' : (none : Option HO) = some u := z; cases z') (fun b z => absurd rfl z) fun z => absurd rfl z
  | none =>
    refine core (fun b => if b = a then some (.frz { cls := .type "list", data := .seq vs.toArray } (.lst (ns.map V.int))) else none) (fun b => ?_) (.inl (.inr ⟨{ cls := .type "list", data := .seq vs.toArray }, if_pos rfl⟩)) (fun b u z => ?_) (fun b z => ?_) fun _ => hk
    · by_cases hb : b = a
      · exact .inr ⟨_, _, if_pos hb⟩
      · exact .inl (if_neg hb)
    · by_cases hb : b = a
      · have z' := (if_pos hb).symm.trans z
        cases z'
        subst hb
        exact ⟨ha, by rw [List.length_map]; exact hl, vs, _, rv, ha⟩
      · have z' := (if_neg hb).symm.trans z
        cases z'
    · by_cases hb : b = a
      · exact hb
      · exact absurd (if_neg hb) z
theorem walk_ofG {l : PySem.W.OpenLaw} {n k : Nat} {q : Program} {loose : List Str} {XP : (Str → Option Value) → Heap → Prop} {YP : World → Heap → Prop} {d : DefRec} {K : Params → PySem.W.Frag} {CX : World → CXT} {sp : World → Sp} {x : Str}
    (hn : l.most = some n) (hn2 : n ≤ sizeLine) (hdf : d.params.defaults = []) (hr : RoomG k callerA)
    (hY : ∀ (w : World) (h : Heap), YP w h → (K w.params).In h)
    (F : ∀ (w : World) (mg : Str → Option Value) (fa : Addr) (h : Heap), (K w.params).In h → h.Ns mainGlobals mg → mg d.name = some (.ref fa) →
      ∃ fd : FuncData, (∀ (s : Shared) (u : Value), BindsTo s fd ⟨[u], []⟩ [(x, u)]) ∧
        ∀ base : Heap, (K w.params).In base → base.Ns mainGlobals mg → FnG l.prog w (K w.params) mg base (CX w) k fa fd [x] (sp w))
    (hsp : ∀ (w : World) (H : Hp) (a : Addr) (ns : List Int), ns.length ≤ n → Only H → SqL (K w.params) H a (ns.map V.int) → sp w [.ref a] H (fun v _ => v = .bl true) fun _ _ _ => False)
    (hCX : ∀ (w : World) (H : Hp) (s : Shared) (e : Value) (s' : Shared), CX w [] H s (fun _ _ _ => False) e s' → False) :
    PySem.W.WalkO q loose XP YP l.row.toRowW d [] (fun f vs => PySem.call f vs) := by
  refine Att.attach_call hn hdf fun w s₀ s₁ mg mb fa o pm cd doc a vs ns G Y ho hd hcd hmg hobj hints hlen hg => ?_
  have KX := hY w _ Y
  obtain ⟨fd, hb, hF⟩ := F w mg fa _ KX G.T.g hmg
  exact law_callG KX G.T.g G.T.b G.T.builtins G.T.nolimit hg hobj hints (Nat.le_trans hlen hn2) hr hF hb (fun H hO hS => hsp w H a ns hlen hO hS) fun H e s' => hCX w H s₁ e s'
end L2

/-! Pl0x: tuples made anew, known to their objects. -/
namespace L2
open PySem PySem.Spec PyProof.Rows HT
/-- an object of the class tuple, made anew -/
def tupO (its : List Value) : Obj := { cls := .type "tuple", data := .seq its.toArray }
theorem tupX_ok {P : Program} {w : World} {H : Hp} {h : Heap} {a : Addr} {xs : List V} {its : List Value} (z : xs.length ≤ sizeLine) (r : Vals xs its) (e : h.get? a = some (tupO its)) : ObjOk P w H h a (.frz (tupO its) (.tup xs)) := ⟨e, z, its, r, _, e, rfl, _, rfl⟩
section
variable {X : Cx} {e : Expr} {es : List Expr} {te : TE} {t : TA} {pos : Pos}
def tTupX (t : TA) : TE := fun σ H Q => t σ H fun xs H1 => xs.length ≤ sizeLine ∧ ∀ p its, H1 p = none → Q (.ref p) (upd H1 p (.frz (tupO its) (.tup xs)))
theorem pe_tupX {x1} (h : PA X es t) : PE X (.Tuple es x1 pos) (tTupX t) := by
  refine ⟨fun pins s σ H Q I hq => ?_⟩
  refine wpAny_Tuple_spliced (thn (h.run pos pins s σ H _ I hq) fun us s1 ⟨xs, H1, I1, r, z, q⟩ => ⟨by rw [← r.length]; exact z, ?_⟩)
  have hf : H1 s1.heap.objs.size = none := I1.hok.fresh (Nat.le_refl _)
  exact ⟨.ref s1.heap.objs.size, upd H1 s1.heap.objs.size (.frz (tupO us) (.tup xs)), I1.laid (t' := s1.toks) (fun b u e => Heap.get?_push_of_some _ e) (Nat.le_refl _) (tupX_ok z r (Heap.get?_push_size _ rfl)), rfl, q _ us hf⟩
/-- t + u -/
def rCatX (K : PySem.W.Frag) : R2 := fun x y H Q => ∃ a b xs ys, x = .ref a ∧ y = .ref b ∧ SqT K H a xs ∧ SqT K H b ys ∧ xs.length + ys.length ≤ sizeLine ∧
  (xs = [] → Q (.ref b) H) ∧ (xs ≠ [] → ys = [] → Q (.ref a) H) ∧ (xs ≠ [] → ys ≠ [] → ∀ p its, H p = none → Q (.ref p) (upd H p (.frz (tupO its) (.tup (xs ++ ys)))))
theorem op_catX : OpR X (binaryOp .Add) (rCatX X.K) := by
  intro pins s σ H x y v u Q I rx ry h
  obtain ⟨a, b, xs, ys, rfl, rfl, ha, hb, hz, q0, q1, q2⟩ := h
  cases rx
  cases ry
  obtain ⟨its, r1, p1, _⟩ := I.tuple ha
  obtain ⟨its2, r2, p2, _⟩ := I.tuple hb
  by_cases hx : xs = []
  · subst hx
    cases r1
    exact cat_tup0 p1 p2 ⟨.ref b, H, I, rfl, q0 rfl⟩
  · refine HT.cat_tup p1 p2 (fun z => hx (r1.nil_iff.mp z)) (fun z => ⟨.ref a, H, I, rfl, q1 hx (r2.nil_iff.mp z)⟩) (fun z => ?_) (by rw [← r1.length, ← r2.length]; exact hz)
    exact ⟨.ref s.heap.objs.size, _, I.laid (t' := s.toks) (o := .frz (tupO (its ++ its2)) (.tup (xs ++ ys))) (fun b ob q => Heap.get?_push_of_some _ q) (Nat.le_refl _) (tupX_ok (by rw [List.length_append]; exact hz) (r1.append r2) (Heap.get?_push_size _ rfl)), rfl, q2 hx (fun w => z (r2.nil_iff.mpr w)) _ _ (I.hok.fresh (Nat.le_refl _))⟩
/-- t[lo:hi]: the whole of it is t itself -/
def rSlX (K : PySem.W.Frag) : V → Option Int → Option Int → Hp → VK → Prop := fun x lo hi H Q => ∃ a xs, x = .ref a ∧ SqT K H a xs ∧
  (HT.sIx xs.length 0 lo = 0 ∧ HT.sIx xs.length xs.length hi = xs.length → Q (.ref a) H) ∧ (¬ (HT.sIx xs.length 0 lo = 0 ∧ HT.sIx xs.length xs.length hi = xs.length) → ∀ p its, H p = none → Q (.ref p) (upd H p (.frz (tupO its) (.tup (cutV xs lo hi)))))
theorem sl_tupX : SlR X (rSlX X.K) := by
  intro pins s σ H x v vl vu lo hi sl Q I rx hs pl pu h
  obtain ⟨a, xs, rfl, hx, q1, q2⟩ := h
  cases rx
  obtain ⟨its, r, ht, hz⟩ := I.tuple hx
  have hlen : its.toArray.size = xs.length := by rw [List.size_toArray]; exact r.length.symm
  refine ⟨"tuple", _, PyProof.Rows.slot_tuple_getitem.lookup, ht.typeIs, ?_⟩
  by_cases hw : HT.sIx xs.length 0 lo = 0 ∧ HT.sIx xs.length xs.length hi = xs.length
  · exact getItem_tuple_whole ht hs pl pu (by rw [hlen]; exact hw) ⟨.ref a, H, I, rfl, q1 hw⟩
  · refine HT.getItem_tuple_cut ht hs pl pu (by rw [hlen]; exact hw) ?_ (by rw [hlen]; exact hz)
    rw [hlen]
    exact ⟨.ref s.heap.objs.size, _, I.laid (t' := s.toks) (o := .frz (tupO _) (.tup (cutV xs lo hi))) (fun b ob q => Heap.get?_push_of_some _ q) (Nat.le_refl _) (tupX_ok (Nat.le_trans (cutV_length xs lo hi) hz) ((r.drop (HT.sIx xs.length 0 lo)).take (HT.sIx xs.length xs.length hi - HT.sIx xs.length 0 lo)) (Heap.get?_push_size _ rfl)), rfl, q2 hw _ _ (I.hok.fresh (Nat.le_refl _))⟩
theorem call_tupleX : CallR X (.type "tuple") (fun xs H Q => ∃ p ys, xs = [.ref p] ∧ ((SqL X.K H p ys ∧ ∀ l its, H l = none → Q (.ref l) (upd H l (.frz (tupO its) (.tup ys)))) ∨ (SqT X.K H p ys ∧ Q (.ref p) H))) := by
  intro pins s σ H xs us Q I r h
  obtain ⟨p, ys, rfl, h⟩ := h
  obtain ⟨u, rfl, rx⟩ := vals1 r
  cases rx
  rcases h with ⟨hq, q⟩ | ⟨hq, q⟩
  · obtain ⟨its, r', pl, hz⟩ := I.list hq
    have hlen := r'.length
    refine call_tuple_list pl.isList (fun h' kp => ?_) (by simp only [List.size_toArray] <;> omega)
    have I1 : Inv X pins σ H { s with heap := h' } := I.kept (t' := s.toks) kp
    exact ⟨.ref h'.objs.size, _, I1.laid (t' := s.toks) (o := .frz (tupO its) (.tup ys)) (h' := h'.push (tupO its)) (fun b o e => Heap.get?_push_of_some _ e) (Nat.le_refl _) (tupX_ok hz r' (Heap.get?_push_size _ rfl)), rfl, q _ _ (I1.hok.fresh (Nat.le_refl _))⟩
  · obtain ⟨its, r', pl, hz⟩ := I.tuple hq
    exact call_tuple_same pl ⟨.ref p, H, I, rfl, q⟩
end
end L2

/-! Pl: a layer over HandS: pure data D, cells, and judgements by weakest wishes over them. -/
namespace Pl
open PySem L2 PyProof.Rows

/-! ### data -/
/-- a datum: immutable things as trees; `loc n` is the n-th mutable thing that is owned -/
inductive D where
  | non | bl (b : Bool) | int (i : Int) | str (s : Str)
  | tup (ds : List D) | lst (ds : List D) | fzl (ds : List D)
  | loc (n : Nat) | raw (v : V)
  | ins (C : Addr) (ns : List Str) (ds : List D)
  | dic (ks : List Key) (ds : List D)
  | exc (C : Addr) (ns : List Str) (ds : List D)
  deriving Inhabited
/-- at a: an exception of the class at C, its dict at d -/
def excHO (C a : Addr) (d : Option Addr) : HO := .ext fun h => ∃ (oe : Obj) (vs : Array Value), h.get? a = some oe ∧ Zc (.ref C) d oe ∧ oe.data = .fields vs

/-- extension of heaps -/
def Ex (H H' : Hp) : Prop := ∀ a o, H a = some o → H' a = some o
theorem Ex.refl (H : Hp) : Ex H H := fun _ _ h => h
theorem Ex.trans {H H1 H2 : Hp} (a : Ex H H1) (b : Ex H1 H2) : Ex H H2 := fun x o h => b x o (a x o h)
theorem Ex.new {H : Hp} {p : Addr} {o : HO} (h : H p = none) : Ex H (upd H p o) := fun a u e => by
  rw [upd_ne (ne_of_none e h)]; exact e
theorem Ex.back {H H' : Hp} {p : Addr} (e : Ex H H') (h : H' p = none) : H p = none := by
  cases h1 : H p with
  | none => rfl
  | some o => rw [e p o h1] at h; cases h
theorem Ex.rd {H H' : Hp} {a : Addr} {u : HO} (e : Ex H H') (h : Rd H a u) : Rd H' a u := by
  rcases h with h | ⟨o, h⟩
  · exact .inl (e a _ h)
  · exact .inr ⟨o, e a _ h⟩
theorem Ex.sqL {K : PySem.W.Frag} {H H' : Hp} {a : Addr} {xs : List V} (e : Ex H H') (h : SqL K H a xs) : SqL K H' a xs := by
  rcases h with h | h
  · exact .inl (e.rd h)
  · exact .inr h
theorem Ex.sqT {K : PySem.W.Frag} {H H' : Hp} {a : Addr} {xs : List V} (e : Ex H H') (h : SqT K H a xs) : SqT K H' a xs := by
  rcases h with h | h
  · exact .inl (e.rd h)
  · exact .inr h
/-- an object that H does not know is laid or changed -/
theorem Ex.mut {H H' : Hp} {p : Addr} {o : HO} (e : Ex H H') (h : H p = none) : Ex H (upd H' p o) := fun a u ha => by
  rw [upd_ne (ne_of_none ha h)]; exact e a u ha

/-- truths alone -/
def allBl : List D → Bool
  | [] => true
  | .bl _ :: ds => allBl ds
  | _ :: _ => false
/-- the thing at a is known to its object, which has no dict -/
def SqE (B : Hp) (a : Addr) : Prop := ∃ o u, B a = some (.frz o u) ∧ o.dict = none
/-- a tuple of these; one of truths alone is known to its object -/
def SqX (K : PySem.W.Frag) (B : Hp) (a : Addr) (vs : List V) (ds : List D) : Prop := SqT K B a vs ∧ (allBl ds = true → SqE B a)
theorem SqX.to {K : PySem.W.Frag} {B : Hp} {a : Addr} {vs : List V} {ds es : List D} (h : SqX K B a vs ds) (e : allBl es = true → allBl ds = true) : SqX K B a vs es := ⟨h.1, fun q => h.2 (e q)⟩
theorem SqX.new {K : PySem.W.Frag} {B : Hp} {a : Addr} {vs : List V} {ds : List D} {its : List Value} (h : B a = some (.frz (tupO its) (.tup vs))) : SqX K B a vs ds := ⟨.inl (.inr ⟨_, h⟩), fun _ => ⟨_, _, h, rfl⟩⟩
theorem SqX.ex {K : PySem.W.Frag} {B B' : Hp} {a : Addr} {vs : List V} {ds : List D} (e : Ex B B') (h : SqX K B a vs ds) : SqX K B' a vs ds := ⟨e.sqT h.1, fun q => by obtain ⟨o, u, z, d⟩ := h.2 q; exact ⟨o, u, e _ _ z, d⟩⟩
theorem SqX.odd {K : PySem.W.Frag} {B : Hp} {a : Addr} {vs : List V} {ds : List D} (h : SqT K B a vs) (e : allBl ds = false) : SqX K B a vs ds := ⟨h, fun q => by rw [e] at q; cases q⟩
mutual
/-- the value v bears the datum d, by the view B and the cells' addresses α -/
def Rep (K : PySem.W.Frag) (B : Hp) (α : List Addr) : D → V → Prop
  | .non, v => v = .non
  | .bl b, v => v = .bl b
  | .int i, v => v = .int i
  | .str s, v => v = .str s
  | .tup ds, v => ∃ a vs, v = .ref a ∧ SqX K B a vs ds ∧ Reps K B α ds vs
  | .lst ds, v => ∃ a vs, v = .ref a ∧ B a = some (.lst vs) ∧ Reps K B α ds vs
  | .fzl ds, v => ∃ a vs, v = .ref a ∧ SqL K B a vs ∧ Reps K B α ds vs
  | .loc n, v => ∃ a, v = .ref a ∧ α[n]? = some a
  | .raw u, v => v = u
  | .ins C ns ds, v => ∃ a dx vs, v = .ref a ∧ B a = some (.ins C dx (ns.zip vs)) ∧ Reps K B α ds vs ∧ ns.length = ds.length
  | .dic ks ds, v => ∃ a vs, v = .ref a ∧ Rd B a (.dK (ks.zip vs)) ∧ Reps K B α ds vs ∧ ks.length = ds.length
  | .exc C ns ds, v => ∃ a d vs, v = .ref a ∧ B a = some (excHO C a d) ∧ Reps K B α ds vs ∧ ns.length = ds.length ∧ (d = none → ns = []) ∧ ∀ dx, d = some dx → B dx = some (.xd (ns.zip vs))
def Reps (K : PySem.W.Frag) (B : Hp) (α : List Addr) : List D → List V → Prop
  | [], vs => vs = []
  | d :: ds, vs => ∃ v r, vs = v :: r ∧ Rep K B α d v ∧ Reps K B α ds r
end
section
variable {K : PySem.W.Frag} {B B' : Hp} {α α' : List Addr}
theorem pre_get {α α' : List Addr} {n : Nat} {a : Addr} (p : α <+: α') (h : α[n]? = some a) : α'[n]? = some a := by
  obtain ⟨t, rfl⟩ := p
  rw [List.getElem?_append_left]
  · exact h
  · exact (List.getElem?_eq_some_iff.mp h).1
mutual
theorem Rep.mono (e : Ex B B') (p : α <+: α') : ∀ (d : D) (v : V), Rep K B α d v → Rep K B' α' d v
  | .non, _, h => h
  | .bl _, _, h => h
  | .int _, _, h => h
  | .str _, _, h => h
  | .tup ds, v, h => by
    unfold Rep at h ⊢
    obtain ⟨a, vs, rfl, h1, h2⟩ := h
    exact ⟨a, vs, rfl, ⟨e.sqT h1.1, fun q => by obtain ⟨o, u, z, d⟩ := h1.2 q; exact ⟨o, u, e _ _ z, d⟩⟩, Reps.mono e p ds vs h2⟩
  | .lst ds, v, h => by
    unfold Rep at h ⊢
    obtain ⟨a, vs, rfl, h1, h2⟩ := h
    exact ⟨a, vs, rfl, e _ _ h1, Reps.mono e p ds vs h2⟩
  | .fzl ds, v, h => by
    unfold Rep at h ⊢
    obtain ⟨a, vs, rfl, h1, h2⟩ := h
    exact ⟨a, vs, rfl, e.sqL h1, Reps.mono e p ds vs h2⟩
  | .loc n, v, h => by
    unfold Rep at h ⊢
    obtain ⟨a, rfl, h1⟩ := h
    exact ⟨a, rfl, pre_get p h1⟩
  | .raw _, _, h => h
  | .ins C ns ds, v, h => by
    unfold Rep at h ⊢
    obtain ⟨a, dx, vs, rfl, h1, h2, h3⟩ := h
    exact ⟨a, dx, vs, rfl, e _ _ h1, Reps.mono e p ds vs h2, h3⟩
  | .dic ks ds, v, h => by
    unfold Rep at h ⊢
    obtain ⟨a, vs, rfl, h1, h2, h3⟩ := h
    exact ⟨a, vs, rfl, e.rd h1, Reps.mono e p ds vs h2, h3⟩
  | .exc C ns ds, v, h => by
    unfold Rep at h ⊢
    obtain ⟨a, d, vs, rfl, h1, h2, h3, h4⟩ := h
    exact ⟨a, d, vs, rfl, e _ _ h1, Reps.mono e p ds vs h2, h3, h4.1, fun dx q => e _ _ (h4.2 dx q)⟩
theorem Reps.mono (e : Ex B B') (p : α <+: α') : ∀ (ds : List D) (vs : List V), Reps K B α ds vs → Reps K B' α' ds vs
  | [], _, h => h
  | d :: ds, vs, h => by
    unfold Reps at h ⊢
    obtain ⟨v, r, rfl, h1, h2⟩ := h
    exact ⟨v, r, rfl, Rep.mono e p d v h1, Reps.mono e p ds r h2⟩
end
theorem Reps.length : ∀ {ds : List D} {vs : List V}, Reps K B α ds vs → vs.length = ds.length
  | [], _, h => by unfold Reps at h; subst h; rfl
  | _ :: _, _, h => by
    unfold Reps at h
    obtain ⟨v, r, rfl, _, h2⟩ := h
    simp [Reps.length h2]
theorem Reps.get : ∀ {ds : List D} {vs : List V} {i : Nat} {d : D}, Reps K B α ds vs → ds[i]? = some d → ∃ v, vs[i]? = some v ∧ Rep K B α d v
  | [], _, _, _, _, e => by simp at e
  | d :: ds, _, 0, _, h, e => by
    unfold Reps at h
    obtain ⟨v, r, rfl, h1, _⟩ := h
    simp at e; subst e
    exact ⟨v, rfl, h1⟩
  | d :: ds, _, i + 1, d', h, e => by
    unfold Reps at h
    obtain ⟨v, r, rfl, _, h2⟩ := h
    obtain ⟨u, e1, e2⟩ := Reps.get (i := i) h2 (by simpa using e)
    exact ⟨u, by simpa using e1, e2⟩
theorem Reps.append : ∀ {ds es : List D} {vs ws : List V}, Reps K B α ds vs → Reps K B α es ws → Reps K B α (ds ++ es) (vs ++ ws)
  | [], _, _, _, h, k => by unfold Reps at h; subst h; exact k
  | d :: ds, es, _, ws, h, k => by
    unfold Reps at h
    obtain ⟨v, r, rfl, h1, h2⟩ := h
    show Reps K B α (d :: (ds ++ es)) (v :: (r ++ ws))
    unfold Reps
    exact ⟨v, _, rfl, h1, h2.append k⟩
theorem Reps.cons {d : D} {v : V} {ds : List D} {vs : List V} (h : Rep K B α d v) (t : Reps K B α ds vs) : Reps K B α (d :: ds) (v :: vs) := by
  unfold Reps; exact ⟨v, vs, rfl, h, t⟩
theorem Reps.nil : Reps K B α [] [] := by unfold Reps; rfl
theorem Reps.one {d : D} {v : V} (h : Rep K B α d v) : Reps K B α [d] [v] := .cons h .nil
theorem Reps.take (n : Nat) : ∀ {ds : List D} {vs : List V}, Reps K B α ds vs → Reps K B α (ds.take n) (vs.take n) := by
  induction n with
  | zero => intro ds vs _; simp [Reps]
  | succ n ih =>
    intro ds vs h
    cases ds with
    | nil => unfold Reps at h; subst h; simp [Reps]
    | cons d ds =>
      unfold Reps at h
      obtain ⟨v, r, rfl, h1, h2⟩ := h
      exact .cons h1 (ih h2)
theorem Reps.drop (n : Nat) : ∀ {ds : List D} {vs : List V}, Reps K B α ds vs → Reps K B α (ds.drop n) (vs.drop n) := by
  induction n with
  | zero => intro ds vs h; exact h
  | succ n ih =>
    intro ds vs h
    cases ds with
    | nil => unfold Reps at h; subst h; simp [Reps]
    | cons d ds =>
      unfold Reps at h
      obtain ⟨v, r, rfl, h1, h2⟩ := h
      exact ih h2
theorem Reps.set {i : Nat} {d : D} {v : V} (hd : Rep K B α d v) : ∀ {ds : List D} {vs : List V}, Reps K B α ds vs → Reps K B α (ds.set i d) (vs.set i v) := by
  induction i with
  | zero =>
    intro ds vs h
    cases ds with
    | nil => unfold Reps at h; subst h; simp [Reps]
    | cons e ds =>
      unfold Reps at h
      obtain ⟨w, r, rfl, h1, h2⟩ := h
      exact .cons hd h2
  | succ n ih =>
    intro ds vs h
    cases ds with
    | nil => unfold Reps at h; subst h; simp [Reps]
    | cons e ds =>
      unfold Reps at h
      obtain ⟨w, r, rfl, h1, h2⟩ := h
      exact .cons h1 (ih h2)
end

/-! ### cells -/
/-- a mutable thing that is owned -/
inductive Cell where
  | lst (ds : List D)
  | dic (ks : List Key) (ds : List D)
  | ins (C : Addr) (ns : List Str) (ds : List D)
  | gone
  deriving Inhabited

def CellAt (K : PySem.W.Frag) (B : Hp) (α : List Addr) (H : Hp) (a : Addr) : Cell → Prop
  | .lst ds => ∃ vs, H a = some (.lst vs) ∧ Reps K B α ds vs
  | .dic ks ds => ∃ vs, H a = some (.dK (ks.zip vs)) ∧ Reps K B α ds vs ∧ ks.length = ds.length
  | .ins C ns ds => ∃ dx vs, H a = some (.ins C dx (ns.zip vs)) ∧ Reps K B α ds vs ∧ ns.length = ds.length
  | .gone => True
/-- no code object's table -/
def NoTbl (o : HO) : Prop := ∀ ps, o ≠ .tbl ps
/-- what a cell holds -/
def Celly : Option HO → Prop
  | some (.lst _) => True
  | some (.dK _) => True
  | some (.ins _ _ _) => True
  | _ => False
theorem celly_some {x : Option HO} (h : Celly x) : ∃ o, x = some o ∧ NoTbl o := by
  cases x with
  | none => exact h.elim
  | some o => cases o <;> first | exact h.elim | exact ⟨_, rfl, fun _ q => nomatch q⟩
theorem CellAt.celly {K : PySem.W.Frag} {B : Hp} {α : List Addr} {H : Hp} {a : Addr} {c : Cell} (h : CellAt K B α H a c) (hg : c ≠ .gone) : Celly (H a) := by
  cases c with
  | lst ds => obtain ⟨vs, q, _⟩ := h; rw [q]; trivial
  | dic ks ds => obtain ⟨vs, q, _⟩ := h; rw [q]; trivial
  | ins C ns ds => obtain ⟨dx, vs, q, _⟩ := h; rw [q]; trivial
  | gone => exact absurd rfl hg
theorem CellAt.mono {K : PySem.W.Frag} {B B' : Hp} {α α' : List Addr} {H H' : Hp} {a : Addr} (e : Ex B B') (p : α <+: α') (h : ∀ o, H a = some o → NoTbl o → H' a = some o) : ∀ {c : Cell}, CellAt K B α H a c → CellAt K B' α' H' a c
  | .lst ds, ⟨vs, h1, h2⟩ => ⟨vs, h _ h1 (fun _ q => nomatch q), h2.mono e p⟩
  | .dic ks ds, ⟨vs, h1, h2, h3⟩ => ⟨vs, h _ h1 (fun _ q => nomatch q), h2.mono e p, h3⟩
  | .ins C ns ds, ⟨dx, vs, h1, h2, h3⟩ => ⟨dx, vs, h _ h1 (fun _ q => nomatch q), h2.mono e p, h3⟩
  | .gone, _ => trivial

/-- the frame of a def's run: the heap and the view at its entry, the addresses of the cells that it was handed -/
structure Fm where
  H0 : Hp
  B0 : Hp
  α0 : List Addr

abbrev Env := List (Option D)
abbrev Cells := List Cell

/-- the tables of code objects that a lambda may write (each with the name that its code objects bear) -/
def Tbl.T : List (Addr × Str) := []
theorem tabs_upd {H : Hp} {a : Addr} {o : HO} (t : LamX.Tabs Tbl.T H) (c : Celly (H a)) : LamX.Tabs Tbl.T (upd H a o) := fun p hp => by
  obtain ⟨ps, h1, h2, h3⟩ := t p hp
  have na : p.1 ≠ a := fun e => by rw [← e, h1] at c; exact c
  refine ⟨ps, by rw [upd_ne na]; exact h1, h2, fun pos cv hc => ?_⟩
  obtain ⟨b, e1, e2⟩ := h3 pos cv hc
  have nb : b ≠ a := fun e => by
    rw [← e, e2] at c
    exact c
  exact ⟨b, e1, by rw [upd_ne nb]; exact e2⟩
structure Tb (F : Fm) (B : Hp) (α : List Addr) (H : Hp) : Prop where
  tabs : LamX.Tabs Tbl.T H
  h0 : ∀ p ∈ Tbl.T, F.H0 p.1 ≠ none
  nb : ∀ a ps, B a ≠ some (.tbl ps)
  ca : ∀ a ∈ α, Celly (H a)
section
variable {F : Fm} {B B' H H' : Hp} {α α1 α' : List Addr}
theorem celly_ext {x : Addr} (h : Celly (H x)) (e : ∀ o, H x = some o → NoTbl o → H' x = some o) : Celly (H' x) := by
  obtain ⟨o, h1, h2⟩ := celly_some h
  rw [e o h1 h2, ← h1]; exact h
theorem Tb.grow (t : Tb F B α H) (e : Ex H H') : Tb F B α H' := ⟨t.tabs.ext e, t.h0, t.nb, fun a ha => celly_ext (t.ca a ha) fun o h _ => e _ _ h⟩
theorem Tb.see {p : Addr} {o : HO} (t : Tb F B α H) (hn : NoTbl o) : Tb F (upd B p o) α H := ⟨t.tabs, t.h0, fun a ps h => by
  by_cases e : a = p
  · subst e; rw [upd_same] at h; exact hn ps (Option.some.inj h)
  · rw [upd_ne e] at h; exact t.nb a ps h, t.ca⟩
theorem Tb.own {p : Addr} (t : Tb F B α H) (h : Celly (H p)) : Tb F B (α ++ [p]) H := ⟨t.tabs, t.h0, t.nb, fun a ha => by
  rcases List.mem_append.mp ha with z | z
  · exact t.ca a z
  · rw [List.mem_singleton] at z; subst z; exact h⟩
theorem Tb.put {a : Addr} {o : HO} (t : Tb F B α H) (hc : Celly (H a)) (ho : a ∈ α → Celly (some o)) : Tb F B α (upd H a o) := ⟨tabs_upd t.tabs hc, t.h0, t.nb, fun b hb => by
  by_cases e : b = a
  · subst e; rw [upd_same]; exact ho hb
  · rw [upd_ne e]; exact t.ca b hb⟩
theorem Tb.sub (t : Tb F B α H) (h : ∀ a ∈ α1, a ∈ α) : Tb F B α1 H := ⟨t.tabs, t.h0, t.nb, fun a ha => t.ca a (h a ha)⟩
theorem Tb.start (t : Tb F B α H) (h : ∀ a ∈ α1, a ∈ α) : Tb ⟨H, B, α1⟩ B α1 H := ⟨t.tabs, fun p hp => by
  obtain ⟨ps, e, _⟩ := t.tabs p hp
  show H p.1 ≠ none
  rw [e]; simp, t.nb, fun a ha => t.ca a (h a ha)⟩
theorem Tb.back {H0 : Hp} {B0 : Hp} {β : List Addr} (t : Tb F B α H) (u : Tb ⟨H0, B0, α1⟩ B' α' H') (kp : ∀ a o, H a = some o → a ∉ α1 → NoTbl o → H' a = some o) (h1 : ∀ a ∈ α1, a ∈ α') (hβ : ∀ a ∈ β, a ∈ α ∨ a ∈ α') : Tb F B' β H' := ⟨u.tabs, t.h0, u.nb, fun a ha => by
  by_cases m : a ∈ α1
  · exact u.ca a (h1 a m)
  · rcases hβ a ha with z | z
    · exact celly_ext (t.ca a z) fun o h n => kp a o h m n
    · exact u.ca a z⟩
end
structure Sat (K : PySem.W.Frag) (F : Fm) (B : Hp) (α : List Addr) (Γ : Env) (Λ : Cells) (σ : L2.St) (H : Hp) : Prop where
  bb : Ex F.B0 B
  bh : Ex B H
  fr : ∀ (a : Addr) (o : HO), B a = some o → F.B0 a = some o ∨ F.H0 a = none
  kp : ∀ (a : Addr) (o : HO), F.H0 a = some o → a ∉ F.α0 → NoTbl o → H a = some o
  dm : ∀ a : Addr, H a = none → F.H0 a = none
  pf : F.α0 <+: α
  nd : α.Nodup
  al : α.length = Λ.length
  ce : ∀ (n : Nat) (c : Cell), Λ[n]? = some c → c ≠ .gone → ∃ a, α[n]? = some a ∧ B a = none ∧ (F.H0 a = none ∨ a ∈ F.α0) ∧ CellAt K B α H a c
  ah : ∀ a ∈ α, H a ≠ none ∧ (F.H0 a = none ∨ a ∈ F.α0)
  sl : ∀ (i : Nat) (d : D), Γ[i]? = some (some d) → ∃ v, σ[i]? = some (some v) ∧ Rep K B α d v
  ln : Γ.length = σ.length
  tb : Tb F B α H

section
variable {K : PySem.W.Frag} {F : Fm} {B B' : Hp} {α α' : List Addr} {Γ : Env} {Λ : Cells} {σ : L2.St} {H H' : Hp}

/-- a slot is stored -/
theorem Sat.set {i : Nat} {d : D} {v : V} (S : Sat K F B α Γ Λ σ H) (r : Rep K B α d v) : Sat K F B α (Γ.set i (some d)) Λ (σ.set i (some v)) H := by
  refine { S with sl := fun j e hj => ?_, ln := by simpa using S.ln }
  by_cases hij : i = j
  · subst hij
    have hi : i < Γ.length := by
      have := (List.getElem?_eq_some_iff.mp hj).1
      simpa using this
    rw [List.getElem?_set_self hi] at hj
    cases hj
    exact ⟨v, List.getElem?_set_self (by rw [← S.ln]; exact hi), r⟩
  · rw [List.getElem?_set_ne hij] at hj
    obtain ⟨w, h1, h2⟩ := S.sl j e hj
    exact ⟨w, by rw [List.getElem?_set_ne hij]; exact h1, h2⟩
/-- slots forgotten -/
theorem Sat.env {Γ' : Env} {σ' : L2.St} (S : Sat K F B α Γ Λ σ H) (hl : Γ'.length = σ'.length) (h : ∀ (i : Nat) (d : D), Γ'[i]? = some (some d) → ∃ v, σ'[i]? = some (some v) ∧ Rep K B α d v) : Sat K F B α Γ' Λ σ' H :=
  { S with sl := h, ln := hl }
theorem CellAt.some {H : Hp} {a : Addr} {c : Cell} (h : CellAt K B α H a c) (hg : c ≠ .gone) : H a ≠ none := by
  cases c with
  | lst ds => obtain ⟨vs, q, _⟩ := h; rw [q]; simp
  | dic ks ds => obtain ⟨vs, q, _⟩ := h; rw [q]; simp
  | ins C ns ds => obtain ⟨dx, vs, q, _⟩ := h; rw [q]; simp
  | gone => exact absurd rfl hg

/-- the heap has grown by things that the view does not see -/
theorem Sat.grow (S : Sat K F B α Γ Λ σ H) (e : Ex H H') : Sat K F B α Γ Λ σ H' :=
  { S with bh := S.bh.trans e, tb := S.tb.grow e, kp := fun a o h ha n => e _ _ (S.kp a o h ha n), dm := fun a h => S.dm a (e.back h)
           ce := fun n c h hg => by
            obtain ⟨a, h1, h2, h3, h4⟩ := S.ce n c h hg
            exact ⟨a, h1, h2, h3, h4.mono (Ex.refl B) (List.prefix_refl _) fun o q _ => e a o q⟩
           ah := fun a ha => ⟨fun h => (S.ah a ha).1 (e.back h), (S.ah a ha).2⟩ }
/-- the view grows by a thing of the heap that is new and no cell -/
theorem Sat.see {p : Addr} {o : HO} (S : Sat K F B α Γ Λ σ H) (hp : H p = some o) (hB : B p = none) (h0 : F.H0 p = none) (hα : p ∉ α) (hn : NoTbl o := by intro _ q; cases q) : Sat K F (upd B p o) α Γ Λ σ H := by
  refine ⟨S.bb.mut ?_, fun a u h => ?_, fun a u h => ?_, S.kp, S.dm, S.pf, S.nd, S.al, fun n c h hg => ?_, S.ah, fun i d h => ?_, S.ln, S.tb.see hn⟩
  · exact S.bb.back hB
  · by_cases e : a = p
    · subst e; rw [upd_same] at h; rw [← h]; exact hp
    · rw [upd_ne e] at h; exact S.bh a u h
  · by_cases e : a = p
    · subst e; exact .inr h0
    · rw [upd_ne e] at h; exact S.fr a u h
  · obtain ⟨a, h1, h2, h3, h4⟩ := S.ce n c h hg
    have hap : a ≠ p := fun e => hα (e ▸ List.mem_of_getElem? h1)
    exact ⟨a, h1, by rw [upd_ne hap]; exact h2, h3, h4.mono (Ex.new hB) (List.prefix_refl _) fun u q _ => q⟩
  · obtain ⟨v, h1, h2⟩ := S.sl i d h
    exact ⟨v, h1, h2.mono (Ex.new hB) (List.prefix_refl _)⟩
/-- a new object that is seen by the view -/
theorem Sat.lay {p : Addr} {o : HO} (S : Sat K F B α Γ Λ σ H) (hp : H p = none) (hn : NoTbl o := by intro _ q; cases q) : Sat K F (upd B p o) α Γ Λ σ (upd H p o) :=
  (S.grow (Ex.new hp)).see upd_same (S.bh.back hp) (S.dm p hp) (fun ha => (S.ah p ha).1 hp) hn
/-- a new object that is a cell -/
theorem Sat.own {p : Addr} {c : Cell} (S : Sat K F B α Γ Λ σ H) (hp : H p = none) (e : Ex H H') (hc : H' p ≠ none) (hh : ∀ α', α <+: α' → CellAt K B α' H' p c) (hg0 : c ≠ .gone := by intro q; cases q) : Sat K F B (α ++ [p]) Γ (Λ ++ [c]) σ H' := by
  have S' := S.grow e
  have hpa : p ∉ α := fun ha => (S.ah p ha).1 hp
  refine { S' with pf := S.pf.trans (List.prefix_append _ _), nd := ?_, al := by simp [S.al], ce := fun n c' h hg => ?_, ah := fun a ha => ?_, sl := fun i d h => ?_, tb := S'.tb.own ((hh α (List.prefix_refl _)).celly hg0) }
  · rw [List.nodup_append]
    refine ⟨S.nd, List.nodup_cons.mpr ⟨by simp, List.nodup_nil⟩, fun a ha b hb e => ?_⟩
    simp at hb; subst hb; subst e; exact hpa ha
  · by_cases hn : n < Λ.length
    · rw [List.getElem?_append_left hn] at h
      obtain ⟨a, h1, h2, h3, h4⟩ := S'.ce n c' h hg
      exact ⟨a, pre_get (List.prefix_append _ _) h1, h2, h3, h4.mono (Ex.refl B) (List.prefix_append _ _) fun u q _ => q⟩
    · have hlt : n < (Λ ++ [c]).length := (List.getElem?_eq_some_iff.mp h).1
      have hn' : n = Λ.length := by simp at hlt; omega
      subst hn'
      rw [List.getElem?_append_right (Nat.le_refl _)] at h
      simp at h; subst h
      refine ⟨p, by rw [← S.al, List.getElem?_append_right (Nat.le_refl _)]; simp, S.bh.back hp, .inl (S.dm p hp), hh _ (List.prefix_append _ _)⟩
  · rcases List.mem_append.mp ha with h | h
    · exact S'.ah a h
    · simp at h; subst h; exact ⟨hc, .inl (S.dm _ hp)⟩
  · obtain ⟨v, h1, h2⟩ := S.sl i d h
    exact ⟨v, h1, h2.mono (Ex.refl B) (List.prefix_append _ _)⟩
/-- a cell is written -/
theorem Sat.put {n : Nat} {a : Addr} {o : HO} {c : Cell} (S : Sat K F B α Γ Λ σ H) (hn : α[n]? = some a) (hB : B a = none) (hc : CellAt K B α (upd H a o) a c) (hg0 : c ≠ .gone := by intro q; cases q) : Sat K F B α Γ (Λ.set n c) σ (upd H a o) := by
  have ha := List.mem_of_getElem? hn
  have nl : n < Λ.length := by rw [← S.al]; exact (List.getElem?_eq_some_iff.mp hn).1
  refine { S with bh := S.bh.mut hB, tb := S.tb.put (S.tb.ca a ha) (fun _ => by have := hc.celly hg0; rw [upd_same] at this; exact this), kp := fun b u h hb nt => ?_, dm := fun b h => ?_, al := by simp [S.al], ce := fun m c' h hg => ?_, ah := fun b hb => ?_ }
  · have hab : b ≠ a := fun e => by
      subst e
      rcases (S.ah b ha).2 with q | q
      · rw [h] at q; cases q
      · exact hb q
    rw [upd_ne hab]; exact S.kp b u h hb nt
  · by_cases e : b = a
    · subst e; rw [upd_same] at h; cases h
    · rw [upd_ne e] at h; exact S.dm b h
  · by_cases e : n = m
    · subst e
      rw [List.getElem?_set_self nl] at h
      cases h
      exact ⟨a, hn, hB, (S.ah a ha).2, hc⟩
    · rw [List.getElem?_set_ne e] at h
      obtain ⟨b, h1, h2, h3, h4⟩ := S.ce m c' h hg
      have hba : b ≠ a := fun q => by
        subst q
        exact e ((List.getElem?_inj (by rw [S.al]; exact nl) S.nd).mp (hn.trans h1.symm))
      exact ⟨b, h1, h2, h3, h4.mono (Ex.refl B) (List.prefix_refl _) fun u q _ => by rw [upd_ne hba]; exact q⟩
  · by_cases e : b = a
    · subst e; exact ⟨by rw [upd_same]; simp, (S.ah b hb).2⟩
    · rw [upd_ne e]; exact S.ah b hb
end
end Pl

namespace Pl
open PySem L2 PyProof.Rows

/-! ### contexts -/
/-- what is known of the code that runs: the program's facts, the names by slot, which of them may be read and stored here, the global names -/
structure Ctx where
  P : Program
  w : World
  K : PySem.W.Frag
  mg : Str → Option Value
  base : Heap
  N : List Str
  sc : Scope
  vs : List Bool
  ls : List Bool
  gl : List Str
  k : Nat
  m : Nat := 0
  /-- a def's own body, no comprehension's block -/
  tp : Bool := true
  /-- of a def that makes lambdas: how its names begin, its code object -/
  cd : Option (Str × Addr) := none
  /-- an exception is being handled -/
  hot : Bool := false

/-- the scope is as told -/
structure Ctx.Good (C : Ctx) : Prop where
  nd : C.N.Nodup
  vis : ∀ (i : Nat) (x : Str), C.N[i]? = some x → C.vs[i]? = some true → Vis C.sc x
  sto : ∀ (i : Nat) (x : Str), C.N[i]? = some x → C.ls[i]? = some true → Loc C.sc x
  glo : ∀ (j : Nat) (x : Str), C.gl[j]? = some x → C.sc.names.lookup x = some .globalImplicit

structure Ctx.Is (C : Ctx) (X : Cx) : Prop where
  prog : X.prog = C.P
  w : X.w = C.w
  K : X.K = C.K
  mg : X.mg = C.mg
  base : X.base = C.base
  N : X.N = C.N
  sc : X.env.scope = C.sc
  calmW : C.hot = false → X.calm = true
  hdW : C.hot = false → X.A.handled = none
  roomW : RoomW C.k X.A
  fn : ∀ (i : Nat) (x : Str), C.N[i]? = some x → C.ls[i]? = some true → X.fn x = true ∨ X.env.scope.names.lookup x = some .local
  good : C.Good
  po : PassesOwn (model X.prog X.w) X.A X.env X.xe
  tp : C.tp = true → X.stack = X.env :: X.outer ∧ X.env.frame = some X.env.locals ∧ X.ex = []
  cdv : ∀ (q : Str) (c : Addr), C.cd = some (q, c) → X.env.qual = q ∧ X.env.code = .ref c

/-- no exception is being handled -/
class Cool (C : Ctx) : Prop where
  h : C.hot = false
instance {P : Program} {w : World} {K : PySem.W.Frag} {mg : Str → Option Value} {base : Heap} {N : List Str} {sc : Scope} {vs ls : List Bool} {gl : List Str} {k m : Nat} {tp : Bool} {cd : Option (Str × Addr)} : Cool ⟨P, w, K, mg, base, N, sc, vs, ls, gl, k, m, tp, cd, false⟩ := ⟨rfl⟩
section
variable {C : Ctx} {X : Cx}
theorem Ctx.Is.calm [Cool C] (h : C.Is X) : X.calm = true := h.calmW Cool.h
theorem Ctx.Is.room [Cool C] (h : C.Is X) : RoomG C.k X.A := ⟨h.hdW Cool.h, h.roomW.gd, h.roomW.dp, h.roomW.un⟩
theorem Ctx.Is.vis (h : C.Is X) {i : Nat} {x : Str} (hi : C.N[i]? = some x) (hv : C.vs[i]? = some true) : Vis X.env.scope x := by rw [h.sc]; exact h.good.vis i x hi hv
theorem Ctx.Is.loc (h : C.Is X) {i : Nat} {x : Str} (hi : C.N[i]? = some x) (hv : C.ls[i]? = some true) : Loc X.env.scope x := by rw [h.sc]; exact h.good.sto i x hi hv
/-- a global name of this code -/
def GlAt (C : Ctx) (x : Str) : Prop := ∃ j : Nat, C.gl[j]? = some x
theorem Ctx.Is.gl (h : C.Is X) {x : Str} (hj : GlAt C x) : Gl X x := by
  obtain ⟨j, hj⟩ := hj
  show X.env.scope.names.lookup x = _
  rw [h.sc]; exact h.good.glo j x hj
theorem Ctx.Is.ni (h : C.Is X) {i : Nat} {x : Str} (hi : C.N[i]? = some x) : X.N[i]? = some x := by rw [h.N]; exact hi
theorem Ctx.Is.nd (h : C.Is X) : X.N.Nodup := by rw [h.N]; exact h.good.nd
theorem Ctx.Is.u (h : C.Is X) : X.A.units + 64 < cLine := by have := h.roomW.un; omega
end

/-! ### errors -/
/-- an exception: its class, its fields -/
structure Err where
  cls : Value
  fs : Option (List Str × List D)
def ErrAt (K : PySem.W.Frag) (F : Fm) (B : Hp) (α : List Addr) (H : Hp) (e : Err) (c : Value) (dx : Option Addr) : Prop :=
  c = e.cls ∧ match e.fs with
    | none => dx = none
    | some (ns, ds) => ∃ a vs, dx = some a ∧ H a = some (.xd (ns.zip vs)) ∧ Reps K B α ds vs ∧ ns.length = ds.length ∧ (B a = none → F.H0 a = none ∧ a ∉ α)
abbrev ER := Err → Env → Cells → Prop
abbrev ER.none : ER := fun _ _ _ => False

/-! ### judgements -/
section
variable (K : PySem.W.Frag) (F : Fm) (W : WX)
/-- what is wanted of an error -/
def ErOk (B : Hp) (σ : L2.St) (Γ : Env) (E : ER) : Prop :=
  ∀ err Λ' B' α' H' c dx, E err Γ Λ' → Sat K F B' α' Γ Λ' σ H' → Ex B B' → ErrAt K F B' α' H' err c dx → W c dx σ H'
def rdE (E : ER) (Γ : Env) (Λ : Cells) (P : D → Cells → Prop) : TE := fun σ H Q => ∃ B α, Sat K F B α Γ Λ σ H ∧
  (∀ d Λ' v B' α' H', P d Λ' → Sat K F B' α' Γ Λ' σ H' → Ex B B' → α <+: α' → Rep K B' α' d v → Q v H') ∧ ErOk K F W B σ Γ E
/-- a new list -/
def rdN (E : ER) (Γ : Env) (Λ : Cells) (P : List D → Cells → Prop) : TE := fun σ H Q => ∃ B α, Sat K F B α Γ Λ σ H ∧
  (∀ ds Λ' p vs B' α' H', P ds Λ' → Sat K F B' α' Γ Λ' σ H' → Ex B B' → α <+: α' → H' p = some (.lst vs) → B' p = none → F.H0 p = none → p ∉ α' → Reps K B' α' ds vs → Q (.ref p) H') ∧ ErOk K F W B σ Γ E
def rdA (E : ER) (Γ : Env) (Λ : Cells) (P : List D → Cells → Prop) : TA := fun σ H Q => ∃ B α, Sat K F B α Γ Λ σ H ∧
  (∀ ds Λ' vs B' α' H', P ds Λ' → Sat K F B' α' Γ Λ' σ H' → Ex B B' → α <+: α' → Reps K B' α' ds vs → Q vs H') ∧ ErOk K F W B σ Γ E
def rdT (E : ER) (Γ : Env) (Λ : Cells) (P : Bool → Cells → Prop) : TT := fun σ H Q => ∃ B α, Sat K F B α Γ Λ σ H ∧
  (∀ b Λ' B' α' H', P b Λ' → Sat K F B' α' Γ Λ' σ H' → Ex B B' → α <+: α' → Q b H') ∧ ErOk K F W B σ Γ E
end
/-- what a def hands back: a datum; a new list -/
inductive Res where
  | val (d : D)
  | new (ds : List D)
def ResAt (K : PySem.W.Frag) (F : Fm) (B : Hp) (α : List Addr) (H : Hp) (v : V) : Res → Prop
  | .val d => Rep K B α d v
  | .new ds => ∃ p vs, v = .ref p ∧ H p = some (.lst vs) ∧ B p = none ∧ F.H0 p = none ∧ p ∉ α ∧ Reps K B α ds vs
/-- the wishes of a statement -/
structure Rs where
  nx : Env → Cells → Prop
  rt : Res → Cells → Prop
  bk : Env → Cells → Prop := fun _ _ => False
  ct : Env → Cells → Prop := fun _ _ => False
  er : ER := ER.none
section
variable (K : PySem.W.Frag) (F : Fm) (W : WX)
def nxOk (B : Hp) (R : Env → Cells → Prop) (q : L2.St → Hp → Prop) : Prop := ∀ Γ' Λ' B' α' σ' H', R Γ' Λ' → Sat K F B' α' Γ' Λ' σ' H' → Ex B B' → q σ' H'
def rtOk (B : Hp) (R : Res → Cells → Prop) (q : VK) : Prop := ∀ d Λ' v Γ' B' α' σ' H', R d Λ' → Sat K F B' α' Γ' Λ' σ' H' → Ex B B' → ResAt K F B' α' H' v d → q v H'
def erOk (B : Hp) (E : ER) : Prop := ∀ err Γ' Λ' B' α' σ' H' c dx, E err Γ' Λ' → Sat K F B' α' Γ' Λ' σ' H' → Ex B B' → ErrAt K F B' α' H' err c dx → W c dx σ' H'
structure EndsOk (B : Hp) (R : Rs) (D : Ends) : Prop where
  nx : nxOk K F B R.nx D.nx
  rt : rtOk K F B R.rt D.rt
  bk : nxOk K F B R.bk D.bk
  ct : nxOk K F B R.ct D.ct
  er : erOk K F W B R.er
def rdS (Γ : Env) (Λ : Cells) (R : Rs) : TS := fun D σ H => ∃ B α, Sat K F B α Γ Λ σ H ∧ EndsOk K F W B R D
end
section
variable {K : PySem.W.Frag} {F : Fm} {W : WX} {B B' : Hp} {σ : L2.St} {Γ : Env} {E : ER} {R : Rs} {D' : Ends}
theorem erOk.at (h : erOk K F W B E) : ErOk K F W B σ Γ E := fun err Λ' B' α' H' c dx e S x q => h err Γ Λ' B' α' σ H' c dx e S x q
theorem ErOk.mono (h : ErOk K F W B σ Γ E) (e : Ex B B') : ErOk K F W B' σ Γ E := fun err Λ' B1 α' H' c dx q S x r => h err Λ' B1 α' H' c dx q S (e.trans x) r
theorem nxOk.mono {R : Env → Cells → Prop} {q : L2.St → Hp → Prop} (h : nxOk K F B R q) (e : Ex B B') : nxOk K F B' R q := fun Γ' Λ' B1 α' σ' H' r S x => h Γ' Λ' B1 α' σ' H' r S (e.trans x)
theorem rtOk.mono {R : Res → Cells → Prop} {q : VK} (h : rtOk K F B R q) (e : Ex B B') : rtOk K F B' R q := fun d Λ' v Γ' B1 α' σ' H' r S x p => h d Λ' v Γ' B1 α' σ' H' r S (e.trans x) p
theorem erOk.mono (h : erOk K F W B E) (e : Ex B B') : erOk K F W B' E := fun err Γ' Λ' B1 α' σ' H' c dx q S x r => h err Γ' Λ' B1 α' σ' H' c dx q S (e.trans x) r
theorem EndsOk.mono (h : EndsOk K F W B R D') (e : Ex B B') : EndsOk K F W B' R D' := ⟨h.nx.mono e, h.rt.mono e, h.bk.mono e, h.ct.mono e, h.er.mono e⟩
end

def WE (C : Ctx) (E : ER) (Γ : Env) (Λ : Cells) (e : Expr) (P : D → Cells → Prop) : Prop := ∀ X F W, C.Is X → Takes X W → PE X e (rdE C.K F W E Γ Λ P)
def WN (C : Ctx) (E : ER) (Γ : Env) (Λ : Cells) (e : Expr) (P : List D → Cells → Prop) : Prop := ∀ X F W, C.Is X → Takes X W → PE X e (rdN C.K F W E Γ Λ P)
def WA (C : Ctx) (E : ER) (Γ : Env) (Λ : Cells) (es : List Expr) (P : List D → Cells → Prop) : Prop := ∀ X F W, C.Is X → Takes X W → PA X es (rdA C.K F W E Γ Λ P)
def WT (C : Ctx) (E : ER) (Γ : Env) (Λ : Cells) (e : Expr) (P : Bool → Cells → Prop) : Prop := ∀ X F W, C.Is X → Takes X W → PT X e (rdT C.K F W E Γ Λ P)
def WS (C : Ctx) (Γ : Env) (Λ : Cells) (s : Stmt) (R : Rs) : Prop := ∀ X F W, C.Is X → F.α0.length ≤ C.m → Takes X W → PS X s (rdS C.K F W Γ Λ R)
def WSs (C : Ctx) (Γ : Env) (Λ : Cells) (s : List Stmt) (R : Rs) : Prop := ∀ X F W, C.Is X → F.α0.length ≤ C.m → Takes X W → PSs X s (rdS C.K F W Γ Λ R)

/-! ### the union of all readings -/
section
variable {X : Cx}
def UE (X : Cx) (e : Expr) : TE := fun σ H Q => ∃ t, PE X e t ∧ t σ H Q
def UA (X : Cx) (e : List Expr) : TA := fun σ H Q => ∃ t, PA X e t ∧ t σ H Q
def UT (X : Cx) (e : Expr) : TT := fun σ H Q => ∃ t, PT X e t ∧ t σ H Q
def UW (X : Cx) (e : Expr) : TT := fun σ H Q => ∃ t, PW X e t ∧ t σ H Q
def US (X : Cx) (s : Stmt) : TS := fun D σ H => ∃ t, PS X s t ∧ t D σ H
def USs (X : Cx) (s : List Stmt) : TS := fun D σ H => ∃ t, PSs X s t ∧ t D σ H
theorem pe_U {e : Expr} : PE X e (UE X e) := ⟨fun pins s σ H Q I ⟨_, h, q⟩ => h.run pins s σ H Q I q⟩
theorem pa_U {e : List Expr} : PA X e (UA X e) := ⟨fun pos pins s σ H Q I ⟨_, h, q⟩ => h.run pos pins s σ H Q I q⟩
theorem pt_U {e : Expr} : PT X e (UT X e) := ⟨fun pins s σ H Q I ⟨_, h, q⟩ => h.run pins s σ H Q I q⟩
theorem pw_U {e : Expr} : PW X e (UW X e) := ⟨fun wh pins s σ H Q I ⟨_, h, q⟩ => h.run wh pins s σ H Q I q⟩
theorem ps_U {s : Stmt} : PS X s (US X s) := ⟨fun pins s σ H D I ⟨_, h, q⟩ => h.run pins s σ H D I q⟩
theorem pss_U {s : List Stmt} : PSs X s (USs X s) := ⟨fun pins s σ H D I ⟨_, h, q⟩ => h.run pins s σ H D I q⟩
theorem pe_imp {e : Expr} {t t' : TE} (h : PE X e t) (i : ∀ σ H Q, t' σ H Q → t σ H Q) : PE X e t' := ⟨fun pins s σ H Q I q => h.run pins s σ H Q I (i σ H Q q)⟩
theorem pa_imp {e : List Expr} {t t' : TA} (h : PA X e t) (i : ∀ σ H Q, t' σ H Q → t σ H Q) : PA X e t' := ⟨fun pos pins s σ H Q I q => h.run pos pins s σ H Q I (i σ H Q q)⟩
theorem pt_imp {e : Expr} {t t' : TT} (h : PT X e t) (i : ∀ σ H Q, t' σ H Q → t σ H Q) : PT X e t' := ⟨fun pins s σ H Q I q => h.run pins s σ H Q I (i σ H Q q)⟩
theorem pw_imp {e : Expr} {t t' : TT} (h : PW X e t) (i : ∀ σ H Q, t' σ H Q → t σ H Q) : PW X e t' := ⟨fun wh pins s σ H Q I q => h.run wh pins s σ H Q I (i σ H Q q)⟩
theorem ps_imp {s : Stmt} {t t' : TS} (h : PS X s t) (i : ∀ D σ H, t' D σ H → t D σ H) : PS X s t' := ⟨fun pins s σ H D I q => h.run pins s σ H D I (i D σ H q)⟩
theorem pss_imp {s : List Stmt} {t t' : TS} (h : PSs X s t) (i : ∀ D σ H, t' D σ H → t D σ H) : PSs X s t' := ⟨fun pins s σ H D I q => h.run pins s σ H D I (i D σ H q)⟩
end

section
variable {C : Ctx} {E : ER} {Γ : Env} {Λ : Cells} {X : Cx} {F : Fm} {W : WX} {B : Hp} {α : List Addr} {σ : L2.St} {H : Hp}
theorem WE.use {e : Expr} {P : D → Cells → Prop} {Q : VK} (h : WE C E Γ Λ e P) (is : C.Is X) (tk : Takes X W) (S : Sat C.K F B α Γ Λ σ H) (er : ErOk C.K F W B σ Γ E)
    (q : ∀ d Λ' v B' α' H', P d Λ' → Sat C.K F B' α' Γ Λ' σ H' → Ex B B' → α <+: α' → Rep C.K B' α' d v → Q v H') : UE X e σ H Q := ⟨_, h X F W is tk, B, α, S, q, er⟩
theorem WN.use {e : Expr} {P : List D → Cells → Prop} {Q : VK} (h : WN C E Γ Λ e P) (is : C.Is X) (tk : Takes X W) (S : Sat C.K F B α Γ Λ σ H) (er : ErOk C.K F W B σ Γ E)
    (q : ∀ ds Λ' p vs B' α' H', P ds Λ' → Sat C.K F B' α' Γ Λ' σ H' → Ex B B' → α <+: α' → H' p = some (.lst vs) → B' p = none → F.H0 p = none → p ∉ α' → Reps C.K B' α' ds vs → Q (.ref p) H') : UE X e σ H Q := ⟨_, h X F W is tk, B, α, S, q, er⟩
theorem WA.use {e : List Expr} {P : List D → Cells → Prop} {Q : List V → Hp → Prop} (h : WA C E Γ Λ e P) (is : C.Is X) (tk : Takes X W) (S : Sat C.K F B α Γ Λ σ H) (er : ErOk C.K F W B σ Γ E)
    (q : ∀ ds Λ' vs B' α' H', P ds Λ' → Sat C.K F B' α' Γ Λ' σ H' → Ex B B' → α <+: α' → Reps C.K B' α' ds vs → Q vs H') : UA X e σ H Q := ⟨_, h X F W is tk, B, α, S, q, er⟩
theorem WT.use {e : Expr} {P : Bool → Cells → Prop} {Q : Bool → Hp → Prop} (h : WT C E Γ Λ e P) (is : C.Is X) (tk : Takes X W) (S : Sat C.K F B α Γ Λ σ H) (er : ErOk C.K F W B σ Γ E)
    (q : ∀ b Λ' B' α' H', P b Λ' → Sat C.K F B' α' Γ Λ' σ H' → Ex B B' → α <+: α' → Q b H') : UT X e σ H Q := ⟨_, h X F W is tk, B, α, S, q, er⟩
theorem WS.use {s : Stmt} {R : Rs} {D : Ends} (h : WS C Γ Λ s R) (is : C.Is X) (hm : F.α0.length ≤ C.m) (tk : Takes X W) (S : Sat C.K F B α Γ Λ σ H) (q : EndsOk C.K F W B R D) : US X s D σ H := ⟨_, h X F W is hm tk, B, α, S, q⟩
theorem WSs.use {s : List Stmt} {R : Rs} {D : Ends} (h : WSs C Γ Λ s R) (is : C.Is X) (hm : F.α0.length ≤ C.m) (tk : Takes X W) (S : Sat C.K F B α Γ Λ σ H) (q : EndsOk C.K F W B R D) : USs X s D σ H := ⟨_, h X F W is hm tk, B, α, S, q⟩
end

/-! ### weaker wishes -/
section
variable {C : Ctx} {E : ER} {Γ : Env} {Λ : Cells}
theorem we_mono {e : Expr} {P P' : D → Cells → Prop} (h : WE C E Γ Λ e P) (i : ∀ d Λ', P d Λ' → P' d Λ') : WE C E Γ Λ e P' := fun X F W is tk =>
  pe_imp (h X F W is tk) fun σ H Q ⟨B, α, S, q, er⟩ => ⟨B, α, S, fun d Λ' v B' α' H' p => q d Λ' v B' α' H' (i d Λ' p), er⟩
theorem wa_mono {e : List Expr} {P P' : List D → Cells → Prop} (h : WA C E Γ Λ e P) (i : ∀ d Λ', P d Λ' → P' d Λ') : WA C E Γ Λ e P' := fun X F W is tk =>
  pa_imp (h X F W is tk) fun σ H Q ⟨B, α, S, q, er⟩ => ⟨B, α, S, fun ds Λ' vs B' α' H' hp => q ds Λ' vs B' α' H' (i ds Λ' hp), er⟩
theorem wt_mono {e : Expr} {P P' : Bool → Cells → Prop} (h : WT C E Γ Λ e P) (i : ∀ d Λ', P d Λ' → P' d Λ') : WT C E Γ Λ e P' := fun X F W is tk =>
  pt_imp (h X F W is tk) fun σ H Q ⟨B, α, S, q, er⟩ => ⟨B, α, S, fun b Λ' B' α' H' hp => q b Λ' B' α' H' (i b Λ' hp), er⟩
structure Rs.Le (R R' : Rs) : Prop where
  nx : ∀ Γ Λ, R.nx Γ Λ → R'.nx Γ Λ := by intros; assumption
  rt : ∀ d Λ, R.rt d Λ → R'.rt d Λ := by intros; assumption
  bk : ∀ Γ Λ, R.bk Γ Λ → R'.bk Γ Λ := by intros; assumption
  ct : ∀ Γ Λ, R.ct Γ Λ → R'.ct Γ Λ := by intros; assumption
  er : ∀ e Γ Λ, R.er e Γ Λ → R'.er e Γ Λ := by intros; assumption
theorem EndsOk.le {K : PySem.W.Frag} {F : Fm} {W : WX} {B : Hp} {R R' : Rs} {D : Ends} (h : EndsOk K F W B R' D) (i : R.Le R') : EndsOk K F W B R D :=
  ⟨fun Γ' Λ' B' α' σ' H' r => h.nx Γ' Λ' B' α' σ' H' (i.nx _ _ r), fun d Λ' v Γ' B' α' σ' H' r => h.rt d Λ' v Γ' B' α' σ' H' (i.rt _ _ r), fun Γ' Λ' B' α' σ' H' r => h.bk Γ' Λ' B' α' σ' H' (i.bk _ _ r), fun Γ' Λ' B' α' σ' H' r => h.ct Γ' Λ' B' α' σ' H' (i.ct _ _ r),
   fun err Γ' Λ' B' α' σ' H' c dx r => h.er err Γ' Λ' B' α' σ' H' c dx (i.er _ _ _ r)⟩
theorem ws_mono {s : Stmt} {R R' : Rs} (h : WS C Γ Λ s R) (i : R.Le R') : WS C Γ Λ s R' := fun X F W is hm tk =>
  ps_imp (h X F W is hm tk) fun D σ H ⟨B, α, S, q⟩ => ⟨B, α, S, q.le i⟩
theorem wss_mono {s : List Stmt} {R R' : Rs} (h : WSs C Γ Λ s R) (i : R.Le R') : WSs C Γ Λ s R' := fun X F W is hm tk =>
  pss_imp (h X F W is hm tk) fun D σ H ⟨B, α, S, q⟩ => ⟨B, α, S, q.le i⟩
end

/-! ### names, constants -/
section
variable {C : Ctx} {E : ER} {Γ : Env} {Λ : Cells} {P : D → Cells → Prop} {pos : Pos}
theorem we_name {i : Nat} {x : Str} {d : D} (hi : C.N[i]? = some x) (hv : C.vs[i]? = some true) (hg : Γ[i]? = some (some d)) (p : P d Λ)
    (hd : (x == ("__debug__" : Str)) = false := by decide) (hcd : (x == ("__classdict__" : Str)) = false := by decide) : WE C E Γ Λ (.Name x pos) P := fun X F W is tk => by
  refine pe_imp (pe_var (is.ni hi) (is.vis hi hv) hd hcd) fun σ H Q ⟨B, α, S, q, er⟩ => ?_
  obtain ⟨v, h1, h2⟩ := S.sl i d hg
  exact ⟨v, h1, q d Λ v B α H p S (Ex.refl B) (List.prefix_refl _) h2⟩
theorem we_int {i : Int} {j : Nat} (p : P (.int i) Λ) : WE C E Γ Λ (.Constant (.int i) j pos) P := fun X F W is tk =>
  pe_imp pe_int fun σ H Q ⟨B, α, S, q, er⟩ => q _ Λ _ B α H p S (Ex.refl B) (List.prefix_refl _) rfl
theorem we_bl {b : Bool} {j : Nat} (p : P (.bl b) Λ) : WE C E Γ Λ (.Constant (.bool b) j pos) P := fun X F W is tk =>
  pe_imp pe_bl fun σ H Q ⟨B, α, S, q, er⟩ => q _ Λ _ B α H p S (Ex.refl B) (List.prefix_refl _) rfl
theorem we_str {s : Str} {j : Nat} (p : P (.str s) Λ) : WE C E Γ Λ (.Constant (.str s) j pos) P := fun X F W is tk =>
  pe_imp pe_str fun σ H Q ⟨B, α, S, q, er⟩ => q _ Λ _ B α H p S (Ex.refl B) (List.prefix_refl _) rfl
/-- a new list: seen from now on by the view; or owned -/
theorem we_f {e : Expr} (h : WN C E Γ Λ e fun ds Λ' => P (.lst ds) Λ') : WE C E Γ Λ e P := fun X F W is tk => by
  refine pe_imp (h X F W is tk) fun σ H Q ⟨B, α, S, q, er⟩ => ⟨B, α, S, fun ds Λ' p vs B' α' H' hp S' e pf h1 h2 h3 h4 h5 => ?_, er⟩
  have hx : Ex B' (upd B' p (.lst vs)) := Ex.new h2
  refine q _ Λ' _ (upd B' p (.lst vs)) α' H' hp (S'.see h1 h2 h3 h4) (e.trans hx) pf ?_
  show Rep C.K _ α' (.lst ds) (.ref p)
  unfold Rep
  exact ⟨p, vs, rfl, upd_same, h5.mono hx (List.prefix_refl _)⟩
end
/-- a thing of the heap that is new is owned from now on -/
theorem Sat.adopt {K : PySem.W.Frag} {F : Fm} {B : Hp} {α : List Addr} {Γ : Env} {Λ : Cells} {σ : L2.St} {H : Hp} {p : Addr} {c : Cell} (S : Sat K F B α Γ Λ σ H) (hB : B p = none) (h0 : F.H0 p = none) (hα : p ∉ α) (hH : H p ≠ none)
    (hc : CellAt K B (α ++ [p]) H p c) (hg0 : c ≠ .gone := by intro q; cases q) : Sat K F B (α ++ [p]) Γ (Λ ++ [c]) σ H := by
  refine { S with pf := S.pf.trans (List.prefix_append _ _), nd := ?_, al := by simp [S.al], ce := fun n c' h hg => ?_, ah := fun a ha => ?_, sl := fun i d h => ?_, tb := S.tb.own (hc.celly hg0) }
  · rw [List.nodup_append]
    refine ⟨S.nd, List.nodup_cons.mpr ⟨by simp, List.nodup_nil⟩, fun a ha b hb e => ?_⟩
    simp at hb; subst hb; subst e; exact hα ha
  · by_cases hn : n < Λ.length
    · rw [List.getElem?_append_left hn] at h
      obtain ⟨a, h1, h2, h3, h4⟩ := S.ce n c' h hg
      exact ⟨a, pre_get (List.prefix_append _ _) h1, h2, h3, h4.mono (Ex.refl B) (List.prefix_append _ _) fun u q _ => q⟩
    · have hlt : n < (Λ ++ [c]).length := (List.getElem?_eq_some_iff.mp h).1
      have hn' : n = Λ.length := by simp at hlt; omega
      subst hn'
      rw [List.getElem?_append_right (Nat.le_refl _)] at h
      simp at h; subst h
      refine ⟨p, by rw [← S.al, List.getElem?_append_right (Nat.le_refl _)]; simp, hB, .inl h0, hc⟩
  · rcases List.mem_append.mp ha with h | h
    · exact S.ah a h
    · simp at h; subst h; exact ⟨hH, .inl h0⟩
  · obtain ⟨v, h1, h2⟩ := S.sl i d h
    exact ⟨v, h1, h2.mono (Ex.refl B) (List.prefix_append _ _)⟩
section
variable {C : Ctx} {E : ER} {Γ : Env} {Λ : Cells} {P : D → Cells → Prop} {pos : Pos}
theorem we_o {e : Expr} (h : WN C E Γ Λ e fun ds Λ' => P (.loc Λ'.length) (Λ' ++ [.lst ds])) : WE C E Γ Λ e P := fun X F W is tk => by
  refine pe_imp (h X F W is tk) fun σ H Q ⟨B, α, S, q, er⟩ => ⟨B, α, S, fun ds Λ' p vs B' α' H' hp S' e pf h1 h2 h3 h4 h5 => ?_, er⟩
  refine q _ _ _ B' (α' ++ [p]) H' hp (S'.adopt h2 h3 h4 (by rw [h1]; simp) ⟨vs, h1, h5.mono (Ex.refl _) (List.prefix_append _ _)⟩) e (pf.trans (List.prefix_append _ _)) ?_
  show Rep C.K _ _ (.loc _) (.ref p)
  unfold Rep
  exact ⟨p, rfl, by rw [← S'.al, List.getElem?_append_right (Nat.le_refl _)]; simp⟩
end

/-! ### argument lists -/
section
variable {C : Ctx} {E : ER} {Γ : Env} {Λ : Cells}
/-- no star stands there -/
def plainE : Expr → Bool
  | .Starred _ _ => false
  | _ => true
theorem star_plain {e : Expr} {es : List Expr} {env : PySem.Env} (h : plainE e = true) : starEach (e :: es) env = (false, eval e env) :: starEach es env := by
  cases e <;> first | rfl | cases h
theorem wa_nil {P : List D → Cells → Prop} (p : P [] Λ) : WA C E Γ Λ [] P := fun X F W is tk =>
  pa_imp pa_nil fun σ H Q ⟨B, α, S, q, er⟩ => q [] Λ [] B α H p S (Ex.refl B) (List.prefix_refl _) .nil
theorem wa_cons {e : Expr} {es : List Expr} {P : List D → Cells → Prop} (h : WE C E Γ Λ e fun d Λ1 => WA C E Γ Λ1 es fun ds Λ2 => P (d :: ds) Λ2) (he : plainE e = true := by rfl) : WA C E Γ Λ (e :: es) P := fun X F W is tk => by
  refine pa_imp (pa_cons pe_U pa_U (star_plain he)) fun σ H Q ⟨B, α, S, q, er⟩ => ?_
  refine WE.use h is tk S er fun d Λ1 v B1 α1 H1 p1 S1 e1 f1 r1 => ?_
  refine WA.use p1 is tk S1 (er.mono e1) fun ds Λ2 vs B2 α2 H2 p2 S2 e2 f2 r2 => ?_
  exact q _ Λ2 _ B2 α2 H2 p2 S2 (e1.trans e2) (f1.trans f2) (.cons (r1.mono e2 f2) r2)
/-- a list of written items -/
theorem wn_lst {es : List Expr} {pos : Pos} {P : List D → Cells → Prop} (h : WA C E Γ Λ es fun ds Λ' => ds.length ≤ sizeLine ∧ P ds Λ') : WN C E Γ Λ (.List es pos) P := fun X F W is tk => by
  refine pe_imp (pe_lst pa_U) fun σ H Q ⟨B, α, S, q, er⟩ => ?_
  refine WA.use h is tk S er fun ds Λ1 vs B1 α1 H1 p1 S1 e1 f1 r1 => ⟨by rw [r1.length]; exact p1.1, fun p hp => ?_⟩
  exact q ds Λ1 p vs B1 α1 _ p1.2 (S1.grow (Ex.new hp)) e1 f1 upd_same (S1.bh.back hp) (S1.dm p hp) (fun ha => (S1.ah p ha).1 hp) r1
theorem we_tup {es : List Expr} {x1} {pos : Pos} {P : D → Cells → Prop} (h : WA C E Γ Λ es fun ds Λ' => ds.length ≤ sizeLine ∧ P (.tup ds) Λ') : WE C E Γ Λ (.Tuple es x1 pos) P := fun X F W is tk => by
  refine pe_imp (pe_tupX pa_U) fun σ H Q ⟨B, α, S, q, er⟩ => ?_
  refine WA.use h is tk S er fun ds Λ1 vs B1 α1 H1 p1 S1 e1 f1 r1 => ⟨by rw [r1.length]; exact p1.1, fun p its hp => ?_⟩
  have hx : Ex B1 (upd B1 p (.frz (tupO its) (.tup vs))) := Ex.new (S1.bh.back hp)
  refine q _ Λ1 _ (upd B1 p (.frz (tupO its) (.tup vs))) α1 _ p1.2 (S1.lay hp) (e1.trans hx) f1 ?_
  show Rep C.K _ α1 (.tup ds) (.ref p)
  unfold Rep
  exact ⟨p, vs, rfl, SqX.new upd_same, r1.mono hx (List.prefix_refl _)⟩
end

/-! ### two-place operations by data -/
/-- what a two-place operation by values does to data -/
def OpK (K : PySem.W.Frag) (r : R2) (x y : D) (Γ : Env) (Λ : Cells) (P : D → Cells → Prop) : Prop := ∀ F B α σ H vx vy (Q : VK), Sat K F B α Γ Λ σ H → Rep K B α x vx → Rep K B α y vy →
  (∀ d Λ' v B' α' H', P d Λ' → Sat K F B' α' Γ Λ' σ H' → Ex B B' → α <+: α' → Rep K B' α' d v → Q v H') → r vx vy H Q
/-- .. to a value that is no new thing -/
theorem OpK.val {K : PySem.W.Frag} {r : R2} {x y z : D} {Γ : Env} {Λ : Cells} {P : D → Cells → Prop} (p : P z Λ) (h : ∀ F B α σ H vx vy (Q : VK), Sat K F B α Γ Λ σ H → Rep K B α x vx → Rep K B α y vy → (∀ v, Rep K B α z v → Q v H) → r vx vy H Q) : OpK K r x y Γ Λ P :=
  fun F B α σ H vx vy Q S rx ry q => h F B α σ H vx vy Q S rx ry fun v rv => q z Λ v B α H p S (Ex.refl B) (List.prefix_refl _) rv
section
variable {C : Ctx} {E : ER} {Γ : Env} {Λ : Cells} {P : D → Cells → Prop} {pos : Pos} {a b : Expr}
theorem we_opK {op : Operator} {r : R2} (ho : ∀ X, C.Is X → OpR X (binaryOp op) r) (h : WE C E Γ Λ a fun x Λ1 => WE C E Γ Λ1 b fun y Λ2 => OpK C.K r x y Γ Λ2 P) : WE C E Γ Λ (.BinOp a op b pos) P := fun X F W is tk => by
  refine pe_imp (pe_op (ho X is) pe_U pe_U) fun σ H Q ⟨B, α, S, q, er⟩ => ?_
  refine WE.use h is tk S er fun x Λ1 vx B1 α1 H1 p1 S1 e1 f1 r1 => ?_
  refine WE.use p1 is tk S1 (er.mono e1) fun y Λ2 vy B2 α2 H2 p2 S2 e2 f2 r2 => ?_
  exact p2 F B2 α2 σ H2 vx vy Q S2 (r1.mono e2 f2) r2 fun d Λ' v B' α' H' p' S' e' f' r' => q d Λ' v B' α' H' p' S' ((e1.trans e2).trans e') ((f1.trans f2).trans f') r'
theorem we_cmpK {op : CmpOp} {r : R2} (ho : ∀ X, C.Is X → OpR X (compareOp op) r) (h : WE C E Γ Λ a fun x Λ1 => WE C E Γ Λ1 b fun y Λ2 => OpK C.K r x y Γ Λ2 P) (hm : behindInMarks op b = false) : WE C E Γ Λ (.Compare a [op] [b] pos) P := fun X F W is tk => by
  refine pe_imp (pe_cmpR (ho X is) pe_U pe_U hm) fun σ H Q ⟨B, α, S, q, er⟩ => ?_
  refine WE.use h is tk S er fun x Λ1 vx B1 α1 H1 p1 S1 e1 f1 r1 => ?_
  refine WE.use p1 is tk S1 (er.mono e1) fun y Λ2 vy B2 α2 H2 p2 S2 e2 f2 r2 => ?_
  exact p2 F B2 α2 σ H2 vx vy Q S2 (r1.mono e2 f2) r2 fun d Λ' v B' α' H' p' S' e' f' r' => q d Λ' v B' α' H' p' S' ((e1.trans e2).trans e') ((f1.trans f2).trans f') r'
/-- a test that is a comparison -/
theorem wt_cmpK {op : CmpOp} {r : R2} {P : Bool → Cells → Prop} (ho : ∀ X, C.Is X → OpR X (compareOp op) r) (h : WE C E Γ Λ a fun x Λ1 => WE C E Γ Λ1 b fun y Λ2 => OpK C.K r x y Γ Λ2 fun d Λ3 => ∃ c, d = .bl c ∧ P c Λ3) (hm : behindInMarks op b = false) : WT C E Γ Λ (.Compare a [op] [b] pos) P := fun X F W is tk => by
  refine pt_imp (pt_cmpR (ho X is) pe_U pe_U hm) fun σ H Q ⟨B, α, S, q, er⟩ => ?_
  refine WE.use h is tk S er fun x Λ1 vx B1 α1 H1 p1 S1 e1 f1 r1 => ?_
  refine WE.use p1 is tk S1 (er.mono e1) fun y Λ2 vy B2 α2 H2 p2 S2 e2 f2 r2 => ?_
  refine p2 F B2 α2 σ H2 vx vy _ S2 (r1.mono e2 f2) r2 fun d Λ' v B' α' H' p' S' e' f' r' => ?_
  obtain ⟨c, rfl, p'⟩ := p'
  exact ⟨c, r', q c Λ' B' α' H' p' S' ((e1.trans e2).trans e') ((f1.trans f2).trans f')⟩
end
end Pl

namespace Pl
open PySem L2 PyProof.Rows

/-! ### looking through a cell -/
/-- a cell's number is read as what stands in the cell -/
def vw (Λ : Cells) : D → D
  | .loc n => match Λ[n]? with
    | some (.lst ds) => .lst ds
    | some (.dic ks ds) => .dic ks ds
    | some (.ins C ns ds) => .ins C ns ds
    | _ => .loc n
  | d => d
section
variable {K : PySem.W.Frag} {F : Fm} {B : Hp} {α : List Addr} {Γ : Env} {Λ : Cells} {σ : L2.St} {H : Hp}
/-- a list, wherever it stands -/
theorem Sat.lst (S : Sat K F B α Γ Λ σ H) {x : D} {v : V} {ds : List D} (r : Rep K B α x v) (e : vw Λ x = .lst ds) : ∃ a vs, v = .ref a ∧ H a = some (.lst vs) ∧ Reps K B α ds vs := by
  cases x with
  | lst es =>
    cases e
    unfold Rep at r
    obtain ⟨a, vs, h1, h2, h3⟩ := r
    exact ⟨a, vs, h1, S.bh _ _ h2, h3⟩
  | loc n =>
    unfold Rep at r
    obtain ⟨a, h1, h2⟩ := r
    simp only [vw] at e
    cases hc : Λ[n]? with
    | none => rw [hc] at e; cases e
    | some c =>
      rw [hc] at e
      cases c <;> simp at e
      subst e
      obtain ⟨a', q1, q2, q3, q4⟩ := S.ce n _ hc (by simp)
      rw [h2] at q1; cases q1
      obtain ⟨vs, q5, q6⟩ := q4
      exact ⟨a, vs, h1, q5, q6⟩
  | _ => cases e
/-- a sequence: a list, a locked list, a tuple -/
def seqD (Λ : Cells) (x : D) : Option (List D) := match vw Λ x with
  | .lst ds => some ds
  | .fzl ds => some ds
  | .tup ds => some ds
  | _ => none
theorem Sat.seq (S : Sat K F B α Γ Λ σ H) {x : D} {v : V} {ds : List D} (r : Rep K B α x v) (e : seqD Λ x = some ds) : ∃ a vs, v = .ref a ∧ (SqL K H a vs ∨ SqT K H a vs) ∧ Reps K B α ds vs := by
  unfold seqD at e
  split at e
  · rename_i es he
    cases e
    obtain ⟨a, vs, h1, h2, h3⟩ := S.lst r he
    exact ⟨a, vs, h1, .inl (SqL.of h2), h3⟩
  · rename_i es he
    cases e
    cases x with
    | fzl es' =>
      cases he
      unfold Rep at r
      obtain ⟨a, vs, h1, h2, h3⟩ := r
      exact ⟨a, vs, h1, .inl (S.bh.sqL h2), h3⟩
    | loc n =>
      simp only [vw] at he
      cases hc : Λ[n]? with
      | none => rw [hc] at he; cases he
      | some c => rw [hc] at he; cases c <;> simp at he
    | _ => cases he
  · rename_i es he
    cases e
    cases x with
    | tup es' =>
      cases he
      unfold Rep at r
      obtain ⟨a, vs, h1, h2, h3⟩ := r
      exact ⟨a, vs, h1, .inr (S.bh.sqT h2.1), h3⟩
    | loc n =>
      simp only [vw] at he
      cases hc : Λ[n]? with
      | none => rw [hc] at he; cases he
      | some c => rw [hc] at he; cases c <;> simp at he
    | _ => cases he
  · cases e
/-- .. a list alone -/
def lstD (Λ : Cells) (x : D) : Option (List D) := match vw Λ x with
  | .lst ds => some ds
  | .fzl ds => some ds
  | _ => none
theorem Sat.seqL (S : Sat K F B α Γ Λ σ H) {x : D} {v : V} {ds : List D} (r : Rep K B α x v) (e : lstD Λ x = some ds) : ∃ a vs, v = .ref a ∧ SqL K H a vs ∧ Reps K B α ds vs := by
  unfold lstD at e
  split at e
  · rename_i es he
    cases e
    obtain ⟨a, vs, h1, h2, h3⟩ := S.lst r he
    exact ⟨a, vs, h1, SqL.of h2, h3⟩
  · rename_i es he
    cases e
    cases x with
    | fzl es' =>
      cases he
      unfold Rep at r
      obtain ⟨a, vs, h1, h2, h3⟩ := r
      exact ⟨a, vs, h1, S.bh.sqL h2, h3⟩
    | loc n =>
      simp only [vw] at he
      cases hc : Λ[n]? with
      | none => rw [hc] at he; cases he
      | some c => rw [hc] at he; cases c <;> simp at he
    | _ => cases he
  · cases e
end

/-! ### arithmetic -/
section
variable {C : Ctx} {E : ER} {Γ : Env} {Λ : Cells} {P : D → Cells → Prop} {pos : Pos} {a b : Expr}
/-- what + does -/
def addP (Λ : Cells) (x y : D) (P : D → Prop) : Prop := match vw Λ x, vw Λ y with
  | .int i, .int j => P (.int (i + j))
  | .str s, .str t => s.length + t.length ≤ sizeLine ∧ P (.str (s ++ t))
  | .tup xs, .tup ys => xs.length + ys.length ≤ sizeLine ∧ P (.tup (xs ++ ys))
  | .lst xs, .lst ys => xs.length + ys.length ≤ sizeLine ∧ P (.lst (xs ++ ys))
  | _, _ => False
def rAdd (K : PySem.W.Frag) : R2 := fun x y H Q => (rI0 (fun i j => .int (i + j)) x y H Q) ∨ ((∃ i j, x = .str i ∧ y = .str j ∧ i.length + j.length ≤ sizeLine ∧ Q (.str (i ++ j)) H) ∨ (rCatX K x y H Q ∨ rCat x y H Q))
theorem op_addA {X : Cx} : OpR X (binaryOp .Add) (rAdd X.K) := op_add.or (op_add_str.or (op_catX.or op_cat))
theorem add_K {K : PySem.W.Frag} {x y : D} (h : addP Λ x y fun d => P d Λ) : OpK K (rAdd K) x y Γ Λ P := by
  intro F B α σ H vx vy Q S rx ry q
  have keep : ∀ {z : D} {v : V}, P z Λ → Rep K B α z v → Q v H := fun {z v} p r => q z Λ v B α H p S (Ex.refl B) (List.prefix_refl _) r
  have noc : ∀ {z w : D}, vw Λ z = w → (∀ n, w ≠ .loc n) → (∀ ds, w ≠ .lst ds) → (∀ ks ds, w ≠ .dic ks ds) → (∀ c ns ds, w ≠ .ins c ns ds) → z = w := fun {z w} e h1 h2 h3 h4 => by
    cases z with
    | loc n =>
      simp only [vw] at e
      cases hc : Λ[n]? with
      | none => rw [hc] at e; exact absurd e.symm (h1 n)
      | some c =>
        rw [hc] at e
        cases c with
        | lst ds => exact absurd e.symm (h2 ds)
        | dic ks ds => exact absurd e.symm (h3 ks ds)
        | ins c ns ds => exact absurd e.symm (h4 c ns ds)
        | gone => exact absurd e.symm (h1 n)
    | _ => exact e
  unfold addP at h
  split at h
  · rename_i i j hx hy
    have ex := noc hx (by simp) (by simp) (by simp) (by simp)
    have ey := noc hy (by simp) (by simp) (by simp) (by simp)
    subst ex; subst ey
    unfold Rep at rx ry
    exact .inl ⟨i, j, rx, ry, keep h rfl⟩
  · rename_i s t hx hy
    have ex := noc hx (by simp) (by simp) (by simp) (by simp)
    have ey := noc hy (by simp) (by simp) (by simp) (by simp)
    subst ex; subst ey
    unfold Rep at rx ry
    exact .inr (.inl ⟨s, t, rx, ry, h.1, keep h.2 rfl⟩)
  · rename_i xs ys hx hy
    have ex := noc hx (by simp) (by simp) (by simp) (by simp)
    have ey := noc hy (by simp) (by simp) (by simp) (by simp)
    subst ex; subst ey
    unfold Rep at rx ry
    obtain ⟨p1, v1, rfl, q1, r1⟩ := rx
    obtain ⟨p2, v2, rfl, q2, r2⟩ := ry
    refine .inr (.inr (.inl ⟨p1, p2, v1, v2, rfl, rfl, S.bh.sqT q1.1, S.bh.sqT q2.1, by rw [r1.length, r2.length]; exact h.1, fun e => ?_, fun _ e => ?_, fun _ _ t its ht => ?_⟩))
    · have ex : xs = [] := by
        have := r1.length
        rw [e] at this
        exact List.length_eq_zero_iff.mp this.symm
      subst ex
      refine keep h.2 ?_
      rw [List.nil_append]
      unfold Rep
      exact ⟨p2, v2, rfl, q2, r2⟩
    · have ey : ys = [] := by
        have := r2.length
        rw [e] at this
        exact List.length_eq_zero_iff.mp this.symm
      subst ey
      refine keep h.2 ?_
      rw [List.append_nil]
      unfold Rep
      exact ⟨p1, v1, rfl, q1, r1⟩
    · exact q _ Λ _ (upd B t (.frz (tupO its) (.tup (v1 ++ v2)))) α _ h.2 (S.lay ht) (Ex.new (S.bh.back ht)) (List.prefix_refl _) (by
            show Rep K _ α (.tup (xs ++ ys)) (.ref t)
            unfold Rep
            exact ⟨t, v1 ++ v2, rfl, SqX.new upd_same, (r1.append r2).mono (Ex.new (S.bh.back ht)) (List.prefix_refl _)⟩)
  · rename_i xs ys hx hy
    obtain ⟨p1, v1, rfl, q1, r1⟩ := S.lst rx hx
    obtain ⟨p2, v2, rfl, q2, r2⟩ := S.lst ry hy
    refine .inr (.inr (.inr ⟨p1, p2, v1, v2, rfl, rfl, q1, q2, by rw [r1.length, r2.length]; exact h.1, fun t ht => ?_⟩))
    exact q _ Λ _ (upd B t (.lst (v1 ++ v2))) α _ h.2 (S.lay ht) (Ex.new (S.bh.back ht)) (List.prefix_refl _) (by
            show Rep K _ α (.lst (xs ++ ys)) (.ref t)
            unfold Rep
            exact ⟨t, v1 ++ v2, rfl, upd_same, (r1.append r2).mono (Ex.new (S.bh.back ht)) (List.prefix_refl _)⟩)
  · exact h.elim
theorem we_add (h : WE C E Γ Λ a fun x Λ1 => WE C E Γ Λ1 b fun y Λ2 => addP Λ2 x y fun d => P d Λ2) : WE C E Γ Λ (.BinOp a .Add b pos) P :=
  we_opK (r := rAdd C.K) (fun X is => by rw [← is.K]; exact op_addA) (we_mono h fun x Λ1 p => we_mono p fun y Λ2 q => add_K q)

/-- what an operation on two ints does -/
def intP (g : Int → Int → Prop) (f : Int → Int → D) (x y : D) (P : D → Prop) : Prop := match x, y with
  | .int i, .int j => g i j ∧ P (f i j)
  | _, _ => False
theorem int_K {K : PySem.W.Frag} {g : Int → Int → Prop} {f : Int → Int → V} {f' : Int → Int → D} (hf : ∀ i j B α, Rep K B α (f' i j) (f i j)) {x y : D} (h : intP g f' x y fun d => P d Λ) : OpK K (rI g f) x y Γ Λ P := by
  intro F B α σ H vx vy Q S rx ry q
  unfold intP at h
  split at h
  · rename_i i j
    unfold Rep at rx ry
    exact ⟨i, j, rx, ry, h.1, q _ Λ _ B α H h.2 S (Ex.refl B) (List.prefix_refl _) (hf i j B α)⟩
  · exact h.elim
theorem we_intK {op : Operator} {g : Int → Int → Prop} {f : Int → Int → Int} (ho : ∀ X, C.Is X → OpR X (binaryOp op) (rI g fun i j => .int (f i j))) (h : WE C E Γ Λ a fun x Λ1 => WE C E Γ Λ1 b fun y Λ2 => intP g (fun i j => .int (f i j)) x y fun d => P d Λ2) : WE C E Γ Λ (.BinOp a op b pos) P :=
  we_opK ho (we_mono h fun x Λ1 p => we_mono p fun y Λ2 q => int_K (fun i j B α => by unfold Rep; rfl) q)
theorem we_sub (h : WE C E Γ Λ a fun x Λ1 => WE C E Γ Λ1 b fun y Λ2 => intP (fun _ _ => True) (fun i j => .int (i - j)) x y fun d => P d Λ2) : WE C E Γ Λ (.BinOp a .Sub b pos) P :=
  we_intK (fun X is => opI fun _ _ _ _ _ _ _ _ q => sub_int q) h
theorem we_mul (h : WE C E Γ Λ a fun x Λ1 => WE C E Γ Λ1 b fun y Λ2 => intP CMul (fun i j => .int (i * j)) x y fun d => P d Λ2) : WE C E Γ Λ (.BinOp a .Mult b pos) P :=
  we_intK (fun X is => op_mul) h
theorem we_fdiv (h : WE C E Γ Λ a fun x Λ1 => WE C E Γ Λ1 b fun y Λ2 => intP CDivW (fun i j => .int (i / j)) x y fun d => P d Λ2) : WE C E Γ Λ (.BinOp a .FloorDiv b pos) P :=
  we_intK (fun X is => op_fdivW) h
theorem we_mod (h : WE C E Γ Λ a fun x Λ1 => WE C E Γ Λ1 b fun y Λ2 => intP (fun _ j => 0 < j) (fun i j => .int (i % j)) x y fun d => P d Λ2) : WE C E Γ Λ (.BinOp a .Mod b pos) P :=
  we_intK (fun X is => op_mod) h
theorem we_pow (h : WE C E Γ Λ a fun x Λ1 => WE C E Γ Λ1 b fun y Λ2 => intP CPow (fun i j => .int (i ^ j.toNat)) x y fun d => P d Λ2) : WE C E Γ Λ (.BinOp a .Pow b pos) P :=
  we_intK (fun X is => op_pow) h
end

/-! ### data as the library's -/
mutual
def py : D → PyData
  | .non => .none
  | .bl b => .bool b
  | .int i => .int i
  | .str s => .str s
  | .tup ds => .tuple (pys ds)
  | .lst ds => .list (pys ds)
  | .fzl ds => .list (pys ds)
  | .loc _ => .dict []
  | .raw _ => .dict []
  | .ins _ _ _ => .dict []
  | .dic _ _ => .dict []
  | .exc _ _ _ => .dict []
def pys : List D → List PyData
  | [] => []
  | d :: ds => py d :: pys ds
end
mutual
theorem Rep.dp {K : PySem.W.Frag} {B H : Hp} {α : List Addr} (e : Ex B H) : ∀ (d : D) (v : V), (py d).plain = true → Rep K B α d v → Dp K H v (py d)
  | .non, _, _, h => by unfold Rep at h; subst h; exact .non
  | .bl b, _, _, h => by unfold Rep at h; subst h; exact .bl b
  | .int i, _, _, h => by unfold Rep at h; subst h; exact .int i
  | .str s, _, _, h => by unfold Rep at h; subst h; exact .str s
  | .tup ds, _, p, h => by
    unfold Rep at h
    obtain ⟨a, vs, rfl, h1, h2⟩ := h
    exact .tup (e.sqT h1.1) (Reps.dp e ds vs p h2)
  | .lst ds, _, p, h => by
    unfold Rep at h
    obtain ⟨a, vs, rfl, h1, h2⟩ := h
    exact .lst (SqL.of (e _ _ h1)) (Reps.dp e ds vs p h2)
  | .fzl ds, _, p, h => by
    unfold Rep at h
    obtain ⟨a, vs, rfl, h1, h2⟩ := h
    exact .lst (e.sqL h1) (Reps.dp e ds vs p h2)
  | .loc _, _, p, _ => nomatch p
  | .raw _, _, p, _ => nomatch p
  | .ins _ _ _, _, p, _ => nomatch p
  | .dic _ _, _, p, _ => nomatch p
  | .exc _ _ _, _, p, _ => nomatch p
theorem Reps.dp {K : PySem.W.Frag} {B H : Hp} {α : List Addr} (e : Ex B H) : ∀ (ds : List D) (vs : List V), PyData.plainAll (pys ds) = true → Reps K B α ds vs → DpAll K H vs (pys ds)
  | [], _, _, h => by unfold Reps at h; subst h; exact .nil
  | d :: ds, _, p, h => by
    unfold Reps at h
    obtain ⟨v, r, rfl, h1, h2⟩ := h
    have p' : ((py d).plain && PyData.plainAll (pys ds)) = true := p
    rw [Bool.and_eq_true] at p'
    exact .cons (Rep.dp e d v p'.1 h1) (Reps.dp e ds r p'.2 h2)
end
theorem Sat.dp {K : PySem.W.Frag} {F : Fm} {B : Hp} {α : List Addr} {Γ : Env} {Λ : Cells} {σ : L2.St} {H : Hp} (S : Sat K F B α Γ Λ σ H) {x : D} {v : V} (r : Rep K B α x v) (p : (py (vw Λ x)).plain = true) : Dp K H v (py (vw Λ x)) := by
  cases x with
  | loc n =>
    simp only [vw] at p ⊢
    cases hc : Λ[n]? with
    | none => rw [hc] at p; cases p
    | some c =>
      rw [hc] at p
      cases c with
      | lst ds =>
        simp only at p ⊢
        obtain ⟨a, vs, rfl, h1, h2⟩ := S.lst r (ds := ds) (by simp [vw, hc])
        exact .lst (SqL.of h1) (Reps.dp S.bh ds vs p h2)
      | _ => cases p
  | _ => exact Rep.dp S.bh _ v p r

/-! ### comparisons -/
section
variable {C : Ctx} {E : ER} {Γ : Env} {Λ : Cells} {P : D → Cells → Prop} {pos : Pos} {a b : Expr}
/-- what == needs of two data, and what it says -/
def eqP (Λ : Cells) (x y : D) (P : Bool → Prop) : Prop := match x, y with
  | .int i, .int j => P (decide (i = j))
  | .str s, .str t => P (decide (s = t))
  | .bl c, .bl d => P (decide (c = d))
  | x, y => (py (vw Λ x)).plain = true ∧ (py (vw Λ y)).plain = true ∧ min (py (vw Λ x)).depth (py (vw Λ y)).depth ≤ 190 ∧ P (PyData.eqv (py (vw Λ x)) (py (vw Λ y)))
def rEqP (K : PySem.W.Frag) (neg : Bool → Bool) : R2 := fun x y H Q => ∃ d e, Dp K H x d ∧ Dp K H y e ∧ d.plain = true ∧ e.plain = true ∧ min d.depth e.depth ≤ 190 ∧ Q (.bl (neg (PyData.eqv d e))) H
theorem Ctx.Is.u200 {X : Cx} (h : C.Is X) : X.A.units + 200 < cLine := by have := h.roomW.un; omega
theorem op_eqP {X : Cx} (is : C.Is X) : OpR X (compareOp .Eq) (rEqP X.K id) := by
  intro pins s σ H x y v u Q I rx ry h
  obtain ⟨d, e, hd, he, sd, se, hu, q⟩ := h
  obtain ⟨as, r1⟩ := Dp.reads I d x v hd rx
  obtain ⟨bs, r2⟩ := Dp.reads I e y u he ry
  have := is.u200
  refine SeqAt.eq_plain r1 r2 sd se (by omega) ⟨.bl _, H, I, rfl, q⟩
theorem op_neP {X : Cx} (is : C.Is X) : OpR X (compareOp .NotEq) (rEqP X.K not) := by
  intro pins s σ H x y v u Q I rx ry h
  obtain ⟨d, e, hd, he, sd, se, hu, q⟩ := h
  obtain ⟨as, r1⟩ := Dp.reads I d x v hd rx
  obtain ⟨bs, r2⟩ := Dp.reads I e y u he ry
  have := is.u200
  refine SeqAt.ne_plain r1 r2 sd se (by omega) ⟨.bl _, H, I, rfl, q⟩
theorem eq_K {K : PySem.W.Frag} {neg : Bool → Bool} {x y : D} (h : eqP Λ x y fun c => P (.bl (neg c)) Λ) : OpK K (rEqP K neg) x y Γ Λ P := by
  intro F B α σ H vx vy Q S rx ry q
  have fin : ∀ {c : Bool}, P (.bl (neg c)) Λ → Q (.bl (neg c)) H := fun {c} p => q _ Λ _ B α H p S (Ex.refl B) (List.prefix_refl _) (by unfold Rep; rfl)
  have gen : ∀ {x y : D}, Rep K B α x vx → Rep K B α y vy → ((py (vw Λ x)).plain = true ∧ (py (vw Λ y)).plain = true ∧ min (py (vw Λ x)).depth (py (vw Λ y)).depth ≤ 190 ∧ P (.bl (neg (PyData.eqv (py (vw Λ x)) (py (vw Λ y))))) Λ) → rEqP K neg vx vy H Q := fun {x y} rx ry ⟨h1, h2, h3, h4⟩ =>
    ⟨_, _, S.dp rx h1, S.dp ry h2, h1, h2, h3, fin h4⟩
  unfold eqP at h
  split at h
  · refine gen rx ry ⟨rfl, rfl, (by show min 0 0 ≤ 190; decide), ?_⟩
    show P (.bl (neg (PyData.eqv (.int _) (.int _)))) Λ
    rw [PyData.eqv, Bool.beq_eq_decide_eq]; exact h
  · refine gen rx ry ⟨rfl, rfl, (by show min 0 0 ≤ 190; decide), ?_⟩
    show P (.bl (neg (PyData.eqv (.str _) (.str _)))) Λ
    rw [PyData.eqv, Bool.beq_eq_decide_eq]; exact h
  · refine gen rx ry ⟨rfl, rfl, (by show min 0 0 ≤ 190; decide), ?_⟩
    show P (.bl (neg (PyData.eqv (.bool _) (.bool _)))) Λ
    rw [PyData.eqv, Bool.beq_eq_decide_eq]; exact h
  · exact gen rx ry h
theorem eqP_mono {x y : D} {P P' : Bool → Prop} (h : eqP Λ x y P) (i : ∀ c, P c → P' c) : eqP Λ x y P' := by
  unfold eqP at h ⊢
  split at h
  · exact i _ h
  · exact i _ h
  · exact i _ h
  · exact ⟨h.1, h.2.1, h.2.2.1, i _ h.2.2.2⟩
theorem wt_eq {P : Bool → Cells → Prop} (h : WE C E Γ Λ a fun x Λ1 => WE C E Γ Λ1 b fun y Λ2 => eqP Λ2 x y fun c => P c Λ2) : WT C E Γ Λ (.Compare a [.Eq] [b] pos) P :=
  wt_cmpK (r := rEqP C.K id) (fun X is => by rw [← is.K]; exact op_eqP is) (we_mono h fun x Λ1 p => we_mono p fun y Λ2 q => eq_K (neg := id) (eqP_mono q fun c p => ⟨_, rfl, p⟩)) (nomark _)
theorem wt_ne {P : Bool → Cells → Prop} (h : WE C E Γ Λ a fun x Λ1 => WE C E Γ Λ1 b fun y Λ2 => eqP Λ2 x y fun c => P (!c) Λ2) : WT C E Γ Λ (.Compare a [.NotEq] [b] pos) P :=
  wt_cmpK (r := rEqP C.K not) (fun X is => by rw [← is.K]; exact op_neP is) (we_mono h fun x Λ1 p => we_mono p fun y Λ2 q => eq_K (neg := not) (eqP_mono q fun c p => ⟨_, rfl, p⟩)) (nomark _)

/-- <, <=, >, >= of ints, < of texts -/
def ordP (f : Int → Int → Bool) (g : Str → Str → Bool) (ok : Bool) (x y : D) (P : Bool → Prop) : Prop := match x, y with
  | .int i, .int j => P (f i j)
  | .str s, .str t => ok = true ∧ P (g s t)
  | _, _ => False
def ltP := ordP (fun i j => decide (i < j)) (fun s t => decide (s.cps.toList < t.cps.toList)) true
def leP := ordP (fun i j => decide (i ≤ j)) (fun _ _ => false) false
def gtP := ordP (fun i j => decide (j < i)) (fun _ _ => false) false
def rOrd (f : Int → Int → Bool) (g : Str → Str → Bool) (ok : Bool) : R2 := fun x y H Q => (rI0 (fun i j => .bl (f i j)) x y H Q) ∨ (ok = true ∧ ∃ i j, x = .str i ∧ y = .str j ∧ Q (.bl (g i j)) H)
theorem ord_K {K : PySem.W.Frag} {f : Int → Int → Bool} {g : Str → Str → Bool} {ok : Bool} {x y : D} (h : ordP f g ok x y fun c => P (.bl c) Λ) : OpK K (rOrd f g ok) x y Γ Λ P := by
  intro F B α σ H vx vy Q S rx ry q
  have fin : ∀ {c : Bool}, P (.bl c) Λ → Q (.bl c) H := fun {c} p => q _ Λ _ B α H p S (Ex.refl B) (List.prefix_refl _) (by unfold Rep; rfl)
  unfold ordP at h
  split at h
  · unfold Rep at rx ry
    exact .inl ⟨_, _, rx, ry, fin h⟩
  · unfold Rep at rx ry
    exact .inr ⟨h.1, _, _, rx, ry, fin h.2⟩
  · exact h.elim
theorem OpR.ff {X : Cx} {f : Value → Value → Sem Value} {r : R2} (h : OpR X f r) {g : Str → Str → Bool} : OpR X f (fun x y H Q => r x y H Q ∨ (false = true ∧ ∃ i j, x = .str i ∧ y = .str j ∧ Q (.bl (g i j)) H)) := by
  intro pins s σ H x y v u Q I rx ry q
  rcases q with q | q
  · exact h pins s σ H x y v u Q I rx ry q
  · exact absurd q.1 (by decide)
theorem op_ltA {X : Cx} : OpR X (compareOp .Lt) (rOrd (fun i j => decide (i < j)) (fun s t => decide (s.cps.toList < t.cps.toList)) true) := by
  intro pins s σ H x y v u Q I rx ry q
  rcases q with q | q
  · exact op_lt pins s σ H x y v u Q I rx ry q
  · exact op_lt_str pins s σ H x y v u Q I rx ry q.2
theorem op_leA {X : Cx} : OpR X (compareOp .LtE) (rOrd (fun i j => decide (i ≤ j)) (fun _ _ => false) false) := OpR.ff op_le
theorem op_gtA {X : Cx} : OpR X (compareOp .Gt) (rOrd (fun i j => decide (j < i)) (fun _ _ => false) false) := OpR.ff op_gt
theorem we_ltK {op : CmpOp} {f : Int → Int → Bool} {g : Str → Str → Bool} {ok : Bool} (ho : ∀ X, OpR X (compareOp op) (rOrd f g ok)) (hm : ∀ b, behindInMarks op b = false)
    (h : WE C E Γ Λ a fun x Λ1 => WE C E Γ Λ1 b fun y Λ2 => ordP f g ok x y fun c => P (.bl c) Λ2) : WE C E Γ Λ (.Compare a [op] [b] pos) P :=
  we_cmpK (fun X is => ho X) (we_mono h fun x Λ1 p => we_mono p fun y Λ2 q => ord_K q) (hm b)
theorem wt_ltK {op : CmpOp} {f : Int → Int → Bool} {g : Str → Str → Bool} {ok : Bool} {P : Bool → Cells → Prop} (ho : ∀ X, OpR X (compareOp op) (rOrd f g ok)) (hm : ∀ b, behindInMarks op b = false)
    (h : WE C E Γ Λ a fun x Λ1 => WE C E Γ Λ1 b fun y Λ2 => ordP f g ok x y fun c => P c Λ2) : WT C E Γ Λ (.Compare a [op] [b] pos) P :=
  wt_cmpK (fun X is => ho X) (we_mono h fun x Λ1 p => we_mono p fun y Λ2 q => ord_K (by
    unfold ordP at q ⊢
    split at q
    · exact ⟨_, rfl, q⟩
    · exact ⟨q.1, _, rfl, q.2⟩
    · exact q)) (hm b)
theorem we_le (h : WE C E Γ Λ a fun x Λ1 => WE C E Γ Λ1 b fun y Λ2 => leP x y fun c => P (.bl c) Λ2) : WE C E Γ Λ (.Compare a [.LtE] [b] pos) P := we_ltK (fun _ => op_leA) (fun b => nomark b) h
theorem wt_lt {P : Bool → Cells → Prop} (h : WE C E Γ Λ a fun x Λ1 => WE C E Γ Λ1 b fun y Λ2 => ltP x y fun c => P c Λ2) : WT C E Γ Λ (.Compare a [.Lt] [b] pos) P := wt_ltK (fun _ => op_ltA) (fun b => nomark b) h
theorem wt_gt {P : Bool → Cells → Prop} (h : WE C E Γ Λ a fun x Λ1 => WE C E Γ Λ1 b fun y Λ2 => gtP x y fun c => P c Λ2) : WT C E Γ Λ (.Compare a [.Gt] [b] pos) P := wt_ltK (fun _ => op_gtA) (fun b => nomark b) h
end
end Pl

namespace Pl
open PySem L2 PyProof.Rows

/-! ### in, not in -/
section
variable {C : Ctx} {E : ER} {Γ : Env} {Λ : Cells} {P : D → Cells → Prop} {pos : Pos} {a b : Expr}
def dLook (ks : List Key) (ds : List D) (k : Key) : Option D := ((ks.zip ds).find? fun kv => decide (kv.1 = k)).map (·.2)
def keyD : D → Option Key
  | .int i => some (.inl i)
  | .str s => some (.inr s)
  | _ => none
theorem keyD_rep {K : PySem.W.Frag} {B : Hp} {α : List Addr} {x : D} {v : V} {k : Key} (r : Rep K B α x v) (e : keyD x = some k) : v = kV k := by
  cases x <;> simp only [keyD] at e <;> cases e <;> (unfold Rep at r; subst r; rfl)
theorem dLook_rep {K : PySem.W.Frag} {B : Hp} {α : List Addr} : ∀ {ks : List Key} {ds : List D} {vs : List V} (k : Key), Reps K B α ds vs → 
    (∀ d, dLook ks ds k = some d → ∃ v, valV (ks.zip vs) k = some v ∧ Rep K B α d v) ∧ (dLook ks ds k = none → valV (ks.zip vs) k = none)
  | [], _, _, _, _ => by simp [dLook, valV]
  | _ :: _, [], vs, k, r => by unfold Reps at r; subst r; simp [dLook, valV]
  | q :: ks, d :: ds, vs, k, r => by
    unfold Reps at r
    obtain ⟨v, r', rfl, h1, h2⟩ := r
    have ih := dLook_rep (ks := ks) k h2
    simp only [dLook, valV, List.zip_cons_cons, List.find?_cons] at ih ⊢
    by_cases e : q = k
    · simp only [e, decide_true, Option.map_some]
      exact ⟨fun d' q => by cases q; exact ⟨v, rfl, h1⟩, fun q => by cases q⟩
    · simp only [e, decide_false]
      exact ih
theorem vw_noc {z w : D} (e : vw Λ z = w) (h1 : ∀ n, w ≠ .loc n) (h2 : ∀ ds, w ≠ .lst ds) (h3 : ∀ ks ds, w ≠ .dic ks ds) (h4 : ∀ c ns ds, w ≠ .ins c ns ds) : z = w := by
  cases z with
  | loc n =>
    simp only [vw] at e
    cases hc : Λ[n]? with
    | none => rw [hc] at e; exact absurd e.symm (h1 n)
    | some c =>
      rw [hc] at e
      cases c with
      | lst ds => exact absurd e.symm (h2 ds)
      | dic ks ds => exact absurd e.symm (h3 ks ds)
      | ins c ns ds => exact absurd e.symm (h4 c ns ds)
      | gone => exact absurd e.symm (h1 n)
  | _ => exact e
/-- a dict, wherever it stands -/
theorem Sat.dic {K : PySem.W.Frag} {F : Fm} {B : Hp} {α : List Addr} {Γ : Env} {Λ : Cells} {σ : L2.St} {H : Hp} (S : Sat K F B α Γ Λ σ H) {x : D} {v : V} {ks : List Key} {ds : List D} (r : Rep K B α x v) (e : vw Λ x = .dic ks ds) : ∃ a vs, v = .ref a ∧ Rd H a (.dK (ks.zip vs)) ∧ Reps K B α ds vs := by
  cases x with
  | dic ks' es =>
    cases e
    unfold Rep at r
    obtain ⟨a, vs, h1, h2, h3, _⟩ := r
    exact ⟨a, vs, h1, S.bh.rd h2, h3⟩
  | loc n =>
    unfold Rep at r
    obtain ⟨a, h1, h2⟩ := r
    simp only [vw] at e
    cases hc : Λ[n]? with
    | none => rw [hc] at e; cases e
    | some c =>
      rw [hc] at e
      cases c <;> simp at e
      obtain ⟨rfl, rfl⟩ := e
      obtain ⟨a', q1, q2, q3, q4⟩ := S.ce n _ hc (by simp)
      rw [h2] at q1; cases q1
      obtain ⟨vs, q5, q6, _⟩ := q4
      exact ⟨a, vs, h1, .inl q5, q6⟩
  | _ => cases e
/-! ### a <= b < c over ints -/
/-! ### and, or, not, if .. else -/
def boolP (x : D) (P : Bool → Prop) : Prop := match x with
  | .bl c => P c
  | _ => False
theorem we_one {op} (h : WE C E Γ Λ a P) : WE C E Γ Λ (.BoolOp op [a] pos) P := fun X F W is tk => pe_one (h X F W is tk)
theorem we_and {rest : List Expr} (h : WE C E Γ Λ a fun x Λ1 => boolP x fun c => if c = true then WE C E Γ Λ1 (.BoolOp .And (b :: rest) pos) P else P (.bl false) Λ1) : WE C E Γ Λ (.BoolOp .And (a :: b :: rest) pos) P := fun X F W is tk => by
  refine pe_imp (pe_and pe_U pe_U) fun σ H Q ⟨B, α, S, q, er⟩ => ?_
  refine WE.use h is tk S er fun x Λ1 vx B1 α1 H1 p1 S1 e1 f1 r1 => ?_
  unfold boolP at p1
  split at p1
  · rename_i c
    unfold Rep at r1
    refine ⟨c, r1, ?_⟩
    cases c with
    | true =>
      rw [if_pos rfl] at p1 ⊢
      exact WE.use p1 is tk S1 (er.mono e1) fun y Λ2 vy B2 α2 H2 p2 S2 e2 f2 r2 => q _ _ _ _ _ _ p2 S2 (e1.trans e2) (f1.trans f2) r2
    | false =>
      rw [if_neg (by simp)] at p1 ⊢
      exact q _ _ _ _ _ _ p1 S1 e1 f1 (by unfold Rep; rfl)
  · exact p1.elim
theorem we_neg (h : WE C E Γ Λ a fun x Λ1 => ∃ i, x = .int i ∧ P (.int (-i)) Λ1) : WE C E Γ Λ (.UnaryOp .USub a pos) P := fun X F W is tk => by
  refine pe_imp (pe_un un_neg pe_U) fun σ H Q ⟨B, α, S, q, er⟩ => ?_
  refine WE.use h is tk S er fun x Λ1 vx B1 α1 H1 p1 S1 e1 f1 r1 => ?_
  obtain ⟨i, rfl, p⟩ := p1
  unfold Rep at r1
  exact ⟨i, r1, q _ _ _ _ _ _ p S1 e1 f1 (by unfold Rep; rfl)⟩
/-! tests -/
/-- a chain of and, or as a test -/
def WW (C : Ctx) (E : ER) (Γ : Env) (Λ : Cells) (e : Expr) (P : Bool → Cells → Prop) : Prop := ∀ X F W, C.Is X → Takes X W → PW X e (rdT C.K F W E Γ Λ P)
theorem wt_ww {P : Bool → Cells → Prop} (h : WW C E Γ Λ a P) : WT C E Γ Λ a P := fun X F W is tk => (h X F W is tk).pt
theorem WW.use {X : Cx} {F : Fm} {W : WX} {B : Hp} {α : List Addr} {σ : L2.St} {H : Hp} {e : Expr} {P : Bool → Cells → Prop} {Q : Bool → Hp → Prop} (h : WW C E Γ Λ e P) (is : C.Is X) (tk : Takes X W) (S : Sat C.K F B α Γ Λ σ H) (er : ErOk C.K F W B σ Γ E)
    (q : ∀ b Λ' B' α' H', P b Λ' → Sat C.K F B' α' Γ Λ' σ H' → Ex B B' → α <+: α' → Q b H') : UW X e σ H Q := ⟨_, h X F W is tk, B, α, S, q, er⟩
theorem ww_and1 {P : Bool → Cells → Prop} (h : WT C E Γ Λ a P) : WW C E Γ Λ (.BoolOp .And [a] pos) P := fun X F W is tk => pw_and1 (h X F W is tk)
theorem ww_or1 {P : Bool → Cells → Prop} (h : WT C E Γ Λ a P) : WW C E Γ Λ (.BoolOp .Or [a] pos) P := fun X F W is tk => pw_or1 (h X F W is tk)
theorem ww_and {P : Bool → Cells → Prop} {rest : List Expr} (h : WT C E Γ Λ a fun c Λ1 => if c = true then WW C E Γ Λ1 (.BoolOp .And (b :: rest) pos) P else P false Λ1) : WW C E Γ Λ (.BoolOp .And (a :: b :: rest) pos) P := fun X F W is tk => by
  refine pw_imp (pw_and pt_U pw_U) fun σ H Q ⟨B, α, S, q, er⟩ => ?_
  refine WT.use h is tk S er fun c Λ1 B1 α1 H1 p1 S1 e1 f1 => ?_
  cases c with
  | true =>
    rw [if_pos rfl] at p1 ⊢
    exact WW.use p1 is tk S1 (er.mono e1) fun y Λ2 B2 α2 H2 p2 S2 e2 f2 => q _ _ _ _ _ p2 S2 (e1.trans e2) (f1.trans f2)
  | false =>
    rw [if_neg (by simp)] at p1 ⊢
    exact q _ _ _ _ _ p1 S1 e1 f1
theorem ww_or {P : Bool → Cells → Prop} {rest : List Expr} (h : WT C E Γ Λ a fun c Λ1 => if c = true then P true Λ1 else WW C E Γ Λ1 (.BoolOp .Or (b :: rest) pos) P) : WW C E Γ Λ (.BoolOp .Or (a :: b :: rest) pos) P := fun X F W is tk => by
  refine pw_imp (pw_or pt_U pw_U) fun σ H Q ⟨B, α, S, q, er⟩ => ?_
  refine WT.use h is tk S er fun c Λ1 B1 α1 H1 p1 S1 e1 f1 => ?_
  cases c with
  | false =>
    rw [if_neg (by simp)] at p1 ⊢
    exact WW.use p1 is tk S1 (er.mono e1) fun y Λ2 B2 α2 H2 p2 S2 e2 f2 => q _ _ _ _ _ p2 S2 (e1.trans e2) (f1.trans f2)
  | true =>
    rw [if_pos rfl] at p1 ⊢
    exact q _ _ _ _ _ p1 S1 e1 f1
/-! ### subscripts, slices -/
def ixP (Λ : Cells) (x y : D) (P : D → Prop) : Prop := match y with
  | .int i => match x with
    | .str s => s.length ≤ sizeLine ∧ ∃ c, atI s.cps.toList i = some c ∧ P (.str ⟨#[c]⟩)
    | x => ∃ ds, seqD Λ x = some ds ∧ ∃ d, atI ds i = some d ∧ P d
  | _ => False
theorem Reps.atI {K : PySem.W.Frag} {B : Hp} {α : List Addr} {ds : List D} {vs : List V} {i : Int} {d : D} (r : Reps K B α ds vs) (h : atI ds i = some d) : ∃ v, L2.atI vs i = some v ∧ Rep K B α d v := by
  unfold L2.atI at h ⊢
  rw [r.length]
  cases e : ixN ds.length i with
  | none => rw [e] at h; cases h
  | some j =>
    rw [e] at h
    exact r.get h
theorem ix_K {K : PySem.W.Frag} {x y : D} (h : ixP Λ x y fun d => P d Λ) : OpK K (rIx K) x y Γ Λ P := by
  intro F B α σ H vx vy Q S rx ry q
  unfold ixP at h
  split at h
  · rename_i i
    unfold Rep at ry
    split at h
    · rename_i s
      unfold Rep at rx
      obtain ⟨hl, c, hc, p⟩ := h
      exact .inr (.inr ⟨s, i, c, rx, ry, hl, hc, q _ _ _ _ _ _ p S (Ex.refl B) (List.prefix_refl _) (by unfold Rep; rfl)⟩)
    · obtain ⟨ds, hs, d, hd, p⟩ := h
      obtain ⟨a, vs, rfl, h1, h2⟩ := S.seq rx hs
      obtain ⟨v, hv, rv⟩ := h2.atI hd
      have fin := q _ _ _ _ _ _ p S (Ex.refl B) (List.prefix_refl _) rv
      rcases h1 with h1 | h1
      · exact .inl ⟨a, vs, i, v, rfl, ry, h1, hv, fin⟩
      · exact .inr (.inl ⟨a, vs, i, v, rfl, ry, h1, hv, fin⟩)
  · exact h.elim
theorem we_ix (h : WE C E Γ Λ a fun x Λ1 => WE C E Γ Λ1 b fun y Λ2 => ixP Λ2 x y fun d => P d Λ2) (hs : PlainIx b := by intro _ _; rfl) : WE C E Γ Λ (.Subscript a b pos) P := fun X F W is tk => by
  refine pe_imp (pe_ix ix_seq pe_U pe_U hs) fun σ H Q ⟨B, α, S, q, er⟩ => ?_
  refine WE.use h is tk S er fun x Λ1 vx B1 α1 H1 p1 S1 e1 f1 r1 => ?_
  refine WE.use p1 is tk S1 (er.mono e1) fun y Λ2 vy B2 α2 H2 p2 S2 e2 f2 r2 => ?_
  rw [is.K]
  exact ix_K (K := C.K) p2 F B2 α2 σ H2 vx vy Q S2 (r1.mono e2 f2) r2 fun d Λ' v B' α' H' p' S' e' f' r' => q d Λ' v B' α' H' p' S' ((e1.trans e2).trans e') ((f1.trans f2).trans f') r'
/-- d[k] -/
theorem we_ixd (h : WE C E Γ Λ a fun x Λ1 => WE C E Γ Λ1 b fun y Λ2 => ∃ ks ds k d, vw Λ2 x = .dic ks ds ∧ keyD y = some k ∧ dLook ks ds k = some d ∧ P d Λ2) (hs : NoSl b := by intro _ _; rfl) : WE C E Γ Λ (.Subscript a b pos) P := fun X F W is tk => by
  have hu := is.u200
  refine pe_imp (pe_dget (by omega) pe_U pe_U hs) fun σ H Q ⟨B, α, S, q, er⟩ => ?_
  refine WE.use h is tk S er fun x Λ1 vx B1 α1 H1 p1 S1 e1 f1 r1 => ?_
  refine WE.use p1 is tk S1 (er.mono e1) fun y Λ2 vy B2 α2 H2 p2 S2 e2 f2 r2 => ?_
  obtain ⟨ks, ds, k, d, hx, hk, hd, p⟩ := p2
  obtain ⟨p', vs, rfl, h1, h2⟩ := S2.dic (r1.mono e2 f2) hx
  obtain ⟨v, hv, rv⟩ := (dLook_rep (ks := ks) k h2).1 d hd
  exact ⟨p', v, rfl, .inl ⟨_, k, h1, keyD_rep r2 hk, hv.symm⟩, q _ _ _ _ _ _ p S2 (e1.trans e2) (f1.trans f2) rv⟩
/-- what stands at a slice's end -/
def WO (C : Ctx) (E : ER) (Γ : Env) (Λ : Cells) : Option Expr → (Option Int → Cells → Prop) → Prop
  | none, P => P none Λ
  | some e, P => WE C E Γ Λ e fun d Λ' => ∃ i, d = .int i ∧ P (some i) Λ'
def cutD (xs : List D) (lo hi : Option Int) : List D := (xs.drop (HT.sIx xs.length 0 lo)).take (HT.sIx xs.length xs.length hi - HT.sIx xs.length 0 lo)
theorem Reps.cut {K : PySem.W.Frag} {B : Hp} {α : List Addr} {ds : List D} {vs : List V} (r : Reps K B α ds vs) (lo hi : Option Int) : Reps K B α (cutD ds lo hi) (cutV vs lo hi) := by
  unfold cutD cutV
  rw [r.length]
  exact (r.drop _).take _
def UO (X : Cx) (o : Option Expr) : TO := match o with
  | none => tNoPart
  | some e => tPart (UE X e)
theorem po_U {X : Cx} {o : Option Expr} : PO X o (UO X o) := by
  cases o with
  | none => exact po_none
  | some e => exact po_some pe_U
theorem WO.use {X : Cx} {F : Fm} {W : WX} {B : Hp} {α : List Addr} {σ : L2.St} {H : Hp} {o : Option Expr} {P : Option Int → Cells → Prop} {Q : Option Int → Hp → Prop} (h : WO C E Γ Λ o P) (is : C.Is X) (tk : Takes X W) (S : Sat C.K F B α Γ Λ σ H) (er : ErOk C.K F W B σ Γ E)
    (q : ∀ i Λ' B' α' H', P i Λ' → Sat C.K F B' α' Γ Λ' σ H' → Ex B B' → α <+: α' → Q i H') : UO X o σ H Q := by
  cases o with
  | none => exact q none Λ B α H h S (Ex.refl B) (List.prefix_refl _)
  | some e =>
    refine WE.use (C := C) (E := E) (Γ := Γ) (Λ := Λ) h is tk S er fun d Λ' v B' α' H' p S' e f r => ?_
    obtain ⟨i, rfl, p⟩ := p
    unfold Rep at r
    exact ⟨i, r, q _ _ _ _ _ p S' e f⟩
end
end Pl

namespace Pl
open PySem L2 PyProof.Rows

/-! ### data without cells -/
mutual
def nl : D → Bool
  | .tup ds => nls ds
  | .lst ds => nls ds
  | .fzl ds => nls ds
  | .loc _ => false
  | .ins _ _ ds => nls ds
  | .dic _ ds => nls ds
  | .exc _ _ ds => nls ds
  | _ => true
def nls : List D → Bool
  | [] => true
  | d :: ds => nl d && nls ds
end
section
variable {K : PySem.W.Frag} {B : Hp} {α α' : List Addr}
mutual
theorem Rep.nl : ∀ (d : D) (v : V), Pl.nl d = true → Rep K B α d v → Rep K B α' d v
  | .non, _, _, h => h
  | .bl _, _, _, h => h
  | .int _, _, _, h => h
  | .str _, _, _, h => h
  | .tup ds, v, n, h => by
    unfold Rep at h ⊢
    obtain ⟨a, vs, rfl, h1, h2⟩ := h
    exact ⟨a, vs, rfl, h1, Reps.nl ds vs n h2⟩
  | .lst ds, v, n, h => by
    unfold Rep at h ⊢
    obtain ⟨a, vs, rfl, h1, h2⟩ := h
    exact ⟨a, vs, rfl, h1, Reps.nl ds vs n h2⟩
  | .fzl ds, v, n, h => by
    unfold Rep at h ⊢
    obtain ⟨a, vs, rfl, h1, h2⟩ := h
    exact ⟨a, vs, rfl, h1, Reps.nl ds vs n h2⟩
  | .loc _, _, n, _ => nomatch n
  | .raw _, _, _, h => h
  | .ins C ns ds, v, n, h => by
    unfold Rep at h ⊢
    obtain ⟨a, dx, vs, rfl, h1, h2, h3⟩ := h
    exact ⟨a, dx, vs, rfl, h1, Reps.nl ds vs n h2, h3⟩
  | .dic ks ds, v, n, h => by
    unfold Rep at h ⊢
    obtain ⟨a, vs, rfl, h1, h2, h3⟩ := h
    exact ⟨a, vs, rfl, h1, Reps.nl ds vs n h2, h3⟩
  | .exc C ns ds, v, n, h => by
    unfold Rep at h ⊢
    obtain ⟨a, d, vs, rfl, h1, h2, h3, h4⟩ := h
    exact ⟨a, d, vs, rfl, h1, Reps.nl ds vs n h2, h3, h4⟩
theorem Reps.nl : ∀ (ds : List D) (vs : List V), nls ds = true → Reps K B α ds vs → Reps K B α' ds vs
  | [], _, _, h => h
  | d :: ds, vs, n, h => by
    have n' : (Pl.nl d && nls ds) = true := n
    rw [Bool.and_eq_true] at n'
    unfold Reps at h ⊢
    obtain ⟨v, r, rfl, h1, h2⟩ := h
    exact ⟨v, r, rfl, Rep.nl d v n'.1 h1, Reps.nl ds r n'.2 h2⟩
end
end

/-! ### what a def promises -/
abbrev Spec := List D → Cells → (Res → Cells → Prop) → (Err → Cells → Prop) → Prop
def spOf (K : PySem.W.Frag) (n : Nat) (S : Spec) : Sp := fun vs H Q E => ∃ F ds Λ, vs.length = n ∧ F.H0 = H ∧ Sat K F F.B0 F.α0 [] Λ [] H ∧ Reps K F.B0 F.α0 ds vs ∧
  S ds Λ (fun r Λ' => ∀ v H' B' α', Sat K F B' α' [] Λ' [] H' → ResAt K F B' α' H' v r → Q v H')
    (fun err Λ' => ∀ B' α' H' c dx, Sat K F B' α' [] Λ' [] H' → ErrAt K F B' α' H' err c dx → E c dx H')

/-- a def of the module, by its name: n arguments, at most level k -/
structure Fn (P : Program) (w : World) (K : PySem.W.Frag) (mg : Str → Option Value) (base : Heap) (k : Nat) (x : Str) (n : Nat) (S : Spec) : Prop where
  ex : ∃ f fd ps, FnG P w K mg base (L2.CX P w) k f fd ps (spOf K n S) ∧ mg x = some (.ref f) ∧ PySem.W.keepIn K (.ref f) = true ∧ Binds K fd ps [] ∧ ps.length = n
theorem Fn.mono {P : Program} {w : World} {K : PySem.W.Frag} {mg : Str → Option Value} {base : Heap} {k k' : Nat} {x : Str} {n : Nat} {S : Spec} (h : Fn P w K mg base k x n S) (hk : k ≤ k') : Fn P w K mg base k' x n S := by
  obtain ⟨f, fd, ps, h1, h2⟩ := h.ex
  exact ⟨f, fd, ps, h1.mono hk, h2⟩
theorem Fn.imp {P : Program} {w : World} {K : PySem.W.Frag} {mg : Str → Option Value} {base : Heap} {k : Nat} {x : Str} {n : Nat} {S S' : Spec} (h : Fn P w K mg base k x n S) (i : ∀ ds Λ Q E, S' ds Λ Q E → S ds Λ Q E) : Fn P w K mg base k x n S' := by
  obtain ⟨f, fd, ps, h1, h2⟩ := h.ex
  exact ⟨f, fd, ps, h1.imp fun vs H Q E ⟨F, ds, Λ, a, b, c, d, e⟩ => ⟨F, ds, Λ, a, b, c, d, i _ _ _ _ e⟩, h2⟩
abbrev Ctx.fn (C : Ctx) (k : Nat) (x : Str) (n : Nat) (S : Spec) : Prop := Fn C.P C.w C.K C.mg C.base k x n S

/-! ### a call: the callee's state behind it, told for the caller -/
section
variable {K : PySem.W.Frag} {F : Fm} {B B' : Hp} {α : List Addr} {Γ : Env} {Λ : Cells} {σ : L2.St} {H H' : Hp}
/-- the callee's entry -/
theorem Sat.enter (S : Sat K F B α Γ Λ σ H) : Sat K ⟨H, B, []⟩ B [] [] [] [] H :=
  ⟨Ex.refl B, S.bh, fun a o h => .inl h, fun a o h _ _ => h, fun a h => h, List.prefix_refl _, List.nodup_nil, rfl, fun n c h => by simp at h, fun a h => by simp at h, fun i d h => by simp at h, rfl, S.tb.start fun a h => by simp at h⟩
/-- behind a call that leaves no cells -/
theorem Sat.back (S : Sat K F B α Γ Λ σ H) (T : Sat K ⟨H, B, []⟩ B' [] [] [] [] H') : Sat K F B' α Γ Λ σ H' := by
  have hB : ∀ a, H a ≠ none → B a = none → B' a = none := fun a h1 h2 => by
    cases q : B' a with
    | none => rfl
    | some o =>
      rcases T.fr a o q with z | z
      · have : B a = some o := z
        rw [h2] at this; cases this
      · exact absurd z h1
  refine ⟨S.bb.trans T.bb, T.bh, fun a o h => ?_, fun a o h ha n => T.kp a o (S.kp a o h ha n) (by simp) n, fun a h => S.dm a (T.dm a h), S.pf, S.nd, S.al, fun n c h hg => ?_, fun a ha => ⟨fun z => (S.ah a ha).1 (T.dm a z), (S.ah a ha).2⟩, fun i d h => ?_, S.ln, S.tb.back T.tb T.kp (fun a h => by simp at h) fun a h => .inl h⟩
  · rcases T.fr a o h with z | z
    · exact S.fr a o z
    · exact .inr (S.dm a z)
  · obtain ⟨a, h1, h2, h3, h4⟩ := S.ce n c h hg
    exact ⟨a, h1, hB a (S.ah a (List.mem_of_getElem? h1)).1 h2, h3, h4.mono T.bb (List.prefix_refl _) fun o q n => T.kp a o q (by simp) n⟩
  · obtain ⟨v, h1, h2⟩ := S.sl i d h
    exact ⟨v, h1, h2.mono T.bb (List.prefix_refl _)⟩
theorem Sat.nil_al (S : Sat K F B α Γ [] σ H) : α = [] := List.length_eq_zero_iff.mp S.al
end

section
variable {C : Ctx} {E : ER} {Γ : Env} {Λ : Cells} {pos p : Pos}
theorem back_plain : ∀ {es : List Expr} {env : PySem.Env}, es.all plainE = true → (backTo pos (starEach es env)).any (·.1) = false
  | [], _, _ => rfl
  | e :: es, env, h => by
    rw [List.all_cons, Bool.and_eq_true] at h
    rw [star_plain h.1]
    show (false || (backTo pos (starEach es env)).any (·.1)) = false
    rw [back_plain h.2]; rfl
/-- what the callee wants of the caller -/
theorem call_sp {F : Fm} {W : WX} {B : Hp} {α : List Addr} {σ : L2.St} {H : Hp} {ds : List D} {vs : List V} {n : Nat} {S : Spec} {Q : VK} {Pr : Res → Prop} {E' : ER} (T : Sat C.K F B α Γ Λ σ H) (r : Reps C.K B α ds vs) (hn : nls ds = true) (hl : ds.length = n)
    (h : S ds [] (fun r Λ' => Λ' = [] ∧ Pr r) fun err Λ' => Λ' = [] ∧ E' err Γ Λ)
    (mono : ∀ Q Q' E E', S ds [] Q E → (∀ r Λ', Q r Λ' → Q' r Λ') → (∀ e Λ', E e Λ' → E' e Λ') → S ds [] Q' E')
    (er : ErOk C.K F W B σ Γ E')
    (q : ∀ r v B' H', Pr r → Sat C.K F B' α Γ Λ σ H' → Ex B B' → ResAt C.K ⟨H, B, []⟩ B' [] H' v r → Q v H') : spOf C.K n S (vs ++ []) H Q fun c dx H' => W c dx σ H' := by
  refine ⟨⟨H, B, []⟩, ds, [], by rw [List.append_nil, r.length, hl], rfl, T.enter, by rw [List.append_nil]; exact Reps.nl ds vs hn r, mono _ _ _ _ h (fun r Λ' p v H' B' α' T' ra => ?_) fun err Λ' p B' α' H' c dx T' ea => ?_⟩
  · obtain ⟨rfl, p⟩ := p
    have e := T'.nil_al
    subst e
    exact q r v B' H' p (T.back T') T'.bb ra
  · obtain ⟨rfl, p⟩ := p
    have e := T'.nil_al
    subst e
    refine er err Λ B' α H' c dx p (T.back T') T'.bb ?_
    obtain ⟨e1, e2⟩ := ea
    refine ⟨e1, ?_⟩
    cases hf : err.fs with
    | none => rw [hf] at e2; exact e2
    | some z =>
      rw [hf] at e2
      obtain ⟨a, vs, q1, q2, q3, q4, q5⟩ := e2
      exact ⟨a, vs, q1, q2, q3.mono (Ex.refl _) List.nil_prefix, q4, fun z => have h : H a = none := (q5 z).1; ⟨T.dm a h, fun hm => (T.ah a hm).1 h⟩⟩
/-- a promise that asks less where less is wished -/
def Mono (S : Spec) : Prop := ∀ ds Λ Q Q' E E', S ds Λ Q E → (∀ r Λ', Q r Λ' → Q' r Λ') → (∀ e Λ', E e Λ' → E' e Λ') → S ds Λ Q' E'

/-- f(e, ..) of a def of the module that takes and leaves no cells: a value -/
theorem we_call [Cool C] {k n : Nat} {x : Str} {S : Spec} {e : Expr} {es : List Expr} {P : D → Cells → Prop} (G : C.fn k x n S) (hk : k ≤ C.k) (hj : GlAt C x) (m : Mono S)
    (h : WA C E Γ Λ (e :: es) fun ds Λ1 => nls ds = true ∧ ds.length = n ∧ S ds [] (fun r Λ' => Λ' = [] ∧ ∃ d, r = .val d ∧ P d Λ1) fun err Λ' => Λ' = [] ∧ E err Γ Λ1)
    (he : plainE e = true := by rfl) (hes : es.all plainE = true := by rfl) (hdb : (x == ("__debug__" : Str)) = false := by decide) : WE C E Γ Λ (.Call (.Name x p) (e :: es) [] pos) P := fun X F W is tk => by
  obtain ⟨f, fd, ps, h1, h2, h3, h4, h5⟩ := G.ex
  have e1 := is.prog; have e2 := is.w; have e3 := is.K; have e4 := is.mg; have e5 := is.base
  refine pe_imp (pe_callSDG (E := fun σ c dx H' => W c dx σ H') (dvs := []) (ds := []) (by rw [e1, e2, e3, e4, e5]; exact h1) (is.room.mono hk) (is.gl hj) (by rw [e4]; exact h2) (by rw [e3]; exact h3) (by rw [e3]; exact h4) .nil
    (fun σ => by rw [← e1, ← e2]; exact passAt tk σ) pa_U hdb (star_plain he) (back_plain hes)) fun σ H Q ⟨B, α, T, q, er⟩ => ?_
  refine WA.use h is tk T er fun ds Λ1 vs B1 α1 H1 p1 T1 x1 f1 r1 => ?_
  obtain ⟨n1, n2, s1⟩ := p1
  refine call_sp T1 r1 n1 n2 s1 (m ds []) (er.mono x1) fun r v B' H' p' T' x' ra => ?_
  obtain ⟨d, rfl, p'⟩ := p'
  exact q d Λ1 v B' α1 H' p' T' (x1.trans x') f1 (Rep.mono (Ex.refl _) List.nil_prefix d v ra)
/-- .. a new list -/
theorem wn_call [Cool C] {k n : Nat} {x : Str} {S : Spec} {e : Expr} {es : List Expr} {P : List D → Cells → Prop} (G : C.fn k x n S) (hk : k ≤ C.k) (hj : GlAt C x) (m : Mono S)
    (h : WA C E Γ Λ (e :: es) fun ds Λ1 => nls ds = true ∧ ds.length = n ∧ S ds [] (fun r Λ' => Λ' = [] ∧ ∃ ds', r = .new ds' ∧ P ds' Λ1) fun err Λ' => Λ' = [] ∧ E err Γ Λ1)
    (he : plainE e = true := by rfl) (hes : es.all plainE = true := by rfl) (hdb : (x == ("__debug__" : Str)) = false := by decide) : WN C E Γ Λ (.Call (.Name x p) (e :: es) [] pos) P := fun X F W is tk => by
  obtain ⟨f, fd, ps, h1, h2, h3, h4, h5⟩ := G.ex
  have e1 := is.prog; have e2 := is.w; have e3 := is.K; have e4 := is.mg; have e5 := is.base
  refine pe_imp (pe_callSDG (E := fun σ c dx H' => W c dx σ H') (dvs := []) (ds := []) (by rw [e1, e2, e3, e4, e5]; exact h1) (is.room.mono hk) (is.gl hj) (by rw [e4]; exact h2) (by rw [e3]; exact h3) (by rw [e3]; exact h4) .nil
    (fun σ => by rw [← e1, ← e2]; exact passAt tk σ) pa_U hdb (star_plain he) (back_plain hes)) fun σ H Q ⟨B, α, T, q, er⟩ => ?_
  refine WA.use h is tk T er fun ds Λ1 vs B1 α1 H1 p1 T1 x1 f1 r1 => ?_
  obtain ⟨n1, n2, s1⟩ := p1
  refine call_sp T1 r1 n1 n2 s1 (m ds []) (er.mono x1) fun r v B' H' p' T' x' ra => ?_
  obtain ⟨ds', rfl, p'⟩ := p'
  obtain ⟨pa, ws, rfl, q1, q2, q3, q4, q5⟩ := ra
  have q3 : H1 pa = none := q3
  exact q ds' Λ1 pa ws B' α1 H' p' T' (x1.trans x') f1 q1 q2 (T1.dm pa q3) (fun hm => (T1.ah pa hm).1 q3) (q5.mono (Ex.refl _) List.nil_prefix)
end

/-! ### statements -/
section
variable {C : Ctx} {Γ : Env} {Λ : Cells} {R : Rs} {pos : Pos}
theorem wss_nil (h : R.nx Γ Λ) : WSs C Γ Λ [] R := fun X F W is hm tk => pss_imp pss_nil fun D σ H ⟨B, α, S, q⟩ => q.nx Γ Λ B α σ H h S (Ex.refl B)
theorem wss_cons {s : Stmt} {rest : List Stmt} (h : WS C Γ Λ s { R with nx := fun Γ' Λ' => WSs C Γ' Λ' rest R }) : WSs C Γ Λ (s :: rest) R := fun X F W is hm tk => by
  refine pss_imp (pss_cons ps_U pss_U) fun D σ H ⟨B, α, S, q⟩ => ?_
  refine WS.use h is hm tk S ⟨fun Γ' Λ' B' α' σ' H' r S' e => ?_, q.rt, q.bk, q.ct, q.er⟩
  exact WSs.use r is hm tk S' (q.mono e)
theorem ws_if {c : Expr} {a b : List Stmt} (h : WT C R.er Γ Λ c fun k Λ1 => if k = true then WSs C Γ Λ1 a R else WSs C Γ Λ1 b R) : WS C Γ Λ (.If c a b pos) R := fun X F W is hm tk => by
  refine ps_imp (ps_if pt_U pss_U pss_U) fun D σ H ⟨B, α, S, q⟩ => ?_
  refine WT.use h is tk S q.er.at fun k Λ1 B1 α1 H1 p1 S1 e1 f1 => ?_
  cases k with
  | true =>
    rw [if_pos rfl] at p1 ⊢
    exact WSs.use p1 is hm tk S1 (q.mono e1)
  | false =>
    rw [if_neg (by simp)] at p1 ⊢
    exact WSs.use p1 is hm tk S1 (q.mono e1)
/-- no comprehension stands there -/
def noComp : Expr → Bool
  | .ListComp _ _ _ _ => false
  | .SetComp _ _ _ _ => false
  | .DictComp _ _ _ _ _ => false
  | _ => true
theorem noSwap {e : Expr} {t : Option Expr} {l : Nat} {env : PySem.Env} (h : noComp e = true) : swapsWith e t l env = pure false := by
  cases e <;> first | rfl | cases h
theorem ws_expr {e : Expr} (h : WE C R.er Γ Λ e fun _ Λ' => R.nx Γ Λ') (hc : noComp e = true := by rfl) : WS C Γ Λ (.Expr e pos) R := fun X F W is hm tk => by
  refine ps_imp (ps_expr pe_U (noSwap hc)) fun D σ H ⟨B, α, S, q⟩ => ?_
  exact WE.use h is tk S q.er.at fun d Λ' v B' α' H' p S' e f r => q.nx Γ Λ' B' α' σ H' p S' e
theorem ws_set {i : Nat} {x : Str} {e : Expr} {pos' : Pos} (hi : C.N[i]? = some x) (hl : C.ls[i]? = some true) (h : WE C R.er Γ Λ e fun d Λ' => R.nx (Γ.set i (some d)) Λ') (hc : noComp e = true := by rfl) : WS C Γ Λ (.Assign [.Name x pos'] e pos) R := fun X F W is hm tk => by
  refine ps_imp (ps_set is.nd (is.ni hi) (is.loc hi hl) pe_U (noSwap hc) (is.fn i x hi hl)) fun D σ H ⟨B, α, S, q⟩ => ?_
  exact WE.use h is tk S q.er.at fun d Λ' v B' α' H' p S' e f r => q.nx _ Λ' B' α' _ H' p (S'.set r) e
theorem ws_ret {e : Expr} (h : WE C R.er Γ Λ e fun d Λ' => R.rt (.val d) Λ') : WS C Γ Λ (.Return (some e) pos) R := fun X F W is hm tk => by
  refine ps_imp (ps_ret pe_U) fun D σ H ⟨B, α, S, q⟩ => ?_
  exact WE.use h is tk S q.er.at fun d Λ' v B' α' H' p S' e f r => q.rt _ Λ' v Γ B' α' σ H' p S' e r
theorem ws_retn {e : Expr} (h : WN C R.er Γ Λ e fun ds Λ' => R.rt (.new ds) Λ') : WS C Γ Λ (.Return (some e) pos) R := fun X F W is hm tk => by
  refine ps_imp (ps_ret pe_U) fun D σ H ⟨B, α, S, q⟩ => ?_
  exact WN.use h is tk S q.er.at fun ds Λ' p vs B' α' H' hp S' e f h1 h2 h3 h4 h5 => q.rt _ Λ' _ Γ B' α' σ H' hp S' e ⟨p, vs, rfl, h1, h2, h3, h4, h5⟩
end

/-! ### cells thrown away -/
/-- the last cells are dropped, the slots that told them forgotten -/
theorem Sat.cut {K : PySem.W.Frag} {F : Fm} {B : Hp} {α : List Addr} {Γ Γ' : Env} {Λ : Cells} {σ σ' : L2.St} {H : Hp} {m : Nat} (S : Sat K F B α Γ Λ σ H) (hm : F.α0.length ≤ m) 
    (hc : ∀ c ∈ Λ.take m, match c with | .lst ds => nls ds = true | .dic _ ds => nls ds = true | .ins _ _ ds => nls ds = true | .gone => True) (hl : Γ'.length = σ'.length)
    (hs : ∀ (i : Nat) (d : D), Γ'[i]? = some (some d) → ∃ v, σ'[i]? = some (some v) ∧ Rep K B (α.take m) d v) : Sat K F B (α.take m) Γ' (Λ.take m) σ' H := by
  refine { S with pf := ?_, nd := S.nd.sublist (List.take_sublist _ _), al := by simp [S.al], ce := fun n c h hg => ?_, ah := fun a ha => S.ah a (List.mem_of_mem_take ha), sl := hs, ln := hl, tb := S.tb.sub fun a ha => List.mem_of_mem_take ha }
  · obtain ⟨t, ht⟩ := S.pf
    rw [← ht, List.take_append]
    rw [List.take_of_length_le hm]
    exact List.prefix_append _ _
  · have hn : n < m := by
      by_cases z : n < m
      · exact z
      · have := (List.getElem?_eq_some_iff.mp h).1
        rw [List.length_take] at this; omega
    rw [List.getElem?_take_of_lt hn] at h
    obtain ⟨a, h1, h2, h3, h4⟩ := S.ce n c h hg
    refine ⟨a, by rw [List.getElem?_take_of_lt hn]; exact h1, h2, h3, ?_⟩
    have hm' := hc c (by rw [← List.getElem?_take_of_lt hn] at h; exact List.mem_of_getElem? h)
    cases c with
    | lst ds => obtain ⟨vs, q1, q2⟩ := h4; exact ⟨vs, q1, Reps.nl ds vs hm' q2⟩
    | dic ks ds => obtain ⟨vs, q1, q2, q3⟩ := h4; exact ⟨vs, q1, Reps.nl ds vs hm' q2, q3⟩
    | ins C ns ds => obtain ⟨dx, vs, q1, q2, q3⟩ := h4; exact ⟨dx, vs, q1, Reps.nl ds vs hm' q2, q3⟩
    | gone => trivial

def nlC : Cell → Bool
  | .lst ds => nls ds
  | .dic _ ds => nls ds
  | .ins _ _ ds => nls ds
  | .gone => true
def nlR : Res → Bool
  | .val d => nl d
  | .new ds => nls ds
def nlE (e : Err) : Bool := match e.fs with
  | none => true
  | some (_, ds) => nls ds
/-- what a def's body is to reach: the wish at the cells that it was handed -/
def rtX (Λ0 : Cells) (Q : Res → Cells → Prop) (r : Res) (Λ' : Cells) : Prop := nlR r = true ∧ (Λ'.take Λ0.length).all nlC = true ∧ Q r (Λ'.take Λ0.length)
def erX (Λ0 : Cells) (Q : Err → Cells → Prop) (e : Err) (_ : Env) (Λ' : Cells) : Prop := nlE e = true ∧ (Λ'.take Λ0.length).all nlC = true ∧ Q e (Λ'.take Λ0.length)
theorem all_nlC {Λ : Cells} (h : Λ.all nlC = true) : ∀ c ∈ Λ, match c with | .lst ds => nls ds = true | .dic _ ds => nls ds = true | .ins _ _ ds => nls ds = true | .gone => True := fun c hc => by
  have := List.all_eq_true.mp h c hc
  cases c <;> first | exact this | trivial
/-- a def's slots at its entry -/
def Γ0 (N : List Str) (ds : List D) : Env := ds.map some ++ List.replicate (N.length - ds.length) none

/-- THE RULE: a def of the module keeps its promise, by its body -/
theorem fn_ok {P : Program} {w : World} {K : PySem.W.Frag} {mg : Str → Option Value} {base : Heap} {x qual : Str} {st : Stmt} {f : Addr} {fd : FuncData} {N ps : List Str} {k : Nat} {S : Spec} (F : Fun K x qual st f fd) (sc : FnScope N ps (defScope st)) (C : Ctx)
    (hC : C.P = P ∧ C.w = w ∧ C.K = K ∧ C.mg = mg ∧ C.base = base ∧ C.N = N ∧ C.sc = defScope st ∧ C.k = k) (good : C.Good) (hm : ∀ ds Λ Q E, S ds Λ Q E → Λ.length ≤ C.m)
    (hb : ∀ ds Λ Q E, ds.length = ps.length → S ds Λ Q E → WSs C (Γ0 N ds) Λ (defBody st) ⟨fun _ Λ' => rtX Λ Q (.val .non) Λ', rtX Λ Q, fun _ _ => False, fun _ _ => False, erX Λ E⟩)
    (hcd : ∀ q c, C.cd = some (q, c) → qual ++ ".<locals>." = q ∧ fd.code = .ref c := by intro _ _ h; cases h) : FnG P w K mg base (L2.CX P w) (k + 1) f fd ps (spOf K ps.length S) := by
  obtain ⟨rfl, rfl, rfl, rfl, rfl, rfl, hsc, rfl⟩ := hC
  refine F.okXG sc (fun vs H Q E h => by obtain ⟨_, _, _, h, _⟩ := h; exact h) fun cdv A outer s H vs Q E ecd hr h => ?_
  obtain ⟨Fm', ds, Λ, hl, hH, T, r, sp⟩ := h
  have hds : ds.length = ps.length := by rw [← r.length]; exact hl
  have hN : ps.length ≤ C.N.length := by have := congrArg List.length sc.pre; rw [List.length_take] at this; omega
  let X := cxOf (L2.CX C.P C.w) C.P C.w C.K C.mg C.base C.N qual (defScope st) f cdv A outer s H E
  have is : C.Is X := ⟨rfl, rfl, rfl, rfl, rfl, rfl, hsc.symm, fun _ => rfl, fun _ => hr.hd, hr.w, fun _ _ _ _ => .inl rfl, good, passes_of rfl, fun _ => ⟨rfl, rfl, rfl⟩, fun q c e => ⟨(hcd q c e).1, ecd.symm.trans (hcd q c e).2⟩⟩
  have tk : Takes X (fun c d _ H => E c d H) := takes_of rfl rfl rfl rfl
  have T' : Sat C.K Fm' Fm'.B0 Fm'.α0 (Γ0 C.N ds) Λ (L2.start C.N vs) H := by
    refine T.env ?_ fun i d hi => ?_
    · unfold Γ0 L2.start
      simp only [List.length_append, List.length_map, List.length_replicate]
      omega
    · unfold Γ0 at hi
      by_cases hlt : i < ds.length
      · rw [List.getElem?_append_left (by simpa using hlt), List.getElem?_map] at hi
        cases q : ds[i]? with
        | none => rw [q] at hi; cases hi
        | some e =>
          rw [q] at hi
          cases hi
          obtain ⟨v, h1, h2⟩ := r.get q
          refine ⟨v, ?_, h2⟩
          unfold L2.start
          rw [List.getElem?_append_left (by have := (List.getElem?_eq_some_iff.mp h1).1; simpa using this), List.getElem?_map, h1]
          rfl
      · rw [List.getElem?_append_right (by simpa using hlt), List.getElem?_replicate] at hi
        split at hi <;> cases hi
  have hlen : Fm'.α0.length = Λ.length := T.al
  have cut : ∀ {Γ' : Env} {Λ' : Cells} {B' : Hp} {α' : List Addr} {σ' : L2.St} {H' : Hp}, Sat C.K Fm' B' α' Γ' Λ' σ' H' → (Λ'.take Λ.length).all nlC = true → Sat C.K Fm' B' (α'.take Λ.length) [] (Λ'.take Λ.length) [] H' := fun S' h =>
    S'.cut (by omega) (all_nlC h) rfl fun i d h => by simp at h
  refine ⟨_, hb ds Λ _ _ hds sp X Fm' _ is (by rw [T.al]; exact hm _ _ _ _ sp) tk, Fm'.B0, Fm'.α0, T', ⟨fun Γ' Λ' B' α' σ' H' h S' e => ?_, fun r Λ' v Γ' B' α' σ' H' h S' e ra => ?_, fun Γ' Λ' B' α' σ' H' h => h.elim, fun Γ' Λ' B' α' σ' H' h => h.elim, fun err Γ' Λ' B' α' σ' H' c dx h S' e ea => ?_⟩⟩
  · obtain ⟨h1, h2, h3⟩ := h
    exact h3 .non H' B' _ (cut S' h2) (by unfold ResAt Rep; rfl)
  · obtain ⟨h1, h2, h3⟩ := h
    refine h3 v H' B' _ (cut S' h2) ?_
    cases r with
    | val d => exact Rep.nl d v h1 ra
    | new ds =>
      obtain ⟨p, vs, q1, q2, q3, q4, q5, q6⟩ := ra
      exact ⟨p, vs, q1, q2, q3, q4, fun hm => q5 (List.mem_of_mem_take hm), Reps.nl ds vs h1 q6⟩
  · obtain ⟨h1, h2, h3⟩ := h
    refine h3 B' _ H' c dx (cut S' h2) ?_
    obtain ⟨e1, e2⟩ := ea
    refine ⟨e1, ?_⟩
    unfold nlE at h1
    cases hf : err.fs with
    | none => rw [hf] at e2; exact e2
    | some z =>
      obtain ⟨ns, ds⟩ := z
      rw [hf] at e2 h1
      obtain ⟨a, vs, q1, q2, q3, q4, q5⟩ := e2
      exact ⟨a, vs, q1, q2, Reps.nl ds vs h1 q3, q4, fun z => ⟨(q5 z).1, fun hm => (q5 z).2 (List.mem_of_mem_take hm)⟩⟩
theorem fn_mk {P : Program} {w : World} {K : PySem.W.Frag} {mg : Str → Option Value} {base : Heap} {k : Nat} {x : Str} {f : Addr} {fd : FuncData} {ps : List Str} {S : Spec} (h : FnG P w K mg base (L2.CX P w) k f fd ps (spOf K ps.length S)) (hm : mg x = some (.ref f)) (hk : PySem.W.keepIn K (.ref f) = true) (hb : Binds K fd ps []) :
    Fn P w K mg base k x ps.length S := ⟨f, fd, ps, h, hm, hk, hb, rfl⟩
end Pl

namespace Pl
open PySem L2 PyProof.Rows

/-! ### the frame told anew -/
section
variable {K : PySem.W.Frag} {F : Fm} {B B' : Hp} {α α' : List Addr} {Γ Γ' : Env} {Λ Λ' : Cells} {σ σ' : L2.St} {H H' : Hp}
theorem pre_mem {l l' : List Addr} {a : Addr} (h : l <+: l') (m : a ∈ l) : a ∈ l' := by
  obtain ⟨t, rfl⟩ := h
  exact List.mem_append_left _ m
theorem Sat.rebase (S : Sat K F B α Γ Λ σ H) : Sat K ⟨H, B, α⟩ B α Γ Λ σ H :=
  ⟨Ex.refl B, S.bh, fun a o h => .inl h, fun a o h _ _ => h, fun a h => h, List.prefix_refl _, S.nd, S.al, fun n c h hg => by
    obtain ⟨a, h1, h2, _, h4⟩ := S.ce n c h hg
    exact ⟨a, h1, h2, .inr (List.mem_of_getElem? h1), h4⟩, fun a ha => ⟨(S.ah a ha).1, .inr ha⟩, S.sl, S.ln, S.tb.start fun a h => h⟩
theorem Sat.unbase (S : Sat K F B α Γ Λ σ H) (T : Sat K ⟨H, B, α⟩ B' α' Γ' Λ' σ' H') : Sat K F B' α' Γ' Λ' σ' H' := by
  have al : ∀ a ∈ α, F.H0 a = none ∨ a ∈ F.α0 := fun a ha => (S.ah a ha).2
  have al' : ∀ a ∈ α', F.H0 a = none ∨ a ∈ F.α0 := fun a ha => by
    rcases (T.ah a ha).2 with z | z
    · exact .inl (S.dm a z)
    · exact al a z
  refine ⟨S.bb.trans T.bb, T.bh, fun a o h => ?_, fun a o h ha n => ?_, fun a h => S.dm a (T.dm a h), S.pf.trans T.pf, T.nd, T.al, fun n c h hg => ?_, fun a ha => ⟨(T.ah a ha).1, al' a ha⟩, T.sl, T.ln, S.tb.back T.tb T.kp (fun a h => pre_mem T.pf h) fun a h => .inr h⟩
  · rcases T.fr a o h with z | z
    · exact S.fr a o z
    · exact .inr (S.dm a z)
  · refine T.kp a o (S.kp a o h ha n) (fun z => ?_) n
    rcases al a z with q | q
    · rw [h] at q; cases q
    · exact ha q
  · obtain ⟨a, h1, h2, h3, h4⟩ := T.ce n c h hg
    exact ⟨a, h1, h2, al' a (List.mem_of_getElem? h1), h4⟩
end

/-! ### targets -/
/-- all slots but those told are as they were -/
def Agree (vs : List Nat) (σ σ' : L2.St) : Prop := σ'.length = σ.length ∧ ∀ j : Nat, j ∉ vs → σ'[j]? = σ[j]?
theorem Agree.refl (vs : List Nat) (σ : L2.St) : Agree vs σ σ := ⟨rfl, fun _ _ => rfl⟩
theorem Agree.trans {vs ws : List Nat} {σ σ' σ'' : L2.St} (h : Agree vs σ σ') (k : Agree ws σ' σ'') : Agree (vs ++ ws) σ σ'' := ⟨k.1.trans h.1, fun j hj => by
  rw [k.2 j (fun z => hj (List.mem_append_right _ z)), h.2 j (fun z => hj (List.mem_append_left _ z))]⟩
def WG (C : Ctx) (Γ : Env) (Λ : Cells) (tg : Expr) (d : D) (vs : List Nat) (P : Env → Prop) : Prop := ∀ X F, C.Is X → PG X tg fun v σ H Q => ∃ B α, Sat C.K F B α Γ Λ σ H ∧ Rep C.K B α d v ∧
  ∀ Γ' σ', P Γ' → Sat C.K F B α Γ' Λ σ' H → Agree vs σ σ' → Q σ' H
def UG (X : Cx) (e : Expr) : TG := fun v σ H Q => ∃ t, PG X e t ∧ t v σ H Q
theorem pg_U {X : Cx} {e : Expr} : PG X e (UG X e) := ⟨fun pins s σ H v u Q I r ⟨_, h, q⟩ => h.run pins s σ H v u Q I r q⟩
theorem pg_imp {X : Cx} {e : Expr} {t t' : TG} (h : PG X e t) (i : ∀ v σ H Q, t' v σ H Q → t v σ H Q) : PG X e t' := ⟨fun pins s σ H v u Q I r q => h.run pins s σ H v u Q I r (i v σ H Q q)⟩
section
variable {C : Ctx} {Γ : Env} {Λ : Cells} {P : Env → Prop} {pos : Pos}
theorem wg_name {i : Nat} {x : Str} {d : D} (hi : C.N[i]? = some x) (hl : C.ls[i]? = some true) (p : P (Γ.set i (some d))) : WG C Γ Λ (.Name x pos) d [i] P := fun X F is =>
  pg_imp (pg_name is.nd (is.ni hi) (is.loc hi hl) (is.fn i x hi hl)) fun v σ H Q ⟨B, α, S, r, q⟩ => q _ _ p (S.set r) ⟨by simp, fun j hj => by rw [List.getElem?_set_ne (fun e => hj (by simp [e]))]⟩
end

/-! ### what is walked -/
/-- a tuple made anew: known to its object, or one not of truths alone -/
def TupHO (o : HO) (vs : List V) (es : List D) : Prop := (o = .tup vs ∧ allBl es = false) ∨ ∃ its, o = .frz (tupO its) (.tup vs)
theorem TupHO.nt {o : HO} {vs : List V} {es : List D} (h : TupHO o vs es) : NoTbl o := fun ps q => by
  rcases h with ⟨rfl, _⟩ | ⟨its, rfl⟩ <;> cases q
theorem TupHO.sq {K : PySem.W.Frag} {B : Hp} {a : Addr} {o : HO} {vs : List V} {es : List D} (h : TupHO o vs es) (e : B a = some o) : SqX K B a vs es := by
  rcases h with ⟨rfl, q⟩ | ⟨its, rfl⟩
  · exact .odd (SqT.of e) q
  · exact .new e
structure ItsOk (K : PySem.W.Frag) (B : Hp) (J : It) (ds : List D) : Prop where
  go : ∀ (i : Nat) (H : Hp), i < ds.length → Ex B H → J.go i H
  stop : ∀ H : Hp, Ex B H → J.stop ds.length H
  yld : ∀ (i : Nat) (H : Hp) (x : V) (H' : Hp) (d : D), ds[i]? = some d → Ex B H → J.yld i H x H' →
    (H' = H ∧ Rep K B [] d x) ∨ (∃ p o vs es, x = .ref p ∧ H p = none ∧ H' = upd H p o ∧ TupHO o vs es ∧ d = .tup es ∧ Reps K B [] es vs)
def WI (C : Ctx) (E : ER) (Γ : Env) (Λ : Cells) (tg iter : Expr) (P : List D → Cells → Prop) : Prop := ∀ X F W, C.Is X → Takes X W → PI X tg iter fun σ H R => ∃ B α, Sat C.K F B α Γ Λ σ H ∧
  (∀ ds Λ' J B' α' H', P ds Λ' → Sat C.K F B' α' Γ Λ' σ H' → Ex B B' → α <+: α' → ItsOk C.K B' J ds → R J H') ∧ ErOk C.K F W B σ Γ E
def UI (X : Cx) (tg e : Expr) : TI := fun σ H R => ∃ t, PI X tg e t ∧ t σ H R
theorem pi_U {X : Cx} {tg e : Expr} : PI X tg e (UI X tg e) := ⟨fun pins s σ H R I ⟨_, h, q⟩ => h.run pins s σ H R I q⟩
theorem pi_imp {X : Cx} {tg e : Expr} {t t' : TI} (h : PI X tg e t) (i : ∀ σ H R, t' σ H R → t σ H R) : PI X tg e t' := ⟨fun pins s σ H R I q => h.run pins s σ H R I (i σ H R q)⟩
/-- what a turn's item is, for the body -/
theorem ItsOk.take {K : PySem.W.Frag} {F : Fm} {B B0 : Hp} {α : List Addr} {Γ : Env} {Λ : Cells} {σ : L2.St} {H H' : Hp} {J : It} {ds : List D} {i : Nat} {d : D} {x : V} (I : ItsOk K B0 J ds) (S : Sat K F B α Γ Λ σ H) (e : Ex B0 B) (hd : ds[i]? = some d) (y : J.yld i H x H') :
    ∃ B', Sat K F B' α Γ Λ σ H' ∧ Ex B B' ∧ Rep K B' α d x := by
  rcases I.yld i H x H' d hd (e.trans S.bh) y with ⟨rfl, r⟩ | ⟨p, o, vs, es, rfl, hp, rfl, ho, rfl, r⟩
  · exact ⟨B, S, Ex.refl B, r.mono e List.nil_prefix⟩
  · have hB := S.bh.back hp
    refine ⟨upd B p o, S.lay hp ho.nt, Ex.new hB, ?_⟩
    unfold Rep
    exact ⟨p, vs, rfl, ho.sq upd_same, r.mono (e.trans (Ex.new hB)) List.nil_prefix⟩
section
variable {C : Ctx} {E : ER} {Γ : Env} {Λ : Cells} {tg : Expr} {P : List D → Cells → Prop} {pos p : Pos}
theorem itl_ok' {K : PySem.W.Frag} {B : Hp} {a : Addr} {vs : List V} {ds : List D} (h : SqL K B a vs) (r : Reps K B [] ds vs) : ItsOk K B (Itl K a) ds where
  go := fun i H hi e => by
    obtain ⟨v, hv, _⟩ := r.get (List.getElem?_eq_getElem hi)
    exact ⟨vs, v, e.sqL h, hv⟩
  stop := fun H e => ⟨vs, e.sqL h, by rw [r.length]; exact Nat.le_refl _⟩
  yld := fun i H x H' d hd e y => by
    obtain ⟨rfl, y⟩ := y
    obtain ⟨v, hv, rv⟩ := r.get hd
    have q := y vs (e.sqL h)
    rw [hv] at q; cases q
    exact .inl ⟨rfl, rv⟩
theorem itt_ok {K : PySem.W.Frag} {B : Hp} {a : Addr} {vs : List V} {ds : List D} (h : SqT K B a vs) (r : Reps K B [] ds vs) : ItsOk K B (Itt K a) ds where
  go := fun i H hi e => by
    obtain ⟨v, hv, _⟩ := r.get (List.getElem?_eq_getElem hi)
    exact ⟨vs, v, e.sqT h, hv⟩
  stop := fun H e => ⟨vs, e.sqT h, by rw [r.length]; exact Nat.le_refl _⟩
  yld := fun i H x H' d hd e y => by
    obtain ⟨rfl, y⟩ := y
    obtain ⟨v, hv, rv⟩ := r.get hd
    have q := y vs (e.sqT h)
    rw [hv] at q; cases q
    exact .inl ⟨rfl, rv⟩
/-- over a list's value -/
theorem wi_list {e : Expr} (h : WE C E Γ Λ e fun d Λ' => ∃ ds, (d = .lst ds ∨ d = .fzl ds) ∧ nls ds = true ∧ P ds Λ') : WI C E Γ Λ tg e P := fun X F W is tk => by
  refine pi_imp (pi_list pe_U) fun σ H R ⟨B, α, S, q, er⟩ => ?_
  refine WE.use h is tk S er fun d Λ' v B' α' H' p S' e f r => ?_
  obtain ⟨ds, hd, hn, p⟩ := p
  have key : ∃ a vs, v = .ref a ∧ SqL C.K B' a vs ∧ Reps C.K B' α' ds vs := by
    rcases hd with rfl | rfl
    · unfold Rep at r
      obtain ⟨a, vs, h1, h2, h3⟩ := r
      exact ⟨a, vs, h1, SqL.of h2, h3⟩
    · unfold Rep at r
      exact r
  obtain ⟨a, vs, rfl, h1, h2⟩ := key
  refine ⟨a, rfl, ⟨vs, by rw [is.K]; exact S'.bh.sqL h1⟩, ?_⟩
  rw [is.K]
  exact q ds Λ' _ B' α' H' p S' e f (itl_ok' h1 (Reps.nl ds vs hn h2))
theorem wi_tup {e : Expr} (h : WE C E Γ Λ e fun d Λ' => ∃ ds, d = .tup ds ∧ nls ds = true ∧ P ds Λ') : WI C E Γ Λ tg e P := fun X F W is tk => by
  refine pi_imp (pi_tup pe_U) fun σ H R ⟨B, α, S, q, er⟩ => ?_
  refine WE.use h is tk S er fun d Λ' v B' α' H' p S' e f r => ?_
  obtain ⟨ds, rfl, hn, p⟩ := p
  unfold Rep at r
  obtain ⟨a, vs, rfl, h1, h2⟩ := r
  refine ⟨a, rfl, ⟨vs, by rw [is.K]; exact S'.bh.sqT h1.1⟩, ?_⟩
  rw [is.K]
  exact q ds Λ' _ B' α' H' p S' e f (itt_ok h1.1 (Reps.nl ds vs hn h2))
/-- lo, lo + 1, .. n of them -/
def rangeD (lo : Int) (n : Nat) : List D := (List.range n).map fun i => .int (lo + (i : Nat))
theorem itr_ok {K : PySem.W.Frag} {B : Hp} {lo : Int} {n : Nat} : ItsOk K B (Itr lo n) (rangeD lo n) where
  go := fun i H hi _ => by show i < n; unfold rangeD at hi; simpa using hi
  stop := fun H _ => by show n ≤ _; unfold rangeD; simp
  yld := fun i H x H' d hd _ y => by
    obtain ⟨rfl, rfl⟩ := y
    unfold rangeD at hd
    rw [List.getElem?_map] at hd
    have hi : i < n := by
      by_cases z : i < n
      · exact z
      · rw [List.getElem?_eq_none (by simpa using z)] at hd; cases hd
    rw [List.getElem?_range hi] at hd
    cases hd
    exact .inl ⟨rfl, by unfold Rep; rfl⟩
theorem wi_range1 {a : Expr} (hj : GlAt C "range") (hm : C.mg "range" = none) (h : WE C E Γ Λ a fun d Λ' => ∃ n : Int, d = .int n ∧ -(2 ^ 62) ≤ n ∧ n < 2 ^ 62 ∧ P (rangeD 0 n.toNat) Λ') (ha : plainE a = true := by rfl) : WI C E Γ Λ tg (.Call (.Name "range" p) [a] [] pos) P := fun X F W is tk => by
  refine pi_imp (pi_range1 (is.gl hj) (by rw [is.mg]; exact hm) (pa_cons pe_U pa_nil (star_plain ha)) (star_plain ha)) fun σ H R ⟨B, α, S, q, er⟩ => ?_
  refine WE.use h is tk S er fun d Λ' v B' α' H' p S' e f r => ?_
  obtain ⟨n, rfl, h1, h2, p⟩ := p
  unfold Rep at r
  subst r
  exact ⟨n, rfl, h1, h2, q _ Λ' _ B' α' H' p S' e f itr_ok⟩
end

/-! ### for -/
section
variable {C : Ctx} {Γ : Env} {Λ : Cells} {R : Rs} {pos : Pos}
/-- what a loop's body has to do at each item that is left -/
def LoopP (C : Ctx) (tg : Expr) (vs : List Nat) (body : List Stmt) (R : Rs) : List D → Env → Cells → Prop
  | [], Γ, Λ => R.nx Γ Λ
  | d :: ds, Γ, Λ => WG C Γ Λ tg d vs fun Γ' => WSs C Γ' Λ body { R with nx := LoopP C tg vs body R ds, ct := LoopP C tg vs body R ds, bk := R.nx }
theorem ws_for [Cool C] {tg iter : Expr} {body : List Stmt} (vs : List Nat) (h : WI C R.er Γ Λ tg iter fun ds Λ' => LoopP C tg vs body R ds Γ Λ') (hs : ∀ (env : PySem.Env) x, foldedSetIterable iter env x = pure x := by intro _ _; rfl) : WS C Γ Λ (.For tg iter body [] pos) R := fun X F W is hm tk => by
  refine ps_imp (ps_for is.po is.calm pi_U pg_U pss_U (hs X.env)) fun Dn σ H ⟨B, α, S, q⟩ => ?_
  refine ⟨_, h X F W is tk, B, α, S, fun ds Λ' J B' α' H' p S' e f it => ?_, q.er.at⟩
  refine ⟨fun i m σ1 H1 => m = ds.length - i ∧ i ≤ ds.length ∧ ∃ B1 α1 Γ1 Λ1, Sat C.K F B1 α1 Γ1 Λ1 σ1 H1 ∧ Ex B' B1 ∧ LoopP C tg vs body R (ds.drop i) Γ1 Λ1, ⟨_, rfl, Nat.zero_le _, B', α', Γ, Λ', S', Ex.refl _, p⟩, ?_⟩
  rintro i m σ1 H1 ⟨rfl, hi, B1, α1, Γ1, Λ1, S1, e1, lp⟩
  by_cases hlt : i < ds.length
  · refine .inr ⟨it.go i H1 hlt (e1.trans S1.bh), fun σ2 H2 => i + 1 ≤ ds.length ∧ ∃ B2 α2 Γ2 Λ2, Sat C.K F B2 α2 Γ2 Λ2 σ2 H2 ∧ Ex B' B2 ∧ LoopP C tg vs body R (ds.drop (i + 1)) Γ2 Λ2, fun σ2 H2 ⟨h1, h2⟩ => ⟨ds.length - (i + 1), by omega, rfl, h1, h2⟩, fun x H2 y => ?_⟩
    obtain ⟨B2, S2, e2, r2⟩ := it.take S1 e1 (List.getElem?_eq_getElem hlt) y
    rw [List.drop_eq_getElem_cons hlt] at lp
    refine ⟨_, lp X F is, B2, α1, S2, r2, fun Γ3 σ3 p3 S3 ag => ?_⟩
    refine WSs.use p3 is hm tk S3 ⟨fun Γ' Λ' B4 α4 σ4 H4 hr S4 e4 => ?_, (q.rt.mono e).mono (e1.trans e2), fun Γ' Λ' B4 α4 σ4 H4 hr S4 e4 => q.nx Γ' Λ' B4 α4 σ4 H4 hr S4 (((e.trans e1).trans e2).trans e4), fun Γ' Λ' B4 α4 σ4 H4 hr S4 e4 => ?_, (q.er.mono e).mono (e1.trans e2)⟩
    · exact ⟨hlt, B4, α4, Γ', Λ', S4, (e1.trans e2).trans e4, hr⟩
    · exact ⟨hlt, B4, α4, Γ', Λ', S4, (e1.trans e2).trans e4, hr⟩
  · have e' : i = ds.length := by omega
    subst e'
    rw [List.drop_length] at lp
    exact .inl ⟨it.stop H1 (e1.trans S1.bh), q.nx Γ1 Λ1 B1 α1 σ1 H1 lp S1 (e.trans e1)⟩
/-- while, by a word that falls -/
theorem ws_while {c : Expr} {body : List Stmt} (V : Nat → Env → Cells → Prop) (h0 : ∃ m, V m Γ Λ)
    (hs : ∀ m Γ Λ, V m Γ Λ → WT C R.er Γ Λ c fun b Λ' => if b = true then WSs C Γ Λ' body { R with nx := fun Γ' Λ'' => ∃ m', m' < m ∧ V m' Γ' Λ'', ct := fun Γ' Λ'' => ∃ m', m' < m ∧ V m' Γ' Λ'', bk := R.nx } else R.nx Γ Λ') : WS C Γ Λ (.While c body [] pos) R := fun X F W is hm tk => by
  refine ps_imp (ps_while is.po pt_U pss_U) fun Dn σ H ⟨B, α, S, q⟩ => ?_
  obtain ⟨m0, h0⟩ := h0
  refine ⟨fun m σ1 H1 => ∃ B1 α1 Γ1 Λ1, Sat C.K F B1 α1 Γ1 Λ1 σ1 H1 ∧ Ex B B1 ∧ V m Γ1 Λ1, ⟨m0, B, α, Γ, Λ, S, Ex.refl _, h0⟩, ?_⟩
  rintro m σ1 H1 ⟨B1, α1, Γ1, Λ1, S1, e1, v1⟩
  refine WT.use (hs m Γ1 Λ1 v1) is tk S1 (q.er.mono e1).at fun b Λ2 B2 α2 H2 p2 S2 e2 f2 => ?_
  cases b with
  | true =>
    rw [if_pos rfl] at p2 ⊢
    refine ⟨fun σ3 H3 => ∃ m', m' < m ∧ ∃ B3 α3 Γ3 Λ3, Sat C.K F B3 α3 Γ3 Λ3 σ3 H3 ∧ Ex B B3 ∧ V m' Γ3 Λ3, fun σ3 H3 h => h, ?_⟩
    refine WSs.use p2 is hm tk S2 ⟨fun Γ' Λ' B4 α4 σ4 H4 hr S4 e4 => ?_, q.rt.mono (e1.trans e2), fun Γ' Λ' B4 α4 σ4 H4 hr S4 e4 => q.nx Γ' Λ' B4 α4 σ4 H4 hr S4 ((e1.trans e2).trans e4), fun Γ' Λ' B4 α4 σ4 H4 hr S4 e4 => ?_, q.er.mono (e1.trans e2)⟩
    · obtain ⟨m', h1, h2⟩ := hr
      exact ⟨m', h1, B4, α4, Γ', Λ', S4, (e1.trans e2).trans e4, h2⟩
    · obtain ⟨m', h1, h2⟩ := hr
      exact ⟨m', h1, B4, α4, Γ', Λ', S4, (e1.trans e2).trans e4, h2⟩
  | false =>
    rw [if_neg (by simp)] at p2 ⊢
    exact q.nx Γ1 Λ2 B2 α2 σ1 H2 p2 S2 (e1.trans e2)
end

/-! ### list comprehensions -/
def wipeΓ (Γ : Env) : List Nat → Env
  | [] => Γ
  | v :: vs => (wipeΓ Γ vs).set v none
theorem wipeΓ_len (Γ : Env) : ∀ vs : List Nat, (wipeΓ Γ vs).length = Γ.length
  | [] => rfl
  | v :: vs => by unfold wipeΓ; rw [List.length_set, wipeΓ_len Γ vs]
theorem wipeΓ_some {Γ : Env} {i : Nat} {x : D} : ∀ {vs : List Nat}, (wipeΓ Γ vs)[i]? = some (some x) → Γ[i]? = some (some x) ∧ i ∉ vs
  | [], h => ⟨h, by simp⟩
  | v :: vs, h => by
    unfold wipeΓ at h
    by_cases hi : v = i
    · subst hi
      by_cases hv : v < (wipeΓ Γ vs).length
      · rw [List.getElem?_set_self hv] at h; cases h
      · rw [List.getElem?_eq_none (by simpa using hv)] at h; cases h
    · rw [List.getElem?_set_ne hi] at h
      obtain ⟨h1, h2⟩ := wipeΓ_some h
      exact ⟨h1, by simp only [List.mem_cons, not_or]; exact ⟨fun e => hi e.symm, h2⟩⟩
theorem wipe_at {σ : L2.St} {i : Nat} : ∀ {vs : List Nat}, i ∉ vs → (wipe σ vs)[i]? = σ[i]?
  | [], _ => rfl
  | v :: vs, h => by
    unfold wipe
    simp only [List.mem_cons, not_or] at h
    rw [List.getElem?_set_ne (fun e => h.1 e.symm), wipe_at h.2]
theorem wipe_in {σ : L2.St} {i : Nat} : ∀ {vs : List Nat}, i ∈ vs → i < σ.length → (wipe σ vs)[i]? = some none
  | v :: vs, h, hl => by
    unfold wipe
    by_cases e : v = i
    · subst e; rw [List.getElem?_set_self (by rw [wipe_length]; exact hl)]
    · rw [List.getElem?_set_ne e]
      rcases List.mem_cons.mp h with q | q
      · exact absurd q.symm e
      · exact wipe_in q hl
theorem wipe_agree {σ σ' : L2.St} {vs ws : List Nat} (hs : ∀ v ∈ ws, v ∈ vs) (h : Agree ws (wipe σ vs) σ') : wipe σ' vs = wipe σ vs := by
  apply List.ext_getElem?
  intro i
  have hl : σ'.length = σ.length := by rw [h.1, wipe_length]
  by_cases hi : i ∈ vs
  · by_cases hlt : i < σ.length
    · rw [wipe_in hi hlt, wipe_in hi (by omega)]
    · rw [List.getElem?_eq_none (by rw [wipe_length]; omega), List.getElem?_eq_none (by rw [wipe_length]; omega)]
  · rw [wipe_at hi, h.2 i (fun z => hi (hs i z)), wipe_at hi]
theorem Sat.wipe {K : PySem.W.Frag} {F : Fm} {B : Hp} {α : List Addr} {Γ : Env} {Λ : Cells} {σ : L2.St} {H : Hp} (S : Sat K F B α Γ Λ σ H) (vs : List Nat) : Sat K F B α (wipeΓ Γ vs) Λ (wipe σ vs) H :=
  S.env (by rw [wipeΓ_len, wipe_length, S.ln]) fun i d h => by
    obtain ⟨h1, h2⟩ := wipeΓ_some h
    obtain ⟨v, q1, q2⟩ := S.sl i d h1
    exact ⟨v, by rw [wipe_at h2]; exact q1, q2⟩

/-- the context of a comprehension's block -/
@[reducible] def Ctx.blk (C : Ctx) (scope : Scope) (vs ls : List Bool) (gl : List Str) : Ctx := { C with sc := relS scope C.sc, vs := vs, ls := ls, gl := gl, tp := false, cd := none }
instance {C : Ctx} {scope : Scope} {vs ls : List Bool} {gl : List Str} [c : Cool C] : Cool (C.blk scope vs ls gl) := ⟨c.h⟩
/-- what a comprehension has to do at each item that is left; acc: what is made so far -/
def CompP (C : Ctx) (Γ : Env) (Λ : Cells) (tg : Expr) (ws : List Nat) (ifs : List Expr) (elt : Expr) (P : List D → Prop) : List D → List D → Prop
  | [], acc => P acc
  | d :: ds, acc => acc.length < 10000000 ∧ WG C Γ Λ tg d ws fun Γ' => match ifs with
    | [] => WE C ER.none Γ' Λ elt fun y Λ' => Λ' = Λ ∧ CompP C Γ Λ tg ws ifs elt P ds (acc ++ [y])
    | [c] => WT C ER.none Γ' Λ c fun b Λ' => Λ' = Λ ∧ if b = true then WE C ER.none Γ' Λ elt fun y Λ' => Λ' = Λ ∧ CompP C Γ Λ tg ws ifs elt P ds (acc ++ [y]) else CompP C Γ Λ tg ws ifs elt P ds acc
    | _ => False
/-- a thing of the heap that nobody tells is written -/
theorem Sat.poke {K : PySem.W.Frag} {F : Fm} {B : Hp} {α : List Addr} {Γ : Env} {Λ : Cells} {σ : L2.St} {H : Hp} {p : Addr} {o : HO} (S : Sat K F B α Γ Λ σ H) (hB : B p = none) (h0 : F.H0 p = none) (hα : p ∉ α) (hC : Celly (H p)) : Sat K F B α Γ Λ σ (upd H p o) := by
  refine { S with bh := S.bh.mut hB, tb := S.tb.put hC fun z => absurd z hα, kp := fun a u h ha n => ?_, dm := fun a h => ?_, ce := fun n c h hg => ?_, ah := fun a ha => ?_ }
  · rw [upd_ne (fun e => by subst e; rw [h0] at h; cases h)]; exact S.kp a u h ha n
  · by_cases e : a = p
    · subst e; exact h0
    · rw [upd_ne e] at h; exact S.dm a h
  · obtain ⟨a, h1, h2, h3, h4⟩ := S.ce n c h hg
    have hap : a ≠ p := fun e => hα (e ▸ List.mem_of_getElem? h1)
    exact ⟨a, h1, h2, h3, h4.mono (Ex.refl B) (List.prefix_refl _) fun u q _ => by rw [upd_ne hap]; exact q⟩
  · have hap : a ≠ p := fun e => hα (e ▸ ha)
    rw [upd_ne hap]; exact S.ah a ha
theorem pre_len {α α' : List Addr} (h : α <+: α') (e : α'.length = α.length) : α' = α := by
  obtain ⟨t, rfl⟩ := h
  have : t = [] := by
    rw [List.length_append] at e
    exact List.length_eq_zero_iff.mp (by omega)
  rw [this, List.append_nil]
section
variable {C : Ctx} {E : ER} {Γ : Env} {Λ : Cells}
theorem blk_is {X : Cx} {scope : Scope} {vs ls : List Bool} {gl : List Str} (is : C.Is X) (good : (C.blk scope vs ls gl).Good) (hst : ∀ (i : Nat) (x : Str), C.N[i]? = some x → ls[i]? = some true → scope.names.lookup x = some .local ∨ scope.names.lookup x = some .cell)
    (s : Shared) (H : Hp) (c : Addr) (cl : List (Str × Addr)) (fp : List Addr) : (C.blk scope vs ls gl).Is (X.blk s H scope (compEnvC scope cl c X.env) fp) where
  prog := is.prog
  w := is.w
  K := is.K
  mg := is.mg
  base := is.base
  N := is.N
  sc := by
    show relS scope X.env.scope = relS scope C.sc
    rw [is.sc]
  calmW := is.calmW
  hdW := is.hdW
  tp := fun h => Bool.noConfusion (h : false = true)
  cdv := fun q c h => nomatch h
  roomW := is.roomW
  fn := fun i x hi hl => by
    rcases hst i x hi hl with h | h
    · exact .inr (lookup_relS_keep (by simp) h)
    · refine .inl ?_
      show (scope.names.lookup x == some .cell) = true
      rw [h]; rfl
  good := good
  po := PassesOwn.never
def UEb (X : Cx) (scope : Scope) (e : Expr) : TE := fun σ H Q => ∃ t, (∀ s H c cl fp, PE (X.blk s H scope (compEnvC scope cl c X.env) fp) e t) ∧ t σ H Q
def UGb (X : Cx) (scope : Scope) (e : Expr) : TG := fun v σ H Q => ∃ t, (∀ s H c cl fp, PG (X.blk s H scope (compEnvC scope cl c X.env) fp) e t) ∧ t v σ H Q
def UTb (X : Cx) (scope : Scope) (e : List Expr) : TT := fun σ H Q => ∃ t, (∀ s H c cl fp, PTs (X.blk s H scope (compEnvC scope cl c X.env) fp) e t) ∧ t σ H Q
theorem pgb {X : Cx} {scope : Scope} {e : Expr} (s : Shared) (H : Hp) (c : Addr) (cl : List (Str × Addr)) (fp : List Addr) : PG (X.blk s H scope (compEnvC scope cl c X.env) fp) e (UGb X scope e) := ⟨fun pins s' σ' H' v u Q I r ⟨t, ht, q⟩ => (ht s H c cl fp).run pins s' σ' H' v u Q I r q⟩
theorem ptb {X : Cx} {scope : Scope} {e : List Expr} (s : Shared) (H : Hp) (c : Addr) (cl : List (Str × Addr)) (fp : List Addr) : PTs (X.blk s H scope (compEnvC scope cl c X.env) fp) e (UTb X scope e) := ⟨fun pins s' σ' H' Q I ⟨t, ht, q⟩ => (ht s H c cl fp).run pins s' σ' H' Q I q⟩
theorem peb {X : Cx} {scope : Scope} {e : Expr} (s : Shared) (H : Hp) (c : Addr) (cl : List (Str × Addr)) (fp : List Addr) : PE (X.blk s H scope (compEnvC scope cl c X.env) fp) e (UEb X scope e) := ⟨fun pins s' σ' H' Q I ⟨t, ht, q⟩ => (ht s H c cl fp).run pins s' σ' H' Q I q⟩
/-- [elt for tg in iter if ..] -/
theorem lc_core' {X : Cx} {F : Fm} {W : WX} {Q : VK} {σ : L2.St} {H : Hp} {elt tg iter : Expr} {ifs : List Expr} {scope : Scope} {own : List (Str × Nat)} {vs ls : List Bool} {gl : List Str} {ws : List Nat} {P : List D → Cells → Prop} {B : Hp} {α : List Addr}
    (good : (C.blk scope vs ls gl).Good) (hst : ∀ (i : Nat) (x : Str), C.N[i]? = some x → ls[i]? = some true → scope.names.lookup x = some .local ∨ scope.names.lookup x = some .cell) (hws : ∀ v ∈ ws, v ∈ own.map (·.2))
    (is : C.Is X) (tk : Takes X W) (S : Sat C.K F B α Γ Λ σ H) (er : ErOk C.K F W B σ Γ E)
    (h : WI C E Γ Λ tg iter fun ds Λ' => CompP (C.blk scope vs ls gl) (wipeΓ Γ (own.map (·.2))) Λ' tg ws ifs elt (fun ys => P ys Λ') ds [])
    (q : ∀ ds Λ' p vs B' α' H', P ds Λ' → Sat C.K F B' α' Γ Λ' σ H' → Ex B B' → α <+: α' → H' p = some (.lst vs) → B' p = none → F.H0 p = none → p ∉ α' → Reps C.K B' α' ds vs → Q (.ref p) H') :
    tLc (UI X tg iter) (UGb X scope tg) (UTb X scope ifs) (UEb X scope elt) (own.map (·.2)) σ H Q := by
  refine ⟨_, h X F W is tk, B, α, S, fun ds Λ' J B' α' H1 p S' e f it D hD => ?_, er⟩
  have h0 : F.H0 D = none := S'.dm D hD
  have hα : D ∉ α' := fun ha => (S'.ah D ha).1 hD
  have S0 := (S'.grow (Ex.new hD (o := .lst []))).wipe (own.map (·.2))
  refine ⟨fun i m H2 => m = ds.length - i ∧ i ≤ ds.length ∧ ∃ B2 acc av, Sat C.K F B2 α' (wipeΓ Γ (own.map (·.2))) Λ' (wipe σ (own.map (·.2))) H2 ∧ Ex B' B2 ∧ H2 D = some (.lst av) ∧ B2 D = none ∧ Reps C.K B2 α' acc av ∧
      CompP (C.blk scope vs ls gl) (wipeΓ Γ (own.map (·.2))) Λ' tg ws ifs elt (fun ys => P ys Λ') (ds.drop i) acc,
    ⟨_, rfl, Nat.zero_le _, B', [], [], S0, Ex.refl _, upd_same, S'.bh.back hD, .nil, p⟩, ?_⟩
  rintro i m H2 ⟨rfl, hi, B2, acc, av, S2, e2, hD2, hB2, ra, cp⟩
  by_cases hlt : i < ds.length
  · refine .inr ⟨it.go i H2 hlt (e2.trans S2.bh), fun H3 => i + 1 ≤ ds.length ∧ ∃ B3 acc av, Sat C.K F B3 α' (wipeΓ Γ (own.map (·.2))) Λ' (wipe σ (own.map (·.2))) H3 ∧ Ex B' B3 ∧ H3 D = some (.lst av) ∧ B3 D = none ∧ Reps C.K B3 α' acc av ∧
      CompP (C.blk scope vs ls gl) (wipeΓ Γ (own.map (·.2))) Λ' tg ws ifs elt (fun ys => P ys Λ') (ds.drop (i + 1)) acc, fun H3 ⟨k1, k2⟩ => ⟨ds.length - (i + 1), by omega, rfl, k1, k2⟩, fun x H3 y => ?_⟩
    have tk3 : ∃ B3, Sat C.K F B3 α' (wipeΓ Γ (own.map (·.2))) Λ' (wipe σ (own.map (·.2))) H3 ∧ Ex B2 B3 ∧ Rep C.K B3 α' ds[i] x ∧ H3 D = some (.lst av) ∧ B3 D = none := by
      rcases it.yld i H2 x H3 ds[i] (List.getElem?_eq_getElem hlt) (e2.trans S2.bh) y with ⟨rfl, r⟩ | ⟨p', o', vs', es, rfl, hp, rfl, ho, he, r⟩
      · exact ⟨B2, S2, Ex.refl _, r.mono e2 List.nil_prefix, hD2, hB2⟩
      · have hb := S2.bh.back hp
        have hne : D ≠ p' := fun z => by rw [← z, hD2] at hp; cases hp
        refine ⟨upd B2 p' o', S2.lay hp ho.nt, Ex.new hb, ?_, by rw [upd_ne hne]; exact hD2, by rw [upd_ne hne]; exact hB2⟩
        rw [he]
        unfold Rep
        exact ⟨p', vs', rfl, ho.sq upd_same, r.mono (e2.trans (Ex.new hb)) List.nil_prefix⟩
    obtain ⟨B3, S3, e3, r3, hD3, hB3⟩ := tk3
    rw [List.drop_eq_getElem_cons hlt] at cp
    obtain ⟨hl, cp⟩ := cp
    have T3 := S3.rebase
    refine ⟨_, fun s H c cl fp => cp _ ⟨H3, B3, α'⟩ (blk_is is good hst s H c cl fp), B3, α', T3, r3, fun Γ4 σ4 p4 T4 ag => ?_⟩
    refine ⟨wipe_agree hws ag, ?_⟩
    -- behind the element
    have fin : ∀ (y : Pl.D) (B5 : Hp) (α5 : List Addr) (H5 : Hp) (v : V), CompP (C.blk scope vs ls gl) (wipeΓ Γ (own.map (·.2))) Λ' tg ws ifs elt (fun ys => P ys Λ') (ds.drop (i + 1)) (acc ++ [y]) → Sat C.K ⟨H3, B3, α'⟩ B5 α5 Γ4 Λ' σ4 H5 → Ex B3 B5 → Rep C.K B5 α5 y v →
        ∃ acc', H5 D = some (.lst acc') ∧ acc'.length < sizeLine ∧ i + 1 ≤ ds.length ∧ ∃ B3 acc av, Sat C.K F B3 α' (wipeΓ Γ (own.map (·.2))) Λ' (wipe σ (own.map (·.2))) (upd H5 D (.lst (acc' ++ [v]))) ∧ Ex B' B3 ∧ (upd H5 D (.lst (acc' ++ [v]))) D = some (.lst av) ∧ B3 D = none ∧ Reps C.K B3 α' acc av ∧
          CompP (C.blk scope vs ls gl) (wipeΓ Γ (own.map (·.2))) Λ' tg ws ifs elt (fun ys => P ys Λ') (ds.drop (i + 1)) acc := fun y B5 α5 H5 v cp5 T5 e5 r5 => by
      have hα5 : α5 = α' := pre_len T5.pf (by rw [T5.al, S3.al])
      subst hα5
      have hD5 : H5 D = some (.lst av) := T5.kp D _ hD3 hα (fun _ q => nomatch q)
      have hB5 : B5 D = none := by
        cases z : B5 D with
        | none => rfl
        | some o =>
          rcases T5.fr D o z with k | k
          · have : B3 D = some o := k
            rw [hB3] at this; cases this
          · have : H3 D = none := k
            rw [hD3] at this; cases this
      have S5 := S3.unbase T5
      have S5' : Sat C.K F B5 α5 (wipeΓ Γ (own.map (·.2))) Λ' (wipe σ (own.map (·.2))) H5 := S5.env S3.ln fun j d hj => by
        obtain ⟨u, q1, q2⟩ := S3.sl j d hj
        exact ⟨u, q1, q2.mono e5 (List.prefix_refl _)⟩
      refine ⟨av, hD5, by rw [ra.length]; exact Nat.lt_of_lt_of_le hl (by rw [sizeLine_eq]; decide), hlt, B5, acc ++ [y], av ++ [v], S5'.poke hB5 h0 hα (by rw [hD5]; trivial), (e2.trans e3).trans e5, upd_same, hB5, (ra.mono (e3.trans e5) (List.prefix_refl _)).append (.one r5), cp5⟩
    cases ifs with
    | nil =>
      refine ⟨tYes, fun _ _ _ _ _ => pts_nil, ?_⟩
      dsimp only [tYes]
      rw [if_pos rfl]
      refine ⟨_, fun s H c cl fp => p4 _ ⟨H3, B3, α'⟩ _ (blk_is is good hst s H c cl fp) takes0, B3, α', T4, fun y Λ5 v B5 α5 H5 p5 T5 e5 f5 r5 => ?_, fun _ _ _ _ _ _ _ z => z.elim⟩
      obtain ⟨rfl, cp5⟩ := p5
      exact fin y B5 α5 H5 v cp5 T5 e5 r5
    | cons c r =>
      cases r with
      | nil =>
        refine ⟨_, fun s H c' cl fp => pts_one (p4 _ ⟨H3, B3, α'⟩ _ (blk_is is good hst s H c' cl fp) takes0), B3, α', T4, fun b Λ5 B5 α5 H5 p5 T5 e5 f5 => ?_, fun _ _ _ _ _ _ _ z => z.elim⟩
        obtain ⟨rfl, p5⟩ := p5
        cases b with
        | true =>
          rw [if_pos rfl] at p5 ⊢
          refine ⟨_, fun s H c cl fp => p5 _ ⟨H3, B3, α'⟩ _ (blk_is is good hst s H c cl fp) takes0, B5, α5, T5, fun y Λ6 v B6 α6 H6 p6 T6 e6 f6 r6 => ?_, fun _ _ _ _ _ _ _ z => z.elim⟩
          obtain ⟨rfl, cp6⟩ := p6
          exact fin y B6 α6 H6 v cp6 T6 (e5.trans e6) r6
        | false =>
          rw [if_neg (by simp)] at p5 ⊢
          have hα5 : α5 = α' := pre_len T5.pf (by rw [T5.al, S3.al])
          subst hα5
          have hD5 : H5 D = some (.lst av) := T5.kp D _ hD3 hα (fun _ q => nomatch q)
          have hB5 : B5 D = none := by
            cases z : B5 D with
            | none => rfl
            | some o =>
              rcases T5.fr D o z with k | k
              · have : B3 D = some o := k
                rw [hB3] at this; cases this
              · have : H3 D = none := k
                rw [hD3] at this; cases this
          have S5 := S3.unbase T5
          refine ⟨hlt, B5, acc, av, S5.env S3.ln fun j d hj => ?_, (e2.trans e3).trans e5, hD5, hB5, ra.mono (e3.trans e5) (List.prefix_refl _), p5⟩
          obtain ⟨u, q1, q2⟩ := S3.sl j d hj
          exact ⟨u, q1, q2.mono e5 (List.prefix_refl _)⟩
      | cons _ _ => exact p4.elim
  · have e' : i = ds.length := by omega
    subst e'
    rw [List.drop_length] at cp
    refine .inl ⟨it.stop H2 (e2.trans S2.bh), ?_⟩
    exact q acc Λ' D av B2 α' H2 cp (S2.env S'.ln fun j d hj => by
      obtain ⟨u, q1, q2⟩ := S'.sl j d hj
      exact ⟨u, q1, q2.mono e2 (List.prefix_refl _)⟩) (e.trans e2) f hD2 hB2 h0 hα ra
theorem wn_lc [Cool C] {elt tg iter : Expr} {ifs : List Expr} {scope : Scope} {pos : Pos} {P : List D → Cells → Prop} (own : List (Str × Nat)) (vs ls : List Bool) (gl : List Str) (ws : List Nat)
    (ok : BlkOk C.N C.sc scope own) (good : (C.blk scope vs ls gl).Good) (hst : ∀ (i : Nat) (x : Str), C.N[i]? = some x → ls[i]? = some true → scope.names.lookup x = some .local ∨ scope.names.lookup x = some .cell) (hws : ∀ v ∈ ws, v ∈ own.map (·.2))
    (h : WI C E Γ Λ tg iter fun ds Λ' => CompP (C.blk scope vs ls gl) (wipeΓ Γ (own.map (·.2))) Λ' tg ws ifs elt (fun ys => P ys Λ') ds [])
    (hs : ∀ (env : PySem.Env) x, foldedSetIterable iter env x = pure x := by intro _ _; rfl) : WN C E Γ Λ (.ListComp elt [⟨tg, iter, ifs, 0⟩] scope pos) P := fun X F W is tk =>
  pe_imp (pe_lc (own := own) is.calm is.nd pi_U (by rw [is.N, is.sc]; exact ok) pgb ptb peb (hs X.env))
    fun σ H Q ⟨B, α, S, q, er⟩ => lc_core' good hst hws is tk S er h q
end
end Pl

namespace Pl
open PySem L2 PyProof.Rows

/-! ### calls of built-ins -/
/-- what a call by values does to data -/
def CK (K : PySem.W.Frag) (r : List V → Hp → VK → Prop) (ds : List D) (Γ : Env) (Λ : Cells) (P : D → Cells → Prop) : Prop := ∀ F B α σ H vs (Q : VK), Sat K F B α Γ Λ σ H → Reps K B α ds vs →
  (∀ d Λ' v B' α' H', P d Λ' → Sat K F B' α' Γ Λ' σ H' → Ex B B' → α <+: α' → Rep K B' α' d v → Q v H') → r vs H Q
def CKn (K : PySem.W.Frag) (r : List V → Hp → VK → Prop) (ds : List D) (Γ : Env) (Λ : Cells) (P : List D → Cells → Prop) : Prop := ∀ F B α σ H vs (Q : VK), Sat K F B α Γ Λ σ H → Reps K B α ds vs →
  (∀ ds Λ' p ws B' α' H', P ds Λ' → Sat K F B' α' Γ Λ' σ H' → Ex B B' → α <+: α' → H' p = some (.lst ws) → B' p = none → F.H0 p = none → p ∉ α' → Reps K B' α' ds ws → Q (.ref p) H') → r vs H Q
section
variable {C : Ctx} {E : ER} {Γ : Env} {Λ : Cells} {P : D → Cells → Prop} {pos p : Pos} {e : Expr} {es : List Expr} {x : Str} {id T : String} {r : List V → Hp → VK → Prop}
theorem we_callB (hc : ∀ X, C.Is X → CallR X (.builtin id) r) (hj : GlAt C x) (hm : C.mg x = none) (hv : bootBuiltins x = some (.builtin id)) (h : WA C E Γ Λ (e :: es) fun ds Λ1 => CK C.K r ds Γ Λ1 P)
    (hn : x ≠ "__name__" := by decide) (hdb : (x == ("__debug__" : Str)) = false := by decide) (he : plainE e = true := by rfl) (hes : es.all plainE = true := by rfl) : WE C E Γ Λ (.Call (.Name x p) (e :: es) [] pos) P := fun X F W is tk => by
  refine pe_imp (pe_callB (hc X is) (is.gl hj) (by rw [is.mg]; exact hm) hv pa_U hn hdb (star_plain he) (back_plain hes)) fun σ H Q ⟨B, α, S, q, er⟩ => ?_
  refine WA.use h is tk S er fun ds Λ1 vs B1 α1 H1 p1 S1 e1 f1 r1 => ?_
  exact p1 F B1 α1 σ H1 vs Q S1 r1 fun d Λ' v B' α' H' p' S' e' f' r' => q d Λ' v B' α' H' p' S' (e1.trans e') (f1.trans f') r'
theorem we_callTy (hc : ∀ X, C.Is X → CallR X (.type T) r) (hj : GlAt C x) (hm : C.mg x = none) (hv : bootBuiltins x = some (.type T)) (h : WA C E Γ Λ (e :: es) fun ds Λ1 => CK C.K r ds Γ Λ1 P)
    (hn : x ≠ "__name__" := by decide) (hdb : (x == ("__debug__" : Str)) = false := by decide) (he : plainE e = true := by rfl) (hes : es.all plainE = true := by rfl) : WE C E Γ Λ (.Call (.Name x p) (e :: es) [] pos) P := fun X F W is tk => by
  refine pe_imp (pe_callTy (hc X is) (is.gl hj) (by rw [is.mg]; exact hm) hv pa_U hn hdb (star_plain he) (back_plain hes)) fun σ H Q ⟨B, α, S, q, er⟩ => ?_
  refine WA.use h is tk S er fun ds Λ1 vs B1 α1 H1 p1 S1 e1 f1 r1 => ?_
  exact p1 F B1 α1 σ H1 vs Q S1 r1 fun d Λ' v B' α' H' p' S' e' f' r' => q d Λ' v B' α' H' p' S' (e1.trans e') (f1.trans f') r'
theorem wn_callB {P : List D → Cells → Prop} (hc : ∀ X, C.Is X → CallR X (.builtin id) r) (hj : GlAt C x) (hm : C.mg x = none) (hv : bootBuiltins x = some (.builtin id)) (h : WA C E Γ Λ (e :: es) fun ds Λ1 => CKn C.K r ds Γ Λ1 P)
    (hn : x ≠ "__name__" := by decide) (hdb : (x == ("__debug__" : Str)) = false := by decide) (he : plainE e = true := by rfl) (hes : es.all plainE = true := by rfl) : WN C E Γ Λ (.Call (.Name x p) (e :: es) [] pos) P := fun X F W is tk => by
  refine pe_imp (pe_callB (hc X is) (is.gl hj) (by rw [is.mg]; exact hm) hv pa_U hn hdb (star_plain he) (back_plain hes)) fun σ H Q ⟨B, α, S, q, er⟩ => ?_
  refine WA.use h is tk S er fun ds Λ1 vs B1 α1 H1 p1 S1 e1 f1 r1 => ?_
  exact p1 F B1 α1 σ H1 vs Q S1 r1 fun ds Λ' p ws B' α' H' p' S' e' f' => q ds Λ' p ws B' α' H' p' S' (e1.trans e') (f1.trans f')
theorem wn_callTy {P : List D → Cells → Prop} (hc : ∀ X, C.Is X → CallR X (.type T) r) (hj : GlAt C x) (hm : C.mg x = none) (hv : bootBuiltins x = some (.type T)) (h : WA C E Γ Λ (e :: es) fun ds Λ1 => CKn C.K r ds Γ Λ1 P)
    (hn : x ≠ "__name__" := by decide) (hdb : (x == ("__debug__" : Str)) = false := by decide) (he : plainE e = true := by rfl) (hes : es.all plainE = true := by rfl) : WN C E Γ Λ (.Call (.Name x p) (e :: es) [] pos) P := fun X F W is tk => by
  refine pe_imp (pe_callTy (hc X is) (is.gl hj) (by rw [is.mg]; exact hm) hv pa_U hn hdb (star_plain he) (back_plain hes)) fun σ H Q ⟨B, α, S, q, er⟩ => ?_
  refine WA.use h is tk S er fun ds Λ1 vs B1 α1 H1 p1 S1 e1 f1 r1 => ?_
  exact p1 F B1 α1 σ H1 vs Q S1 r1 fun ds Λ' p ws B' α' H' p' S' e' f' => q ds Λ' p ws B' α' H' p' S' (e1.trans e') (f1.trans f')
/-- .. to a value, the heap as it is -/
theorem ck_val {K : PySem.W.Frag} {ds : List D} {z : D} (p : P z Λ) (h : ∀ F B α σ H vs (Q : VK), Sat K F B α Γ Λ σ H → Reps K B α ds vs → (∀ v, Rep K B α z v → Q v H) → r vs H Q) : CK K r ds Γ Λ P :=
  fun F B α σ H vs Q S rs q => h F B α σ H vs Q S rs fun v rv => q z Λ v B α H p S (Ex.refl B) (List.prefix_refl _) rv
theorem reps1 {K : PySem.W.Frag} {B : Hp} {α : List Addr} {d : D} {vs : List V} (h : Reps K B α [d] vs) : ∃ v, vs = [v] ∧ Rep K B α d v := by
  unfold Reps Reps at h
  obtain ⟨v, r, rfl, h1, rfl⟩ := h
  exact ⟨v, rfl, h1⟩
theorem reps2 {K : PySem.W.Frag} {B : Hp} {α : List Addr} {d e : D} {vs : List V} (h : Reps K B α [d, e] vs) : ∃ v w, vs = [v, w] ∧ Rep K B α d v ∧ Rep K B α e w := by
  unfold Reps at h
  obtain ⟨v, r, rfl, h1, h2⟩ := h
  obtain ⟨w, rfl, h3⟩ := reps1 h2
  exact ⟨v, w, rfl, h1, h3⟩

/-! #### len -/
def lenP (Λ : Cells) (x : D) (P : Int → Prop) : Prop := match x with
  | .str s => s.length ≤ sizeLine ∧ P s.length
  | x => ∃ ds, seqD Λ x = some ds ∧ P ds.length
theorem len_K {K : PySem.W.Frag} {ds : List D} (h : ∃ x, ds = [x] ∧ lenP Λ x fun n => P (.int n) Λ) : CK K (fun xs H Q => (∃ p ys, xs = [.ref p] ∧ (SqL K H p ys ∨ SqT K H p ys) ∧ Q (.int ys.length) H) ∨ (∃ z, xs = [.str z] ∧ z.length ≤ sizeLine ∧ Q (.int z.length) H)) ds Γ Λ P := by
  intro F B α σ H vs Q S rs q
  obtain ⟨x, rfl, h⟩ := h
  obtain ⟨v, rfl, rv⟩ := reps1 rs
  have keep : ∀ {i : Int}, P (.int i) Λ → Q (.int i) H := fun {i} p => q _ Λ _ B α H p S (Ex.refl B) (List.prefix_refl _) (by unfold Rep; rfl)
  unfold lenP at h
  split at h
  · rename_i s
    unfold Rep at rv
    subst rv
    exact .inr ⟨s, rfl, h.1, keep h.2⟩
  · obtain ⟨ds, hs, p⟩ := h
    obtain ⟨a, vs, rfl, h1, h2⟩ := S.seq rv hs
    refine .inl ⟨a, vs, rfl, h1, ?_⟩
    rw [h2.length]
    exact keep p
theorem crK {X : Cx} {f : Value} (r : PySem.W.Frag → List V → Hp → VK → Prop) (is : C.Is X) (h : CallR X f (r X.K)) : CallR X f (r C.K) := by rw [← is.K]; exact h
theorem we_len (hj : GlAt C "len") (hm : C.mg "len" = none) (h : WE C E Γ Λ e fun x Λ1 => lenP Λ1 x fun n => P (.int n) Λ1) (he : plainE e = true := by rfl) : WE C E Γ Λ (.Call (.Name "len" p) [e] [] pos) P :=
  we_callB (r := fun xs H Q => (∃ p ys, xs = [.ref p] ∧ (SqL C.K H p ys ∨ SqT C.K H p ys) ∧ Q (.int ys.length) H) ∨ (∃ z, xs = [.str z] ∧ z.length ≤ sizeLine ∧ Q (.int z.length) H))
    (fun X is => crK (fun K xs H Q => (∃ p ys, xs = [.ref p] ∧ (SqL K H p ys ∨ SqT K H p ys) ∧ Q (.int ys.length) H) ∨ (∃ z, xs = [.str z] ∧ z.length ≤ sizeLine ∧ Q (.int z.length) H)) is (call_len_seq.or call_len_str)) hj hm PySem.boot_len
    (wa_cons (we_mono h fun x Λ1 q => wa_nil (len_K ⟨x, rfl, q⟩)) he) (he := he)

/-! #### list(x), tuple(x) -/
theorem boot_list' : bootBuiltins "list" = some (.type "list") := by decide +kernel
theorem boot_tuple' : bootBuiltins "tuple" = some (.type "tuple") := by decide +kernel
theorem boot_max' : bootBuiltins "max" = some (.builtin "max") := by decide +kernel
theorem boot_min' : bootBuiltins "min" = some (.builtin "min") := by decide +kernel
theorem list_K {K : PySem.W.Frag} {ds : List D} {P : List D → Cells → Prop} (h : ∃ x zs, ds = [x] ∧ seqD Λ x = some zs ∧ P zs Λ) : CKn K (fun xs H Q => ∃ p ys, xs = [.ref p] ∧ (SqL K H p ys ∨ SqT K H p ys) ∧ ∀ l, H l = none → Q (.ref l) (upd H l (.lst ys))) ds Γ Λ P := by
  intro F B α σ H vs Q S rs q
  obtain ⟨x, zs, rfl, hz, p⟩ := h
  obtain ⟨v, rfl, rv⟩ := reps1 rs
  obtain ⟨a, ws, rfl, h1, h2⟩ := S.seq rv hz
  refine ⟨a, ws, rfl, h1, fun l hl => ?_⟩
  exact q zs Λ l ws B α _ p (S.grow (Ex.new hl)) (Ex.refl B) (List.prefix_refl _) upd_same (S.bh.back hl) (S.dm l hl) (fun ha => (S.ah l ha).1 hl) h2
theorem wn_list {P : List D → Cells → Prop} (hj : GlAt C "list") (hm : C.mg "list" = none) (h : WE C E Γ Λ e fun x Λ1 => ∃ zs, seqD Λ1 x = some zs ∧ P zs Λ1) (he : plainE e = true := by rfl) : WN C E Γ Λ (.Call (.Name "list" p) [e] [] pos) P :=
  wn_callTy (fun X is => crK (fun K xs H Q => ∃ p ys, xs = [.ref p] ∧ (SqL K H p ys ∨ SqT K H p ys) ∧ ∀ l, H l = none → Q (.ref l) (upd H l (.lst ys))) is call_list_of) hj hm boot_list'
    (wa_cons (we_mono h fun x Λ1 ⟨zs, h1, h2⟩ => wa_nil (list_K ⟨x, zs, rfl, h1, h2⟩)) he) (he := he)
theorem tuple_K {K : PySem.W.Frag} {ds : List D} (h : ∃ x zs, ds = [x] ∧ seqD Λ x = some zs ∧ P (.tup zs) Λ) : CK K (fun xs H Q => ∃ p ys, xs = [.ref p] ∧ ((SqL K H p ys ∧ ∀ l its, H l = none → Q (.ref l) (upd H l (.frz (tupO its) (.tup ys)))) ∨ (SqT K H p ys ∧ Q (.ref p) H))) ds Γ Λ P := by
  intro F B α σ H vs Q S rs q
  obtain ⟨x, zs, rfl, hz, p⟩ := h
  obtain ⟨v, rfl, rv⟩ := reps1 rs
  have lay : ∀ {ws : List V}, Reps K B α zs ws → ∀ l its, H l = none → Q (.ref l) (upd H l (.frz (tupO its) (.tup ws))) := fun {ws} h2 l its hl => by
    have hx : Ex B (upd B l (.frz (tupO its) (.tup ws))) := Ex.new (S.bh.back hl)
    refine q _ Λ _ (upd B l (.frz (tupO its) (.tup ws))) α _ p (S.lay hl) hx (List.prefix_refl _) ?_
    unfold Rep
    exact ⟨l, ws, rfl, SqX.new upd_same, h2.mono hx (List.prefix_refl _)⟩
  unfold seqD at hz
  split at hz
  · rename_i es he
    cases hz
    obtain ⟨a, ws, rfl, h1, h2⟩ := S.lst rv he
    exact ⟨a, ws, rfl, .inl ⟨SqL.of h1, lay h2⟩⟩
  · rename_i es he
    cases hz
    have ex := vw_noc he (by simp) (by simp) (by simp) (by simp)
    subst ex
    unfold Rep at rv
    obtain ⟨a, ws, rfl, h1, h2⟩ := rv
    exact ⟨a, ws, rfl, .inl ⟨S.bh.sqL h1, lay h2⟩⟩
  · rename_i es he
    cases hz
    have ex := vw_noc he (by simp) (by simp) (by simp) (by simp)
    subst ex
    have rv' := rv
    unfold Rep at rv'
    obtain ⟨a, ws, rfl, h1, h2⟩ := rv'
    exact ⟨a, ws, rfl, .inr ⟨S.bh.sqT h1.1, q _ Λ _ B α H p S (Ex.refl B) (List.prefix_refl _) rv⟩⟩
  · cases hz
theorem we_tuple (hj : GlAt C "tuple") (hm : C.mg "tuple" = none) (h : WE C E Γ Λ e fun x Λ1 => ∃ zs, seqD Λ1 x = some zs ∧ P (.tup zs) Λ1) (he : plainE e = true := by rfl) : WE C E Γ Λ (.Call (.Name "tuple" p) [e] [] pos) P :=
  we_callTy (fun X is => crK (fun K xs H Q => ∃ p ys, xs = [.ref p] ∧ ((SqL K H p ys ∧ ∀ l its, H l = none → Q (.ref l) (upd H l (.frz (tupO its) (.tup ys)))) ∨ (SqT K H p ys ∧ Q (.ref p) H))) is call_tupleX) hj hm boot_tuple'
    (wa_cons (we_mono h fun x Λ1 ⟨zs, h1, h2⟩ => wa_nil (tuple_K ⟨x, zs, rfl, h1, h2⟩)) he) (he := he)

/-! #### sum, max, min, all, any -/
theorem reps_int {K : PySem.W.Frag} {B : Hp} {α : List Addr} : ∀ {ns : List Int} {vs : List V}, Reps K B α (ns.map D.int) vs → vs = ns.map V.int
  | [], _, h => by unfold List.map Reps at h; exact h
  | n :: ns, _, h => by
    rw [List.map_cons] at h
    unfold Reps at h
    obtain ⟨v, r, rfl, h1, h2⟩ := h
    unfold Rep at h1
    rw [h1, reps_int h2, List.map_cons]
variable {e2 : Expr}
theorem we_min2 [Cool C] (hj : GlAt C "min") (hm : C.mg "min" = none) (h : WE C E Γ Λ e fun x Λ1 => WE C E Γ Λ1 e2 fun y Λ2 => ∃ a b, x = .int a ∧ y = .int b ∧ P (.int (min a b)) Λ2) (he : plainE e = true := by rfl) (he2 : plainE e2 = true := by rfl) : WE C E Γ Λ (.Call (.Name "min" p) [e, e2] [] pos) P :=
  we_callB (fun X is => call_min2 is.calm) hj hm boot_min' (wa_cons (we_mono h fun x Λ1 h => wa_cons (we_mono h fun y Λ2 ⟨a, b, hx, hy, h2⟩ => wa_nil (ck_val h2 fun F B α σ H vs Q S rs q => by
    subst hx; subst hy
    obtain ⟨v, w, rfl, r1, r2⟩ := reps2 rs
    unfold Rep at r1 r2
    refine ⟨a, b, by rw [r1, r2], q _ ?_⟩
    unfold Rep
    congr 1
    split <;> omega)) he2) he) (he := he) (hes := by simp [he2])
/-! #### int(x), isinstance -/
def isiB (a b : String) : Option Bool :=
  if b = "int" then some (a == "int" || a == "bool") else if b = "bool" then some (a == "bool") else if b = "str" then some (a == "str") else if b = "list" then some (a == "list") else if b = "tuple" then some (a == "tuple") else none
end

/-! ### methods of lists -/
/-- no call of a bare name stands there -/
def plainO : Expr → Bool
  | .Call (.Name _ _) [] [] _ => false
  | _ => true
theorem base_plain {o : Expr} {x : Str} {env : PySem.Env} (h : plainO o = true) : attributeBase o x env (eval o env) = eval o env := by
  unfold attributeBase
  split
  · cases h
  · rfl
theorem few1 {e : Expr} {env : PySem.Env} {cpos : Pos} (h : plainE e = true) : ((backTo cpos (starEach [e] env)).all (fun x => !x.1) && (backToKw cpos (keywordEach [] env)).all (fun x => x.1.isSome)
      && decide ([e].length + ([] : List Keyword).length + (if ([] : List Keyword).isEmpty then 0 else 1) < 30)) = true := by
  rw [star_plain h]; rfl
section
variable {C : Ctx} {E : ER} {Γ : Env} {Λ : Cells} {P : D → Cells → Prop} {apos cpos : Pos} {o e : Expr}
theorem Sat.cellL {K : PySem.W.Frag} {F : Fm} {B : Hp} {α : List Addr} {σ : L2.St} {H : Hp} (S : Sat K F B α Γ Λ σ H) {n : Nat} {v : V} {ds : List D} (r : Rep K B α (.loc n) v) (h : Λ[n]? = some (.lst ds)) : ∃ a vs, v = .ref a ∧ α[n]? = some a ∧ B a = none ∧ H a = some (.lst vs) ∧ Reps K B α ds vs := by
  unfold Rep at r
  obtain ⟨a, rfl, h1⟩ := r
  obtain ⟨a', q1, q2, q3, vs, q4, q5⟩ := S.ce n _ h (by simp)
  rw [h1] at q1; cases q1
  exact ⟨a, vs, rfl, h1, q2, q4, q5⟩
/-- o.append(e) -/
theorem we_append (h : WE C E Γ Λ o fun x Λ1 => ∃ n ds0, x = .loc n ∧ Λ1[n]? = some (.lst ds0) ∧ WE C E Γ Λ1 e fun y Λ2 => ∃ ds, Λ2[n]? = some (.lst ds) ∧ ds.length < sizeLine ∧ P .non (Λ2.set n (.lst (ds ++ [y]))))
    (ho : plainO o = true := by rfl) (he : plainE e = true := by rfl) (hl : (apos.endLine == cpos.line) = true := by rfl) : WE C E Γ Λ (.Call (.Attribute o "append" apos) [e] [] cpos) P := fun X F W is tk => by
  refine pe_imp (pe_bm PySem.F.plainAttrs_list PySem.F.slot_list_append PySem.F.type_list_append mt_append pe_U (pa_cons pe_U pa_nil (star_plain he)) (base_plain ho) (few1 he) hl (star_plain he) rfl) fun σ H Q ⟨B, α, S, q, er⟩ => ?_
  refine WE.use h is tk S er fun x Λ1 vx B1 α1 H1 p1 S1 e1 f1 r1 => ?_
  obtain ⟨n, ds0, rfl, hn, p1⟩ := p1
  obtain ⟨a, vs, rfl, g1, g2, g3, g4⟩ := S1.cellL r1 hn
  refine ⟨.inl ⟨rfl, _, by exact SqL.of g3⟩, ?_⟩
  refine WE.use p1 is tk S1 (er.mono e1) fun y Λ2 vy B2 α2 H2 p2 S2 e2 f2 r2 => ?_
  obtain ⟨ds, hn2, hz, p⟩ := p2
  obtain ⟨a', vs2, ea, k1, k2, k3, k4⟩ := S2.cellL (Rep.mono e2 f2 _ _ r1) hn2
  cases ea
  refine ⟨a, vs2, vy, rfl, rfl, k3, by rw [k4.length]; exact hz, ?_⟩
  exact q _ _ _ B2 α2 _ p (S2.put k1 k2 ⟨vs2 ++ [vy], upd_same, k4.append (.one r2)⟩) (e1.trans e2) (f1.trans f2) (by unfold Rep; rfl)
/-- o.pop() -/
theorem we_pop (h : WE C E Γ Λ o fun x Λ1 => ∃ n ds d, x = .loc n ∧ Λ1[n]? = some (.lst ds) ∧ ds.getLast? = some d ∧ P d (Λ1.set n (.lst ds.dropLast)))
    (ho : plainO o = true := by rfl) (hl : (apos.endLine == cpos.line) = true := by rfl) : WE C E Γ Λ (.Call (.Attribute o "pop" apos) [] [] cpos) P := fun X F W is tk => by
  refine pe_imp (pe_bm0 PySem.F.plainAttrs_list PySem.F.slot_list_pop PySem.F.type_list_pop mt_pop pe_U (base_plain ho) hl) fun σ H Q ⟨B, α, S, q, er⟩ => ?_
  refine WE.use h is tk S er fun x Λ1 vx B1 α1 H1 p1 S1 e1 f1 r1 => ?_
  obtain ⟨n, ds, d, rfl, hn, hd, p⟩ := p1
  obtain ⟨a, vs, rfl, g1, g2, g3, g4⟩ := S1.cellL r1 hn
  rw [List.getLast?_eq_getElem?] at hd
  obtain ⟨v, hv, rv⟩ := g4.get hd
  refine ⟨.inl ⟨rfl, _, by exact SqL.of g3⟩, a, vs, v, rfl, rfl, g3, by rw [g4.length]; exact hv, ?_⟩
  refine q d _ v B1 α1 _ p (S1.put g1 g2 ⟨vs.dropLast, upd_same, ?_⟩) e1 f1 rv
  rw [List.dropLast_eq_take, List.dropLast_eq_take, g4.length]
  exact g4.take _
/-- o.extend(e), e a list that is seen -/
theorem we_extend (h : WE C E Γ Λ o fun x Λ1 => ∃ n ds0, x = .loc n ∧ Λ1[n]? = some (.lst ds0) ∧ WE C E Γ Λ1 e fun y Λ2 => ∃ ds zs, Λ2[n]? = some (.lst ds) ∧ vw Λ2 y = .lst zs ∧ ds.length + zs.length ≤ sizeLine ∧ P .non (Λ2.set n (.lst (ds ++ zs))))
    (ho : plainO o = true := by rfl) (he : plainE e = true := by rfl) (hl : (apos.endLine == cpos.line) = true := by rfl) : WE C E Γ Λ (.Call (.Attribute o "extend" apos) [e] [] cpos) P := fun X F W is tk => by
  refine pe_imp (pe_bm PySem.F.plainAttrs_list PySem.F.slot_list_extend PySem.F.type_list_extend mt_extend pe_U (pa_cons pe_U pa_nil (star_plain he)) (base_plain ho) (few1 he) hl (star_plain he) rfl) fun σ H Q ⟨B, α, S, q, er⟩ => ?_
  refine WE.use h is tk S er fun x Λ1 vx B1 α1 H1 p1 S1 e1 f1 r1 => ?_
  obtain ⟨n, ds0, rfl, hn, p1⟩ := p1
  obtain ⟨a, vs, rfl, g1, g2, g3, g4⟩ := S1.cellL r1 hn
  refine ⟨.inl ⟨rfl, _, by exact SqL.of g3⟩, ?_⟩
  refine WE.use p1 is tk S1 (er.mono e1) fun y Λ2 vy B2 α2 H2 p2 S2 e2 f2 r2 => ?_
  obtain ⟨ds, zs, hn2, hy, hz, p⟩ := p2
  obtain ⟨a', vs2, ea, k1, k2, k3, k4⟩ := S2.cellL (Rep.mono e2 f2 _ _ r1) hn2
  cases ea
  obtain ⟨b, ws, rfl, m1, m2⟩ := S2.lst r2 hy
  refine ⟨a, b, vs2, ws, rfl, rfl, k3, m1, by rw [k4.length, m2.length]; exact hz, ?_⟩
  exact q _ _ _ B2 α2 _ p (S2.put k1 k2 ⟨vs2 ++ ws, upd_same, k4.append m2⟩) (e1.trans e2) (f1.trans f2) (by unfold Rep; rfl)
end

/-! ### stores -/
section
variable {C : Ctx} {Γ : Env} {Λ : Cells} {R : Rs} {pos pos' : Pos} {o i e : Expr}
theorem swapped_none' {o i e : Expr} {env : PySem.Env} : swappedStores [.Subscript o i pos'] e env = pure none := by
  cases e <;> rfl
/-- xs[i] = e of an owned list -/
theorem ws_setix (h : WE C R.er Γ Λ e fun d Λ1 => WE C R.er Γ Λ1 o fun x Λ2 => WE C R.er Γ Λ2 i fun y Λ3 => ∃ n ds k j, x = .loc n ∧ y = .int k ∧ Λ3[n]? = some (.lst ds) ∧ ixN ds.length k = some j ∧ R.nx Γ (Λ3.set n (.lst (ds.set j d))))
    (hc : noComp e = true := by rfl) (ha : ∀ (env : PySem.Env) v, assign (.Subscript o i pos') env v = (do
      let ov ← holding [v] (eval o env)
      let iv ← holding [v, ov] (eval i env)
      standAt pos'
      holding [v, ov, iv] (setItem ov iv v)
      release [v, ov, iv] []) := by intro _ _; rfl) : WS C Γ Λ (.Assign [.Subscript o i pos'] e pos) R := fun X F W is hm tk => by
  refine ps_imp (ps_asg pe_U (pg_sub pe_U pe_U set_list (ha X.env)) (by unfold swapsWithSole; exact noSwap hc) swapped_none' rfl) fun Dn σ H ⟨B, α, S, q⟩ => ?_
  refine WE.use h is tk S q.er.at fun d Λ1 vd B1 α1 H1 p1 S1 e1 f1 r1 => ?_
  refine WE.use p1 is tk S1 (q.er.mono e1).at fun x Λ2 vx B2 α2 H2 p2 S2 e2 f2 r2 => ?_
  refine WE.use p2 is tk S2 (q.er.mono (e1.trans e2)).at fun y Λ3 vy B3 α3 H3 p3 S3 e3 f3 r3 => ?_
  obtain ⟨n, ds, k, j, rfl, rfl, hn, hj, p⟩ := p3
  obtain ⟨a, vs, rfl, g1, g2, g3, g4⟩ := S3.cellL (Rep.mono e3 f3 _ _ r2) hn
  unfold Rep at r3
  refine ⟨a, vs, k, j, rfl, r3, g3, by rw [g4.length]; exact hj, ?_⟩
  exact q.nx _ _ B3 α3 σ _ p (S3.put g1 g2 ⟨vs.set j vd, upd_same, g4.set (Rep.mono (e2.trans e3) (f2.trans f3) _ _ r1)⟩) ((e1.trans e2).trans e3)
/-- a list that was owned is seen from now on -/
theorem wss_freeze {st : List Stmt} (n : Nat) (ds : List D) (hm0 : C.m ≤ n) (hn : Λ[n]? = some (.lst ds)) (Γ' : Env) (hl : Γ'.length = Γ.length) (hΓ : ∀ (i : Nat) (d : D), Γ'[i]? = some (some d) → Γ[i]? = some (some d) ∨ (Γ[i]? = some (some (.loc n)) ∧ d = .lst ds)) (h : WSs C Γ' (Λ.set n .gone) st R) : WSs C Γ Λ st R := fun X F W is hm tk => by
  refine pss_imp pss_U fun Dn σ H ⟨B, α, S, q⟩ => ?_
  obtain ⟨a, q1, q2, q3, vs, q4, q5⟩ := S.ce n _ hn (by simp)
  have h0 : F.H0 a = none := by
    rcases q3 with z | z
    · exact z
    · exfalso
      obtain ⟨i, hi⟩ := List.getElem?_of_mem z
      have hi' := pre_get S.pf hi
      have : i = n := (List.getElem?_inj (List.getElem?_eq_some_iff.mp hi').1 S.nd).mp (hi'.trans q1.symm)
      have := (List.getElem?_eq_some_iff.mp hi).1
      omega
  have hx : Ex B (upd B a (.lst vs)) := Ex.new q2
  have nl : n < Λ.length := (List.getElem?_eq_some_iff.mp hn).1
  refine WSs.use h is hm tk (B := upd B a (.lst vs)) (α := α) ⟨S.bb.trans hx, fun b u hb => ?_, fun b u hb => ?_, S.kp, S.dm, S.pf, S.nd, by simp [S.al], fun m c hc hg => ?_, S.ah, fun i d hi => ?_, by rw [hl]; exact S.ln, S.tb.see fun _ q => nomatch q⟩ (q.mono hx)
  · by_cases e : b = a
    · subst e; rw [upd_same] at hb; rw [← hb]; exact q4
    · rw [upd_ne e] at hb; exact S.bh b u hb
  · by_cases e : b = a
    · subst e; exact .inr h0
    · rw [upd_ne e] at hb; exact S.fr b u hb
  · by_cases e : n = m
    · subst e
      rw [List.getElem?_set_self nl] at hc
      cases hc
      exact absurd rfl hg
    · rw [List.getElem?_set_ne e] at hc
      obtain ⟨b, k1, k2, k3, k4⟩ := S.ce m c hc hg
      have hba : b ≠ a := fun z => by
        subst z
        exact e ((List.getElem?_inj (by rw [S.al]; exact nl) S.nd).mp (q1.trans k1.symm))
      exact ⟨b, k1, by rw [upd_ne hba]; exact k2, k3, k4.mono hx (List.prefix_refl _) fun u z _ => z⟩
  · rcases hΓ i d hi with z | ⟨z, rfl⟩
    · obtain ⟨v, k1, k2⟩ := S.sl i d z
      exact ⟨v, k1, k2.mono hx (List.prefix_refl _)⟩
    · obtain ⟨v, k1, k2⟩ := S.sl i _ z
      unfold Rep at k2
      obtain ⟨a', rfl, k3⟩ := k2
      rw [q1] at k3; cases k3
      exact ⟨_, k1, by unfold Rep; exact ⟨a, vs, rfl, upd_same, q5.mono hx (List.prefix_refl _)⟩⟩
end
end Pl

namespace Pl
open PySem L2 PyProof.Rows

/-! ### the program's top -/
/-- a def of the module stands where its name says -/
structure DefAt (K : PySem.W.Frag) (mg : Str → Option Value) (x : Str) (st : Stmt) (ps : List Str) (q : Str := x) : Prop where
  ex : ∃ f fd, Fun K q q st f fd ∧ mg x = some (.ref f) ∧ ∀ us : List Value, us.length = ps.length → bindArgs fd ⟨us, []⟩ = pure (ps.zip us)
theorem defAt_mk {K : PySem.W.Frag} {mg : Str → Option Value} {h : Heap} {x : Str} {st : Stmt} {ps : List Str} {f : Addr} {oc : Value} {od an : Option Addr} {osl : Array (Option Value)} {kV doc pm cdv ct : Value} (X : K.In h) (G : h.Ns mainGlobals mg)
    (hb : ∀ (kV doc pm : Value) (an : Option Addr) (cdv ct : Value) (us : List Value), us.length = ps.length → bindArgs (PySem.W.fnOf x x (defArgs st) (defBody st) (defScope st) .none kV doc pm an cdv ct) ⟨us, []⟩ = pure (ps.zip us))
    (a : PySem.W.nsIn K mainGlobals x = some (some (.ref f))) (l : K.lookup f = some ⟨oc, od, .func (PySem.W.fnOf x x (defArgs st) (defBody st) (defScope st) .none kV doc pm an cdv ct), osl⟩) (c : PySem.W.codeIn K cdv x = true) (k : PySem.W.keepIn K (.ref f) = true) :
    DefAt K mg x st ps := ⟨f, _, fun_mk l c k, PySem.W.mg_of X G a, fun us hl => hb kV doc pm an cdv ct us hl⟩
/-- a def of the module, by its body: the rule for a place of the text -/
theorem DefAt.fn {P : Program} {w : World} {K : PySem.W.Frag} {mg : Str → Option Value} {base : Heap} {x q : Str} {st : Stmt} {ps : List Str} (h : DefAt K mg x st ps q) {k : Nat} {S : Spec}
    (H : ∀ (f : Addr) (fd : FuncData), Fun K q q st f fd → FnG P w K mg base (L2.CX P w) k f fd ps (spOf K ps.length S)) : Fn P w K mg base k x ps.length S := by
  obtain ⟨f, fd, h1, h2, h3⟩ := h.ex
  exact fn_mk (H f fd h1) h2 h1.kp (.all h3)

/-- what a law asks: True for every script -/
def lawSpec (n : Nat) : Spec := fun ds Λ Q _ => ∃ ns : List Int, ns.length ≤ n ∧ ds = [.fzl (ns.map .int)] ∧ Λ = [] ∧ Q (.val (.bl true)) []
theorem reps_ints {K : PySem.W.Frag} {B : Hp} {α : List Addr} : ∀ ns : List Int, Reps K B α (ns.map D.int) (ns.map V.int)
  | [] => .nil
  | n :: ns => .cons (by unfold Rep; rfl) (reps_ints ns)
/-- the heap without the tables -/
def noT (H : Hp) : Hp := fun a => match H a with
  | some (.tbl _) => none
  | x => x
theorem noT_ne {H : Hp} {a : Addr} {o : HO} (h : H a = some o) (n : NoTbl o) : noT H a = some o := by
  unfold noT
  rw [h]
  cases o <;> first | rfl | exact absurd rfl (n _)
theorem noT_ex {H : Hp} : Ex (noT H) H := fun a o h => by
  unfold noT at h
  cases e : H a with
  | none => rw [e] at h; cases h
  | some u => rw [e] at h; cases u <;> first | exact h | (cases h; done)
theorem noT_tbl {H : Hp} (a : Addr) (ps : Array Value) : noT H a ≠ some (.tbl ps) := fun h => by
  unfold noT at h
  cases e : H a with
  | none => rw [e] at h; cases h
  | some u => rw [e] at h; cases u <;> cases h
theorem noT_sq {K : PySem.W.Frag} {H : Hp} {a : Addr} {xs : List V} (h : SqL K H a xs) : SqL K (noT H) a xs := by
  rcases h with (h | ⟨o, h⟩) | h
  · exact .inl (.inl (noT_ne h fun _ q => nomatch q))
  · exact .inl (.inr ⟨o, noT_ne h fun _ q => nomatch q⟩)
  · exact .inr h
theorem law_sp {K : PySem.W.Frag} {H : Hp} {a : Addr} {ns : List Int} {n : Nat} (h : ns.length ≤ n) (hS : SqL K H a (ns.map V.int)) (hT : LamX.Tabs Tbl.T H) : spOf K 1 (lawSpec n) [.ref a] H (fun v _ => v = V.bl true) fun _ _ _ => False := by
  refine ⟨⟨H, noT H, []⟩, [.fzl (ns.map .int)], [], rfl, rfl, ?_, ?_, ns, h, rfl, rfl, fun v H' B' α' S r => ?_⟩
  · exact ⟨Ex.refl _, noT_ex, fun a o h => .inl h, fun a o h _ _ => h, fun a h => h, List.prefix_refl _, List.nodup_nil, rfl, fun n c h => by simp at h, fun a h => by simp at h, fun i d h => by simp at h, rfl, hT, fun p hp => by
      obtain ⟨ps, e, _⟩ := hT p hp
      show H p.1 ≠ none
      rw [e]; simp, noT_tbl, fun a h => by simp at h⟩
  · refine .one ?_
    unfold Rep
    exact ⟨a, _, rfl, noT_sq hS, reps_ints ns⟩
  · unfold ResAt Rep at r
    exact r
theorem law_end {l : PySem.W.OpenLaw} {n k : Nat} {q : Program} {loose : List Str} {XP : (Str → Option Value) → Heap → Prop} {YP : World → Heap → Prop} {d : DefRec} {K : Params → PySem.W.Frag} {st : Stmt} {x : Str}
    (hn : l.most = some n) (hn2 : n ≤ sizeLine) (hdf : d.params.defaults = []) (hr : RoomG k callerA) (hT0 : Tbl.T = [])
    (hY : ∀ (w : World) (h : Heap), YP w h → (K w.params).In h)
    (F : ∀ (w : World) (mg : Str → Option Value) (h : Heap), (K w.params).In h → h.Ns mainGlobals mg → DefAt (K w.params) mg d.name st [x] ∧ ∀ base : Heap, (K w.params).In base → base.Ns mainGlobals mg →
      ∀ (f : Addr) (fd : FuncData), Fun (K w.params) d.name d.name st f fd → FnG l.prog w (K w.params) mg base (L2.CX l.prog w) k f fd [x] (spOf (K w.params) 1 (lawSpec n))) :
    PySem.W.WalkO q loose XP YP l.row.toRowW d [] (fun f vs => PySem.call f vs) := by
  refine L2.walk_ofG (n := n) (k := k) (x := x) (CX := fun w => L2.CX l.prog w) (sp := fun w => spOf (K w.params) 1 (lawSpec n)) hn hn2 hdf hr hY (fun w mg fa h KX G hfa => ?_) (fun w H a ns hl _ hS => law_sp hl hS fun p hp => by rw [hT0] at hp; cases hp) fun w H s e s' z => ?_
  · obtain ⟨D, B⟩ := F w mg h KX G
    obtain ⟨f, fd, h1, h2, h3⟩ := D.ex
    rw [hfa] at h2
    cases h2
    exact ⟨fd, fun s u => .of_eq (h3 [u] rfl), fun base KB GB => B base KB GB _ fd h1⟩
  · obtain ⟨_, _, _, _, _, _, _, _, _, _, _, _, z⟩ := z
    exact z.elim

/-! ### deciders of a context's lists -/
def goodC (N : List Str) (sc : Scope) (vs ls : List Bool) (gl : List Str) : Bool :=
  decide N.Nodup && ((List.range N.length).all fun i => match N[i]? with
    | none => true
    | some x => (vs[i]? != some true || (sc.names.lookup x == some .local || sc.names.lookup x == some .cell || sc.names.lookup x == some .free)) && (ls[i]? != some true || (sc.names.lookup x == some .local || sc.names.lookup x == some .cell)))
  && gl.all fun x => sc.names.lookup x == some .globalImplicit
theorem good_by {C : Ctx} (h : goodC C.N C.sc C.vs C.ls C.gl = true) : C.Good := by
  unfold goodC at h
  simp only [Bool.and_eq_true, List.all_eq_true, decide_eq_true_eq] at h
  obtain ⟨⟨h1, h2⟩, h3⟩ := h
  have at_ : ∀ (i : Nat) (x : Str), C.N[i]? = some x → ((C.vs[i]? != some true || (C.sc.names.lookup x == some .local || C.sc.names.lookup x == some .cell || C.sc.names.lookup x == some .free)) && (C.ls[i]? != some true || (C.sc.names.lookup x == some .local || C.sc.names.lookup x == some .cell))) = true := fun i x hi => by
    have := h2 i (List.mem_range.mpr (List.getElem?_eq_some_iff.mp hi).1)
    rw [hi] at this
    simpa using this
  refine ⟨h1, fun i x hi hv => ?_, fun i x hi hv => ?_, fun j x hj => ?_⟩
  · have := at_ i x hi
    rw [hv] at this
    simp only [Bool.and_eq_true, Bool.or_eq_true, bne_self_eq_false, Bool.false_eq_true, false_or, beq_iff_eq] at this
    rcases this.1 with (z | z) | z
    · exact .inl z
    · exact .inr (.inl z)
    · exact .inr (.inr z)
  · have := at_ i x hi
    rw [hv] at this
    simp only [Bool.and_eq_true, Bool.or_eq_true, bne_self_eq_false, Bool.false_eq_true, false_or, beq_iff_eq] at this
    rcases this.2 with z | z
    · exact .inl z
    · exact .inr z
  · have := h3 x (List.mem_of_getElem? hj)
    exact beq_iff_eq.mp this
def stoC (N : List Str) (scope : Scope) (ls : List Bool) : Bool :=
  (List.range N.length).all fun i => match N[i]? with
    | none => true
    | some x => ls[i]? != some true || (scope.names.lookup x == some .local || scope.names.lookup x == some .cell)
theorem sto_by {N : List Str} {scope : Scope} {ls : List Bool} (h : stoC N scope ls = true) (i : Nat) (x : Str) (hi : N[i]? = some x) (hl : ls[i]? = some true) : scope.names.lookup x = some .local ∨ scope.names.lookup x = some .cell := by
  unfold stoC at h
  rw [List.all_eq_true] at h
  have := h i (List.mem_range.mpr (List.getElem?_eq_some_iff.mp hi).1)
  rw [hi] at this
  simp only [hl] at this
  simp only [Bool.or_eq_true, bne_self_eq_false, Bool.false_eq_true, false_or, beq_iff_eq] at this
  exact this
/-- what stands fast while a law is walked -/
structure Gl where
  P : Program
  w : World
  K : PySem.W.Frag
  mg : Str → Option Value
  base : Heap
@[reducible] def Gl.cx (G : Gl) (N : List Str) (sc : Scope) (vs ls : List Bool) (gl : List Str) (k : Nat) (m : Nat := 0) (cd : Option (Str × Addr) := none) : Ctx := ⟨G.P, G.w, G.K, G.mg, G.base, N, sc, vs, ls, gl, k, m, true, cd, false⟩
instance {G : Gl} {N : List Str} {sc : Scope} {vs ls : List Bool} {gl : List Str} {k m : Nat} {cd : Option (Str × Addr)} : Cool (G.cx N sc vs ls gl k m cd) := ⟨rfl⟩
abbrev Gl.fn (G : Gl) (k : Nat) (x : Str) (n : Nat) (S : Spec) : Prop := Fn G.P G.w G.K G.mg G.base k x n S
end Pl

/-! Pl8t: the end of a law whose defs make lambdas. -/
namespace L2
open PySem PySem.Spec PyProof.Rows LamX
end L2
namespace Pl
open PySem L2 PyProof.Rows
end Pl

namespace Pl
open PySem L2 PyProof.Rows

/-! ### steps over data, for the driver -/
section
variable {Λ : Cells} {P : D → Prop} {Pb : Bool → Prop} {i j : Int} {s t : Str} {c d : Bool}
theorem ixP_seq {x : D} {ds : List D} {e : D} (hs : seqD Λ x = some ds) (he : atI ds i = some e) (h : P e) : ixP Λ x (.int i) P := by
  unfold ixP
  split
  · rename_i i' heq
    cases heq
    split
    · simp only [seqD, vw] at hs; cases hs
    · exact ⟨ds, hs, e, he, h⟩
  · rename_i hne; exact absurd rfl (hne i)
theorem ixP_str {k : Nat} (hl : s.length ≤ sizeLine) (he : atI s.cps.toList i = some k) (h : P (.str ⟨#[k]⟩)) : ixP Λ (.str s) (.int i) P := ⟨hl, k, he, h⟩
theorem lenP_seq {x : D} {ds : List D} {Pi : Int → Prop} (hs : seqD Λ x = some ds) (h : Pi ds.length) : lenP Λ x Pi := by
  unfold lenP
  split
  · simp only [seqD, vw] at hs; cases hs
  · exact ⟨ds, hs, h⟩
theorem lenP_str {Pi : Int → Prop} (hl : s.length ≤ sizeLine) (h : Pi s.length) : lenP Λ (.str s) Pi := ⟨hl, h⟩
end

/-! ### comprehensions and loops over mapped items -/
section
variable {C : Ctx} {Γ : Env} {Λ : Cells} {tg elt : Expr} {ws : List Nat} {P : List D → Prop} {β : Type}
theorem wg_mono {d : D} {P P' : Env → Prop} (h : WG C Γ Λ tg d ws P) (i : ∀ Γ', P Γ' → P' Γ') : WG C Γ Λ tg d ws P' := fun X F is =>
  pg_imp (h X F is) fun v σ H Q ⟨B, α, S, r, q⟩ => ⟨B, α, S, r, fun Γ' σ' p' S' ag => q Γ' σ' (i Γ' p') S' ag⟩
end
/-- no call can be asked for -/
theorem DefAt.none {G : Gl} {x : Str} {st : Stmt} {ps : List Str} {qn : Str} (h : DefAt G.K G.mg x st ps qn) {k : Nat} {S : Spec} (hS : ∀ ds Λ Q E, ¬ S ds Λ Q E) : G.fn k x ps.length S :=
  h.fn fun f fd F => ⟨fun vs H Q E ⟨_, _, _, _, _, _, _, z⟩ => absurd z (hS _ _ _ _), fun A outer s H args us vs Q E _ _ _ _ ⟨_, _, _, _, _, _, _, z⟩ => absurd z (hS _ _ _ _)⟩
end Pl

/-! max(xs, default=d) -/
namespace Mxd
open PySem PyProof.Rows
section
variable {prog : Program} {w : World} {A : Around} {R : Result → Shared → Prop} {it : Addr} {fp wr : List Addr} {n : Nat} {P : Nat → Value → Prop} {St : Nat → Heap → Prop} {dk : List (Str × Value)}
theorem hnm : (toString "max" ++ toString ".loop" : String) = "max.loop" := by decide
theorem turns (W : Walks prog w A.in1 it fp wr n P St) (bt : Nat → Nat → Bool) (cmp : CmpOf prog w A.in1 .Gt P bt) (b : Addr) (nb : b ∉ fp) : ∀ (k j : Nat) (s : Shared) (u : Value) (c : Nat), n - (j + 1) = k → j + 1 ≤ n → St (j + 1) s.heap → P (argBest bt j) u →
    s.heap.get? b = some { cls := .type "list", dict := none, data := .seq #[u, u] c, slots := #[] } →
    (∀ v h' tk, P (argBest bt (n - 1)) v → (∀ a o, a ∉ wr → a ≠ b → s.heap.get? a = some o → h'.get? a = some o) → R (.ok (.ret v)) { s with heap := h', toks := tk }) → codeAny (model prog w) A (.builtin "max.loop" ⟨[.ref it, .none, .ref b], dk⟩) R s := by
  have nbw : b ∉ wr := fun h => nb (W.sub _ h)
  intro k
  induction k with
  | zero =>
    intro j s u c e hj st pu hb q
    have ej : j + 1 = n := by omega
    refine codeAny_builtin F.entry_max_loop ?_
    rw [Around.under_plainId F.plain_max_loop _]
    show wpAny _ A.in1 (seqItems? (.ref b) >>= fun _ => _) _ _ s
    refine wpAny_bind (wpAny_seqItems hb rfl ?_)
    show wpAny _ A.in1 (tryCatch (pyNext (.ref it)) _ >>= fun _ => _) _ _ s
    refine wpAny_bind (wpAny_tryCatch (W.done s _ _ (ej ▸ st) fun h1 tk k1 => ?_))
    have hb1 := k1 b _ nbw hb
    show wpAny _ A.in1 (updateSeq b (fun _ => #[]) >>= fun _ => _) _ _ _
    refine wpAny_bind ?_
    refine wpAny_updateSeq hb1 rfl (wpAny_bind (wpAny_letGo (wpAny_pure ?_)))
    exact q u _ tk (by rw [← ej]; exact pu) fun a o ha hab e => (Heap.get?_update_other _ _ (Ne.symm hab)).trans (k1 a o ha e)
  | succ k ih =>
    intro j s u c e hj st pu hb q
    have lt : j + 1 < n := by omega
    refine codeAny_builtin F.entry_max_loop ?_
    rw [Around.under_plainId F.plain_max_loop _]
    show wpAny _ A.in1 (seqItems? (.ref b) >>= fun _ => _) _ _ s
    refine wpAny_bind (wpAny_seqItems hb rfl ?_)
    show wpAny _ A.in1 (tryCatch (pyNext (.ref it)) _ >>= fun _ => _) _ _ s
    refine wpAny_bind (wpAny_tryCatch (W.item (j + 1) s _ _ lt st fun v h1 tk pv st1 k1 => ?_))
    have hb1 := k1 b _ nbw hb
    show wpAny _ A.in1 (tryCatch (holding [v, v] (richCompare .Gt v u >>= fun _ => _)) _ >>= fun _ => _) _ _ _
    refine wpAny_bind (wpAny_tryCatch (wpAny_holding (wpAny_bind (cmp (j + 1) (argBest bt j) v u _ _ _ pv pu ?_))))
    refine wpAny_bind (wpAny_holding (wpAny_truthy_bool ?_))
    refine wpAny_bind (wpAny_letGo (wpAny_pure ?_))
    cases hc : bt (j + 1) (argBest bt j) with
    | true =>
      simp only [if_true]
      refine wpAny_bind ?_
      refine wpAny_updateSeq hb1 rfl (wpAny_bind (wpAny_letGo ?_))
      rw [hnm]
      refine wpAny_pure ⟨plainId_quiet F.plain_max_loop _, ih (j + 1) _ v _ (by omega) lt (W.frame _ _ _ st1 fun a ha o e => ?_) (by simp only [argBest, hc, if_true]; exact pv) (Heap.get?_update_self _ hb1 rfl) fun z h2 tk2 pz k2 => ?_⟩
      · exact (Heap.get?_update_other _ _ (fun h : b = a => nb (by rw [h]; exact ha))).trans e
      · exact q z h2 tk2 pz fun a o ha hab e => k2 a o ha hab ((Heap.get?_update_other _ _ (Ne.symm hab)).trans (k1 a o ha e))
    | false =>
      simp only [Bool.false_eq_true, if_false]
      refine wpAny_bind (wpAny_letGo ?_)
      rw [hnm]
      refine wpAny_pure ⟨plainId_quiet F.plain_max_loop _, ih (j + 1) _ u c (by omega) lt st1 (by simp only [argBest, hc, Bool.false_eq_true, if_false]; exact pu) hb1 fun z h2 tk2 pz k2 => ?_⟩
      exact q z h2 tk2 pz fun a o ha hab e => k2 a o ha hab (k1 a o ha e)
theorem first (W : Walks prog w A.in1 it fp wr n P St) (bt : Nat → Nat → Bool) (cmp : CmpOf prog w A.in1 .Gt P bt) (b : Addr) (nb : b ∉ fp) (h0 : 0 < n) {s : Shared} {c : Nat} (st : St 0 s.heap)
    (hb : s.heap.get? b = some { cls := .type "list", dict := none, data := .seq #[] c, slots := #[] })
    (q : ∀ v h' tk, P (argBest bt (n - 1)) v → (∀ a o, a ∉ wr → a ≠ b → s.heap.get? a = some o → h'.get? a = some o) → R (.ok (.ret v)) { s with heap := h', toks := tk }) : codeAny (model prog w) A (.builtin "max.loop" ⟨[.ref it, .none, .ref b], dk⟩) R s := by
  have nbw : b ∉ wr := fun h => nb (W.sub _ h)
  refine codeAny_builtin F.entry_max_loop ?_
  rw [Around.under_plainId F.plain_max_loop _]
  show wpAny _ A.in1 (seqItems? (.ref b) >>= fun _ => _) _ _ s
  refine wpAny_bind (wpAny_seqItems hb rfl ?_)
  show wpAny _ A.in1 (tryCatch (pyNext (.ref it)) _ >>= fun _ => _) _ _ s
  refine wpAny_bind (wpAny_tryCatch (W.item 0 s _ _ h0 st fun v h1 tk pv st1 k1 => ?_))
  have hb1 := k1 b _ nbw hb
  show wpAny _ A.in1 (updateSeq b (fun _ => #[v, v]) >>= fun _ => _) _ _ _
  refine wpAny_bind ?_
  refine wpAny_updateSeq hb1 rfl ?_
  rw [hnm]
  refine wpAny_pure ⟨plainId_quiet F.plain_max_loop _, turns W bt cmp b nb _ 0 _ v _ rfl h0 (W.frame _ _ _ st1 fun a ha o e => ?_) pv (Heap.get?_update_self _ hb1 rfl) fun z h2 tk2 pz k2 => ?_⟩
  · exact (Heap.get?_update_other _ _ (fun h : b = a => nb (by rw [h]; exact ha))).trans e
  · exact q z h2 tk2 pz fun a o ha hab e => k2 a o ha hab ((Heap.get?_update_other _ _ (Ne.symm hab)).trans (k1 a o ha e))
theorem dflt (W : Walks prog w A.in1 it fp wr 0 P St) (b : Addr) (nb : b ∉ fp) {s : Shared} {c : Nat} (st : St 0 s.heap) {d : Value} {kn : Str}
    (hb : s.heap.get? b = some { cls := .type "list", dict := none, data := .seq #[] c, slots := #[] })
    (q : ∀ h' tk, (∀ a o, a ∉ wr → a ≠ b → s.heap.get? a = some o → h'.get? a = some o) → R (.ok (.ret d)) { s with heap := h', toks := tk }) : codeAny (model prog w) A (.builtin "max.loop" ⟨[.ref it, .none, .ref b], [(kn, d)]⟩) R s := by
  refine codeAny_builtin F.entry_max_loop ?_
  rw [Around.under_plainId F.plain_max_loop _]
  show wpAny _ A.in1 (seqItems? (.ref b) >>= fun _ => _) _ _ s
  refine wpAny_bind (wpAny_seqItems hb rfl ?_)
  show wpAny _ A.in1 (tryCatch (pyNext (.ref it)) _ >>= fun _ => _) _ _ s
  refine wpAny_bind (wpAny_tryCatch (W.done s _ _ st fun h1 tk k1 => ?_))
  show wpAny _ A.in1 (rule _ >>= fun _ => _) _ _ _
  refine wpAny_bind (wpAny_rule (wpAny_pure ?_))
  exact q h1 tk fun a o ha _ e => k1 a o ha e
end
section
variable {prog : Program} {w : World} {A : Around} {E : Value → Shared → Prop} {s : Shared}
theorem ak (a d : Value) : argsOk "max" ⟨[a], [(Str.ofString "default", d)]⟩ := by unfold argsOk; kernel_rfl
theorem bk (d : Value) : Builtin.Builtins.bindParams "max" ["key", "default"] 0 ⟨[], [(Str.ofString "default", d)]⟩ = pure [none, some d] := by first | rfl | kernel_rfl
end
end Mxd
namespace Mxd
open PySem PyProof.Rows
section
variable {prog : Program} {w : World} {A : Around} {E : Value → Shared → Prop} {s : Shared}
theorem call_again_kw {id : String} {b : Builtin} {us : List Value} {kw : List (Str × Value)} {Q : Value → Shared → Prop} (hk : builtinKind id = none) (hp : plainId id = true) (hb : entryFor table id = some b) (ha : argsOk id ⟨us, kw⟩)
    (h : wpAny (model prog w) A.in1 (b ⟨us, kw⟩) (fun fin s' => ∃ c', fin = .again c' ∧ c'.quiet = true ∧ codeAny (model prog w) A c' (fun r s' => match r with | .ok (.ret v) => Q v s' | .ok _ => False | .error e => E e s') s') E s) : wpAny (model prog w) A (call (.builtin id) us kw) Q E s := by
  refine wpAny_call (codeAny_call_builtin hp hb ?_)
  have fin := wpAny_mono h (Q' := fun fin s' => match fin with
      | .done f => (match (Except.ok f : Result) with | .ok (.ret v) => Q v s' | .ok _ => False | .error e => E e s')
      | .again c' => c'.quiet = true ∧ codeAny (model prog w) A c' (fun r s' => match r with | .ok (.ret v) => Q v s' | .ok _ => False | .error e => E e s') s')
    (fun fin s' ⟨c', e, h1, h2⟩ => by subst e; exact ⟨h1, h2⟩) fun _ _ z => z
  simp only [checkBuiltinCall, hk]
  cases sg : Manifest.signature? id with
  | none => exact wpAny_pure fin
  | some sig =>
    have ha2 : Bind.checkArgs id sig ⟨us, kw⟩ = pure () := by simpa only [argsOk, sg] using ha
    simp only [ha2]
    exact wpAny_pure fin
theorem call_walk {x d : Value} {Q : Value → Shared → Prop}
    (h : wpAny (model prog w) A.in1 (pyIter x) (fun i s₂ => ∃ it fp wr n P St bt, i = .ref it ∧ Walks prog w A.in1 it fp wr n P St ∧ St 0 s₂.heap ∧ (∀ b ∈ fp, b < s₂.heap.objs.size) ∧ CmpOf prog w A.in1 .Gt P bt ∧
      (0 < n → ∀ v h' tk, P (argBest bt (n - 1)) v → (∀ b o, b ∉ wr → s₂.heap.get? b = some o → h'.get? b = some o) → Q v { s₂ with heap := h', toks := tk }) ∧
      (n = 0 → ∀ h' tk, (∀ b o, b ∉ wr → s₂.heap.get? b = some o → h'.get? b = some o) → Q d { s₂ with heap := h', toks := tk })) E s) :
    wpAny (model prog w) A (call (.builtin "max") [x] [(Str.ofString "default", d)]) Q E s := by
  refine call_again_kw F.kind_max F.plain_max F.entry_max (ak _ _) ?_
  show wpAny _ A.in1 (Builtin.Builtins.bindParams "max" ["key", "default"] 0 ⟨[], [(Str.ofString "default", d)]⟩ >>= fun _ => _) _ _ s
  refine wpAny_bind (wpAny_of_eq (bk d) ?_)
  refine wpAny_bind (wpAny_pure ?_)
  refine wpAny_bind (wpAny_mono h (fun i s₂ h₂ => ?_) fun _ _ e => e)
  obtain ⟨it, fp, wr, n, P, St, bt, rfl, W, st, hfp, cmp, q1, q0⟩ := h₂
  refine wpAny_bind (wpAny_newObj_type ?_)
  have nb : s₂.heap.objs.size ∉ fp := fun hm => Nat.lt_irrefl _ (hfp _ hm)
  rw [hnm]
  have st' : St 0 (s₂.heap.push { cls := .type "list", data := .seq #[] }) := W.frame _ _ _ st fun b _ o e => Heap.get?_push_of_some _ e
  have keep : ∀ {h' : Heap}, (∀ a o, a ∉ wr → a ≠ s₂.heap.objs.size → (s₂.heap.push { cls := .type "list", data := .seq #[] }).get? a = some o → h'.get? a = some o) → ∀ b o, b ∉ wr → s₂.heap.get? b = some o → h'.get? b = some o :=
    fun {h'} k b o hbw e => k b o hbw (Nat.ne_of_lt (Heap.lt_size e)) (Heap.get?_push_of_some _ e)
  refine wpAny_pure ⟨_, rfl, plainId_quiet F.plain_max_loop _, ?_⟩
  rcases Nat.eq_zero_or_pos n with z | z
  · subst z
    exact dflt W s₂.heap.objs.size nb st' (Heap.get?_push_size _ rfl) fun h' tk k => q0 rfl h' tk (keep k)
  · exact first W bt cmp s₂.heap.objs.size nb z st' (Heap.get?_push_size _ rfl) fun v h' tk hP k => q1 z v h' tk hP (keep k)
end
end Mxd

namespace Pl
open PySem L2 PyProof.Rows
theorem maxd_raw {prog : Program} {w : World} {A : Around} {E : Value → Shared → Prop} {s : Shared} {l : Addr} {its : List Value} {ns : List Int} {d : Value} {Q : Value → Shared → Prop} (hh : A.handled = none) (hl : s.heap.IsList l its.toArray) (hi : IntsAre its ns)
    (h1 : ∀ h' tk M t', (∀ b o, s.heap.get? b = some o → h'.get? b = some o) → M ∈ ns → (∀ a, a ∈ ns → a ≤ M) → Q (.int M t') { s with heap := h', toks := tk })
    (h0 : ns = [] → ∀ h' tk, (∀ b o, s.heap.get? b = some o → h'.get? b = some o) → Q d { s with heap := h', toks := tk }) : wpAny (model prog w) A (call (.builtin "max") [.ref l] [(Str.ofString "default", d)]) Q E s := by
  obtain ⟨xs, e⟩ := hi.allInts.items
  have hn : numsOf (intItems xs).toList = ns := by rw [← e]; exact hi.numsOf
  rw [nums_intItems] at hn
  subst hn
  rw [e] at hl
  refine Mxd.call_walk (iter_intList hl fun s₂ e st hfp hlI => ?_)
  subst e
  refine ⟨_, _, _, _, _, _, _, rfl, Walks.list (A := A.in1) hh _ l hlI (intItems xs), st, hfp, CmpOf.ints_gt (numAt xs) (fun _ _ => intItems_at), fun h0 v h' tk hP hk => ?_, fun hz h' tk hk => ?_⟩
  · have hsz : 0 < xs.size := by simpa [intItems] using h0
    have hv : (intItems xs)[argBest (fun i j => decide (numAt xs i > numAt xs j)) (xs.size - 1)]? = some v := by simpa [intItems] using hP
    obtain ⟨t, rfl⟩ := intItems_at hv
    obtain ⟨g1, g2⟩ := argBest_gt (numAt xs) (xs.size - 1)
    refine h1 h' tk _ t (old_kept hk) ?_ fun a ha => ?_
    · rw [numAt_eq]; exact PySem.getD_mem (by rw [List.length_map, Array.length_toList]; omega)
    · obtain ⟨j, hj, rfl⟩ := mem_getD ha
      rw [List.length_map, Array.length_toList] at hj
      rw [← numAt_eq]; exact g2 j (by omega)
  · refine h0 ?_ h' tk (old_kept hk)
    have : xs.size = 0 := by simpa [intItems] using hz
    have : xs = #[] := Array.eq_empty_of_size_eq_zero this
    subst this
    rfl
/-- the greatest, or what is told for none -/
def mxd (i : Int) : List Int → Int
  | [] => i
  | n :: ns => ns.foldl max n
theorem foldl_max (ns : List Int) : ∀ n : Int, (ns.foldl max n = n ∨ ns.foldl max n ∈ ns) ∧ n ≤ ns.foldl max n ∧ ∀ y ∈ ns, y ≤ ns.foldl max n := by
  induction ns with
  | nil => exact fun n => ⟨.inl rfl, Int.le_refl _, fun y h => nomatch h⟩
  | cons a ns ih =>
    intro n
    rw [List.foldl_cons]
    obtain ⟨h1, h2, h3⟩ := ih (max n a)
    refine ⟨?_, by omega, fun y hy => ?_⟩
    · rcases h1 with z | z
      · by_cases hna : n ≤ a
        · right; rw [z, Int.max_eq_right hna]; exact List.mem_cons_self
        · left; rw [z, Int.max_eq_left (by omega)]
      · exact .inr (List.mem_cons_of_mem _ z)
    · rcases List.mem_cons.mp hy with rfl | hy
      · omega
      · exact h3 y hy
theorem mxd_is {i m : Int} {ns : List Int} (h1 : m ∈ ns) (h2 : ∀ y ∈ ns, y ≤ m) : mxd i ns = m := by
  cases ns with
  | nil => cases h1
  | cons n ns =>
    obtain ⟨g1, g2, g3⟩ := foldl_max ns n
    show ns.foldl max n = m
    have a1 : m ≤ ns.foldl max n := by
      rcases List.mem_cons.mp h1 with rfl | h
      · exact g2
      · exact g3 m h
    have a2 : ns.foldl max n ≤ m := by
      rcases g1 with z | z
      · rw [z]; exact h2 n List.mem_cons_self
      · exact h2 _ (List.mem_cons_of_mem _ z)
    omega
def rMaxd (K : PySem.W.Frag) : List V → List V → Hp → VK → Prop := fun vs zs H Q => ∃ (a : Addr) (ns : List Int) (i : Int), vs = [V.ref a] ∧ zs = [.int i] ∧ SqL K H a (ns.map V.int) ∧ Q (.int (mxd i ns)) H
theorem cr_maxd {X : Cx} (hc : X.calm = true) : CallRK X (.builtin "max") [Str.ofString "default"] (rMaxd X.K) := by
  intro pins s σ H vs zs us ws Q I r rz h
  obtain ⟨a, ns, i, rfl, rfl, hs, q⟩ := h
  obtain ⟨its, rv, hl, _⟩ := I.list hs
  rw [Vals.ref1 r]
  obtain ⟨w1, rfl, t, e1⟩ := vals1 rz
  subst e1
  refine maxd_raw (I.ok.hd hc) hl.isList rv.ints (fun h' tk m t' hk h1 h2 => ⟨.int m, H, I.kept hk, ⟨_, rfl⟩, ?_⟩) fun e h' tk hk => ⟨.int i, H, I.kept hk, ⟨_, rfl⟩, ?_⟩
  · rw [mxd_is h1 h2] at q; exact q
  · subst e; exact q
section
variable {C : Ctx} {E : ER} {Γ : Env} {Λ : Cells} {P : D → Cells → Prop} {pos p : Pos} {e : Expr}
/-- max(xs, default=i) -/
theorem we_maxd [Cool C] {i : Int} {j : Nat} {p1 p2 : Pos} (hj : GlAt C "max") (hm : C.mg "max" = none) (h : WE C E Γ Λ e fun x Λ1 => ∃ ns : List Int, lstD Λ1 x = some (ns.map .int) ∧ P (.int (mxd i ns)) Λ1) (he : plainE e = true := by rfl) :
    WE C E Γ Λ (.Call (.Name "max" p) [e] [⟨some "default", .Constant (.int i) j p1, p2⟩] pos) P := fun X F W is tk => by
  refine pe_imp (pe_callBK (cr_maxd is.calm) (is.gl hj) (by rw [is.mg]; exact hm) boot_max' (pa_cons pe_U pa_nil (star_plain he)) (pk_cons pe_int pk_nil) (he := by rw [star_plain he]; rfl) (hpl := by rw [star_plain he]; rfl)) fun σ H Q ⟨B, α, S, q, er⟩ => ?_
  refine WE.use h is tk S er fun d Λ' v B' α' H' p S' e f r => ?_
  obtain ⟨ns, h1, h2⟩ := p
  obtain ⟨a, ws, rfl, g1, g2⟩ := S'.seqL r h1
  have e' := reps_int g2
  subst e'
  exact ⟨a, ns, i, rfl, rfl, by rw [is.K]; exact g1, q _ _ _ _ _ _ h2 S' e f (by unfold Rep; rfl)⟩
end
end Pl
namespace Pl
open PySem L2 PyProof.Rows
section
variable {C : Ctx} {E : ER} {Γ : Env} {Λ : Cells} {P : D → Cells → Prop} {pos p p2 : Pos} {e : Expr}
end
/-! ### for the driver -/
section
variable {C : Ctx} {E : ER} {Γ : Env} {Λ : Cells}
end
end Pl
namespace Pl
open PySem L2 PyProof.Rows
theorem sz_lt {n : Nat} (h : n < 10000000) : n ≤ sizeLine := by rw [sizeLine_eq]; omega
end Pl
namespace Pl
open PySem L2 PyProof.Rows
end Pl

/-! Pl11: calls that are handed cells and that hand back new ones -/
namespace Pl
open PySem L2 PyProof.Rows

/-! ### cells under other numbers -/
mutual
def ren (f : Nat → Nat) : D → D
  | .loc n => .loc (f n)
  | .tup ds => .tup (rens f ds)
  | .lst ds => .lst (rens f ds)
  | .fzl ds => .fzl (rens f ds)
  | .ins C ns ds => .ins C ns (rens f ds)
  | .dic ks ds => .dic ks (rens f ds)
  | .exc C ns ds => .exc C ns (rens f ds)
  | .non => .non
  | .bl b => .bl b
  | .int i => .int i
  | .str s => .str s
  | .raw v => .raw v
def rens (f : Nat → Nat) : List D → List D
  | [] => []
  | d :: ds => ren f d :: rens f ds
end
theorem rens_length {f : Nat → Nat} : ∀ ds : List D, (rens f ds).length = ds.length
  | [] => rfl
  | d :: ds => by show (rens f ds).length + 1 = _; rw [rens_length ds]; rfl
theorem allBl_rens {f : Nat → Nat} : ∀ ds : List D, allBl (rens f ds) = allBl ds
  | [] => rfl
  | d :: ds => by
    show allBl (ren f d :: rens f ds) = _
    cases d <;> first | rfl | exact allBl_rens ds
mutual
theorem ren_nl {f : Nat → Nat} : ∀ d : D, nl d = true → ren f d = d
  | .loc n, h => by cases h
  | .tup ds, h => by show D.tup _ = _; rw [rens_nl ds h]
  | .lst ds, h => by show D.lst _ = _; rw [rens_nl ds h]
  | .fzl ds, h => by show D.fzl _ = _; rw [rens_nl ds h]
  | .ins C ns ds, h => by show D.ins _ _ _ = _; rw [rens_nl ds h]
  | .dic ks ds, h => by show D.dic _ _ = _; rw [rens_nl ds h]
  | .exc C ns ds, h => by show D.exc _ _ _ = _; rw [rens_nl ds h]
  | .non, _ => rfl
  | .bl _, _ => rfl
  | .int _, _ => rfl
  | .str _, _ => rfl
  | .raw _, _ => rfl
theorem rens_nl {f : Nat → Nat} : ∀ ds : List D, nls ds = true → rens f ds = ds
  | [], _ => rfl
  | d :: ds, h => by
    have h' : (nl d && nls ds) = true := h
    rw [Bool.and_eq_true] at h'
    show ren f d :: rens f ds = _
    rw [ren_nl d h'.1, rens_nl ds h'.2]
end
mutual
def ltD (m : Nat) : D → Bool
  | .loc n => decide (n < m)
  | .tup ds => ltDs m ds
  | .lst ds => ltDs m ds
  | .fzl ds => ltDs m ds
  | .ins _ _ ds => ltDs m ds
  | .dic _ ds => ltDs m ds
  | .exc _ _ ds => ltDs m ds
  | _ => true
def ltDs (m : Nat) : List D → Bool
  | [] => true
  | d :: ds => ltD m d && ltDs m ds
end
mutual
theorem ltD_nl {m : Nat} : ∀ d : D, nl d = true → ltD m d = true
  | .loc n, h => by cases h
  | .tup ds, h => ltDs_nl ds h
  | .lst ds, h => ltDs_nl ds h
  | .fzl ds, h => ltDs_nl ds h
  | .ins C ns ds, h => ltDs_nl ds h
  | .dic ks ds, h => ltDs_nl ds h
  | .exc C ns ds, h => ltDs_nl ds h
  | .non, _ => rfl
  | .bl _, _ => rfl
  | .int _, _ => rfl
  | .str _, _ => rfl
  | .raw _, _ => rfl
theorem ltDs_nl {m : Nat} : ∀ ds : List D, nls ds = true → ltDs m ds = true
  | [], _ => rfl
  | d :: ds, h => by
    have h' : (nl d && nls ds) = true := h
    rw [Bool.and_eq_true] at h'
    show (ltD m d && ltDs m ds) = true
    rw [ltD_nl d h'.1, ltDs_nl ds h'.2]; rfl
end
section
variable {K : PySem.W.Frag} {B : Hp} {α α' : List Addr} {f : Nat → Nat}
mutual
theorem Rep.ren {m : Nat} (hf : ∀ (n : Nat) (a : Addr), n < m → α[n]? = some a → α'[f n]? = some a) : ∀ (d : D) (v : V), ltD m d = true → Rep K B α d v → Rep K B α' (Pl.ren f d) v
  | .non, _, _, h => h
  | .bl _, _, _, h => h
  | .int _, _, _, h => h
  | .str _, _, _, h => h
  | .raw _, _, _, h => h
  | .loc n, v, l, h => by
    unfold Rep at h
    obtain ⟨a, rfl, h1⟩ := h
    show Rep K B α' (.loc (f n)) _
    unfold Rep
    exact ⟨a, rfl, hf n a (of_decide_eq_true l) h1⟩
  | .tup ds, v, l, h => by
    unfold Rep at h
    obtain ⟨a, vs, rfl, h1, h2⟩ := h
    show Rep K B α' (.tup (rens f ds)) _
    unfold Rep
    exact ⟨a, vs, rfl, h1.to (fun q => by rw [allBl_rens] at q; exact q), Reps.ren hf ds vs l h2⟩
  | .lst ds, v, l, h => by
    unfold Rep at h
    obtain ⟨a, vs, rfl, h1, h2⟩ := h
    show Rep K B α' (.lst (rens f ds)) _
    unfold Rep
    exact ⟨a, vs, rfl, h1, Reps.ren hf ds vs l h2⟩
  | .fzl ds, v, l, h => by
    unfold Rep at h
    obtain ⟨a, vs, rfl, h1, h2⟩ := h
    show Rep K B α' (.fzl (rens f ds)) _
    unfold Rep
    exact ⟨a, vs, rfl, h1, Reps.ren hf ds vs l h2⟩
  | .ins C ns ds, v, l, h => by
    unfold Rep at h
    obtain ⟨a, dx, vs, rfl, h1, h2, h3⟩ := h
    show Rep K B α' (.ins C ns (rens f ds)) _
    unfold Rep
    exact ⟨a, dx, vs, rfl, h1, Reps.ren hf ds vs l h2, by rw [rens_length]; exact h3⟩
  | .dic ks ds, v, l, h => by
    unfold Rep at h
    obtain ⟨a, vs, rfl, h1, h2, h3⟩ := h
    show Rep K B α' (.dic ks (rens f ds)) _
    unfold Rep
    exact ⟨a, vs, rfl, h1, Reps.ren hf ds vs l h2, by rw [rens_length]; exact h3⟩
  | .exc C ns ds, v, l, h => by
    unfold Rep at h
    obtain ⟨a, d, vs, rfl, h1, h2, h3, h4⟩ := h
    show Rep K B α' (.exc C ns (rens f ds)) _
    unfold Rep
    exact ⟨a, d, vs, rfl, h1, Reps.ren hf ds vs l h2, by rw [rens_length]; exact h3, h4⟩
theorem Reps.ren {m : Nat} (hf : ∀ (n : Nat) (a : Addr), n < m → α[n]? = some a → α'[f n]? = some a) : ∀ (ds : List D) (vs : List V), ltDs m ds = true → Reps K B α ds vs → Reps K B α' (rens f ds) vs
  | [], _, _, h => h
  | d :: ds, vs, l, h => by
    have l' : (ltD m d && ltDs m ds) = true := l
    rw [Bool.and_eq_true] at l'
    unfold Reps at h
    obtain ⟨v, r, rfl, h1, h2⟩ := h
    exact .cons (Rep.ren hf d v l'.1 h1) (Reps.ren hf ds r l'.2 h2)
end
mutual
theorem Rep.unren {m : Nat} (hf : ∀ (n : Nat) (a : Addr), n < m → α'[f n]? = some a → α[n]? = some a) : ∀ (d : D) (v : V), ltD m d = true → Rep K B α' (Pl.ren f d) v → Rep K B α d v
  | .non, _, _, h => h
  | .bl _, _, _, h => h
  | .int _, _, _, h => h
  | .str _, _, _, h => h
  | .raw _, _, _, h => h
  | .loc n, v, l, h => by
    have h : Rep K B α' (.loc (f n)) v := h
    unfold Rep at h ⊢
    obtain ⟨a, rfl, h1⟩ := h
    exact ⟨a, rfl, hf n a (of_decide_eq_true l) h1⟩
  | .tup ds, v, l, h => by
    have h : Rep K B α' (.tup (rens f ds)) v := h
    unfold Rep at h ⊢
    obtain ⟨a, vs, rfl, h1, h2⟩ := h
    exact ⟨a, vs, rfl, h1.to (fun q => by rw [allBl_rens]; exact q), Reps.unren hf ds vs l h2⟩
  | .lst ds, v, l, h => by
    have h : Rep K B α' (.lst (rens f ds)) v := h
    unfold Rep at h ⊢
    obtain ⟨a, vs, rfl, h1, h2⟩ := h
    exact ⟨a, vs, rfl, h1, Reps.unren hf ds vs l h2⟩
  | .fzl ds, v, l, h => by
    have h : Rep K B α' (.fzl (rens f ds)) v := h
    unfold Rep at h ⊢
    obtain ⟨a, vs, rfl, h1, h2⟩ := h
    exact ⟨a, vs, rfl, h1, Reps.unren hf ds vs l h2⟩
  | .ins C ns ds, v, l, h => by
    have h : Rep K B α' (.ins C ns (rens f ds)) v := h
    unfold Rep at h ⊢
    obtain ⟨a, dx, vs, rfl, h1, h2, h3⟩ := h
    exact ⟨a, dx, vs, rfl, h1, Reps.unren hf ds vs l h2, by rw [rens_length] at h3; exact h3⟩
  | .dic ks ds, v, l, h => by
    have h : Rep K B α' (.dic ks (rens f ds)) v := h
    unfold Rep at h ⊢
    obtain ⟨a, vs, rfl, h1, h2, h3⟩ := h
    exact ⟨a, vs, rfl, h1, Reps.unren hf ds vs l h2, by rw [rens_length] at h3; exact h3⟩
  | .exc C ns ds, v, l, h => by
    have h : Rep K B α' (.exc C ns (rens f ds)) v := h
    unfold Rep at h ⊢
    obtain ⟨a, d, vs, rfl, h1, h2, h3, h4⟩ := h
    exact ⟨a, d, vs, rfl, h1, Reps.unren hf ds vs l h2, by rw [rens_length] at h3; exact h3, h4⟩
theorem Reps.unren {m : Nat} (hf : ∀ (n : Nat) (a : Addr), n < m → α'[f n]? = some a → α[n]? = some a) : ∀ (ds : List D) (vs : List V), ltDs m ds = true → Reps K B α' (rens f ds) vs → Reps K B α ds vs
  | [], _, _, h => h
  | d :: ds, vs, l, h => by
    have l' : (ltD m d && ltDs m ds) = true := l
    rw [Bool.and_eq_true] at l'
    have h : Reps K B α' (Pl.ren f d :: rens f ds) vs := h
    unfold Reps at h
    obtain ⟨v, r, rfl, h1, h2⟩ := h
    exact .cons (Rep.unren hf d v l'.1 h1) (Reps.unren hf ds r l'.2 h2)
end
theorem id_ren : ∀ d : D, Pl.ren (fun n => n) d = d := by
  intro d
  refine D.rec (motive_1 := fun d => Pl.ren (fun n => n) d = d) (motive_2 := fun ds => rens (fun n => n) ds = ds) rfl (fun _ => rfl) (fun _ => rfl) (fun _ => rfl) (fun ds h => ?_) (fun ds h => ?_) (fun ds h => ?_) (fun _ => rfl) (fun _ => rfl) (fun _ _ ds h => ?_) (fun _ ds h => ?_) (fun _ _ ds h => ?_) rfl (fun d ds h1 h2 => ?_) d
  · show D.tup _ = _; rw [h]
  · show D.lst _ = _; rw [h]
  · show D.fzl _ = _; rw [h]
  · show D.ins _ _ _ = _; rw [h]
  · show D.dic _ _ = _; rw [h]
  · show D.exc _ _ _ = _; rw [h]
  · show _ :: _ = _; rw [h1, h2]
end

/-! ### what is handed -/
/-- the callee's cell j is the caller's -/
def gI (ls : List Nat) (n : Nat) (j : Nat) : Nat := if h : j < ls.length then ls[j] else n + (j - ls.length)
def cellsAt (Λ : Cells) (ls : List Nat) : Cells := ls.map fun n => (Λ[n]?).getD .gone
def setAll (Λ : Cells) : List Nat → Cells → Cells
  | n :: ls, c :: cs => setAll (Λ.set n c) ls cs
  | _, _ => Λ
/-- the caller's cells behind the call -/
def putB (Λ : Cells) (ls : List Nat) (Λ' : Cells) : Cells := setAll Λ ls (Λ'.take ls.length) ++ Λ'.drop ls.length
theorem setAll_length : ∀ {Λ : Cells} {ls : List Nat} {cs : Cells}, (setAll Λ ls cs).length = Λ.length
  | _, [], _ => by unfold setAll; rfl
  | _, _ :: _, [] => by unfold setAll; rfl
  | Λ, n :: ls, c :: cs => by unfold setAll; rw [setAll_length, List.length_set]
theorem setAll_ne {n : Nat} : ∀ {Λ : Cells} {ls : List Nat} {cs : Cells}, n ∉ ls → (setAll Λ ls cs)[n]? = Λ[n]?
  | _, [], _, _ => by unfold setAll; rfl
  | _, _ :: _, [], _ => by unfold setAll; rfl
  | Λ, m :: ls, c :: cs, h => by
    simp only [List.mem_cons, not_or] at h
    unfold setAll; rw [setAll_ne h.2, List.getElem?_set_ne (fun e => h.1 e.symm)]
theorem setAll_at : ∀ {Λ : Cells} {ls : List Nat} {cs : Cells} {j n : Nat}, ls.Nodup → ls.length = cs.length → ls[j]? = some n → n < Λ.length → (setAll Λ ls cs)[n]? = cs[j]?
  | _, [], _, _, _, _, _, h, _ => by simp at h
  | _, _ :: _, [], _, _, _, e, _, _ => by simp at e
  | Λ, m :: ls, c :: cs, 0, n, nd, e, h, hl => by
    simp only [List.getElem?_cons_zero, Option.some.injEq] at h
    subst h
    unfold setAll
    rw [setAll_ne (List.nodup_cons.mp nd).1, List.getElem?_set_self hl]; rfl
  | Λ, m :: ls, c :: cs, j + 1, n, nd, e, h, hl => by
    simp only [List.getElem?_cons_succ] at h
    unfold setAll
    rw [setAll_at (List.nodup_cons.mp nd).2 (by simpa using e) h (by rw [List.length_set]; exact hl)]; rfl
structure Hand (Λ : Cells) (ls : List Nat) : Prop where
  nd : ls.Nodup
  lt : ∀ n ∈ ls, n < Λ.length
  pl : (cellsAt Λ ls).all nlC = true

section
variable {K : PySem.W.Frag} {F : Fm} {B B' : Hp} {α α' : List Addr} {Γ : Env} {Λ Λ' : Cells} {σ : L2.St} {H H' : Hp} {ls : List Nat}
def adsAt (α : List Addr) (ls : List Nat) : List Addr := ls.map fun n => (α[n]?).getD 0
theorem adsAt_get {j n : Nat} (h : ls[j]? = some n) (hn : n < α.length) : (adsAt α ls)[j]? = α[n]? := by
  unfold adsAt
  rw [List.getElem?_map, h]; simp [List.getElem?_eq_getElem hn]
theorem CellAt.nl {a : Addr} {c : Cell} (hp : nlC c = true) (h : CellAt K B α H a c) : CellAt K B α' H a c := by
  cases c with
  | lst ds => obtain ⟨vs, h1, h2⟩ := h; exact ⟨vs, h1, Reps.nl ds vs hp h2⟩
  | dic ks ds => obtain ⟨vs, h1, h2, h3⟩ := h; exact ⟨vs, h1, Reps.nl ds vs hp h2, h3⟩
  | ins C ns ds => obtain ⟨dx, vs, h1, h2, h3⟩ := h; exact ⟨dx, vs, h1, Reps.nl ds vs hp h2, h3⟩
  | gone => trivial
theorem Sat.ltα (S : Sat K F B α Γ Λ σ H) (hh : Hand Λ ls) : ∀ n ∈ ls, n < α.length := fun n hn => by rw [S.al]; exact hh.lt n hn
theorem adsAt_mem (hl : ∀ n ∈ ls, n < α.length) {a : Addr} (h : a ∈ adsAt α ls) : a ∈ α := by
  unfold adsAt at h
  obtain ⟨n, hn, e⟩ := List.mem_map.mp h
  rw [List.getElem?_eq_getElem (hl n hn)] at e
  have e : α[n]'(hl n hn) = a := e
  rw [← e]; exact List.getElem_mem _
theorem adsAt_nodup (nd : ls.Nodup) (nα : α.Nodup) (hl : ∀ n ∈ ls, n < α.length) : (adsAt α ls).Nodup := by
  unfold List.Nodup
  rw [List.pairwise_iff_getElem]
  intro i j hi hj hij e
  have hj' : j < ls.length := by unfold adsAt at hj; simpa using hj
  have hi' : i < ls.length := by omega
  have e1 : (adsAt α ls)[i]? = (adsAt α ls)[j]? := by rw [List.getElem?_eq_getElem hi, List.getElem?_eq_getElem hj, e]
  rw [adsAt_get (List.getElem?_eq_getElem hi') (hl _ (List.getElem_mem _)), adsAt_get (List.getElem?_eq_getElem hj') (hl _ (List.getElem_mem _))] at e1
  have e2 := (List.getElem?_inj (hl _ (List.getElem_mem hi')) nα).mp e1
  have e3 := (List.getElem_inj nd).mp e2
  omega
/-- the callee's entry -/
theorem Sat.enterC (S : Sat K F B α Γ Λ σ H) (hh : Hand Λ ls) : Sat K ⟨H, B, adsAt α ls⟩ B (adsAt α ls) [] (cellsAt Λ ls) [] H := by
  have hl := S.ltα hh
  refine ⟨Ex.refl B, S.bh, fun a o h => .inl h, fun a o h _ _ => h, fun a h => h, List.prefix_refl _, adsAt_nodup hh.nd S.nd hl, by simp [adsAt, cellsAt], fun j c h hg => ?_, fun a ha => ⟨(S.ah a (adsAt_mem hl ha)).1, .inr ha⟩, fun i d h => by simp at h, rfl, S.tb.start fun a ha => adsAt_mem hl ha⟩
  have hj : j < ls.length := by have := (List.getElem?_eq_some_iff.mp h).1; unfold cellsAt at this; simpa using this
  have hn := hl _ (List.getElem_mem hj)
  have hn' : ls[j] < Λ.length := by rw [← S.al]; exact hn
  have hc : Λ[ls[j]]? = some c := by
    unfold cellsAt at h
    rw [List.getElem?_map, List.getElem?_eq_getElem hj] at h
    simp only [Option.map_some, Option.some.injEq] at h
    rw [List.getElem?_eq_getElem hn'] at h ⊢
    exact congrArg some h
  have hp : nlC c = true := List.all_eq_true.mp hh.pl c (List.mem_of_getElem? h)
  obtain ⟨a, h1, h2, h3, h4⟩ := S.ce _ c hc hg
  have h5 : (adsAt α ls)[j]? = some a := by rw [adsAt_get (List.getElem?_eq_getElem hj) hn]; exact h1
  exact ⟨a, h5, h2, .inr (List.mem_of_getElem? h5), h4.nl hp⟩
/-- the addresses of the caller's cells behind the call -/
def adsB (α : List Addr) (ls : List Nat) (α' : List Addr) : List Addr := α ++ α'.drop ls.length
theorem Sat.backC (S : Sat K F B α Γ Λ σ H) (hh : Hand Λ ls) (T : Sat K ⟨H, B, adsAt α ls⟩ B' α' [] Λ' [] H') (hp : Λ'.all nlC = true) : Sat K F B' (adsB α ls α') Γ (putB Λ ls Λ') σ H' := by
  have hl := S.ltα hh
  obtain ⟨nw, hα'⟩ := T.pf
  have hla : (adsAt α ls).length = ls.length := by simp [adsAt]
  have hd : α'.drop ls.length = nw := by rw [← hα']; show (adsAt α ls ++ nw).drop _ = _; rw [List.drop_append, hla]; simp [List.drop_eq_nil_of_le, hla]
  have hα'' : α' = adsAt α ls ++ nw := hα'.symm
  have hlen : ls.length ≤ Λ'.length := by rw [← T.al, hα'']; simp [hla]
  have nwH : ∀ a ∈ nw, H a = none := fun a ha => by
    rcases (T.ah a (by rw [hα'']; exact List.mem_append_right _ ha)).2 with z | z
    · exact z
    · have nd := T.nd
      rw [hα'', List.nodup_append] at nd
      exact absurd rfl (nd.2.2 a z a ha)
  have hB : ∀ a, H a ≠ none → B a = none → B' a = none := fun a h1 h2 => by
    cases q : B' a with
    | none => rfl
    | some o =>
      rcases T.fr a o q with z | z
      · have : B a = some o := z
        rw [h2] at this; cases this
      · exact absurd z h1
  unfold adsB
  rw [hd]
  refine ⟨S.bb.trans T.bb, T.bh, fun a o h => ?_, fun a o h ha n => T.kp a o (S.kp a o h ha n) (fun hm => ?_) n, fun a h => S.dm a (T.dm a h), S.pf.trans (List.prefix_append _ _), ?_, ?_, fun n c h hg => ?_, fun a ha => ?_, fun i d h => ?_, S.ln, S.tb.back T.tb T.kp (fun a ha => pre_mem T.pf ha) fun a ha => ?_⟩
  · rcases T.fr a o h with z | z
    · exact S.fr a o z
    · exact .inr (S.dm a z)
  · rcases (S.ah a (adsAt_mem hl hm)).2 with z | z
    · rw [h] at z; cases z
    · exact ha z
  · rw [List.nodup_append]
    refine ⟨S.nd, ?_, fun a ha b hb e => ?_⟩
    · have nd := T.nd
      rw [hα'', List.nodup_append] at nd
      exact nd.2.1
    · subst e; exact (S.ah a ha).1 (nwH a hb)
  · unfold putB
    rw [List.length_append, List.length_append, setAll_length, List.length_drop, S.al, ← T.al, hα'', List.length_append, hla]; omega
  · unfold putB at h
    by_cases hn : n < Λ.length
    · rw [List.getElem?_append_left (by rw [setAll_length]; exact hn)] at h
      by_cases hm : n ∈ ls
      · obtain ⟨j, hj, ej⟩ := List.getElem_of_mem hm
        have ej' : ls[j]? = some n := by rw [List.getElem?_eq_getElem hj, ej]
        rw [setAll_at hh.nd (by rw [List.length_take]; omega) ej' hn] at h
        have h' : Λ'[j]? = some c := by rw [List.getElem?_take] at h; rw [if_pos hj] at h; exact h
        have pc : nlC c = true := List.all_eq_true.mp hp c (List.mem_of_getElem? h')
        obtain ⟨a, h1, h2, h3, h4⟩ := T.ce j c h' hg
        rw [hα'', List.getElem?_append_left (by rw [hla]; exact hj), adsAt_get ej' (hl n hm)] at h1
        exact ⟨a, pre_get (List.prefix_append _ _) h1, h2, (S.ah a (List.mem_of_getElem? h1)).2, h4.nl pc⟩
      · rw [setAll_ne hm] at h
        obtain ⟨a, h1, h2, h3, h4⟩ := S.ce n c h hg
        have hna : a ∉ adsAt α ls := fun q => by
          unfold adsAt at q
          obtain ⟨m, hm', e⟩ := List.mem_map.mp q
          rw [List.getElem?_eq_getElem (hl m hm')] at e
          have e : α[m]'(hl m hm') = a := e
          have hna' : n < α.length := by rw [S.al]; exact hn
          have : α[n]'hna' = a := by rw [List.getElem?_eq_getElem hna'] at h1; exact Option.some.inj h1
          have := (List.getElem_inj S.nd).mp (e.trans this.symm)
          subst this; exact hm hm'
        exact ⟨a, pre_get (List.prefix_append _ _) h1, hB a (S.ah a (List.mem_of_getElem? h1)).1 h2, h3, h4.mono T.bb (List.prefix_append _ _) fun o q n => T.kp a o q hna n⟩
    · rw [List.getElem?_append_right (by rw [setAll_length]; omega), setAll_length, List.getElem?_drop] at h
      have pc : nlC c = true := List.all_eq_true.mp hp c (List.mem_of_getElem? h)
      obtain ⟨a, h1, h2, h3, h4⟩ := T.ce _ c h hg
      rw [hα'', List.getElem?_append_right (by rw [hla]; omega), hla, show ls.length + (n - Λ.length) - ls.length = n - Λ.length by omega] at h1
      have ha := nwH a (List.mem_of_getElem? h1)
      refine ⟨a, ?_, h2, .inl (S.dm a ha), h4.nl pc⟩
      rw [List.getElem?_append_right (by rw [S.al]; omega), S.al]; exact h1
  · rcases List.mem_append.mp ha with z | z
    · exact ⟨fun q => (S.ah a z).1 (T.dm a q), (S.ah a z).2⟩
    · exact ⟨(T.ah a (by rw [hα'']; exact List.mem_append_right _ z)).1, .inl (S.dm a (nwH a z))⟩
  · obtain ⟨v, h1, h2⟩ := S.sl i d h
    exact ⟨v, h1, h2.mono T.bb (List.prefix_append _ _)⟩
  · rcases List.mem_append.mp ha with z | z
    · exact .inl z
    · exact .inr (by rw [hα'']; exact List.mem_append_right _ z)
/-- the callee's numbers, told by the caller -/
theorem backI (S : Sat K F B α Γ Λ σ H) (hh : Hand Λ ls) (T : Sat K ⟨H, B, adsAt α ls⟩ B' α' [] Λ' [] H') (n : Nat) (a : Addr) (h : α'[n]? = some a) : (adsB α ls α')[gI ls Λ.length n]? = some a := by
  have hl := S.ltα hh
  obtain ⟨nw, hα'⟩ := T.pf
  have hla : (adsAt α ls).length = ls.length := by simp [adsAt]
  have hα'' : α' = adsAt α ls ++ nw := hα'.symm
  unfold gI adsB
  by_cases hn : n < ls.length
  · rw [dif_pos hn]
    rw [hα'', List.getElem?_append_left (by rw [hla]; exact hn), adsAt_get (List.getElem?_eq_getElem hn) (hl _ (List.getElem_mem _))] at h
    exact pre_get (List.prefix_append _ _) h
  · rw [dif_neg hn, List.getElem?_append_right (by rw [S.al]; omega), S.al, List.getElem?_drop]
    rw [show ls.length + (Λ.length + (n - ls.length) - Λ.length) = n by omega]; exact h
theorem enterI (S : Sat K F B α Γ Λ σ H) (hh : Hand Λ ls) (n : Nat) (a : Addr) (hn : n < ls.length) (h : α[gI ls Λ.length n]? = some a) : (adsAt α ls)[n]? = some a := by
  unfold gI at h
  rw [dif_pos hn] at h
  rw [adsAt_get (List.getElem?_eq_getElem hn) (S.ltα hh _ (List.getElem_mem _))]; exact h
end
mutual
theorem ltD_of {K : PySem.W.Frag} {B : Hp} {α : List Addr} : ∀ {d : D} {v : V}, Rep K B α d v → ltD α.length d = true
  | .non, _, _ => rfl
  | .bl _, _, _ => rfl
  | .int _, _, _ => rfl
  | .str _, _, _ => rfl
  | .raw _, _, _ => rfl
  | .loc n, v, h => by
    unfold Rep at h
    obtain ⟨a, _, h1⟩ := h
    exact decide_eq_true (List.getElem?_eq_some_iff.mp h1).1
  | .tup ds, v, h => by
    unfold Rep at h
    obtain ⟨a, vs, _, _, h2⟩ := h
    exact ltDs_of (ds := ds) h2
  | .lst ds, v, h => by
    unfold Rep at h
    obtain ⟨a, vs, _, _, h2⟩ := h
    exact ltDs_of (ds := ds) h2
  | .fzl ds, v, h => by
    unfold Rep at h
    obtain ⟨a, vs, _, _, h2⟩ := h
    exact ltDs_of (ds := ds) h2
  | .ins C ns ds, v, h => by
    unfold Rep at h
    obtain ⟨a, dx, vs, _, _, h2, _⟩ := h
    exact ltDs_of (ds := ds) h2
  | .dic ks ds, v, h => by
    unfold Rep at h
    obtain ⟨a, vs, _, _, h2, _⟩ := h
    exact ltDs_of (ds := ds) h2
  | .exc C ns ds, v, h => by
    unfold Rep at h
    obtain ⟨a, d, vs, _, _, h2, _⟩ := h
    exact ltDs_of (ds := ds) h2
theorem ltDs_of {K : PySem.W.Frag} {B : Hp} {α : List Addr} : ∀ {ds : List D} {vs : List V}, Reps K B α ds vs → ltDs α.length ds = true
  | [], _, _ => rfl
  | d :: ds, vs, h => by
    unfold Reps at h
    obtain ⟨v, r, rfl, h1, h2⟩ := h
    show (ltD _ d && ltDs _ ds) = true
    rw [ltD_of h1, ltDs_of h2]; rfl
end
section
variable {C : Ctx} {E : ER} {Γ : Env} {Λ : Cells} {pos p : Pos}
/-- what the callee wants of the caller -/
theorem call_spC {F : Fm} {W : WX} {B : Hp} {α : List Addr} {σ : L2.St} {H : Hp} {ds ds' : List D} {vs : List V} {n : Nat} {S : Spec} {Q : VK} {Pr : Res → Cells → Prop} {E' : ER} {ls : List Nat} (T : Sat C.K F B α Γ Λ σ H) (r : Reps C.K B α ds vs) (hh : Hand Λ ls)
    (he : ds = rens (gI ls Λ.length) ds') (hlt : ltDs ls.length ds' = true) (hl : ds'.length = n)
    (h : S ds' (cellsAt Λ ls) (fun r Λ' => Λ'.all nlC = true ∧ Pr r (putB Λ ls Λ')) fun err Λ' => Λ'.all nlC = true ∧ nlE err = true ∧ E' err Γ (putB Λ ls Λ'))
    (mono : ∀ Q Q' E E', S ds' (cellsAt Λ ls) Q E → (∀ r Λ', Q r Λ' → Q' r Λ') → (∀ e Λ', E e Λ' → E' e Λ') → S ds' (cellsAt Λ ls) Q' E')
    (er : ErOk C.K F W B σ Γ E')
    (q : ∀ r v Λ' B' α' α'' H', Pr r Λ' → Sat C.K F B' α' Γ Λ' σ H' → Ex B B' → α <+: α' → ResAt C.K ⟨H, B, adsAt α ls⟩ B' α'' H' v r → (∀ (n : Nat) (a : Addr), α''[n]? = some a → α'[gI ls Λ.length n]? = some a) → (∀ a ∈ α', a ∈ α'' ∨ H a ≠ none) → Q v H') : spOf C.K n S (vs ++ []) H Q fun c dx H' => W c dx σ H' := by
  refine ⟨⟨H, B, adsAt α ls⟩, ds', cellsAt Λ ls, by rw [List.append_nil, r.length, he, rens_length, hl], rfl, T.enterC hh, ?_, mono _ _ _ _ h (fun r Λ' p v H' B' α' T' ra => ?_) fun err Λ' p B' α' H' c dx T' ea => ?_⟩
  · rw [List.append_nil]; rw [he] at r
    exact Reps.unren (fun n a hn h => enterI T hh n a hn h) ds' vs hlt r
  · obtain ⟨p1, p2⟩ := p
    refine q r v _ B' _ α' H' p2 (T.backC hh T' p1) T'.bb (List.prefix_append _ _) ra (backI T hh T') fun a ha => ?_
    rcases List.mem_append.mp ha with z | z
    · exact .inr (T.ah a z).1
    · exact .inl (List.mem_of_mem_drop z)
  · obtain ⟨p1, p2, p3⟩ := p
    refine er err _ B' _ H' c dx p3 (T.backC hh T' p1) T'.bb ?_
    obtain ⟨e1, e2⟩ := ea
    refine ⟨e1, ?_⟩
    unfold nlE at p2
    cases hf : err.fs with
    | none => rw [hf] at e2; exact e2
    | some z =>
      obtain ⟨ns, es⟩ := z
      rw [hf] at e2 p2
      obtain ⟨a, vs, q1, q2, q3, q4, q5⟩ := e2
      exact ⟨a, vs, q1, q2, Reps.nl es vs p2 q3, q4, fun z => have h : H a = none := (q5 z).1; ⟨T.dm a h, fun hm => (List.mem_append.mp hm).elim (fun y => (T.ah a y).1 h) fun y => (q5 z).2 (List.mem_of_mem_drop y)⟩⟩
/-- how a call with cells is told: the cells handed, the callee's arguments -/
def CallC (n : Nat) (S : Spec) (E : ER) (Γ : Env) (Λ1 : Cells) (ds : List D) (Pr : Res → Cells → Prop) : Prop :=
  ∃ ls ds', Hand Λ1 ls ∧ ds = rens (gI ls Λ1.length) ds' ∧ ltDs ls.length ds' = true ∧ ds'.length = n ∧ S ds' (cellsAt Λ1 ls) (fun r Λ' => Λ'.all nlC = true ∧ (match r with | .val d => Pr (.val (ren (gI ls Λ1.length) d)) (putB Λ1 ls Λ') | .new ds => nls ds = true ∧ Pr (.new ds) (putB Λ1 ls Λ')))
    fun err Λ' => Λ'.all nlC = true ∧ nlE err = true ∧ E err Γ (putB Λ1 ls Λ')
theorem callC [Cool C] {k n : Nat} {x : Str} {S : Spec} {es : List Expr} {e : Expr} {Pr : Res → Cells → Prop} (G : C.fn k x n S) (hk : k ≤ C.k) (hj : GlAt C x) (m : Mono S)
    (h : WA C E Γ Λ (e :: es) fun ds Λ1 => CallC n S E Γ Λ1 ds Pr)
    (he : plainE e = true) (hes : es.all plainE = true) (hdb : (x == ("__debug__" : Str)) = false) : ∀ X F W, C.Is X → Takes X W → PE X (.Call (.Name x p) (e :: es) [] pos) fun σ H Q => ∃ B α, Sat C.K F B α Γ Λ σ H ∧
      (∀ r v Λ' B' α' H', Pr r Λ' → Sat C.K F B' α' Γ Λ' σ H' → Ex B B' → α <+: α' → (match r with | .val d => Rep C.K B' α' d v | .new ds => ∃ p vs, v = .ref p ∧ H' p = some (.lst vs) ∧ B' p = none ∧ F.H0 p = none ∧ p ∉ α' ∧ Reps C.K B' α' ds vs) → Q v H') ∧ ErOk C.K F W B σ Γ E := fun X F W is tk => by
  obtain ⟨f, fd, ps, h1, h2, h3, h4, h5⟩ := G.ex
  have e1 := is.prog; have e2 := is.w; have e3 := is.K; have e4 := is.mg; have e5 := is.base
  refine pe_imp (pe_callSDG (E := fun σ c dx H' => W c dx σ H') (dvs := []) (ds := []) (by rw [e1, e2, e3, e4, e5]; exact h1) (is.room.mono hk) (is.gl hj) (by rw [e4]; exact h2) (by rw [e3]; exact h3) (by rw [e3]; exact h4) .nil
    (fun σ => by rw [← e1, ← e2]; exact passAt tk σ) pa_U hdb (star_plain he) (back_plain hes)) fun σ H Q ⟨B, α, T, q, er⟩ => ?_
  refine WA.use h is tk T er fun ds Λ1 vs B1 α1 H1 p1 T1 x1 f1 r1 => ?_
  obtain ⟨ls, ds', hh, he', hlt, hl, s1⟩ := p1
  refine call_spC (Pr := fun r Λ' => match r with | .val d => Pr (.val (ren (gI ls Λ1.length) d)) Λ' | .new ds => nls ds = true ∧ Pr (.new ds) Λ') T1 r1 hh he' hlt hl (m _ _ _ _ _ _ s1 (fun r Λ' p => ?_) fun e Λ' p => p) (m _ _) (er.mono x1) fun r v Λ' B' α' α'' H' p' T' x' f' ra gi gn => ?_
  · refine ⟨p.1, ?_⟩
    have p2 := p.2
    cases r with
    | val d => exact p2
    | new ds => exact p2
  · cases r with
    | val d =>
      refine q (.val (ren (gI ls Λ1.length) d)) v Λ' B' α' H' p' T' (x1.trans x') (f1.trans f') ?_
      exact Rep.ren (m := α''.length) (fun n a _ hn => gi n a hn) d v (ltD_of ra) ra
    | new ds =>
      obtain ⟨pa, ws, rfl, q1, q2, q3, q4, q5⟩ := ra
      have q3 : H1 pa = none := q3
      refine q (.new ds) _ Λ' B' α' H' p'.2 T' (x1.trans x') (f1.trans f') ⟨pa, ws, rfl, q1, q2, T1.dm pa q3, fun hm => ?_, Reps.nl ds ws p'.1 q5⟩
      rcases gn pa hm with z | z
      · exact q4 z
      · exact z q3
/-- f(e, ..) with cells: a value -/
theorem we_callc [Cool C] {k n : Nat} {x : Str} {S : Spec} {e : Expr} {es : List Expr} {P : D → Cells → Prop} (G : C.fn k x n S) (hk : k ≤ C.k) (hj : GlAt C x) (m : Mono S)
    (h : WA C E Γ Λ (e :: es) fun ds Λ1 => CallC n S E Γ Λ1 ds fun r Λ' => ∃ d, r = .val d ∧ P d Λ')
    (he : plainE e = true := by rfl) (hes : es.all plainE = true := by rfl) (hdb : (x == ("__debug__" : Str)) = false := by decide) : WE C E Γ Λ (.Call (.Name x p) (e :: es) [] pos) P := fun X F W is tk =>
  pe_imp (callC G hk hj m h he hes hdb X F W is tk) fun σ H Q ⟨B, α, T, q, er⟩ => ⟨B, α, T, fun r v Λ' B' α' H' ⟨d, hr, p⟩ T' x f ra => by subst hr; exact q d Λ' v B' α' H' p T' x f ra, er⟩
end

/-! ### a def that hands back new cells -/
/-- what a def's body is to reach: m cells are left, the rest is thrown away -/
def rtY (Λ0 : Cells) (Q : Res → Cells → Prop) (r : Res) (Λ' : Cells) : Prop := ∃ m, Λ0.length ≤ m ∧ (Λ'.take m).all nlC = true ∧ ((match r with | .val d => ltD m d = true | .new ds => nls ds = true) ∧ Q r (Λ'.take m) ∨ (∃ n ds, m ≤ n ∧ r = .val (.loc n) ∧ Λ'[n]? = some (.lst ds) ∧ nls ds = true ∧ Q (.new ds) (Λ'.take m)) ∨ ∃ n ks ds, m ≤ n ∧ r = .val (.loc n) ∧ Λ'[n]? = some (.dic ks ds) ∧ nls ds = true ∧ Q (.val (.dic ks ds)) (Λ'.take m))
end Pl
namespace Pl
open PySem L2 PyProof.Rows
theorem reps_take {K : PySem.W.Frag} {B : Hp} {α : List Addr} {m : Nat} {d : D} {v : V} (h : ltD m d = true) (r : Rep K B α d v) : Rep K B (α.take m) d v := by
  have := Rep.ren (α' := α.take m) (f := fun n => n) (m := m) (fun n a hn e => by rw [List.getElem?_take, if_pos hn]; exact e) d v h r
  rw [id_ren] at this; exact this
/-- THE RULE, with cells: a def of the module keeps its promise, by its body -/
theorem fn_okC {P : Program} {w : World} {K : PySem.W.Frag} {mg : Str → Option Value} {base : Heap} {x qual : Str} {st : Stmt} {f : Addr} {fd : FuncData} {N ps : List Str} {k : Nat} {S : Spec} (F : Fun K x qual st f fd) (sc : FnScope N ps (defScope st)) (C : Ctx)
    (hC : C.P = P ∧ C.w = w ∧ C.K = K ∧ C.mg = mg ∧ C.base = base ∧ C.N = N ∧ C.sc = defScope st ∧ C.k = k) (good : C.Good) (hm : ∀ ds Λ Q E, S ds Λ Q E → Λ.length ≤ C.m)
    (hb : ∀ ds Λ Q E, ds.length = ps.length → S ds Λ Q E → WSs C (Γ0 N ds) Λ (defBody st) ⟨fun _ Λ' => rtY Λ Q (.val .non) Λ', rtY Λ Q, fun _ _ => False, fun _ _ => False, erX Λ E⟩) (hcd : ∀ q c, C.cd = some (q, c) → qual ++ ".<locals>." = q ∧ fd.code = .ref c := by intro _ _ h; cases h) : FnG P w K mg base (L2.CX P w) (k + 1) f fd ps (spOf K ps.length S) := by
  obtain ⟨rfl, rfl, rfl, rfl, rfl, rfl, hsc, rfl⟩ := hC
  refine F.okXG sc (fun vs H Q E h => by obtain ⟨_, _, _, h, _⟩ := h; exact h) fun cdv A outer s H vs Q E ecd hr h => ?_
  obtain ⟨Fm', ds, Λ, hl, hH, T, r, sp⟩ := h
  have hds : ds.length = ps.length := by rw [← r.length]; exact hl
  have hN : ps.length ≤ C.N.length := by have := congrArg List.length sc.pre; rw [List.length_take] at this; omega
  let X := cxOf (L2.CX C.P C.w) C.P C.w C.K C.mg C.base C.N qual (defScope st) f cdv A outer s H E
  have is : C.Is X := ⟨rfl, rfl, rfl, rfl, rfl, rfl, hsc.symm, fun _ => rfl, fun _ => hr.hd, hr.w, fun _ _ _ _ => .inl rfl, good, passes_of rfl, fun _ => ⟨rfl, rfl, rfl⟩, fun q c e => ⟨(hcd q c e).1, ecd.symm.trans (hcd q c e).2⟩⟩
  have tk : Takes X (fun c d _ H => E c d H) := takes_of rfl rfl rfl rfl
  have T' : Sat C.K Fm' Fm'.B0 Fm'.α0 (Γ0 C.N ds) Λ (L2.start C.N vs) H := by
    refine T.env ?_ fun i d hi => ?_
    · unfold Γ0 L2.start
      simp only [List.length_append, List.length_map, List.length_replicate]
      omega
    · unfold Γ0 at hi
      by_cases hlt : i < ds.length
      · rw [List.getElem?_append_left (by simpa using hlt), List.getElem?_map] at hi
        cases q : ds[i]? with
        | none => rw [q] at hi; cases hi
        | some e =>
          rw [q] at hi
          cases hi
          obtain ⟨v, h1, h2⟩ := r.get q
          refine ⟨v, ?_, h2⟩
          unfold L2.start
          rw [List.getElem?_append_left (by have := (List.getElem?_eq_some_iff.mp h1).1; simpa using this), List.getElem?_map, h1]
          rfl
      · rw [List.getElem?_append_right (by simpa using hlt), List.getElem?_replicate] at hi
        split at hi <;> cases hi
  have hlen : Fm'.α0.length = Λ.length := T.al
  have cut : ∀ {m : Nat} {Γ' : Env} {Λ' : Cells} {B' : Hp} {α' : List Addr} {σ' : L2.St} {H' : Hp}, Λ.length ≤ m → Sat C.K Fm' B' α' Γ' Λ' σ' H' → (Λ'.take m).all nlC = true → Sat C.K Fm' B' (α'.take m) [] (Λ'.take m) [] H' := fun hm S' h =>
    S'.cut (by omega) (all_nlC h) rfl fun i d h => by simp at h
  refine ⟨_, hb ds Λ _ _ hds sp X Fm' _ is (by rw [T.al]; exact hm _ _ _ _ sp) tk, Fm'.B0, Fm'.α0, T', ⟨fun Γ' Λ' B' α' σ' H' h S' e => ?_, fun r Λ' v Γ' B' α' σ' H' h S' e ra => ?_, fun Γ' Λ' B' α' σ' H' h => h.elim, fun Γ' Λ' B' α' σ' H' h => h.elim, fun err Γ' Λ' B' α' σ' H' c dx h S' e ea => ?_⟩⟩
  · obtain ⟨m, hm1, h2, ⟨h1, h3⟩ | ⟨n, ds, _, e, _⟩ | ⟨n, ks, ds, _, e, _⟩⟩ := h
    · exact h3 .non H' B' _ (cut hm1 S' h2) (by unfold ResAt Rep; rfl)
    · cases e
    · cases e
  · have far : ∀ {m n : Nat} {a : Addr}, m ≤ n → α'[n]? = some a → a ∉ α'.take m := fun {m n a} hk ha hm => by
      have hna : n < α'.length := (List.getElem?_eq_some_iff.mp ha).1
      obtain ⟨j, hj, ej⟩ := List.getElem_of_mem hm
      rw [List.getElem_take] at ej
      rw [List.length_take] at hj
      have e1 : α'[j]? = some a := by rw [List.getElem?_eq_getElem (by omega), ej]
      have := (List.getElem?_inj (by omega) S'.nd).mp (e1.trans ha.symm)
      omega
    have fresh : ∀ {m n : Nat} {a : Addr}, Λ.length ≤ m → m ≤ n → α'[n]? = some a → (Fm'.H0 a = none ∨ a ∈ Fm'.α0) → Fm'.H0 a = none := fun {m n a} hm1 hn ha q3 => by
      rcases q3 with z | z
      · exact z
      · exfalso
        obtain ⟨t, ht⟩ := S'.pf
        apply far (m := Fm'.α0.length) (by omega) ha
        rw [← ht, List.take_append_of_le_length (Nat.le_refl _), List.take_length]
        exact z
    obtain ⟨m, hm1, h2, ⟨h1, h3⟩ | ⟨n, ds, hn, e, hc, hds, h3⟩ | ⟨n, ks, ds, hn, e, hc, hds, h3⟩⟩ := h
    · refine h3 v H' B' _ (cut hm1 S' h2) ?_
      cases r with
      | val d => exact reps_take h1 ra
      | new ds =>
        obtain ⟨p, vs, q1, q2, q3, q4, q5, q6⟩ := ra
        exact ⟨p, vs, q1, q2, q3, q4, fun hm => q5 (List.mem_of_mem_take hm), Reps.nl ds vs h1 q6⟩
    · subst e
      refine h3 v H' B' _ (cut hm1 S' h2) ?_
      unfold ResAt Rep at ra
      obtain ⟨a, rfl, ha⟩ := ra
      obtain ⟨a', q1, q2, q3, vs, q4, q5⟩ := S'.ce n _ hc (by simp)
      rw [ha] at q1; cases q1
      exact ⟨a, vs, rfl, q4, q2, fresh hm1 hn ha q3, far hn ha, Reps.nl ds vs hds q5⟩
    · subst e
      unfold ResAt Rep at ra
      obtain ⟨a, rfl, ha⟩ := ra
      obtain ⟨a', q1, q2, q3, vs, q4, q5, q6⟩ := S'.ce n _ hc (by simp)
      rw [ha] at q1; cases q1
      have S2 := (cut hm1 S' h2).see q4 q2 (fresh hm1 hn ha q3) (far hn ha)
      refine h3 (.ref a) H' _ _ S2 ?_
      have hx : Ex B' (upd B' a (.dK (ks.zip vs))) := Ex.new q2
      show Rep _ _ _ (.dic ks ds) _
      unfold Rep
      exact ⟨a, vs, rfl, .inl upd_same, (Reps.nl ds vs hds q5).mono hx (List.prefix_refl _), q6⟩
  · obtain ⟨h1, h2, h3⟩ := h
    refine h3 B' _ H' c dx (cut (Nat.le_refl _) S' h2) ?_
    obtain ⟨e1, e2⟩ := ea
    refine ⟨e1, ?_⟩
    unfold nlE at h1
    cases hf : err.fs with
    | none => rw [hf] at e2; exact e2
    | some z =>
      obtain ⟨ns, ds⟩ := z
      rw [hf] at e2 h1
      obtain ⟨a, vs, q1, q2, q3, q4, q5⟩ := e2
      exact ⟨a, vs, q1, q2, Reps.nl ds vs h1 q3, q4, fun z => ⟨(q5 z).1, fun hm => (q5 z).2 (List.mem_of_mem_take hm)⟩⟩
theorem def_okC {G : Gl} {x : Str} {st : Stmt} {ps : List Str} {qn : Str} (h : DefAt G.K G.mg x st ps qn) {N : List Str} {vs ls : List Bool} {gl : List Str} {k m : Nat} {S : Spec} (sc : FnScope N ps (defScope st)) (good : goodC N (defScope st) vs ls gl = true)
    (hm : ∀ ds Λ Q E, S ds Λ Q E → Λ.length ≤ m)
    (hb : ∀ ds Λ Q E, ds.length = ps.length → S ds Λ Q E → WSs (G.cx N (defScope st) vs ls gl k m) (Γ0 N ds) Λ (defBody st) ⟨fun _ Λ' => rtY Λ Q (.val .non) Λ', rtY Λ Q, fun _ _ => False, fun _ _ => False, erX Λ E⟩) : G.fn (k + 1) x ps.length S :=
  h.fn fun f fd F => fn_okC F sc (G.cx N (defScope st) vs ls gl k m) ⟨rfl, rfl, rfl, rfl, rfl, rfl, rfl, rfl⟩ (good_by good) hm hb
end Pl

/-! Pl12: the promises of defs in one form, and more steps of data -/
namespace Pl
open PySem L2 PyProof.Rows
section
variable {C : Ctx} {E : ER} {Γ : Env} {Λ : Cells} {pos p : Pos} {β : Type} {A : β → List D} {ok : β → Prop} {R : β → Res → Prop}
end
/-! ### lists of data -/
end Pl
namespace Pl
open PySem L2 PyProof.Rows
/-! ### what stands there: for the driver -/
section
variable {C : Ctx} {E : ER} {Γ : Env} {Λ : Cells}
end
end Pl
namespace Pl
open PySem L2 PyProof.Rows
/-! ### slices of any kind -/
def slP (Λ : Cells) (x : D) (l u : Option Int) (P : D → Prop) : Prop := match x with
  | .str s => s.length ≤ sizeLine ∧ P (.str (cutS s l u))
  | .tup ds => P (.tup (cutD ds l u))
  | x => ∃ ds, lstD Λ x = some ds ∧ P (.lst (cutD ds l u))
section
variable {C : Ctx} {E : ER} {Γ : Env} {Λ : Cells} {P : D → Cells → Prop} {a : Expr} {pos : Pos}
theorem cutD_whole {ds : List D} {l u : Option Int} (h : HT.sIx ds.length 0 l = 0 ∧ HT.sIx ds.length ds.length u = ds.length) : cutD ds l u = ds := by
  unfold cutD; rw [h.1, h.2]; simp
theorem we_sl {lo hi : Option Expr} {p2 : Pos} (h : WE C E Γ Λ a fun x Λ1 => WO C E Γ Λ1 lo fun l Λ2 => WO C E Γ Λ2 hi fun u Λ3 => slP Λ3 x l u fun d => P d Λ3) : WE C E Γ Λ (.Subscript a (.Slice lo hi none p2) pos) P := fun X F W is tk => by
  refine pe_imp (pe_slice (sl_list.or (sl_tupX.or sl_str)) pe_U po_U po_U) fun σ H Q ⟨B, α, S, q, er⟩ => ?_
  refine WE.use h is tk S er fun x Λ1 vx B1 α1 H1 p1 S1 e1 f1 r1 => ?_
  refine WO.use p1 is tk S1 (er.mono e1) fun l Λ2 B2 α2 H2 p2 S2 e2 f2 => ?_
  refine WO.use p2 is tk S2 (er.mono (e1.trans e2)) fun u Λ3 B3 α3 H3 p3 S3 e3 f3 => ?_
  have r3 := r1.mono (e2.trans e3) (f2.trans f3)
  unfold slP at p3
  split at p3
  · obtain ⟨hs, p⟩ := p3
    unfold Rep at r3
    exact .inr (.inr ⟨_, r3, hs, q _ Λ3 _ B3 α3 H3 p S3 ((e1.trans e2).trans e3) ((f1.trans f2).trans f3) (by unfold Rep; rfl)⟩)
  · rename_i ds
    unfold Rep at r3
    obtain ⟨p', vs, rfl, h1, h2⟩ := r3
    refine .inr (.inl ⟨p', vs, rfl, by rw [is.K]; exact S3.bh.sqT h1.1, fun hw => ?_, fun hw t its ht => ?_⟩)
    · rw [h2.length] at hw
      rw [cutD_whole hw] at p3
      exact q _ Λ3 _ B3 α3 H3 p3 S3 ((e1.trans e2).trans e3) ((f1.trans f2).trans f3) (by unfold Rep; exact ⟨p', vs, rfl, h1, h2⟩)
    · have hx : Ex B3 (upd B3 t (.frz (tupO its) (.tup (cutV vs l u)))) := Ex.new (S3.bh.back ht)
      refine q _ Λ3 _ (upd B3 t (.frz (tupO its) (.tup (cutV vs l u)))) α3 _ p3 (S3.lay ht) (((e1.trans e2).trans e3).trans hx) ((f1.trans f2).trans f3) ?_
      show Rep C.K _ α3 (.tup _) (.ref t)
      unfold Rep
      exact ⟨t, _, rfl, SqX.new upd_same, (h2.cut l u).mono hx (List.prefix_refl _)⟩
  · obtain ⟨ds, hs, p⟩ := p3
    obtain ⟨p', vs, rfl, h1, h2⟩ := S3.seqL r3 hs
    refine .inl ⟨p', vs, rfl, by rw [is.K]; exact h1, fun t ht => ?_⟩
    have hx : Ex B3 (upd B3 t (.lst (cutV vs l u))) := Ex.new (S3.bh.back ht)
    refine q _ Λ3 _ (upd B3 t (.lst (cutV vs l u))) α3 _ p (S3.lay ht) (((e1.trans e2).trans e3).trans hx) ((f1.trans f2).trans f3) ?_
    show Rep C.K _ α3 (.lst _) (.ref t)
    unfold Rep
    exact ⟨t, _, rfl, upd_same, (h2.cut l u).mono hx (List.prefix_refl _)⟩
theorem slP_tup {x : D} {ds : List D} {l u : Option Int} {P : D → Prop} (hx : x = .tup ds) (h : P (.tup (cutD ds l u))) : slP Λ x l u P := by subst hx; exact h
theorem slP_str {s : Str} {l u : Option Int} {P : D → Prop} (hs : s.length ≤ sizeLine) (h : P (.str (cutS s l u))) : slP Λ (.str s) l u P := ⟨hs, h⟩
theorem slP_lst {x : D} {ds : List D} {l u : Option Int} {P : D → Prop} (hx : lstD Λ x = some ds) (h : P (.lst (cutD ds l u))) : slP Λ x l u P := by
  unfold slP
  split
  · simp only [lstD, vw] at hx; cases hx
  · simp only [lstD, vw] at hx; cases hx
  · exact ⟨ds, hx, h⟩
end
end Pl
namespace Pl
open PySem L2 PyProof.Rows
theorem good_blk {C : Ctx} {scope : Scope} {vs ls : List Bool} {gl : List Str} (h : goodC C.N (relS scope C.sc) vs ls gl = true) : (C.blk scope vs ls gl).Good := good_by h
theorem rv {d : D} {P : D → Prop} (h : P d) : ∃ d', Res.val d = .val d' ∧ P d' := ⟨d, rfl, h⟩
end Pl
namespace Pl
open PySem L2 PyProof.Rows
/-! ### loops by the turn's number -/
section
variable {C : Ctx} {Γ : Env} {Λ : Cells} {tg : Expr} {ws : List Nat} {R : Rs} {body : List Stmt}
theorem sz_ltt {n : Nat} (h : n < 10000000) : n < sizeLine := by rw [sizeLine_eq]; omega
end
/-! ### a cell that is a stack -/
section
variable {β : Type} {f : β → D} {st : List β} {y : β}
end
end Pl
namespace Pl
open PySem L2 PyProof.Rows
section
variable {f : Int → Int → D} {i j : Int} {P : D → Prop}
end
end Pl
namespace Pl
open PySem L2 PyProof.Rows
/-! ### guards of the driver's rows -/
section
variable {C : Ctx} {E : ER} {Γ : Env} {Λ : Cells}
end
section
variable {Λ : Cells} {P : D → Prop} {f : Int → Int → D} {x y : D}
end
end Pl
namespace Pl
open PySem L2 PyProof.Rows
end Pl
namespace Pl
open PySem L2 PyProof.Rows
/-- the law's own def: True for every script -/
theorem law_ok {G : Gl} {x p : Str} {st : Stmt} {N : List Str} {vs ls : List Bool} {gl : List Str} {k n : Nat} {f : Addr} {fd : FuncData} (F : Fun G.K x x st f fd) (sc : FnScope N [p] (defScope st)) (good : goodC N (defScope st) vs ls gl = true)
    (hb : ∀ ns : List Int, ns.length ≤ n → WSs (G.cx N (defScope st) vs ls gl k 0) (Γ0 N [.fzl (ns.map .int)]) [] (defBody st) ⟨fun _ _ => False, fun r _ => r = .val (.bl true), fun _ _ => False, fun _ _ => False, ER.none⟩) : FnG G.P G.w G.K G.mg G.base (L2.CX G.P G.w) (k + 1) f fd [p] (spOf G.K 1 (lawSpec n)) :=
  fn_ok (ps := [p]) (S := lawSpec n) F sc (G.cx N (defScope st) vs ls gl k 0) ⟨rfl, rfl, rfl, rfl, rfl, rfl, rfl, rfl⟩ (good_by good) (fun ds Λ Q E h => by obtain ⟨_, _, _, rfl, _⟩ := h; exact Nat.le_refl _) fun ds Λ Q E hl ⟨ns, h1, h2, h3, h4⟩ => by
    subst h2; subst h3
    refine wss_mono (hb ns h1) ⟨fun _ _ z => z.elim, fun r Λ e => ?_, fun _ _ z => z, fun _ _ z => z, fun _ _ _ z => z.elim⟩
    have e : r = .val (.bl true) := e
    subst e
    exact ⟨rfl, by rw [List.length_nil, List.take_zero]; exact ⟨rfl, h4⟩⟩
end Pl
namespace Pl
open PySem L2 PyProof.Rows
@[reducible] def frOf {K : PySem.W.Frag} {h : Heap} (_ : K.In h) : PySem.W.Frag := K
end Pl

/-! Pl13: more operations -/
namespace Pl
open PySem L2 PyProof.Rows
section
variable {C : Ctx} {E : ER} {Γ : Env} {Λ : Cells} {a b : Expr} {pos : Pos}
end
/-! lists of things of one kind -/
section
variable {β : Type} {f : β → D}
end
theorem bl_eqv (a b : Bool) : PyData.eqv (py (.bl a)) (py (.bl b)) = decide (a = b) := by cases a <;> cases b <;> rfl
end Pl
namespace Pl
open PySem L2 PyProof.Rows
end Pl
namespace Pl
open PySem L2 PyProof.Rows
end Pl
namespace Pl
open PySem L2 PyProof.Rows
end Pl
namespace Pl
open PySem L2 PyProof.Rows
end Pl

/-! Pl14: dicts -/
namespace Pl
open PySem L2 PyProof.Rows
/-! ### a dict of the module -/
section
variable {C : Ctx} {E : ER} {Γ : Env} {Λ : Cells} {P : D → Cells → Prop} {pos p : Pos} {e : Expr}
end

/-! ### displays -/
section
variable {C : Ctx} {E : ER} {Γ : Env} {Λ : Cells} {pos : Pos} {X : Cx} {W : WX}
end
end Pl
namespace Pl
open PySem L2 PyProof.Rows
section
variable {C : Ctx} {E : ER} {Γ : Env} {Λ : Cells} {pos : Pos}
end
end Pl
namespace Pl
open PySem L2 PyProof.Rows
end Pl
namespace Pl
open PySem L2 PyProof.Rows
section
variable {C : Ctx} {Γ : Env} {Λ : Cells} {tg elt : Expr} {ws : List Nat} {P : List D → Prop} {acc : List D}
end
end Pl

/-! Pl15: dicts that are owned, copied, asked, held against one another -/
namespace Pl
open PySem L2 PyProof.Rows
section
variable {C : Ctx} {E : ER} {Γ : Env} {Λ : Cells} {P : D → Cells → Prop} {pos pos' p apos cpos : Pos} {e o i f : Expr}
/-- {}, owned -/
theorem we_dnewO (h : P (.loc Λ.length) (Λ ++ [.dic [] []])) : WE C E Γ Λ (.Dict [] [] pos) P := fun X F W is tk => by
  refine pe_imp pe_dnewK fun σ H Q ⟨B, α, S, q, er⟩ => ?_
  intro t ht
  have S' := S.own (c := .dic [] []) ht (Ex.new (o := .dK []) ht) (by rw [upd_same]; simp) fun α' _ => ⟨[], upd_same, .nil, rfl⟩
  refine q _ _ _ B _ _ h S' (Ex.refl B) (List.prefix_append _ _) ?_
  show Rep C.K _ _ (.loc _) (.ref t)
  unfold Rep
  exact ⟨t, rfl, by rw [← S.al, List.getElem?_append_right (Nat.le_refl _), Nat.sub_self]; rfl⟩
/-- o.get(e, f) -/
theorem m2_of {X : Cx} (ho : plainO o = true) (he : plainE e = true) (hf : plainE f = true) (hl : (apos.endLine == cpos.line) = true) : M2 X o "get" apos e f cpos :=
  ⟨base_plain ho, by rw [star_plain he, star_plain hf]; rfl, hl, by rw [star_plain he, star_plain hf]; rfl⟩
theorem we_dget2 (h : WE C E Γ Λ o fun x Λ1 => ∃ ks ds, vw Λ1 x = .dic ks ds ∧ WE C E Γ Λ1 e fun y Λ2 => WE C E Γ Λ2 f fun z Λ3 => ∃ k, keyD y = some k ∧ vw Λ3 x = .dic ks ds ∧ P ((dLook ks ds k).getD z) Λ3)
    (ho : plainO o = true := by rfl) (he : plainE e = true := by rfl) (hf : plainE f = true := by rfl) (hl : (apos.endLine == cpos.line) = true := by rfl) : WE C E Γ Λ (.Call (.Attribute o "get" apos) [e, f] [] cpos) P := fun X F W is tk => by
  have hu := is.u200
  refine pe_imp (pe_dget2 (by omega) pe_U pe_U pe_U (m2_of ho he hf hl)) fun σ H Q ⟨B, α, S, q, er⟩ => ?_
  refine WE.use h is tk S er fun x Λ1 vx B1 α1 H1 p1 S1 e1 f1 r1 => ?_
  obtain ⟨ks, ds, hx, p1⟩ := p1
  obtain ⟨a, vs, rfl, g1, g2⟩ := S1.dic r1 hx
  refine ⟨a, rfl, .inl ⟨_, g1⟩, ?_⟩
  refine WE.use p1 is tk S1 (er.mono e1) fun y Λ2 vy B2 α2 H2 p2 S2 e2 f2 r2 => ?_
  refine WE.use p2 is tk S2 (er.mono (e1.trans e2)) fun z Λ3 vz B3 α3 H3 p3 S3 e3 f3 r3 => ?_
  obtain ⟨k, hk, hx3, p⟩ := p3
  obtain ⟨a', ws, ea, k1, k2⟩ := S3.dic ((r1.mono e2 f2).mono e3 f3) hx3
  cases ea
  have hy := keyD_rep (r2.mono e3 f3) hk
  refine ⟨valV (ks.zip ws) k, .inl ⟨_, k, k1, hy, rfl⟩, ?_⟩
  have lk := dLook_rep (ks := ks) k k2
  cases hd : dLook ks ds k with
  | none =>
    rw [lk.2 hd]
    rw [hd] at p
    exact q _ _ _ _ _ _ p S3 ((e1.trans e2).trans e3) ((f1.trans f2).trans f3) r3
  | some d =>
    obtain ⟨v, hv, rv⟩ := lk.1 d hd
    rw [hv]
    rw [hd] at p
    exact q _ _ _ _ _ _ p S3 ((e1.trans e2).trans e3) ((f1.trans f2).trans f3) rv
end
/-! ### d[k] = v -/
def hasK (ks : List Key) (k : Key) : Bool := ks.any fun x => decide (x = k)
def putKs (ks : List Key) (k : Key) : List Key := if hasK ks k = true then ks else ks ++ [k]
def putDs {β : Type} (ks : List Key) (ds : List β) (k : Key) (d : β) : List β := if hasK ks k = true then (ks.zip ds).map (fun q => if q.1 = k then d else q.2) else ds ++ [d]
theorem any_mem {β : Type} {k : Key} : ∀ {ks : List Key} {vs : List β}, ks.length = vs.length → ((ks.zip vs).any fun kv => decide (kv.1 = k)) = hasK ks k
  | [], _, _ => rfl
  | _ :: _, [], h => by simp at h
  | a :: ks, v :: vs, h => by
    have ih := any_mem (k := k) (ks := ks) (vs := vs) (by simpa using h)
    rw [List.zip_cons_cons, List.any_cons, ih]
    rfl
theorem putK_zip {ks : List Key} {vs : List V} {k : Key} {v : V} (h : ks.length = vs.length) : putK (ks.zip vs) k v = (putKs ks k).zip (putDs ks vs k v) := by
  unfold putK putKs putDs
  rw [any_mem h]
  by_cases m : hasK ks k = true
  · rw [if_pos m, if_pos m, if_pos m]
    clear m
    induction ks generalizing vs with
    | nil => simp
    | cons a ks ih =>
      cases vs with
      | nil => simp at h
      | cons w vs =>
        have := ih (vs := vs) (by simpa using h)
        rw [List.zip_cons_cons, List.map_cons, List.map_cons, List.zip_cons_cons, this]
        by_cases e : a = k
        · simp [e]
        · simp [e]
  · rw [if_neg m, if_neg m, if_neg m, List.zip_append h]; rfl
theorem putDs_reps {K : PySem.W.Frag} {B : Hp} {α : List Addr} {k : Key} {d : D} {v : V} (hd : Rep K B α d v) {ks : List Key} : ∀ {ds : List D} {vs : List V}, Reps K B α ds vs → ks.length = ds.length → Reps K B α (putDs ks ds k d) (putDs ks vs k v) := by
  intro ds vs r hl
  unfold putDs
  by_cases m : hasK ks k = true
  · rw [if_pos m, if_pos m]
    clear m
    induction ks generalizing ds vs with
    | nil => simp [Reps]
    | cons a ks ih =>
      cases ds with
      | nil => simp at hl
      | cons x ds =>
        unfold Reps at r
        obtain ⟨w, ws, rfl, r1, r2⟩ := r
        rw [List.zip_cons_cons, List.zip_cons_cons, List.map_cons, List.map_cons]
        refine .cons ?_ (ih r2 (by simpa using hl))
        by_cases e : a = k
        · simp [e]; exact hd
        · simp [e]; exact r1
  · rw [if_neg m, if_neg m]
    exact r.append (.one hd)
theorem putKs_len {β : Type} {ks : List Key} {ds : List β} {k : Key} {d : β} (h : ks.length = ds.length) : (putKs ks k).length = (putDs ks ds k d).length := by
  unfold putKs putDs
  by_cases m : hasK ks k = true
  · rw [if_pos m, if_pos m, List.length_map, List.length_zip, h]; simp
  · rw [if_neg m, if_neg m, List.length_append, List.length_append, h]; rfl
section
variable {C : Ctx} {Γ : Env} {Λ : Cells} {R : Rs} {pos pos' : Pos} {e o i : Expr}
theorem ws_dput (h : WE C R.er Γ Λ e fun d Λ1 => WE C R.er Γ Λ1 o fun x Λ2 => WE C R.er Γ Λ2 i fun y Λ3 => ∃ n ks ds k, x = .loc n ∧ keyD y = some k ∧ Λ3[n]? = some (.dic ks ds) ∧ ks.length < 10000000 ∧ R.nx Γ (Λ3.set n (.dic (putKs ks k) (putDs ks ds k d))))
    (hc : noComp e = true := by rfl) : WS C Γ Λ (.Assign [.Subscript o i pos'] e pos) R := fun X F W is hm tk => by
  have hu := is.u200
  refine ps_imp (ps_dput (by omega) pe_U pe_U pe_U (noSwap hc)) fun Dn σ H ⟨B, α, S, q⟩ => ?_
  refine WE.use h is tk S q.er.at fun d Λ1 v B1 α1 H1 p1 S1 e1 f1 r1 => ?_
  refine WE.use p1 is tk S1 (q.er.mono e1).at fun x Λ2 vx B2 α2 H2 p2 S2 e2 f2 r2 => ?_
  refine WE.use p2 is tk S2 (q.er.mono (e1.trans e2)).at fun y Λ3 vy B3 α3 H3 p3 S3 e3 f3 r3 => ?_
  obtain ⟨n, ks, ds, k, rfl, hk, hn, hl, p⟩ := p3
  have r2' := r2.mono e3 f3
  unfold Rep at r2'
  obtain ⟨a, rfl, ha⟩ := r2'
  obtain ⟨a', q1, q2, q3, vs, q4, q5, q6⟩ := S3.ce n _ hn (by simp)
  rw [ha] at q1; cases q1
  have hlv : ks.length = vs.length := by rw [q6, q5.length]
  refine ⟨a, upd H3 a (.dK (putK (ks.zip vs) k v)), rfl, .inl ⟨ks.zip vs, k, q4, keyD_rep r3 hk, ?_, rfl⟩, ?_⟩
  · rw [List.length_zip]; exact sz_ltt (by omega)
  · rw [putK_zip hlv]
    refine q.nx Γ _ B3 α3 σ _ p (S3.put ha q2 ?_) ((e1.trans e2).trans e3)
    exact ⟨_, upd_same, putDs_reps ((r1.mono e2 f2).mono e3 f3) q5 q6, putKs_len q6⟩
end
end Pl

/-! Pl16: dicts held against one another -/
namespace Pl
open PySem L2 PyProof.Rows PySem.Spec
section
variable {prog : Program} {w : World} {A : Around} {s : Shared} {Kx : Type} [DecidableEq Kx] {kd : PySem.KeyKind prog w Kx}
end
section
variable {C : Ctx} {E : ER} {Γ : Env} {Λ : Cells} {pos : Pos} {a b : Expr}
end
end Pl
namespace Pl
open PySem L2 PyProof.Rows
section
variable {C : Ctx} {E : ER} {Γ : Env} {Λ : Cells} {pos p : Pos} {β : Type} {A : β → List D} {ok : β → Prop} {R : β → Res → Prop}
end
end Pl

/-! Pl17: tuples whose items are held against one another only up to the first that differ -/
namespace Tlt
open PySem PySem.SeqAt PyProof.Rows
open PySem.AutoSeq1 (wpAny_loadPart')
open PySem.MeetsSeq PySem.MeetsSeq2 PySem.MeetsSeq3 PySem.SeqRoads2
/-- from the left: equal items are passed, the first unequal ones answer; fin where none differ -/
def LtP (A : Around) (z : Shared) (fin : Bool) : List (Value × Value) → Bool → Prop
  | [], k => k = fin
  | (x, y) :: r, k => ∃ e, EqAt A z x y e ∧ (e = true → LtP A z fin r k) ∧ (e = false → RcLt A z x y k)
theorem tup_lt (p q : Addr) (us ws : Array Value) (m1 m2 : Nat) (d1 d2 : Option Addr) (o1 o2 : Array (Option Value)) (k : Bool) :
    Meets (Builtin.«tuple.__lt__» ⟨[.ref p, .ref q], []⟩) fun A R z => z.heap.get? p = some ⟨.type "tuple", d1, .seq us m1, o1⟩ ∧ z.heap.get? q = some ⟨.type "tuple", d2, .seq ws m2, o2⟩ ∧ LtP A.in1 z (decide (us.size < ws.size)) (us.toList.zip ws.toList) k ∧ R (.ok (.ret (.bool k))) z :=
  .of_wp fun pr w A R z hyp => by
    obtain ⟨hh, gg, dd, tt, oo⟩ := z; obtain ⟨hp, hq, hL, hR⟩ := hyp
    have sub := AutoSeq1.sub_tuple_tuple
    wp_walk using wpAny_loadPart' hp, wpAny_loadPart' hq, wpAny_forIn_list _ (fun tl c z' => c.1 = none ∧ z' = ⟨hh, gg, dd, tt, oo⟩ ∧ LtP A.in1 ⟨hh, gg, dd, tt, oo⟩ (decide (us.size < ws.size)) tl k) _
    case turn =>
      rintro ⟨x, y⟩ tl c z' ⟨hc, rfl, e, he, h1, h2⟩
      refine wpAny_bind (he pr w _ _ ?_)
      cases e with
      | true =>
        wp_walk
        exact ⟨rfl, rfl, h1 rfl⟩
      | false =>
        have hr := h2 rfl pr w
        generalize PySem.richCompare CmpOp.Lt x y = m at hr ⊢
        wp_walk
        refine hr _ _ ?_
        wp_walk
        exact ⟨_, rfl, hR⟩
    case fin =>
      rintro ⟨c1, c2⟩ z' ⟨hc, rfl, hL'⟩
      simp only at hc
      subst hc
      have hk : k = decide (us.size < ws.size) := hL'
      subst hk
      wp_walk
      exact ⟨_, rfl, by simpa [Builtin.Tuple.tupleCompareSizes] using hR⟩
    case h =>
      exact ⟨rfl, rfl, hL⟩
theorem rc_tup {A : Around} {z : Shared} {p q : Addr} {us ws : Array Value} {k : Bool} (hp : z.heap.IsTuple p us) (hq : z.heap.IsTuple q ws) (hu : A.units < cLine) (hL : LtP A.in1 z (decide (us.size < ws.size)) (us.toList.zip ws.toList) k) : RcLt A z (.ref p) (.ref q) k := fun pr w E Q h => by
  obtain ⟨⟨c1, d1, t1, o1⟩, g1, e1, m1, f1⟩ := hp
  obtain ⟨⟨c2, d2, t2, o2⟩, g2, e2, m2, f2⟩ := hq
  simp only at e1 f1 e2 f2
  subst e1 f1 e2 f2
  exact richCompare_meets_room (op := .Lt) ⟨_, g1, rfl⟩ ⟨_, g2, rfl⟩ F.slot_tuple_lt F.entry_tuple_lt (F.args_tuple_lt_2 _ _) (tup_lt p q us ws m1 m2 d1 d2 o1 o2 k) ⟨g1, g2, hL, show Value.bool k ≠ Value.notImplemented ∧ Q (.bool k) z from ⟨(fun x => nomatch x), h⟩⟩ hu
end Tlt

/-! Pl18: == through cells, list.clear -/
namespace Pl
open PySem L2 PyProof.Rows
/-! ### a datum with its cells looked through -/
mutual
def dv (Λ : Cells) : D → D
  | .loc n => match Λ[n]? with
    | some (.lst ds) => .lst ds
    | _ => .loc n
  | .tup ds => .tup (dvs Λ ds)
  | .lst ds => .lst (dvs Λ ds)
  | .fzl ds => .fzl (dvs Λ ds)
  | d => d
def dvs (Λ : Cells) : List D → List D
  | [] => []
  | d :: ds => dv Λ d :: dvs Λ ds
end
section
variable {K : PySem.W.Frag} {F : Fm} {B : Hp} {α : List Addr} {Γ : Env} {Λ : Cells} {σ : L2.St} {H : Hp}
end
section
variable {C : Ctx} {E : ER} {Γ : Env} {Λ : Cells} {pos apos cpos : Pos} {a b o : Expr}
end
end Pl
namespace Pl
open PySem L2 PyProof.Rows
/-! ### comprehensions whose items are told by a word only -/
inductive All2 {β γ : Type} (R : β → γ → Prop) : List β → List γ → Prop
  | nil : All2 R [] []
  | cons {x y xs ys} : R x y → All2 R xs ys → All2 R (x :: xs) (y :: ys)
theorem All2.len {β γ : Type} {R : β → γ → Prop} {xs : List β} {ys : List γ} (h : All2 R xs ys) : xs.length = ys.length := by
  induction h with
  | nil => rfl
  | cons _ _ ih => simp [ih]
section
variable {C : Ctx} {Γ : Env} {Λ : Cells} {tg elt : Expr} {ws : List Nat} {P : List D → Prop} {β γ : Type}
end
end Pl
namespace Pl
open PySem L2
end Pl
namespace Pl
open PySem L2
end Pl
namespace Pl
open PySem L2
end Pl

namespace Law
open PySem L2 Pl
/-- a letter -/
inductive Lt | p | q | r
  deriving DecidableEq
def Lt.s : Lt → Str | .p => "p" | .q => "q" | .r => "r"
inductive Bop | and | or | iff
  deriving DecidableEq
def Bop.s : Bop → Str | .and => "and" | .or => "or" | .iff => "if"
/-- a saying -/
inductive Sy
  | no | lt (l : Lt) | not (a : Sy) | shown (a : Sy) | bin (o : Bop) (a b : Sy)
  deriving DecidableEq
namespace Sy
def pv : Sy → D
  | no => .tup [.str "no"]
  | lt l => .tup [.str "letter", .str l.s]
  | not a => .tup [.str "not", a.pv]
  | shown a => .tup [.str "shown", a.pv]
  | bin o a b => .tup [.str o.s, a.pv, b.pv]
def size : Sy → Nat
  | no => 1
  | lt _ => 1
  | not a => 1 + a.size
  | shown a => 1 + a.size
  | bin _ a b => 1 + a.size + b.size
def kids : Sy → List Sy
  | no => []
  | lt _ => []
  | not a => [a]
  | shown a => [a]
  | bin _ a b => [a, b]
/-- nesting -/
def ht : Sy → Nat
  | no => 1
  | lt _ => 1
  | not a => 1 + a.ht
  | shown a => 1 + a.ht
  | bin _ a b => 1 + max a.ht b.ht
theorem ht_size : ∀ s : Sy, s.ht ≤ s.size
  | no => Nat.le_refl _
  | lt _ => Nat.le_refl _
  | not a => Nat.add_le_add_left (ht_size a) 1
  | shown a => Nat.add_le_add_left (ht_size a) 1
  | bin _ a b => by have := ht_size a; have := ht_size b; simp only [ht, size]; omega
theorem ht_pos (s : Sy) : 1 ≤ s.ht := by cases s <;> simp [ht] <;> omega
theorem kid_ht {m : Nat} {s x : Sy} (h : s.ht ≤ m + 1) (hx : x ∈ s.kids) : x.ht ≤ m := by
  cases s <;> simp only [kids, List.not_mem_nil, List.mem_cons, or_false, ht] at h hx
  · subst hx; omega
  · subst hx; omega
  · rcases hx with rfl | rfl <;> omega
end Sy
namespace Sy
theorem pv_plain : ∀ s : Sy, (py s.pv).plain = true
  | no => rfl
  | lt _ => rfl
  | not a => by show (PyData.tuple [.str "not", py a.pv]).plain = true; simp [PyData.plain, PyData.plainAll, pv_plain a]
  | shown a => by show (PyData.tuple [.str "shown", py a.pv]).plain = true; simp [PyData.plain, PyData.plainAll, pv_plain a]
  | bin o a b => by show (PyData.tuple [.str o.s, py a.pv, py b.pv]).plain = true; simp [PyData.plain, PyData.plainAll, pv_plain a, pv_plain b]
theorem pv_depth : ∀ s : Sy, (py s.pv).depth ≤ s.ht
  | no => by show (PyData.tuple [.str "no"]).depth ≤ 1; simp [PyData.depth, PyData.depthAll]
  | lt l => by show (PyData.tuple [.str "letter", .str l.s]).depth ≤ 1; simp [PyData.depth, PyData.depthAll]
  | not a => by
    have := pv_depth a
    show (PyData.tuple [.str "not", py a.pv]).depth ≤ 1 + a.ht
    simp only [PyData.depth, PyData.depthAll]; omega
  | shown a => by
    have := pv_depth a
    show (PyData.tuple [.str "shown", py a.pv]).depth ≤ 1 + a.ht
    simp only [PyData.depth, PyData.depthAll]; omega
  | bin o a b => by
    have := pv_depth a
    have := pv_depth b
    show (PyData.tuple [.str o.s, py a.pv, py b.pv]).depth ≤ 1 + max a.ht b.ht
    simp only [PyData.depth, PyData.depthAll]; omega
theorem pv_tup : ∀ s : Sy, ∃ ds, s.pv = .tup ds
  | no => ⟨_, rfl⟩
  | lt _ => ⟨_, rfl⟩
  | not _ => ⟨_, rfl⟩
  | shown _ => ⟨_, rfl⟩
  | bin _ _ _ => ⟨_, rfl⟩
end Sy
/-! what the builders take out of their lists -/
/-- the parts of a stack, all together -/
def tot (st : List Sy) : Nat := (st.map Sy.size).sum
theorem tot_snoc (st : List Sy) (y : Sy) : tot (st ++ [y]) = tot st + y.size := by simp [tot]
theorem size_pos (s : Sy) : 1 ≤ s.size := by cases s <;> simp [Sy.size] <;> omega
theorem len_tot (st : List Sy) : st.length ≤ tot st := by
  induction st with
  | nil => simp [tot]
  | cons a st ih => have := size_pos a; simp only [tot, List.map_cons, List.sum_cons, List.length_cons] at *; omega
end Law

/-! Ss: the order of sayings -/
namespace Law
open PySem L2 Pl
/-! ### an order of lists of numbers -/
def lexN : List Nat → List Nat → Bool
  | [], [] => false
  | [], _ :: _ => true
  | _ :: _, [] => false
  | a :: x, b :: y => if a = b then lexN x y else decide (a < b)
theorem lexN_self : ∀ x, lexN x x = false
  | [] => rfl
  | a :: x => by rw [lexN, if_pos rfl, lexN_self x]
theorem lexN_asym : ∀ x y, lexN x y = true → lexN y x = false
  | [], [], h => by cases h
  | [], _ :: _, _ => rfl
  | _ :: _, [], h => by cases h
  | a :: x, b :: y, h => by
    rw [lexN] at h ⊢
    by_cases e : a = b
    · rw [if_pos e] at h; rw [if_pos e.symm]; exact lexN_asym x y h
    · rw [if_neg e] at h; rw [if_neg (fun z => e z.symm)]
      have := of_decide_eq_true h
      exact decide_eq_false (by omega)
theorem lexN_tot : ∀ x y, lexN x y = false → lexN y x = false → x = y
  | [], [], _, _ => rfl
  | [], _ :: _, h, _ => by cases h
  | _ :: _, [], _, h => by cases h
  | a :: x, b :: y, h, g => by
    rw [lexN] at h g
    by_cases e : a = b
    · rw [if_pos e] at h; rw [if_pos e.symm] at g; rw [e, lexN_tot x y h g]
    · rw [if_neg e] at h; rw [if_neg (fun z => e z.symm)] at g
      have := of_decide_eq_false h
      have := of_decide_eq_false g
      omega
theorem lexN_trans : ∀ x y z, lexN x y = true → lexN y z = true → lexN x z = true
  | [], [], _, h, _ => by cases h
  | [], _ :: _, [], _, h => by cases h
  | [], _ :: _, _ :: _, _, _ => rfl
  | _ :: _, [], _, h, _ => by cases h
  | _ :: _, _ :: _, [], _, h => by cases h
  | a :: x, b :: y, c :: z, h, g => by
    rw [lexN] at h g ⊢
    by_cases e : a = b
    · rw [if_pos e] at h
      subst e
      by_cases e2 : a = c
      · rw [if_pos e2] at g ⊢; exact lexN_trans x y z h g
      · rw [if_neg e2] at g ⊢; exact g
    · rw [if_neg e] at h
      have h1 := of_decide_eq_true h
      by_cases e2 : b = c
      · subst e2; rw [if_neg e]; exact h
      · rw [if_neg e2] at g
        have h2 := of_decide_eq_true g
        rw [if_neg (by omega)]; exact decide_eq_true (by omega)
namespace Sy
def ix : Sy → Nat
  | bin .and _ _ => 0
  | bin .iff _ _ => 1
  | lt _ => 2
  | no => 3
  | not _ => 4
  | bin .or _ _ => 5
  | shown _ => 6
def _root_.Law.Lt.ix : Lt → Nat | .p => 0 | .q => 1 | .r => 2
/-- a code without prefixes -/
def code : Sy → List Nat
  | no => [3]
  | lt l => [2, l.ix]
  | not a => 4 :: code a
  | shown a => 6 :: code a
  | bin o a b => (bin o no no).ix :: (code a ++ code b)
def ltS (s t : Sy) : Bool := lexN (code s) (code t)
theorem code_app : ∀ (s t : Sy) (p q : List Nat), lexN (code s ++ p) (code t ++ q) = if s = t then lexN p q else ltS s t := by
  intro s
  induction s with
  | no =>
    intro t p q
    cases t with
    | no => simp [code, lexN]
    | bin o a b => cases o <;> simp [code, ltS, lexN, ix]
    | _ => simp [code, ltS, lexN]
  | lt l =>
    intro t p q
    cases t with
    | lt m => cases l <;> cases m <;> simp [code, ltS, lexN, Lt.ix]
    | bin o a b => cases o <;> simp [code, ltS, lexN, ix]
    | _ => simp [code, ltS, lexN]
  | not a ih =>
    intro t p q
    cases t with
    | not b => simp only [code, ltS, List.cons_append, lexN, if_true, ih b p q]; by_cases e : a = b <;> simp [e, ltS]
    | bin o a b => cases o <;> simp [code, ltS, lexN, ix]
    | _ => simp [code, ltS, lexN]
  | shown a ih =>
    intro t p q
    cases t with
    | shown b => simp only [code, ltS, List.cons_append, lexN, if_true, ih b p q]; by_cases e : a = b <;> simp [e, ltS]
    | bin o a b => cases o <;> simp [code, ltS, lexN, ix]
    | _ => simp [code, ltS, lexN]
  | bin o a b iha ihb =>
    intro t p q
    cases t with
    | bin o' a' b' =>
      by_cases eo : o = o'
      · subst eo
        simp only [code, ltS, List.cons_append, List.append_assoc, lexN, if_true, iha, ihb]
        by_cases e : a = a'
        · subst e
          by_cases e2 : b = b'
          · subst e2; simp
          · simp [e2]
        · simp [e]
      · have : ¬ (bin o no no).ix = (bin o' no no).ix := by cases o <;> cases o' <;> simp [ix] <;> exact eo rfl
        simp only [code, ltS, List.cons_append, lexN, if_neg this]
        rw [if_neg (by intro z; injection z with z1; exact eo z1)]
    | _ => cases o <;> simp [code, ltS, lexN, ix]
theorem ltS_kid (n : Nat) (a b : Sy) : lexN (n :: code a) (n :: code b) = ltS a b := by rw [lexN, if_pos rfl]; rfl
theorem code_inj {s t : Sy} (h : code s = code t) : s = t := by
  by_cases e : s = t
  · exact e
  · exfalso
    have h1 := code_app s t [] [0]
    have h2 := code_app s t [0] []
    rw [if_neg e] at h1 h2
    rw [h] at h1 h2
    have h3 := code_app t t [] [0]
    have h4 := code_app t t [0] []
    rw [if_pos rfl] at h3 h4
    rw [h3] at h1
    rw [h4] at h2
    rw [← h1] at h2
    cases h2
theorem ltS_tot {s t : Sy} (h : ltS s t = false) (g : ltS t s = false) : s = t := code_inj (lexN_tot _ _ h g)
/-! ### == of sayings -/
theorem strs_eqv (x y : Str) : PyData.eqv (.str x) (.str y) = decide (x = y) := by
  rw [PyData.eqv]
  by_cases e : x = y
  · subst e; simp
  · simp [e]
theorem lt_s_inj {a b : Lt} : a.s = b.s ↔ a = b := by
  constructor
  · intro h; cases a <;> cases b <;> first | rfl | (exfalso; revert h; decide)
  · rintro rfl; rfl
theorem eqv_pv : ∀ s t : Sy, PyData.eqv (py s.pv) (py t.pv) = decide (s = t) := by
  intro s
  induction s with
  | no =>
    intro t
    cases t with
    | bin o a b => cases o <;> (show PyData.eqv (.tuple [.str _]) (.tuple [.str _, _, _]) = _; simp [PyData.eqv, PyData.eqvAll])
    | no => show PyData.eqv (.tuple [.str "no"]) (.tuple [.str "no"]) = _; simp [PyData.eqv, PyData.eqvAll]
    | lt l => show PyData.eqv (.tuple [.str _]) (.tuple [.str _, _]) = _; simp [PyData.eqv, PyData.eqvAll]
    | not l => show PyData.eqv (.tuple [.str _]) (.tuple [.str _, _]) = _; simp [PyData.eqv, PyData.eqvAll]
    | shown l => show PyData.eqv (.tuple [.str _]) (.tuple [.str _, _]) = _; simp [PyData.eqv, PyData.eqvAll]
  | lt l =>
    intro t
    cases t with
    | bin o a b => show PyData.eqv (.tuple [.str _, _]) (.tuple [.str _, _, _]) = _; simp [PyData.eqv, PyData.eqvAll]
    | no => show PyData.eqv (.tuple [.str _, _]) (.tuple [.str _]) = _; simp [PyData.eqv, PyData.eqvAll]
    | lt m => cases l <;> cases m <;> rfl
    | not a => show PyData.eqv (.tuple [.str "letter", _]) (.tuple [.str "not", _]) = _; simp [PyData.eqv, PyData.eqvAll]; intro h; exact absurd h (by decide)
    | shown a => show PyData.eqv (.tuple [.str "letter", _]) (.tuple [.str "shown", _]) = _; simp [PyData.eqv, PyData.eqvAll]; intro h; exact absurd h (by decide)
  | not x ih =>
    intro t
    cases t with
    | bin o a b => show PyData.eqv (.tuple [.str _, _]) (.tuple [.str _, _, _]) = _; simp [PyData.eqv, PyData.eqvAll]
    | no => show PyData.eqv (.tuple [.str _, _]) (.tuple [.str _]) = _; simp [PyData.eqv, PyData.eqvAll]
    | lt m => show PyData.eqv (.tuple [.str "not", _]) (.tuple [.str "letter", _]) = _; simp [PyData.eqv, PyData.eqvAll]; intro h; exact absurd h (by decide)
    | not a => show PyData.eqv (.tuple [.str "not", py x.pv]) (.tuple [.str "not", py a.pv]) = _; simp [PyData.eqv, PyData.eqvAll, ih]
    | shown a => show PyData.eqv (.tuple [.str "not", _]) (.tuple [.str "shown", _]) = _; simp [PyData.eqv, PyData.eqvAll]; intro h; exact absurd h (by decide)
  | shown x ih =>
    intro t
    cases t with
    | bin o a b => show PyData.eqv (.tuple [.str _, _]) (.tuple [.str _, _, _]) = _; simp [PyData.eqv, PyData.eqvAll]
    | no => show PyData.eqv (.tuple [.str _, _]) (.tuple [.str _]) = _; simp [PyData.eqv, PyData.eqvAll]
    | lt m => show PyData.eqv (.tuple [.str "shown", _]) (.tuple [.str "letter", _]) = _; simp [PyData.eqv, PyData.eqvAll]; intro h; exact absurd h (by decide)
    | not a => show PyData.eqv (.tuple [.str "shown", _]) (.tuple [.str "not", _]) = _; simp [PyData.eqv, PyData.eqvAll]; intro h; exact absurd h (by decide)
    | shown a => show PyData.eqv (.tuple [.str "shown", py x.pv]) (.tuple [.str "shown", py a.pv]) = _; simp [PyData.eqv, PyData.eqvAll, ih]
  | bin o x y ihx ihy =>
    intro t
    cases t with
    | bin o' a b =>
      show PyData.eqv (.tuple [.str o.s, py x.pv, py y.pv]) (.tuple [.str o'.s, py a.pv, py b.pv]) = _
      have ho : (o.s = o'.s) ↔ o = o' := by
        constructor
        · intro h; cases o <;> cases o' <;> first | rfl | (exfalso; revert h; decide)
        · rintro rfl; rfl
      simp [PyData.eqv, PyData.eqvAll, ihx, ihy]
      by_cases e1 : o = o' <;> by_cases e2 : x = a <;> by_cases e3 : y = b <;> simp [e1, e2, e3, ho]
    | no => show PyData.eqv (.tuple [.str _, _, _]) (.tuple [.str _]) = _; simp [PyData.eqv, PyData.eqvAll]
    | lt m => show PyData.eqv (.tuple [.str _, _, _]) (.tuple [.str _, _]) = _; simp [PyData.eqv, PyData.eqvAll]
    | not a => show PyData.eqv (.tuple [.str _, _, _]) (.tuple [.str _, _]) = _; simp [PyData.eqv, PyData.eqvAll]
    | shown a => show PyData.eqv (.tuple [.str _, _, _]) (.tuple [.str _, _]) = _; simp [PyData.eqv, PyData.eqvAll]
end Sy
end Law

/-! Ss2: < of sayings, as the model reckons it -/
namespace Law
open PySem L2 Pl PySem.SeqAt PyProof.Rows PySem.W
namespace Sy
def wS : Nat → Str | 0 => "and" | 1 => "if" | 2 => "letter" | 3 => "no" | 4 => "not" | 5 => "or" | _ => "shown"
def kd : Sy → List PyData
  | no => []
  | lt l => [.str l.s]
  | not a => [py a.pv]
  | shown a => [py a.pv]
  | bin _ a b => [py a.pv, py b.pv]
def kc : Sy → List Nat
  | no => []
  | lt l => [l.ix]
  | not a => code a
  | shown a => code a
  | bin _ a b => code a ++ code b
theorem py_kd (s : Sy) : py s.pv = .tuple (.str (wS s.ix) :: kd s) := by
  cases s with
  | bin o a b => cases o <;> rfl
  | _ => rfl
theorem code_kc (s : Sy) : code s = s.ix :: kc s := by
  cases s with
  | bin o a b => cases o <;> rfl
  | _ => rfl
theorem ix_lt (s : Sy) : s.ix < 7 := by
  cases s with
  | bin o a b => cases o <;> simp [ix]
  | _ => simp [ix]
theorem wS_lt : ∀ i, i < 7 → ∀ j, j < 7 → decide ((wS i).cps.toList < (wS j).cps.toList) = decide (i < j) := by decide +kernel
theorem wS_eq : ∀ i, i < 7 → ∀ j, j < 7 → decide (wS i = wS j) = decide (i = j) := by decide +kernel
theorem lt_word {s t : Sy} (h : s.ix ≠ t.ix) : decide ((wS s.ix).cps.toList < (wS t.ix).cps.toList) = ltS s t := by
  rw [wS_lt _ (ix_lt s) _ (ix_lt t), ltS, code_kc s, code_kc t, lexN, if_neg h]
section
variable {A : Around} {z : Shared}
theorem eqStr {x y : Str} {v u : Value} {as bs : List Addr} (hv : Reads z.heap v (.str x) as) (hu : Reads z.heap u (.str y) bs) (hA : A.units < cLine) : EqAt A z v u (decide (x = y)) := by
  have := eqAt_plain (.str x) (.str y) A z v u as bs hv hu rfl rfl (by simpa [PyData.depth] using hA)
  rw [strs_eqv] at this; exact this
theorem rcStr {x y : Str} {v u : Value} {as bs : List Addr} (hv : Reads z.heap v (.str x) as) (hu : Reads z.heap u (.str y) bs) (hA : A.units < cLine) : RcLt A z v u (decide (x.cps.toList < y.cps.toList)) := by
  have := rcLt_alike (.str x) (.str y) A z v u as bs hv hu rfl (by simp) (by simpa [PyData.depth] using hA)
  rw [dataLt_str] at this; exact this
theorem eqSy {s t : Sy} {v u : Value} {as bs : List Addr} (hv : Reads z.heap v (py s.pv) as) (hu : Reads z.heap u (py t.pv) bs) (hA : A.units + s.ht < cLine) : EqAt A z v u (decide (s = t)) := by
  have := eqAt_plain _ _ A z v u as bs hv hu (pv_plain s) (pv_plain t) (by have := pv_depth s; omega)
  rw [eqv_pv] at this; exact this
theorem rcs : ∀ (n : Nat) (s t : Sy), s.ht ≤ n → ∀ (A : Around) (v u : Value) (as bs : List Addr), Reads z.heap v (py s.pv) as → Reads z.heap u (py t.pv) bs → A.units + n + 2 < cLine → RcLt A z v u (ltS s t) := by
  intro n
  induction n with
  | zero => intro s t h; have := ht_pos s; omega
  | succ n ih =>
    intro s t hs A v u as bs hv hu hA
    have hA' : A.in1.units = A.units + 1 := rfl
    rw [py_kd] at hv hu
    cases hv with
    | @tuple l o us m _ as₁ h1 h2 h3 h4 =>
      cases hu with
      | @tuple l' o' ws m' _ bs₁ k1 k2 k3 k4 =>
        refine Tlt.rc_tup ⟨_, h1, h2, _, h3⟩ ⟨_, k1, k2, _, k3⟩ (by omega) ?_
        have n1 : us.size = (PyData.str (wS s.ix) :: kd s).length := by simpa using ReadsAll.length _ _ _ h4
        have n2 : ws.size = (PyData.str (wS t.ix) :: kd t).length := by simpa using ReadsAll.length _ _ _ k4
        rw [n1, n2]
        generalize us.toList = xs at h4
        generalize ws.toList = ys at k4
        cases h4 with
        | cons r rs =>
          cases k4 with
          | cons r' rs' =>
            refine ⟨_, eqStr r r' (by omega), fun e => ?_, fun e => ?_⟩
            · have e1 : s.ix = t.ix := of_decide_eq_true (by rw [← wS_eq _ (ix_lt s) _ (ix_lt t)]; exact e)
              have shape : ∀ {a b : Sy} {vs ws : List Value} {as bs : List Addr}, ReadsAll z.heap vs [py a.pv] as → ReadsAll z.heap ws [py b.pv] bs → a.ht ≤ n → Tlt.LtP A.in1 z false (vs.zip ws) (ltS a b) := fun {a b vs ws as bs} rs rs' c3 => by
                cases rs with
                | cons q qs =>
                  cases rs' with
                  | cons q' qs' =>
                    cases qs
                    cases qs'
                    refine ⟨_, eqSy q q' (by omega), fun f => ?_, fun f => ih a b c3 A.in1 _ _ _ _ q q' (by omega)⟩
                    have : a = b := of_decide_eq_true f
                    subst this
                    show ltS a a = _
                    rw [ltS, lexN_self]
              cases s with
              | no =>
                cases t with
                | no => cases rs; cases rs'; show ltS no no = _; rfl
                | bin o a b => cases o <;> simp [ix] at e1
                | _ => simp [ix] at e1
              | lt x =>
                cases t with
                | lt y =>
                  cases rs with
                  | cons q qs =>
                    cases rs' with
                    | cons q' qs' =>
                      cases qs
                      cases qs'
                      refine ⟨_, eqStr q q' (by omega), fun f => ?_, fun f => ?_⟩
                      · have : x = y := lt_s_inj.mp (of_decide_eq_true f)
                        subst this
                        show ltS (lt x) (lt x) = _
                        rw [ltS, lexN_self]; rfl
                      · have := rcStr q q' (A := A.in1) (z := z) (by omega)
                        have e2 : decide (x.s.cps.toList < y.s.cps.toList) = ltS (lt x) (lt y) := by cases x <;> cases y <;> decide +kernel
                        rw [e2] at this; exact this
                | bin o a b => cases o <;> simp [ix] at e1
                | _ => simp [ix] at e1
              | not a =>
                cases t with
                | not b => rw [show ltS (not a) (not b) = ltS a b from ltS_kid 4 a b]; exact shape rs rs' (by simp only [ht] at hs; omega)
                | bin o a b => cases o <;> simp [ix] at e1
                | _ => simp [ix] at e1
              | shown a =>
                cases t with
                | shown b => rw [show ltS (shown a) (shown b) = ltS a b from ltS_kid 6 a b]; exact shape rs rs' (by simp only [ht] at hs; omega)
                | bin o a b => cases o <;> simp [ix] at e1
                | _ => simp [ix] at e1
              | bin o a b =>
                cases t with
                | bin o' a' b' =>
                  have eo : o = o' := by cases o <;> cases o' <;> first | rfl | (simp [ix] at e1)
                  subst eo
                  have hs' : a.ht ≤ n ∧ b.ht ≤ n := by simp only [ht] at hs; omega
                  have e3 : ltS (bin o a b) (bin o a' b') = if a = a' then ltS b b' else ltS a a' := by
                    rw [ltS, code, code, lexN, if_pos rfl, code_app]; rfl
                  cases rs with
                  | cons q qs =>
                    cases rs' with
                    | cons q' qs' =>
                      cases qs with
                      | cons p ps =>
                        cases qs' with
                        | cons p' ps' =>
                          cases ps
                          cases ps'
                          rw [e3]
                          refine ⟨_, eqSy q q' (by omega), fun f => ?_, fun f => ?_⟩
                          · rw [if_pos (of_decide_eq_true f)]
                            refine ⟨_, eqSy p p' (by omega), fun g => ?_, fun g => ih b b' hs'.2 A.in1 _ _ _ _ p p' (by omega)⟩
                            have : b = b' := of_decide_eq_true g
                            subst this
                            show ltS b b = _
                            rw [ltS, lexN_self]; rfl
                          · rw [if_neg (of_decide_eq_false f)]
                            exact ih a a' hs'.1 A.in1 _ _ _ _ q q' (by omega)
                | _ => cases o <;> simp [ix] at e1
            · have e1 : s.ix ≠ t.ix := of_decide_eq_false (by rw [← wS_eq _ (ix_lt s) _ (ix_lt t)]; exact e)
              have := rcStr r r' (A := A.in1) (z := z) (by omega)
              rw [lt_word e1] at this; exact this
end
end Sy
end Law

/-! Ss3: sorted() of sayings -/
namespace Law
open PySem L2 Pl PySem.SeqAt PyProof.Rows PySem.W
namespace Sy
section
variable {A : Around} {z : Shared}
theorem kidsP {s t : Sy} {vs ws : List Value} {as bs : List Addr} (e1 : s.ix = t.ix) (rs : ReadsAll z.heap vs (kd s) as) (rs' : ReadsAll z.heap ws (kd t) bs) (hA : A.units + s.ht + 4 < cLine) : Tlt.LtP A z false (vs.zip ws) (ltS s t) := by
  have shape : ∀ {a b : Sy} {vs ws : List Value} {as bs : List Addr}, ReadsAll z.heap vs [py a.pv] as → ReadsAll z.heap ws [py b.pv] bs → a.ht ≤ s.ht → Tlt.LtP A z false (vs.zip ws) (ltS a b) := fun {a b vs ws as bs} rs rs' c3 => by
    cases rs with
    | cons q qs =>
      cases rs' with
      | cons q' qs' =>
        cases qs
        cases qs'
        refine ⟨_, eqSy q q' (by omega), fun f => ?_, fun f => rcs a.ht a b (Nat.le_refl _) A _ _ _ _ q q' (by omega)⟩
        have : a = b := of_decide_eq_true f
        subst this
        show ltS a a = _
        rw [ltS, lexN_self]
  cases s with
  | no =>
    cases t with
    | no => cases rs; cases rs'; rfl
    | bin o a b => cases o <;> simp [ix] at e1
    | _ => simp [ix] at e1
  | lt x =>
    cases t with
    | lt y =>
      cases rs with
      | cons q qs =>
        cases rs' with
        | cons q' qs' =>
          cases qs
          cases qs'
          refine ⟨_, eqStr q q' (by omega), fun f => ?_, fun f => ?_⟩
          · have : x = y := lt_s_inj.mp (of_decide_eq_true f)
            subst this
            show ltS (lt x) (lt x) = _
            rw [ltS, lexN_self]
          · have := rcStr q q' (A := A) (z := z) (by omega)
            have e2 : decide (x.s.cps.toList < y.s.cps.toList) = ltS (lt x) (lt y) := by cases x <;> cases y <;> decide +kernel
            rw [e2] at this; exact this
    | bin o a b => cases o <;> simp [ix] at e1
    | _ => simp [ix] at e1
  | not a =>
    cases t with
    | not b => rw [show ltS (not a) (not b) = ltS a b from ltS_kid 4 a b]; exact shape rs rs' (by simp only [ht]; omega)
    | bin o a b => cases o <;> simp [ix] at e1
    | _ => simp [ix] at e1
  | shown a =>
    cases t with
    | shown b => rw [show ltS (shown a) (shown b) = ltS a b from ltS_kid 6 a b]; exact shape rs rs' (by simp only [ht]; omega)
    | bin o a b => cases o <;> simp [ix] at e1
    | _ => simp [ix] at e1
  | bin o a b =>
    cases t with
    | bin o' a' b' =>
      have eo : o = o' := by cases o <;> cases o' <;> first | rfl | (simp [ix] at e1)
      subst eo
      have e3 : ltS (bin o a b) (bin o a' b') = if a = a' then ltS b b' else ltS a a' := by
        rw [ltS, code, code, lexN, if_pos rfl, code_app]; rfl
      simp only [ht] at hA
      cases rs with
      | cons q qs =>
        cases rs' with
        | cons q' qs' =>
          rw [e3]
          refine ⟨_, eqSy q q' (by omega), fun f => ?_, fun f => ?_⟩
          · rw [if_pos (of_decide_eq_true f)]
            exact shape qs qs' (by simp only [ht]; omega)
          · rw [if_neg (of_decide_eq_false f)]
            exact rcs a.ht a a' (Nat.le_refl _) A _ _ _ _ q q' (by omega)
    | _ => cases o <;> simp [ix] at e1
end
def ar : Nat → Nat | 0 => 2 | 1 => 2 | 2 => 1 | 3 => 0 | 4 => 1 | 5 => 2 | _ => 1
theorem kd_len (s : Sy) : (kd s).length = ar s.ix := by
  cases s with
  | bin o a b => cases o <;> rfl
  | _ => rfl
section
variable {prog : Program} {w : World} {A : Around} {z : Shared}
theorem kat_of {fin : Bool} {Q : Bool → Shared → Prop} : ∀ (l : List (Value × Value)) (i : Nat) (k : Bool), Tlt.LtP A z fin l k → Q k z → KatLex prog w A true fin Q l (i + 1) z
  | [], i, k, h, q => by
    have h : k = fin := h
    subst h
    exact kat_nil q
  | (x, y) :: r, i, k, ⟨e, he, h1, h2⟩, q => by
    refine kat_cons (he prog w _ _ ?_)
    refine kat_go (fun e1 => kat_yes (kat_of r (i + 1) k (h1 e1) q)) fun e1 => ?_
    refine kat_no ?_
    rw [show (true && i + 1 == 0) = false from rfl]
    exact kat_one _ _ (h2 e1 prog w _ _ (show PySem.W.BoolBack Q (.bool k) z from q))
theorem cmpS {s t : Sy} {v u : Value} {as bs : List Addr} (hv : Reads z.heap v (py s.pv) as) (hu : Reads z.heap u (py t.pv) bs) (hA : A.units + s.ht + 4 < cLine) :
    wpAny (model prog w) A (keyLt' (tuples' true) v u) (fun r z' => z' = z ∧ r = ltS s t) (fun _ _ => False) z := by
  rw [py_kd] at hv hu
  cases hv with
  | @tuple l o us m _ as₁ h1 h2 h3 h4 =>
    cases hu with
    | @tuple l' o' ws m' _ bs₁ k1 k2 k3 k4 =>
      have n1 : us.size = (PyData.str (wS s.ix) :: kd s).length := by simpa using ReadsAll.length _ _ _ h4
      have n2 : ws.size = (PyData.str (wS t.ix) :: kd t).length := by simpa using ReadsAll.length _ _ _ k4
      refine kat_lt h1 h3 k1 k3 ?_
      rw [n1, n2]
      generalize us.toList = xs at h4
      generalize ws.toList = ys at k4
      cases h4 with
      | cons r rs =>
        cases k4 with
        | cons r' rs' =>
          refine kat_cons (eqStr (A := A) r r' (by omega) prog w _ _ ?_)
          refine kat_go (fun e => kat_yes ?_) fun e => kat_no ?_
          · have e1 : s.ix = t.ix := of_decide_eq_true (by rw [← wS_eq _ (ix_lt s) _ (ix_lt t)]; exact e)
            have el : (PyData.str (wS s.ix) :: kd s).length = (PyData.str (wS t.ix) :: kd t).length := by
              rw [List.length_cons, List.length_cons, kd_len, kd_len, e1]
            rw [el, show decide ((PyData.str (wS t.ix) :: kd t).length < (PyData.str (wS t.ix) :: kd t).length) = false from decide_eq_false (Nat.lt_irrefl _)]
            exact kat_of _ 0 (ltS s t) (kidsP e1 rs rs' hA) ⟨rfl, rfl⟩
          · have e1 : s.ix ≠ t.ix := of_decide_eq_false (by rw [← wS_eq _ (ix_lt s) _ (ix_lt t)]; exact e)
            cases r
            cases r'
            show wpAny (model prog w) A (oneLt' true _ _) _ _ z
            exact oneLt_str ⟨rfl, lt_word e1⟩
/-! ### the sort -/
theorem ra_cons {h : Heap} {vs : List Value} {d : PyData} {ds : List PyData} {as : List Addr} (r : ReadsAll h vs (d :: ds) as) : ∃ v ws a b, vs = v :: ws ∧ as = a ++ b ∧ Reads h v d a ∧ ReadsAll h ws ds b := by
  cases r with
  | cons q qs => exact ⟨_, _, _, _, rfl, rfl, q, qs⟩
theorem ra_nil {h : Heap} {vs : List Value} {as : List Addr} (r : ReadsAll h vs [] as) : vs = [] ∧ as = [] := by cases r; exact ⟨rfl, rfl⟩
theorem reads_tup {h h' : Heap} (keep : ∀ b o, h.get? b = some o → o.cls = .type "tuple" → h'.get? b = some o) : ∀ (s : Sy) (v : Value) (as : List Addr), Reads h v (py s.pv) as → Reads h' v (py s.pv) as := by
  intro s
  have str : ∀ {x : Str} {v : Value} {as : List Addr}, Reads h v (.str x) as → Reads h' v (.str x) as := fun r => by cases r; exact .str _ _
  induction s with
  | no =>
    intro v as r
    have r : Reads h v (.tuple [.str "no"]) as := r
    show Reads h' v (.tuple [.str "no"]) as
    cases r with
    | tuple h1 h2 h3 h4 =>
      obtain ⟨v1, w1, a1, b1, e1, f1, q1, r1⟩ := ra_cons h4
      refine .tuple (keep _ _ h1 h2) h2 h3 ?_
      rw [e1, f1, (ra_nil r1).1, (ra_nil r1).2]; exact .cons (str q1) .nil
  | lt l =>
    intro v as r
    have r : Reads h v (.tuple [.str "letter", .str l.s]) as := r
    show Reads h' v (.tuple [.str "letter", .str l.s]) as
    cases r with
    | tuple h1 h2 h3 h4 =>
      obtain ⟨v1, w1, a1, b1, e1, f1, q1, r1⟩ := ra_cons h4
      obtain ⟨v2, w2, a2, b2, e2, f2, q2, r2⟩ := ra_cons r1
      refine .tuple (keep _ _ h1 h2) h2 h3 ?_
      rw [e1, f1, e2, f2, (ra_nil r2).1, (ra_nil r2).2]; exact .cons (str q1) (.cons (str q2) .nil)
  | not a ih =>
    intro v as r
    have r : Reads h v (.tuple [.str "not", py a.pv]) as := r
    show Reads h' v (.tuple [.str "not", py a.pv]) as
    cases r with
    | tuple h1 h2 h3 h4 =>
      obtain ⟨v1, w1, a1, b1, e1, f1, q1, r1⟩ := ra_cons h4
      obtain ⟨v2, w2, a2, b2, e2, f2, q2, r2⟩ := ra_cons r1
      refine .tuple (keep _ _ h1 h2) h2 h3 ?_
      rw [e1, f1, e2, f2, (ra_nil r2).1, (ra_nil r2).2]; exact .cons (str q1) (.cons (ih _ _ q2) .nil)
  | shown a ih =>
    intro v as r
    have r : Reads h v (.tuple [.str "shown", py a.pv]) as := r
    show Reads h' v (.tuple [.str "shown", py a.pv]) as
    cases r with
    | tuple h1 h2 h3 h4 =>
      obtain ⟨v1, w1, a1, b1, e1, f1, q1, r1⟩ := ra_cons h4
      obtain ⟨v2, w2, a2, b2, e2, f2, q2, r2⟩ := ra_cons r1
      refine .tuple (keep _ _ h1 h2) h2 h3 ?_
      rw [e1, f1, e2, f2, (ra_nil r2).1, (ra_nil r2).2]; exact .cons (str q1) (.cons (ih _ _ q2) .nil)
  | bin o a b iha ihb =>
    intro v as r
    have r : Reads h v (.tuple [.str o.s, py a.pv, py b.pv]) as := r
    show Reads h' v (.tuple [.str o.s, py a.pv, py b.pv]) as
    cases r with
    | tuple h1 h2 h3 h4 =>
      obtain ⟨v1, w1, a1, b1, e1, f1, q1, r1⟩ := ra_cons h4
      obtain ⟨v2, w2, a2, b2, e2, f2, q2, r2⟩ := ra_cons r1
      obtain ⟨v3, w3, a3, b3, e3, f3, q3, r3⟩ := ra_cons r2
      refine .tuple (keep _ _ h1 h2) h2 h3 ?_
      rw [e1, f1, e2, f2, e3, f3, (ra_nil r3).1, (ra_nil r3).2]; exact .cons (str q1) (.cons (iha _ _ q2) (.cons (ihb _ _ q3) .nil))
theorem firsts {h : Heap} {k : Value → Sy} : ∀ {vs : List Value}, (∀ v ∈ vs, ∃ as, Reads h v (py (k v).pv) as) → ∃ fs : List Value, KatTups h vs fs ∧ fs.length = vs.length ∧ ∀ f ∈ fs, ∃ x t, f = Value.str x t
  | [], _ => ⟨[], KatTups.nil, rfl, fun _ hm => by simp at hm⟩
  | v :: vs, hp => by
    obtain ⟨fs, h1, h2, h3⟩ := firsts (vs := vs) fun v' hm => hp v' (List.mem_cons_of_mem _ hm)
    obtain ⟨as, r⟩ := hp v List.mem_cons_self
    rw [py_kd] at r
    cases r with
    | @tuple l o us m _ as₁ g1 g2 g3 g4 =>
      generalize hx : us.toList = xs at g4
      cases g4 with
      | cons q qs =>
        cases q
        rename_i t
        refine ⟨.str _ t :: fs, KatTups.cons g1 g2 g3 (by rw [← Array.getElem?_toList, hx]; rfl) h1, by rw [List.length_cons, List.length_cons, h2], fun f hm => ?_⟩
        rcases List.mem_cons.mp hm with rfl | hm
        · exact ⟨_, t, rfl⟩
        · exact h3 f hm
theorem lex_tr {x y z : List Nat} (h1 : lexN y x = false) (h2 : lexN z y = false) : lexN z x = false := by
  cases e : lexN z x with
  | false => rfl
  | true =>
    exfalso
    cases e1 : lexN x y with
    | false =>
      rw [lexN_tot _ _ e1 h1] at e
      rw [e] at h2; cases h2
    | true =>
      have := lexN_trans _ _ _ e e1
      rw [this] at h2; cases h2
theorem swo (k : Value → Sy) : SrtO.Swo fun v u => ltS (k v) (k u) := by
  exact ⟨fun x y h => lexN_asym _ _ h, fun x y z h1 h2 => lex_tr h1 h2⟩
end
end Sy
end Law

/-! Ss4: sorted() of sayings, the rule -/
namespace Law
open PySem L2 Pl PySem.SeqAt PyProof.Rows PySem.W PySem.Spec
section
variable {prog : Program} {w : World} {A : Around} {E : Value → Shared → Prop} {s : Shared}
theorem sortableS {a : Addr} {vs : List Value} {k : Value → Sy} (h0 : 0 < vs.length) (hp : ∀ v ∈ vs, (∃ as, Reads s.heap v (py (k v).pv) as) ∧ (k v).ht ≤ 180) (hA : A.units + 190 < cLine) (ha : ∀ o, s.heap.get? a = some o → o.cls ≠ .type "tuple") :
    SrtO.SortableO prog w A s a vs fun v u => Sy.ltS (k v) (k u) := by
  intro h' keep
  have hp' : ∀ v ∈ vs, ∃ as, Reads h' v (py (k v).pv) as := fun v hm => by
    obtain ⟨⟨as, r⟩, _⟩ := hp v hm
    exact ⟨as, Sy.reads_tup (fun b o e c => keep b o (fun q => by subst q; exact ha o e c) e) _ _ _ r⟩
  obtain ⟨fs, h1, h2, h3⟩ := Sy.firsts hp'
  refine ⟨tuples' true, fun Q E hq => ?_, fun p q hm hm' => ?_⟩
  · refine kat_kind (T := .type "str") h1 (by omega) (fun f hm => ?_) (by rfl) ?_
    · obtain ⟨x, t, rfl⟩ := h3 f hm
      exact Looks.now
    · have e : (Value.type "str" != Value.type "tuple") = true := by first | decide +kernel | rfl | decide
      rw [e]
      exact hq
  · obtain ⟨as, r1⟩ := hp' _ hm
    obtain ⟨bs, r2⟩ := hp' _ hm'
    have hh : (k p.1).ht ≤ 180 := (hp p.1 hm).2
    exact Sy.cmpS (A := A) r1 r2 (by omega)
theorem sortedS {l : Addr} {vs : List Value} {k : Value → Sy} {Q : Value → Shared → Prop} (hl : s.heap.IsList l vs.toArray) (hz : vs.length ≤ sizeLine) (hp : ∀ v ∈ vs, (∃ as, Reads s.heap v (py (k v).pv) as) ∧ (k v).ht ≤ 180) (hA : A.units + 195 < cLine)
    (h : ∀ (h' : Heap) (d : Addr) (out : List Value), SrtO.Srtd (fun v u => Sy.ltS (k v) (k u)) out → SrtO.Stb (fun v u => Sy.ltS (k v) (k u)) out vs → (∀ b o, s.heap.get? b = some o → h'.get? b = some o) → s.heap.objs.size ≤ d → (∃ n, h'.get? d = some (seqObj "list" out.toArray n)) → Q (.ref d) { s with heap := h' }) :
    wpAny (model prog w) A (call (.builtin "sorted") [.ref l]) Q E s := by
  refine SrtO.sorted_ord (Sy.swo k) hl hz (fun h2 h₁ a ha kk => ?_) fun out hs hb => h _ _ out hs hb (fun b o e => sortedAll_old e) (Nat.le_succ _) (sortedAll_at s.heap vs out.toArray)
  refine sortableS (s := { s with heap := h₁ }) (by omega) (fun v hm => ?_) (by show A.units + 1 + 1 + 190 < cLine; omega) fun o e => ?_
  · obtain ⟨⟨as, r⟩, hh⟩ := hp v hm
    exact ⟨⟨as, Sy.reads_tup (fun b o e _ => (kk b o e).2) _ _ _ r⟩, hh⟩
  · have e' : some o = some (seqObj "list" vs.toArray 0) := e.symm.trans ha
    cases e'
    intro c
    exact absurd (Value.type.inj c) (by decide)
end
/-- sorted(xs) of sayings -/
def rSortS (K : PySem.W.Frag) : List V → Hp → VK → Prop := fun vs H Q => ∃ (a : Addr) (xs : List V) (k : V → Sy), vs = [V.ref a] ∧ SqL K H a xs ∧ (∀ x ∈ xs, Dp K H x (py (k x).pv) ∧ (∃ t, x = V.ref t) ∧ (k x).ht ≤ 180) ∧
  ∀ ys p, SrtO.Srtd (fun x y => Sy.ltS (k x) (k y)) ys → SrtO.Stb (fun x y => Sy.ltS (k x) (k y)) ys xs → H p = none → Q (.ref p) (upd H p (.lst ys))
theorem swoV (k : V → Sy) : SrtO.Swo fun v u => Sy.ltS (k v) (k u) := by
  exact ⟨fun x y h => lexN_asym _ _ h, fun x y z h1 h2 => Sy.lex_tr h1 h2⟩
theorem cr_sortS {X : Cx} (hu : X.A.units + 200 < cLine) : CallR X (.builtin "sorted") (rSortS X.K) := by
  intro pins s σ H vs us Q I r h
  obtain ⟨a, xs, k, rfl, hs, hx, q⟩ := h
  obtain ⟨its, rv, hl, hz⟩ := I.list hs
  obtain ⟨u, rfl, ru⟩ := vals1 r
  obtain rfl : u = Value.ref a := ru
  obtain ⟨e1, e2⟩ := refs_back rv fun x m => (hx x m).2.1
  refine sortedS (k := fun u => k (backV u)) hl.isList (by rw [← rv.length]; exact hz) (fun v hv => ?_) (by omega) fun h' d out h1 h2 kp hd hn => ?_
  · obtain ⟨t, rfl⟩ := e2 v hv
    have hm : V.ref t ∈ xs := by rw [e1]; exact List.mem_map.mpr ⟨_, hv, rfl⟩
    obtain ⟨dp, _, hh⟩ := hx _ hm
    exact ⟨Dp.reads I _ _ _ dp rfl, hh⟩
  · have h3 : ∀ u ∈ out, ∃ a, u = Value.ref a := fun u hu => e2 u (h2.perm.mem_iff.mp hu)
    obtain ⟨n, hn⟩ := hn
    have hb : SrtO.Stb (fun x y => Sy.ltS (k x) (k y)) (out.map backV) xs := by
      rw [e1]
      exact SrtO.Stb.map (swoV k) backV h2
    refine ⟨.ref d, upd H d (.lst (out.map backV)), I.laid (t' := s.toks) kp hd ⟨?_, out, n, vals_back h3, hn⟩, rfl, q _ d (SrtO.srtd_map h1) hb (I.hok.fresh hd)⟩
    rw [hb.len]
    exact hz
end Law

/-! Ss5: sorted() of sayings, told by data -/
namespace Law
open PySem L2 Pl PySem.SeqAt PyProof.Rows PySem.W PySem.Spec
def leS (s t : Sy) : Bool := !Sy.ltS t s
theorem leS_trans (a b c : Sy) (h : leS a b = true) (g : leS b c = true) : leS a c = true := by
  unfold leS at *
  rw [Bool.not_eq_true'] at *
  exact Sy.lex_tr h g
theorem leS_total (a b : Sy) : (leS a b || leS b a) = true := by
  unfold leS
  cases h : Sy.ltS b a with
  | false => rfl
  | true => have : Sy.ltS a b = false := lexN_asym _ _ h; rw [this]; rfl
theorem leS_anti {a b : Sy} (h : leS a b = true) (g : leS b a = true) : a = b := by
  unfold leS at *
  rw [Bool.not_eq_true'] at *
  exact Sy.ltS_tot g h
/-- the sayings, in their order -/
def sortS (ss : List Sy) : List Sy := ss.mergeSort leS
theorem sortS_perm (ss : List Sy) : (sortS ss).Perm ss := List.mergeSort_perm ss leS
theorem sortS_pw (ss : List Sy) : (sortS ss).Pairwise fun a b => leS a b = true := List.pairwise_mergeSort leS_trans leS_total ss
theorem sortS_uniq {l ss : List Sy} (hp : l.Perm ss) (hs : l.Pairwise fun a b => leS a b = true) : l = sortS ss :=
  List.Perm.eq_of_pairwise (le := fun a b => leS a b = true) (fun a b _ _ h g => leS_anti h g) hs (sortS_pw ss) (hp.trans (sortS_perm ss).symm)
theorem pv_inj {s t : Sy} (h : py s.pv = py t.pv) : s = t := by
  have h1 := Sy.eqv_pv s t
  rw [h, eqv_refl_plain _ (Sy.pv_plain t)] at h1
  exact of_decide_eq_true h1.symm
/-- sorted(xs) of sayings, with what each thing bears -/
def rSortT (K : PySem.W.Frag) : List V → Hp → VK → Prop := fun vs H Q => ∃ (a : Addr) (xs : List V) (ss : List Sy), vs = [V.ref a] ∧ SqL K H a xs ∧ xs.length = ss.length ∧ (∀ q ∈ xs.zip ss, Dp K H q.1 (py q.2.pv) ∧ (∃ t, q.1 = V.ref t) ∧ q.2.ht ≤ 180) ∧
  ∀ (ys : List V) p, ys.length = (sortS ss).length → (∀ q ∈ ys.zip (sortS ss), q ∈ xs.zip ss) → H p = none → Q (.ref p) (upd H p (.lst ys))
open Classical in
noncomputable def pick (l : List (V × Sy)) (x : V) : Sy := if h : ∃ s, (x, s) ∈ l then Classical.choose h else .no
theorem cr_sortT {X : Cx} (hu : X.A.units + 200 < cLine) : CallR X (.builtin "sorted") (rSortT X.K) := by
  intro pins z σ H vs us Q I r h
  obtain ⟨a, xs, ss, rfl, hs, hl, hx, q⟩ := h
  have uni : ∀ x s t, (x, s) ∈ xs.zip ss → (x, t) ∈ xs.zip ss → s = t := fun x s t h1 h2 => by
    obtain ⟨d1, ⟨c, rfl⟩, _⟩ := hx _ h1
    obtain ⟨d2, _, _⟩ := hx _ h2
    obtain ⟨as, r1⟩ := Dp.reads I _ _ (.ref c) d1 rfl
    obtain ⟨bs, r2⟩ := Dp.reads I _ _ (.ref c) d2 rfl
    exact pv_inj (plain_unique _ _ _ _ _ (Sy.pv_plain s) r1 r2)
  have pk : ∀ x s, (x, s) ∈ xs.zip ss → pick (xs.zip ss) x = s := fun x s h => by
    unfold pick
    have he : ∃ s, (x, s) ∈ xs.zip ss := ⟨s, h⟩
    rw [dif_pos he]
    exact uni x _ s (Classical.choose_spec he) h
  have inz : ∀ x ∈ xs, (x, pick (xs.zip ss) x) ∈ xs.zip ss := fun x m => by
    obtain ⟨i, hi, e⟩ := List.getElem_of_mem m
    have hm : (x, ss[i]'(by omega)) ∈ xs.zip ss := by
      rw [← e, ← List.getElem_zip (h := by rw [List.length_zip]; omega)]
      exact List.getElem_mem _
    rw [pk x _ hm]; exact hm
  have emap : xs.map (pick (xs.zip ss)) = ss := by
    apply List.ext_getElem (by rw [List.length_map, hl])
    intro i h1 h2
    rw [List.getElem_map]
    apply pk
    rw [← List.getElem_zip (h := by rw [List.length_zip, List.length_map] at *; omega)]
    exact List.getElem_mem _
  refine cr_sortS hu pins z σ H _ us Q I r ⟨a, xs, pick (xs.zip ss), rfl, hs, fun x m => hx _ (inz x m), fun ys p h1 h2 hp => ?_⟩
  have es : ys.map (pick (xs.zip ss)) = sortS ss := by
    refine sortS_uniq ?_ ?_
    · have := h2.perm.map (pick (xs.zip ss))
      rw [emap] at this; exact this
    · refine List.pairwise_map.mpr (h1.imp fun {x y} e => ?_)
      show leS _ _ = true
      unfold leS
      have e : Sy.ltS (pick (xs.zip ss) y) (pick (xs.zip ss) x) = false := e
      rw [e]; rfl
  refine q ys p (by rw [← es, List.length_map]) (fun w hw => ?_) hp
  rw [← es] at hw
  obtain ⟨i, hi, e⟩ := List.getElem_of_mem hw
  rw [List.getElem_zip, List.getElem_map] at e
  rw [← e]
  exact inz _ (h2.perm.mem_iff.mp (List.getElem_mem _))
theorem boot_sorted' : bootBuiltins "sorted" = some (.builtin "sorted") := by decide +kernel
section
variable {C : Pl.Ctx} {E : ER} {Γ : Pl.Env} {Λ : Cells} {e : Expr} {p pos : Pos}
theorem reps_zip {K : PySem.W.Frag} {B : Hp} {α : List Addr} : ∀ {ss : List Sy} {vs : List V}, Reps K B α (ss.map Sy.pv) vs → vs.length = ss.length ∧ ∀ q ∈ vs.zip ss, Rep K B α q.2.pv q.1
  | [], vs, h => by
    rw [List.map_nil] at h
    unfold Reps at h; subst h; exact ⟨rfl, fun q hq => by simp at hq⟩
  | s :: ss, vs, h => by
    rw [List.map_cons] at h
    unfold Reps at h
    obtain ⟨v, r, rfl, h1, h2⟩ := h
    obtain ⟨g1, g2⟩ := reps_zip h2
    refine ⟨by simp [g1], fun q hq => ?_⟩
    rw [List.zip_cons_cons] at hq
    rcases List.mem_cons.mp hq with rfl | hq
    · exact h1
    · exact g2 q hq
theorem zip_reps {K : PySem.W.Frag} {B : Hp} {α : List Addr} : ∀ {ss : List Sy} {vs : List V}, vs.length = ss.length → (∀ q ∈ vs.zip ss, Rep K B α q.2.pv q.1) → Reps K B α (ss.map Sy.pv) vs
  | [], [], _, _ => .nil
  | [], _ :: _, h, _ => by simp at h
  | _ :: _, [], h, _ => by simp at h
  | s :: ss, v :: vs, h, g => by
    rw [List.map_cons]
    exact .cons (g (v, s) (by rw [List.zip_cons_cons]; exact List.mem_cons_self)) (zip_reps (by simpa using h) fun q hq => g q (by rw [List.zip_cons_cons]; exact List.mem_cons_of_mem _ hq))
end
/-! ### each once -/
def onceS (ss : List Sy) : List Sy := ss.foldl (fun told one => if told.getLast? = some one then told else told ++ [one]) []
theorem onceS_snoc (ss : List Sy) (x : Sy) : onceS (ss ++ [x]) = if (onceS ss).getLast? = some x then onceS ss else onceS ss ++ [x] := by
  unfold onceS; rw [List.foldl_append]; rfl
theorem onceS_len (ss : List Sy) : (onceS ss).length ≤ ss.length := by
  have go : ∀ (ss acc : List Sy), (ss.foldl (fun told one => if told.getLast? = some one then told else told ++ [one]) acc).length ≤ acc.length + ss.length := by
    intro ss
    induction ss with
    | nil => intro acc; exact Nat.le_refl _
    | cons x ss ih =>
      intro acc
      rw [List.foldl_cons, List.length_cons]
      split
      · have := ih acc; omega
      · have := ih (acc ++ [x]); rw [List.length_append, List.length_singleton] at this; omega
  have := go ss []
  simpa [onceS] using this
theorem onceS_mem {ss : List Sy} {x : Sy} (h : x ∈ onceS ss) : x ∈ ss := by
  have go : ∀ (ss acc : List Sy), x ∈ ss.foldl (fun told one => if told.getLast? = some one then told else told ++ [one]) acc → x ∈ acc ∨ x ∈ ss := by
    intro ss
    induction ss with
    | nil => intro acc h; exact .inl h
    | cons y ss ih =>
      intro acc h
      rw [List.foldl_cons] at h
      rcases ih _ h with z | z
      · split at z
        · exact .inl z
        · rcases List.mem_append.mp z with w | w
          · exact .inl w
          · simp at w; subst w; exact .inr List.mem_cons_self
      · exact .inr (List.mem_cons_of_mem _ z)
  rcases go ss [] h with z | z
  · simp at z
  · exact z
/-- all parts of a saying, the saying first -/
def partsL : Sy → List Sy
  | .no => [.no]
  | .lt l => [.lt l]
  | .not a => .not a :: partsL a
  | .shown a => .shown a :: partsL a
  | .bin o a b => .bin o a b :: (partsL a ++ partsL b)
theorem partsL_len : ∀ s : Sy, (partsL s).length = s.size
  | .no => rfl
  | .lt _ => rfl
  | .not a => by simp [partsL, Sy.size, partsL_len a]; omega
  | .shown a => by simp [partsL, Sy.size, partsL_len a]; omega
  | .bin o a b => by simp [partsL, Sy.size, partsL_len a, partsL_len b]; omega
theorem partsL_kids (s : Sy) : partsL s = s :: s.kids.flatMap partsL := by cases s <;> simp [partsL, Sy.kids]
end Law

/-! Sh1: the pure reading. U: data without cells; M: what a def comes to. -/
namespace Sh
open PySem L2 Pl
/-- a pure datum; `ins c us`: an instance of the class named c, its fields in order -/
inductive U where
  | non | bl (b : Bool) | int (i : Int) | str (s : Str)
  | tup (us : List U) | lst (us : List U) | fzl (us : List U)
  | dic (ks : List Key) (us : List U)
  | ins (c : Str) (us : List U)
  | exc (c : Str) (us : List U)
  deriving Inhabited
/-- where the classes stand, their fields -/
structure Kl where
  ad : Str → Addr
  fs : Str → List Str
mutual
def em (κ : Kl) : U → D
  | .non => .non
  | .bl b => .bl b
  | .int i => .int i
  | .str s => .str s
  | .tup us => .tup (ems κ us)
  | .lst us => .lst (ems κ us)
  | .fzl us => .fzl (ems κ us)
  | .dic ks us => .dic ks (ems κ us)
  | .ins c us => .ins (κ.ad c) (κ.fs c) (ems κ us)
  | .exc c us => .exc (κ.ad c) (κ.fs c) (ems κ us)
def ems (κ : Kl) : List U → List D
  | [] => []
  | u :: us => em κ u :: ems κ us
end
section
variable {κ : Kl} {Λ : Cells}
theorem ems_map : ∀ us : List U, ems κ us = us.map (em κ)
  | [] => rfl
  | u :: us => by rw [ems, ems_map us, List.map_cons]
theorem ems_app (us vs : List U) : ems κ (us ++ vs) = ems κ us ++ ems κ vs := by simp only [ems_map, List.map_append]
theorem ems_len (us : List U) : (ems κ us).length = us.length := by rw [ems_map, List.length_map]
mutual
theorem nl_em : ∀ u : U, nl (em κ u) = true
  | .non => rfl
  | .bl _ => rfl
  | .int _ => rfl
  | .str _ => rfl
  | .tup us => nls_em us
  | .lst us => nls_em us
  | .fzl us => nls_em us
  | .dic _ us => nls_em us
  | .ins _ us => nls_em us
  | .exc _ us => nls_em us
theorem nls_em : ∀ us : List U, nls (ems κ us) = true
  | [] => rfl
  | u :: us => by show (nl (em κ u) && nls (ems κ us)) = true; rw [nl_em u, nls_em us]; rfl
end
theorem vw_em (u : U) : vw Λ (em κ u) = em κ u := by cases u <;> rfl
mutual
/-- as the library's -/
def pyU : U → PyData
  | .non => .none
  | .bl b => .bool b
  | .int i => .int i
  | .str s => .str s
  | .tup us => .tuple (pyUs us)
  | .lst us => .list (pyUs us)
  | .fzl us => .list (pyUs us)
  | .dic _ _ => .dict []
  | .ins _ _ => .dict []
  | .exc _ _ => .dict []
def pyUs : List U → List PyData
  | [] => []
  | u :: us => pyU u :: pyUs us
end
mutual
theorem py_em : ∀ u : U, py (em κ u) = pyU u
  | .non => rfl
  | .bl _ => rfl
  | .int _ => rfl
  | .str _ => rfl
  | .tup us => by rw [em, py, pyU, pys_ems us]
  | .lst us => by rw [em, py, pyU, pys_ems us]
  | .fzl us => by rw [em, py, pyU, pys_ems us]
  | .dic _ us => rfl
  | .ins _ us => rfl
  | .exc _ us => rfl
theorem pys_ems : ∀ us : List U, pys (ems κ us) = pyUs us
  | [] => rfl
  | u :: us => by rw [ems, pys, pyUs, py_em u, pys_ems us]
end
end

/-! ### what a def comes to -/
inductive M (α : Type) where
  | stuck
  | err (c : Str) (us : List U)
  | ok (a : α)
namespace M
variable {α β : Type}
def bind (m : M α) (k : α → M β) : M β := match m with
  | .stuck => .stuck
  | .err c us => .err c us
  | .ok a => k a
@[simp] theorem bind_ok (a : α) (k : α → M β) : (M.ok a).bind k = k a := rfl
@[simp] theorem bind_stuck (k : α → M β) : (M.stuck : M α).bind k = .stuck := rfl
@[simp] theorem bind_err (c : Str) (us : List U) (k : α → M β) : (M.err c us : M α).bind k = .err c us := rfl
/-- a refusal met where none may be -/
def calm (m : M α) : M α := match m with
  | .err _ _ => .stuck
  | m => m
@[simp] theorem calm_ok (a : α) : (M.ok a).calm = .ok a := rfl
@[simp] theorem calm_stuck : (M.stuck : M α).calm = .stuck := rfl
@[simp] theorem calm_err (c : Str) (us : List U) : (M.err c us : M α).calm = .stuck := rfl
end M
def wp {α : Type} (m : M α) (P : α → Prop) (E : Str → List U → Prop) : Prop := match m with
  | .stuck => False
  | .err c us => E c us
  | .ok a => P a
def no : Str → List U → Prop := fun _ _ => False
section
variable {α β : Type} {P P' : α → Prop} {Q : β → Prop} {Eh Eh' : Str → List U → Prop} {m : M α} {k : α → M β}
theorem wp_bind (h : wp (m.bind k) Q Eh) : wp m (fun a => wp (k a) Q Eh) Eh := by cases m <;> exact h
theorem wp_mono (h : wp m P Eh) (i : ∀ a, P a → P' a) (j : ∀ c us, Eh c us → Eh' c us) : wp m P' Eh' := by
  cases m with
  | stuck => exact h
  | err c us => exact j c us h
  | ok a => exact i a h
theorem wp_calm (h : wp m.calm P Eh) : wp m P no := by
  cases m with
  | stuck => exact h
  | err c us => exact h.elim
  | ok a => exact h
end
/-- a test of the size -/
def sz {α : Type} (n : Nat) (m : M α) : M α := if n < 10000000 then m else .stuck
theorem sz_ok {α : Type} {n : Nat} {m : M α} (h : n < 10000000) : sz n m = m := if_pos h
theorem wp_sz {α : Type} {n : Nat} {m : M α} {P : α → Prop} {E : Str → List U → Prop} (h : wp (sz n m) P E) : n < 10000000 ∧ wp m P E := by
  unfold sz at h; split at h
  · exact ⟨‹_›, h⟩
  · exact h.elim

/-! ### operations -/
def addM : U → U → M U
  | .int i, .int j => .ok (.int (i + j))
  | .str s, .str t => sz (s.length + t.length) (.ok (.str (s ++ t)))
  | .tup xs, .tup ys => sz (xs.length + ys.length) (.ok (.tup (xs ++ ys)))
  | .lst xs, .lst ys => sz (xs.length + ys.length) (.ok (.lst (xs ++ ys)))
  | _, _ => .stuck
def subM : U → U → M U
  | .int i, .int j => .ok (.int (i - j))
  | _, _ => .stuck
/-- a factor that is small -/
def small (i : Int) : Bool := decide (-(2 ^ 64) < i) && decide (i < 2 ^ 64)
def mulM : U → U → M U
  | .int i, .int j => if small i || small j then .ok (.int (i * j)) else .stuck
  | _, _ => .stuck
def fdivM : U → U → M U
  | .int i, .int j => if decide (0 < j) && decide (j < 2 ^ 8999) then .ok (.int (i / j)) else .stuck
  | _, _ => .stuck
def modM : U → U → M U
  | .int i, .int j => if 0 < j then .ok (.int (i % j)) else .stuck
  | _, _ => .stuck
def powM : U → U → M U
  | .int i, .int j => if decide (0 ≤ j) && (decide (j ≤ 1000000) && decide (i.natAbs < 2 ^ 64)) then .ok (.int (i ^ j.toNat)) else .stuck
  | _, _ => .stuck
def negM : U → M U
  | .int i => .ok (.int (-i))
  | _ => .stuck
/-- no dict, no instance lies within -/
def pl (u : U) : Bool := (pyU u).plain
def dp (u : U) : Nat := (pyU u).depth
def eqM (x y : U) : M Bool := if pl x && (pl y && decide (min (dp x) (dp y) ≤ 190)) then .ok (PyData.eqv (pyU x) (pyU y)) else .stuck
def ltM : U → U → M Bool
  | .int i, .int j => .ok (decide (i < j))
  | .str s, .str t => .ok (decide (s.cps.toList < t.cps.toList))
  | _, _ => .stuck
def leM : U → U → M Bool
  | .int i, .int j => .ok (decide (i ≤ j))
  | _, _ => .stuck
def gtM : U → U → M Bool
  | .int i, .int j => .ok (decide (j < i))
  | _, _ => .stuck
def geM : U → U → M Bool
  | .int i, .int j => .ok (decide (j ≤ i))
  | _, _ => .stuck
def isNone : U → Bool
  | .non => true
  | _ => false
/-- x is None, x is True -/
def isM : U → U → M Bool
  | x, .non => .ok (isNone x)
  | .bl a, .bl b => .ok (decide (a = b))
  | _, _ => .stuck
def keyU : U → Option Key
  | .int i => some (.inl i)
  | .str s => some (.inr s)
  | _ => none
def uLook (ks : List Key) (us : List U) (k : Key) : Option U := ((ks.zip us).find? fun kv => decide (kv.1 = k)).map (·.2)
/-- the items of a list, a tuple -/
def seqU : U → Option (List U)
  | .lst us => some us
  | .fzl us => some us
  | .tup us => some us
  | _ => none
def boolM : U → M Bool
  | .bl b => .ok b
  | _ => .stuck
def ixM : U → U → M U
  | .str s, .int i => match atI s.cps.toList i with
    | some c => if s.length ≤ sizeLine then .ok (.str ⟨#[c]⟩) else .stuck
    | none => .stuck
  | x, .int i => match seqU x with
    | some us => match atI us i with
      | some u => .ok u
      | none => .stuck
    | none => .stuck
  | _, _ => .stuck
/-- d[k] -/
def ixdM : U → U → M U
  | .dic ks us, y => match keyU y with
    | some k => match uLook ks us k with
      | some u => .ok u
      | none => .stuck
    | none => .stuck
  | _, _ => .stuck
def cutU (xs : List U) (lo hi : Option Int) : List U := (xs.drop (HT.sIx xs.length 0 lo)).take (HT.sIx xs.length xs.length hi - HT.sIx xs.length 0 lo)
/-- an end of a slice -/
def endM : U → M (Option Int)
  | .int i => .ok (some i)
  | _ => .stuck
def slM (x : U) (l u : Option Int) : M U := match x with
  | .str s => if s.length ≤ sizeLine then .ok (.str (cutS s l u)) else .stuck
  | .tup us => .ok (.tup (cutU us l u))
  | .lst us => .ok (.lst (cutU us l u))
  | .fzl us => .ok (.lst (cutU us l u))
  | _ => .stuck
def lenM : U → M U
  | .str s => if s.length ≤ sizeLine then .ok (.int s.length) else .stuck
  | x => match seqU x with
    | some us => .ok (.int us.length)
    | none => .stuck
def listM (x : U) : M (List U) := match seqU x with
  | some us => .ok us
  | none => .stuck
def tupleM (x : U) : M U := match seqU x with
  | some us => .ok (.tup us)
  | none => .stuck
/-- the items of a list -/
def itemsL : U → Option (List U)
  | .lst us => some us
  | .fzl us => some us
  | _ => none
def iterL (x : U) : M (List U) := match itemsL x with
  | some us => .ok us
  | none => .stuck
def iterT : U → M (List U)
  | .tup us => .ok us
  | _ => .stuck
def iterS : U → M (List U)
  | .str s => .ok (s.cps.toList.map fun c => .str ⟨#[c]⟩)
  | _ => .stuck
def rangeU (lo : Int) (n : Nat) : List U := (List.range n).map fun i => .int (lo + (i : Nat))
def range1M : U → M (List U)
  | .int n => if decide (-(2 ^ 62) ≤ n) && decide (n < 2 ^ 62) then .ok (rangeU 0 n.toNat) else .stuck
  | _ => .stuck
def asInts : List U → Option (List Int)
  | [] => some []
  | .int i :: us => (asInts us).map (i :: ·)
  | _ => none
def maxdM (x : U) (i : Int) : M U := match itemsL x with
  | some us => match asInts us with
    | some ns => .ok (.int (mxd i ns))
    | _ => .stuck
  | none => .stuck
def min2M : U → U → M U
  | .int a, .int b => .ok (.int (min a b))
  | _, _ => .stuck
def tyU : U → Option String
  | .non => some "NoneType"
  | .bl _ => some "bool"
  | .int _ => some "int"
  | .str _ => some "str"
  | .tup _ => some "tuple"
  | .lst _ => some "list"
  | .fzl _ => some "list"
  | .dic _ _ => some "dict"
  | .ins _ _ => none
  | .exc _ _ => none
def isiM (x : U) (T : String) : M U := match tyU x with
  | some t => match isiB t T with
    | some b => .ok (.bl b)
    | none => .stuck
  | none => .stuck
/-- a tuple's two, three .. items -/
def un2 : U → M (U × U)
  | .tup [a, b] => .ok (a, b)
  | _ => .stuck
def un3 : U → M (U × U × U)
  | .tup [a, b, c] => .ok (a, b, c)
  | _ => .stuck
/-- xs.append(x): the list behind it -/
def appM (xs : List U) (x : U) : M (List U) := sz xs.length (.ok (xs ++ [x]))
def popM (xs : List U) : M (U × List U) := match xs.getLast? with
  | some x => .ok (x, xs.dropLast)
  | none => .stuck
def extM (xs : List U) (y : U) : M (List U) := match y with
  | .lst ys => sz (xs.length + ys.length) (.ok (xs ++ ys))
  | _ => .stuck
/-- xs[i] = x -/
def setM (xs : List U) (i x : U) : M (List U) := match i with
  | .int k => match ixN xs.length k with
    | some j => .ok (xs.set j x)
    | none => .stuck
  | _ => .stuck
def getdM (x k z : U) : M U := match x with
  | .dic ks us => match keyU k with
    | some k => .ok ((uLook ks us k).getD z)
    | none => .stuck
  | _ => .stuck
/-! ### loops -/
/-- what a turn comes to -/
inductive Ct (σ ρ : Type) where
  | nx (s : σ) | bk (s : σ) | rt (r : ρ)
variable {σ ρ : Type}
def forN (f : σ → U → M σ) : List U → σ → M σ
  | [], s => .ok s
  | x :: xs, s => (f s x).bind fun s => forN f xs s
/-- while, at most n turns -/
def whN (c : σ → M Bool) (f : σ → M σ) : Nat → σ → M σ
  | 0, _ => .stuck
  | n + 1, s => (c s).bind fun b => if b then (f s).bind fun s => whN c f n s else .ok s
def mapC (f : U → M U) : List U → M (List U)
  | [] => .ok []
  | x :: xs => (f x).calm.bind fun y => (mapC f xs).bind fun ys => .ok (y :: ys)
def filC (g : U → M Bool) (f : U → M U) : List U → M (List U)
  | [] => .ok []
  | x :: xs => (g x).calm.bind fun b => if b then (f x).calm.bind fun y => (filC g f xs).bind fun ys => .ok (y :: ys) else filC g f xs
/-- [f(x) for x in xs] -/
def compM (f : U → M U) (xs : List U) : M (List U) := sz xs.length (mapC f xs)
/-- [f(x) for x in xs if g(x)] -/
def compF (g : U → M Bool) (f : U → M U) (xs : List U) : M (List U) := sz xs.length (filC g f xs)
end Sh

/-! Sh2: from the pure reading to the wishes over data. -/
namespace Sh
open PySem L2 Pl
/-- the datum d, looked through its cell, is u -/
def Vw (κ : Kl) (Λ : Cells) (d : D) (u : U) : Prop := vw Λ d = em κ u
section
variable {κ : Kl} {Λ : Cells}
theorem vE {u : U} : Vw κ Λ (em κ u) u := vw_em u
theorem vL {n : Nat} {us : List U} (h : Λ[n]? = some (.lst (ems κ us))) : Vw κ Λ (.loc n) (.lst us) := by
  unfold Vw vw; dsimp only; rw [h]; rfl
theorem Vw.atom {d : D} {u : U} (h : Vw κ Λ d u) (h2 : ∀ us, u ≠ .lst us) (h3 : ∀ ks us, u ≠ .dic ks us) (h4 : ∀ c us, u ≠ .ins c us) : d = em κ u := by
  refine vw_noc h ?_ ?_ ?_ ?_
  · intro n e; cases u <;> cases e
  · intro ds e; cases u with
    | lst us => exact h2 us rfl
    | _ => cases e
  · intro ks ds e; cases u with
    | dic ks us => exact h3 ks us rfl
    | _ => cases e
  · intro c ns ds e; cases u with
    | ins c us => exact h4 c us rfl
    | _ => cases e
theorem Vw.py {d : D} {u : U} (h : Vw κ Λ d u) : py (vw Λ d) = pyU u := by rw [h, py_em]
theorem seq_of {d : D} {u : U} (h : Vw κ Λ d u) {us : List U} (e : seqU u = some us) : seqD Λ d = some (ems κ us) := by
  unfold seqD; rw [h]
  cases u <;> simp only [seqU, Option.some.injEq, reduceCtorEq] at e <;> subst e <;> rfl
theorem items_of {d : D} {u : U} (h : Vw κ Λ d u) {us : List U} (e : itemsL u = some us) : lstD Λ d = some (ems κ us) := by
  unfold lstD; rw [h]
  cases u <;> simp only [itemsL, Option.some.injEq, reduceCtorEq] at e <;> subst e <;> rfl
theorem atI_map' {α β : Type} (f : α → β) (xs : List α) (i : Int) : atI (xs.map f) i = (atI xs i).map f := by
  unfold L2.atI
  rw [List.length_map]
  cases ixN xs.length i with
  | none => rfl
  | some j => simp
theorem atI_ems {us : List U} {i : Int} {u : U} (h : atI us i = some u) : atI (ems κ us) i = some (em κ u) := by
  rw [ems_map, atI_map', h]; rfl
theorem cut_ems (us : List U) (l u : Option Int) : cutD (ems κ us) l u = ems κ (cutU us l u) := by
  unfold cutD cutU; rw [ems_len, ems_map, ems_map, List.map_take, List.map_drop]
theorem uLook_em {us : List U} {k : Key} : ∀ {ks : List Key}, dLook ks (ems κ us) k = (uLook ks us k).map (em κ) := by
  unfold dLook uLook
  induction us with
  | nil => intro ks; cases ks <;> rfl
  | cons u us ih =>
    intro ks
    cases ks with
    | nil => rfl
    | cons a ks =>
      rw [ems]
      simp only [List.zip_cons_cons, List.find?_cons]
      by_cases e : a = k
      · simp [e]
      · simp only [e, decide_false]
        exact ih
theorem key_of {d : D} {u : U} (h : Vw κ Λ d u) {k : Key} (e : keyU u = some k) : keyD d = some k := by
  have : d = em κ u := h.atom (by rintro _ rfl; cases e) (by rintro _ _ rfl; cases e) (by rintro _ _ rfl; cases e)
  subst this
  cases u <;> first | exact e | cases e
theorem sz_line {n : Nat} (h : n < 10000000) : n ≤ sizeLine := Pl.sz_lt h

theorem ints_em : ∀ {us : List U} {ns : List Int}, asInts us = some ns → ems κ us = ns.map .int
  | [], ns, e => by cases e; rfl
  | .int i :: us, ns, e => by
    simp only [asInts, Option.map_eq_some_iff] at e
    obtain ⟨ms, e1, rfl⟩ := e
    rw [ems, ints_em e1]; rfl
variable {α : Type} {Q : α → Prop} {Eh : Str → List U → Prop} {x y z : D} {P : D → Prop} {Pb : Bool → Prop}
section two
variable {k : U → M α} {kb : Bool → M α} (a b : U) (hx : Vw κ Λ x a) (hy : Vw κ Λ y b)
include hx hy
theorem addP_m (h : wp ((addM a b).bind k) Q Eh) (i : ∀ z, wp (k z) Q Eh → P (em κ z)) : addP Λ x y P := by
  replace h := wp_bind h
  unfold addP; rw [hx, hy]
  unfold addM at h
  split at h
  · exact i _ h
  · obtain ⟨h1, h2⟩ := wp_sz h
    exact ⟨sz_line h1, i _ h2⟩
  · obtain ⟨h1, h2⟩ := wp_sz h
    refine ⟨?_, ?_⟩
    · simp only [ems_len]; exact sz_line h1
    · have := i _ h2
      simp only [em, ems_app] at this
      exact this
  · obtain ⟨h1, h2⟩ := wp_sz h
    refine ⟨?_, ?_⟩
    · simp only [ems_len]; exact sz_line h1
    · have := i _ h2
      simp only [em, ems_app] at this
      exact this
  · exact h.elim
theorem subP_m (h : wp ((subM a b).bind k) Q Eh) (i : ∀ z, wp (k z) Q Eh → P (em κ z)) : intP (fun _ _ => True) (fun i j => .int (i - j)) x y P := by
  replace h := wp_bind h
  unfold subM at h
  split at h
  · have e1 := hx.atom (by simp) (by simp) (by simp); have e2 := hy.atom (by simp) (by simp) (by simp)
    subst e1; subst e2
    exact ⟨trivial, i _ h⟩
  · exact h.elim
theorem mulP_m (h : wp ((mulM a b).bind k) Q Eh) (i : ∀ z, wp (k z) Q Eh → P (em κ z)) : intP CMul (fun i j => .int (i * j)) x y P := by
  replace h := wp_bind h
  unfold mulM at h
  split at h
  · have e1 := hx.atom (by simp) (by simp) (by simp); have e2 := hy.atom (by simp) (by simp) (by simp)
    subst e1; subst e2
    split at h
    · rename_i hs
      refine ⟨?_, i _ h⟩
      simpa [small, CMul] using hs
    · exact h.elim
  · exact h.elim
theorem fdivP_m (h : wp ((fdivM a b).bind k) Q Eh) (i : ∀ z, wp (k z) Q Eh → P (em κ z)) : intP CDivW (fun i j => .int (i / j)) x y P := by
  replace h := wp_bind h
  unfold fdivM at h
  split at h
  · have e1 := hx.atom (by simp) (by simp) (by simp); have e2 := hy.atom (by simp) (by simp) (by simp)
    subst e1; subst e2
    split at h
    · rename_i i' j' hs
      refine ⟨?_, i _ h⟩
      rw [Bool.and_eq_true, decide_eq_true_eq, decide_eq_true_eq] at hs
      obtain ⟨h1, h2⟩ := hs
      refine ⟨h1, ?_⟩
      have h3 : j'.natAbs < 2 ^ 8999 := by
        have e : ((j'.natAbs : Nat) : Int) = j' := Int.natAbs_of_nonneg (Int.le_of_lt h1)
        generalize hm : (2 : Nat) ^ 8999 = m
        have hm' : (2 : Int) ^ 8999 = (m : Int) := by rw [← hm]; exact (Int.natCast_pow 2 8999).symm
        rw [hm'] at h2
        omega
      have h4 := (Nat.log2_lt (by omega)).mpr h3
      omega
    · exact h.elim
  · exact h.elim
theorem modP_m (h : wp ((modM a b).bind k) Q Eh) (i : ∀ z, wp (k z) Q Eh → P (em κ z)) : intP (fun _ j => 0 < j) (fun i j => .int (i % j)) x y P := by
  replace h := wp_bind h
  unfold modM at h
  split at h
  · have e1 := hx.atom (by simp) (by simp) (by simp); have e2 := hy.atom (by simp) (by simp) (by simp)
    subst e1; subst e2
    split at h
    · exact ⟨by assumption, i _ h⟩
    · exact h.elim
  · exact h.elim
theorem powP_m (h : wp ((powM a b).bind k) Q Eh) (i : ∀ z, wp (k z) Q Eh → P (em κ z)) : intP CPow (fun i j => .int (i ^ j.toNat)) x y P := by
  replace h := wp_bind h
  unfold powM at h
  split at h
  · have e1 := hx.atom (by simp) (by simp) (by simp); have e2 := hy.atom (by simp) (by simp) (by simp)
    subst e1; subst e2
    split at h
    · rename_i hs
      rw [Bool.and_eq_true, Bool.and_eq_true, decide_eq_true_eq, decide_eq_true_eq, decide_eq_true_eq] at hs
      exact ⟨hs, i _ h⟩
    · exact h.elim
  · exact h.elim
theorem eqP_m (h : wp ((eqM a b).bind kb) Q Eh) (i : ∀ z, wp (kb z) Q Eh → Pb z) : eqP Λ x y Pb := by
  replace h := wp_bind h
  unfold eqM at h
  split at h
  · rename_i hs
    rw [Bool.and_eq_true, Bool.and_eq_true, decide_eq_true_eq] at hs
    obtain ⟨h1, h2, h3⟩ := hs
    have g := i _ h
    unfold eqP
    split
    · have e1 : em κ a = .int _ := hx.symm
      have e2 : em κ b = .int _ := hy.symm
      cases a <;> cases e1; cases b <;> cases e2
      rename_i p q
      have e : PyData.eqv (pyU (.int p)) (pyU (.int q)) = decide (p = q) := by
        simp only [pyU, PyData.eqv]; by_cases c : p = q <;> simp [c]
      rw [e] at g; exact g
    · have e1 : em κ a = .str _ := hx.symm
      have e2 : em κ b = .str _ := hy.symm
      cases a <;> cases e1; cases b <;> cases e2
      rename_i p q
      have e : PyData.eqv (pyU (.str p)) (pyU (.str q)) = decide (p = q) := Law.Sy.strs_eqv p q
      rw [e] at g; exact g
    · have e1 : em κ a = .bl _ := hx.symm
      have e2 : em κ b = .bl _ := hy.symm
      cases a <;> cases e1; cases b <;> cases e2
      rename_i p q
      have e : PyData.eqv (pyU (.bl p)) (pyU (.bl q)) = decide (p = q) := bl_eqv p q
      rw [e] at g; exact g
    · rw [hx.py, hy.py]
      exact ⟨h1, h2, h3, g⟩
  · exact h.elim
theorem ltP_m (h : wp ((ltM a b).bind kb) Q Eh) (i : ∀ z, wp (kb z) Q Eh → Pb z) : ltP x y Pb := by
  replace h := wp_bind h
  unfold ltM at h
  split at h
  · have e1 := hx.atom (by simp) (by simp) (by simp); have e2 := hy.atom (by simp) (by simp) (by simp)
    subst e1; subst e2
    exact i _ h
  · have e1 := hx.atom (by simp) (by simp) (by simp); have e2 := hy.atom (by simp) (by simp) (by simp)
    subst e1; subst e2
    exact ⟨rfl, i _ h⟩
  · exact h.elim
theorem leP_m (h : wp ((leM a b).bind kb) Q Eh) (i : ∀ z, wp (kb z) Q Eh → Pb z) : leP x y Pb := by
  replace h := wp_bind h
  unfold leM at h
  split at h
  · have e1 := hx.atom (by simp) (by simp) (by simp); have e2 := hy.atom (by simp) (by simp) (by simp)
    subst e1; subst e2
    exact i _ h
  · exact h.elim
theorem gtP_m (h : wp ((gtM a b).bind kb) Q Eh) (i : ∀ z, wp (kb z) Q Eh → Pb z) : gtP x y Pb := by
  replace h := wp_bind h
  unfold gtM at h
  split at h
  · have e1 := hx.atom (by simp) (by simp) (by simp); have e2 := hy.atom (by simp) (by simp) (by simp)
    subst e1; subst e2
    exact i _ h
  · exact h.elim
theorem ixP_m (h : wp ((ixM a b).bind k) Q Eh) (i : ∀ z, wp (k z) Q Eh → P (em κ z)) : ixP Λ x y P := by
  replace h := wp_bind h
  unfold ixM at h
  split at h
  · have e1 := hx.atom (by simp) (by simp) (by simp); have e2 := hy.atom (by simp) (by simp) (by simp)
    subst e1; subst e2
    split at h
    · split at h
      · rename_i c hc hl
        exact ixP_str hl hc (i _ h)
      · exact h.elim
    · exact h.elim
  · have e2 := hy.atom (by simp) (by simp) (by simp)
    subst e2
    split at h
    · rename_i us e
      split at h
      · rename_i u hu
        exact ixP_seq (seq_of hx e) (atI_ems hu) (i _ h)
      · exact h.elim
    · exact h.elim
  · exact h.elim
/-- d[k] -/
theorem ixdP_m (h : wp ((ixdM a b).bind k) Q Eh) (i : ∀ z, wp (k z) Q Eh → P (em κ z)) : ∃ ks ds c d, vw Λ x = .dic ks ds ∧ keyD y = some c ∧ dLook ks ds c = some d ∧ P d := by
  replace h := wp_bind h
  unfold ixdM at h
  split at h
  · split at h
    · rename_i c hc
      split at h
      · rename_i u hu
        exact ⟨_, _, c, _, hx, key_of hy hc, by rw [uLook_em, hu]; rfl, i _ h⟩
      · exact h.elim
    · exact h.elim
  · exact h.elim
theorem min2P_m (h : wp ((min2M a b).bind k) Q Eh) (i : ∀ z, wp (k z) Q Eh → P (em κ z)) : ∃ p q, x = .int p ∧ y = .int q ∧ P (.int (min p q)) := by
  replace h := wp_bind h
  unfold min2M at h
  split at h
  · exact ⟨_, _, hx.atom (by simp) (by simp) (by simp), hy.atom (by simp) (by simp) (by simp), i _ h⟩
  · exact h.elim
end two
section one
variable {k : U → M α} {kb : Bool → M α} {kl : List U → M α} {ko : Option Int → M α} {Pl' : List D → Prop} (a : U) (hx : Vw κ Λ x a)
include hx
theorem negP_m (h : wp ((negM a).bind k) Q Eh) (i : ∀ z, wp (k z) Q Eh → P (em κ z)) : ∃ j, x = .int j ∧ P (.int (-j)) := by
  replace h := wp_bind h
  unfold negM at h
  split at h
  · exact ⟨_, hx.atom (by simp) (by simp) (by simp), i _ h⟩
  · exact h.elim
theorem boolP_m (h : wp ((boolM a).bind kb) Q Eh) (i : ∀ z, wp (kb z) Q Eh → Pb z) : boolP x Pb := by
  replace h := wp_bind h
  unfold boolM at h
  split at h
  · have e1 := hx.atom (by simp) (by simp) (by simp)
    subst e1
    exact i _ h
  · exact h.elim
theorem endP_m {Po : Option Int → Prop} (h : wp ((endM a).bind ko) Q Eh) (i : ∀ z, wp (ko z) Q Eh → Po z) : ∃ j, x = .int j ∧ Po (some j) := by
  replace h := wp_bind h
  unfold endM at h
  split at h
  · exact ⟨_, hx.atom (by simp) (by simp) (by simp), i _ h⟩
  · exact h.elim
theorem slP_m {l u : Option Int} (h : wp ((slM a l u).bind k) Q Eh) (i : ∀ z, wp (k z) Q Eh → P (em κ z)) : slP Λ x l u P := by
  replace h := wp_bind h
  unfold slM at h
  split at h
  · have e1 := hx.atom (by simp) (by simp) (by simp)
    subst e1
    split at h
    · rename_i hl
      exact slP_str hl (i _ h)
    · exact h.elim
  · have e1 := hx.atom (by simp) (by simp) (by simp)
    subst e1
    refine slP_tup rfl ?_
    rw [cut_ems]; exact i _ h
  · refine slP_lst (items_of hx rfl) ?_
    rw [cut_ems]; exact i _ h
  · refine slP_lst (items_of hx rfl) ?_
    rw [cut_ems]; exact i _ h
  · exact h.elim
theorem lenP_m (h : wp ((lenM a).bind k) Q Eh) (i : ∀ z, wp (k z) Q Eh → P (em κ z)) : lenP Λ x fun n => P (.int n) := by
  replace h := wp_bind h
  unfold lenM at h
  split at h
  · have e1 := hx.atom (by simp) (by simp) (by simp)
    subst e1
    split at h
    · rename_i hl
      exact lenP_str hl (i _ h)
    · exact h.elim
  · split at h
    · rename_i us e
      refine lenP_seq (seq_of hx e) ?_
      rw [ems_len]; exact i _ h
    · exact h.elim
theorem listP_m (h : wp ((listM a).bind kl) Q Eh) (i : ∀ z, wp (kl z) Q Eh → Pl' (ems κ z)) : ∃ zs, seqD Λ x = some zs ∧ Pl' zs := by
  replace h := wp_bind h
  unfold listM at h
  split at h
  · rename_i us e
    exact ⟨_, seq_of hx e, i _ h⟩
  · exact h.elim
theorem tupleP_m (h : wp ((tupleM a).bind k) Q Eh) (i : ∀ z, wp (k z) Q Eh → P (em κ z)) : ∃ zs, seqD Λ x = some zs ∧ P (.tup zs) := by
  replace h := wp_bind h
  unfold tupleM at h
  split at h
  · rename_i us e
    exact ⟨_, seq_of hx e, i _ h⟩
  · exact h.elim
theorem maxdP_m {n : Int} (h : wp ((maxdM a n).bind k) Q Eh) (i : ∀ z, wp (k z) Q Eh → P (em κ z)) : ∃ ns : List Int, lstD Λ x = some (ns.map .int) ∧ P (.int (mxd n ns)) := by
  replace h := wp_bind h
  unfold maxdM at h
  split at h
  · rename_i us e
    split at h
    · rename_i ns e2
      exact ⟨ns, by rw [← ints_em (κ := κ) e2]; exact items_of hx e, i _ h⟩
    · exact h.elim
  · exact h.elim
theorem rng1P_m (h : wp ((range1M a).bind kl) Q Eh) (i : ∀ z, wp (kl z) Q Eh → Pl' (ems κ z)) : ∃ n : Int, x = .int n ∧ -(2 ^ 62) ≤ n ∧ n < 2 ^ 62 ∧ Pl' (rangeD 0 n.toNat) := by
  replace h := wp_bind h
  unfold range1M at h
  split at h
  · split at h
    · rename_i hs
      rw [Bool.and_eq_true, decide_eq_true_eq, decide_eq_true_eq] at hs
      refine ⟨_, hx.atom (by simp) (by simp) (by simp), hs.1, hs.2, ?_⟩
      have g := i _ h
      have e : ∀ lo n, ems κ (rangeU lo n) = rangeD lo n := fun lo n => by unfold rangeU rangeD; rw [ems_map, List.map_map]; rfl
      rw [e] at g; exact g
    · exact h.elim
  · exact h.elim
omit hx
/-- walked: a list's items, a tuple's, a text's -/
theorem iterLP_m (h : wp ((iterL a).bind kl) Q Eh) (i : ∀ z, wp (kl z) Q Eh → Pl' (ems κ z)) : ∃ ds, (em κ a = .lst ds ∨ em κ a = .fzl ds) ∧ nls ds = true ∧ Pl' ds := by
  replace h := wp_bind h
  unfold iterL at h
  split at h
  · rename_i us e
    refine ⟨ems κ us, ?_, nls_em us, i _ h⟩
    cases a <;> simp only [itemsL, Option.some.injEq, reduceCtorEq] at e <;> subst e
    · exact .inl rfl
    · exact .inr rfl
  · exact h.elim
theorem iterTP_m (h : wp ((iterT a).bind kl) Q Eh) (i : ∀ z, wp (kl z) Q Eh → Pl' (ems κ z)) : ∃ ds, em κ a = .tup ds ∧ nls ds = true ∧ Pl' ds := by
  replace h := wp_bind h
  unfold iterT at h
  split at h
  · rename_i us
    exact ⟨ems κ us, rfl, nls_em us, i _ h⟩
  · exact h.elim
end one
/-- a decided test -/
theorem ite_m {A B : Prop} {c : Bool} {m m' : M α} (h : wp (if c = true then m else m') Q Eh) (h1 : wp m Q Eh → A) (h2 : wp m' Q Eh → B) : if c = true then A else B := by
  cases c
  · rw [if_neg (by simp)] at h ⊢; exact h2 h
  · rw [if_pos rfl] at h ⊢; exact h1 h
end
end Sh

/-! Sh3: calls, loops, comprehensions, joins, defs in the pure reading. -/
namespace Sh
open PySem L2 Pl
/-- a refusal -/
def errD (κ : Kl) (c : Str) (us : List U) : Err := ⟨.ref (κ.ad c), match κ.fs c with
  | [] => none
  | ns => some (ns, ems κ us)⟩
/-- each refusal that is reckoned with is wished -/
def EI (κ : Kl) (Eh : Str → List U → Prop) (E : ER) : Prop := ∀ c us Γ Λ, Eh c us → E (errD κ c us) Γ Λ
theorem EI.no {κ : Kl} {E : ER} : EI κ no E := fun _ _ _ _ h => h.elim
theorem nlE_errD {κ : Kl} {c : Str} {us : List U} : nlE (errD κ c us) = true := by
  unfold nlE errD
  dsimp only
  cases κ.fs c with
  | nil => rfl
  | cons a b => exact nls_em us
/-! ### what defs promise -/
/-- a def of pure data: a value -/
def spV (κ : Kl) (n : Nat) (f : List U → M U) : Pl.Spec := fun ds Λ Q E => Λ = [] ∧ ∃ us, ds = ems κ us ∧ us.length = n ∧ wp (f us) (fun z => Q (.val (em κ z)) []) (fun c es => E (errD κ c es) [])
/-- .. a new list -/
def spN (κ : Kl) (n : Nat) (f : List U → M (List U)) : Pl.Spec := fun ds Λ Q E => Λ = [] ∧ ∃ us, ds = ems κ us ∧ us.length = n ∧ wp (f us) (fun z => Q (.new (ems κ z)) []) (fun c es => E (errD κ c es) [])
section
variable {κ : Kl} {n : Nat}
theorem spV_mono {f : List U → M U} : Mono (spV κ n f) := fun ds Λ Q Q' E E' ⟨h0, us, h1, h2, h3⟩ i j => ⟨h0, us, h1, h2, wp_mono h3 (fun z h => i _ _ h) fun c es h => j _ _ h⟩
theorem spN_mono {f : List U → M (List U)} : Mono (spN κ n f) := fun ds Λ Q Q' E E' ⟨h0, us, h1, h2, h3⟩ i j => ⟨h0, us, h1, h2, wp_mono h3 (fun z h => i _ _ h) fun c es h => j _ _ h⟩
variable {C : Pl.Ctx} {E : ER} {Γ : Pl.Env} {Λ : Cells} {pos p : Pos} {α : Type} {Q : α → Prop} {Eh : Str → List U → Prop}
/-- f(e, ..): a value -/
theorem we_callV [Cool C] {k : Nat} {x : Str} {e : Expr} {es : List Expr} {P : D → Cells → Prop} {f : List U → M U} (G : C.fn k x n (spV κ n f)) (hk : k ≤ C.k) (hj : GlAt C x)
    (h : WA C E Γ Λ (e :: es) fun ds Λ1 => ∃ us, ds = ems κ us ∧ us.length = n ∧ wp (f us) (fun z => P (em κ z) Λ1) (fun c es => E (errD κ c es) Γ Λ1))
    (he : plainE e = true := by rfl) (hes : es.all plainE = true := by rfl) (hdb : (x == ("__debug__" : Str)) = false := by decide) : WE C E Γ Λ (.Call (.Name x p) (e :: es) [] pos) P :=
  we_call G hk hj spV_mono (wa_mono h fun ds Λ1 ⟨us, h1, h2, h3⟩ => by
    subst h1
    exact ⟨nls_em us, by rw [ems_len]; exact h2, rfl, us, rfl, h2, wp_mono h3 (fun z h => ⟨rfl, _, rfl, h⟩) fun c es h => ⟨rfl, h⟩⟩) he hes hdb
theorem wn_callN [Cool C] {k : Nat} {x : Str} {e : Expr} {es : List Expr} {P : List D → Cells → Prop} {f : List U → M (List U)} (G : C.fn k x n (spN κ n f)) (hk : k ≤ C.k) (hj : GlAt C x)
    (h : WA C E Γ Λ (e :: es) fun ds Λ1 => ∃ us, ds = ems κ us ∧ us.length = n ∧ wp (f us) (fun z => P (ems κ z) Λ1) (fun c es => E (errD κ c es) Γ Λ1))
    (he : plainE e = true := by rfl) (hes : es.all plainE = true := by rfl) (hdb : (x == ("__debug__" : Str)) = false := by decide) : WN C E Γ Λ (.Call (.Name x p) (e :: es) [] pos) P :=
  wn_call G hk hj spN_mono (wa_mono h fun ds Λ1 ⟨us, h1, h2, h3⟩ => by
    subst h1
    exact ⟨nls_em us, by rw [ems_len]; exact h2, rfl, us, rfl, h2, wp_mono h3 (fun z h => ⟨rfl, _, rfl, h⟩) fun c es h => ⟨rfl, h⟩⟩) he hes hdb
/-! ### cells -/
theorem popP_m {n : Nat} {Λ : Cells} {us : List U} {k : U × List U → M α} {P : D → Cells → Prop} (hn : Λ[n]? = some (.lst (ems κ us))) (h : wp ((popM us).bind k) Q Eh) (i : ∀ z vs, wp (k (z, vs)) Q Eh → P (em κ z) (Λ.set n (.lst (ems κ vs)))) : ∃ m ds d, D.loc n = .loc m ∧ Λ[m]? = some (.lst ds) ∧ ds.getLast? = some d ∧ P d (Λ.set m (.lst ds.dropLast)) := by
  replace h := wp_bind h
  unfold popM at h
  split at h
  · rename_i x e
    refine ⟨n, _, em κ x, rfl, hn, by rw [ems_map, List.getLast?_map, e]; rfl, ?_⟩
    have := i _ _ h
    rw [ems_map, List.map_dropLast, ← ems_map] at this; exact this
  · exact h.elim
theorem extP_m {n : Nat} {Λ : Cells} {us : List U} {y : D} {k : List U → M α} {P : D → Cells → Prop} (u : U) (hy : Vw κ Λ y u) (hn : Λ[n]? = some (.lst (ems κ us))) (h : wp ((extM us u).bind k) Q Eh) (i : ∀ z, wp (k z) Q Eh → P .non (Λ.set n (.lst (ems κ z)))) : ∃ ds zs, Λ[n]? = some (.lst ds) ∧ vw Λ y = .lst zs ∧ ds.length + zs.length ≤ sizeLine ∧ P .non (Λ.set n (.lst (ds ++ zs))) := by
  replace h := wp_bind h
  unfold extM at h
  split at h
  · obtain ⟨h1, h2⟩ := wp_sz h
    refine ⟨_, _, hn, hy, by rw [ems_len, ems_len]; exact sz_line h1, ?_⟩
    have := i _ h2
    rw [ems_app] at this; exact this
  · exact h.elim
theorem setP_m {n : Nat} {Λ : Cells} {us : List U} {y : D} {k : List U → M α} {P : Cells → Prop} (j u : U) (hy : Vw κ Λ y j) (hn : Λ[n]? = some (.lst (ems κ us))) (h : wp ((setM us j u).bind k) Q Eh) (i : ∀ z, wp (k z) Q Eh → P (Λ.set n (.lst (ems κ z)))) : ∃ m ds k j, D.loc n = .loc m ∧ y = .int k ∧ Λ[m]? = some (.lst ds) ∧ ixN ds.length k = some j ∧ P (Λ.set m (.lst (ds.set j (em κ u)))) := by
  replace h := wp_bind h
  unfold setM at h
  split at h
  · split at h
    · rename_i q w e
      refine ⟨n, _, _, _, rfl, hy.atom (by simp) (by simp) (by simp), hn, by rw [ems_len]; exact e, ?_⟩
      have := i _ h
      rw [ems_map, List.map_set, ← ems_map] at this; exact this
    · exact h.elim
  · exact h.elim
/-! ### tests and values that join -/
theorem wt_cutM {e : Expr} {m : M Bool} {k : Bool → M α} {P : Bool → Cells → Prop} (h : wp (m.bind k) Q Eh) (h1 : ∀ Q', wp m Q' Eh → WT C E Γ Λ e fun b Λ' => Λ' = Λ ∧ Q' b) (h2 : ∀ b, wp (k b) Q Eh → P b Λ) : WT C E Γ Λ e P :=
  wt_mono (h1 _ (wp_bind h)) fun b Λ' ⟨e, q⟩ => by subst e; exact h2 b q
theorem we_cutM {e : Expr} {m : M U} {k : U → M α} {P : D → Cells → Prop} (h : wp (m.bind k) Q Eh) (h1 : ∀ Q', wp m Q' Eh → WE C E Γ Λ e fun d Λ' => Λ' = Λ ∧ ∃ z, d = em κ z ∧ Q' z) (h2 : ∀ z, wp (k z) Q Eh → P (em κ z) Λ) : WE C E Γ Λ e P :=
  we_mono (h1 _ (wp_bind h)) fun d Λ' ⟨e, z, e2, q⟩ => by subst e; subst e2; exact h2 z q
variable {Γ : Pl.Env} {R : Rs}
/-- behind a statement the state is of a shape -/
theorem ws_cutM {σ : Type} (sh : σ → Pl.Env → Cells → Prop) {s : Stmt} {m : M σ} {k : σ → M α} (h : wp (m.bind k) Q Eh) (h1 : ∀ Q', wp m Q' Eh → WS C Γ Λ s { R with nx := fun Γ Λ => ∃ st, sh st Γ Λ ∧ Q' st }) (h2 : ∀ st Γ Λ, sh st Γ Λ → wp (k st) Q Eh → R.nx Γ Λ) : WS C Γ Λ s R :=
  ws_mono (h1 _ (wp_bind h)) ⟨fun Γ Λ ⟨st, a, b⟩ => h2 st Γ Λ a b, fun _ _ z => z, fun _ _ z => z, fun _ _ z => z, fun _ _ _ z => z⟩
/-! ### loops -/
variable {tg : Expr} {ws : List Nat} {body : List Stmt}
theorem loopN {σ : Type} (sh : σ → Pl.Env → Cells → Prop) (f : σ → U → M σ)
    (hb : ∀ st x Γ Λ Q', sh st Γ Λ → wp (f st x) Q' Eh → WG C Γ Λ tg (em κ x) ws fun Γ' => WSs C Γ' Λ body { R with nx := fun Γ Λ => ∃ st, sh st Γ Λ ∧ Q' st, ct := fun Γ Λ => ∃ st, sh st Γ Λ ∧ Q' st, bk := fun _ _ => False }) :
    ∀ (xs : List U) (st : σ) (Γ : Pl.Env) (Λ : Cells), sh st Γ Λ → wp (forN f xs st) (fun st => ∀ Γ Λ, sh st Γ Λ → R.nx Γ Λ) Eh → LoopP C tg ws body R (ems κ xs) Γ Λ
  | [], st, Γ, Λ, hs, h => h Γ Λ hs
  | x :: xs, st, Γ, Λ, hs, h => by
    replace h := wp_bind h
    refine wg_mono (hb st x Γ Λ _ hs h) fun Γ' h' => ?_
    exact wss_mono h' ⟨fun Γ Λ ⟨st, a, b⟩ => loopN sh f hb xs st Γ Λ a b, fun _ _ z => z, fun _ _ z => z.elim, fun Γ Λ ⟨st, a, b⟩ => loopN sh f hb xs st Γ Λ a b, fun _ _ _ z => z⟩
/-- a for as a whole -/
theorem loopN_m {σ : Type} (sh : σ → Pl.Env → Cells → Prop) {f : σ → U → M σ} {xs : List U} {st : σ} {k : σ → M α} (h : wp ((forN f xs st).bind k) Q Eh) (hs : sh st Γ Λ)
    (hb : ∀ st x Γ Λ Q', sh st Γ Λ → wp (f st x) Q' Eh → WG C Γ Λ tg (em κ x) ws fun Γ' => WSs C Γ' Λ body { R with nx := fun Γ Λ => ∃ st, sh st Γ Λ ∧ Q' st, ct := fun Γ Λ => ∃ st, sh st Γ Λ ∧ Q' st, bk := fun _ _ => False })
    (h2 : ∀ st Γ Λ, sh st Γ Λ → wp (k st) Q Eh → R.nx Γ Λ) : LoopP C tg ws body R (ems κ xs) Γ Λ :=
  loopN sh f hb xs st Γ Λ hs (wp_mono (wp_bind h) (fun st h Γ Λ hs => h2 st Γ Λ hs h) fun _ _ h => h)
/-- while -/
theorem whN_m {σ : Type} (sh : σ → Pl.Env → Cells → Prop) {c : Expr} {cM : σ → M Bool} {f : σ → M σ} {n : Nat} {st : σ} {k : σ → M α} {pos : Pos} (h : wp ((whN cM f n st).bind k) Q Eh) (hs : sh st Γ Λ)
    (hc : ∀ st Γ Λ Q', sh st Γ Λ → wp (cM st) Q' Eh → WT C R.er Γ Λ c fun b Λ' => Λ' = Λ ∧ Q' b)
    (hb : ∀ st Γ Λ Q', sh st Γ Λ → wp (f st) Q' Eh → WSs C Γ Λ body { R with nx := fun Γ Λ => ∃ st, sh st Γ Λ ∧ Q' st, ct := fun Γ Λ => ∃ st, sh st Γ Λ ∧ Q' st, bk := fun _ _ => False })
    (h2 : ∀ st Γ Λ, sh st Γ Λ → wp (k st) Q Eh → R.nx Γ Λ) : WS C Γ Λ (.While c body [] pos) R := by
  refine ws_while (fun m Γ Λ => ∃ st, sh st Γ Λ ∧ wp (whN cM f m st) (fun st => wp (k st) Q Eh) Eh) ⟨n, st, hs, wp_bind h⟩ fun m Γ Λ ⟨st, hs, h⟩ => ?_
  cases m with
  | zero => exact h.elim
  | succ m =>
    replace h := wp_bind h
    refine wt_mono (hc st Γ Λ _ hs h) fun b Λ' ⟨e, h⟩ => ?_
    subst e
    refine ite_m h (fun h => ?_) fun h => h2 st Γ Λ' hs h
    replace h := wp_bind h
    exact wss_mono (hb st Γ Λ' _ hs h) ⟨fun Γ Λ ⟨st, a, b⟩ => ⟨m, Nat.lt_succ_self m, st, a, b⟩, fun _ _ z => z, fun _ _ z => z.elim, fun Γ Λ ⟨st, a, b⟩ => ⟨m, Nat.lt_succ_self m, st, a, b⟩, fun _ _ _ z => z⟩
/-! ### comprehensions -/
theorem comp_cp {f : U → M U} {elt : Expr} {P : List D → Prop} (hb : ∀ x Q', wp (f x) Q' no → WG C Γ Λ tg (em κ x) ws fun Γ' => WE C ER.none Γ' Λ elt fun d Λ' => Λ' = Λ ∧ ∃ z, d = em κ z ∧ Q' z) :
    ∀ (xs : List U) (acc : List D), acc.length + xs.length < 10000000 → wp (mapC f xs) (fun zs => P (acc ++ ems κ zs)) no → CompP C Γ Λ tg ws [] elt P (ems κ xs) acc
  | [], acc, hm, h => by
    have h : P (acc ++ []) := h
    rw [List.append_nil] at h; exact h
  | x :: xs, acc, hm, h => by
    rw [List.length_cons] at hm
    refine ⟨by omega, wg_mono (hb x _ (wp_calm (wp_bind h))) fun Γ' h' => we_mono h' fun d Λ' ⟨e, z, e2, q⟩ => ⟨e, ?_⟩⟩
    subst e2
    refine comp_cp hb xs _ (by simp; omega) (wp_mono (wp_bind q) (fun zs q => ?_) fun _ _ h => h)
    have q : P (acc ++ (em κ z :: ems κ zs)) := q
    rw [List.append_assoc]; exact q
theorem comp_cf {g : U → M Bool} {f : U → M U} {elt c : Expr} {P : List D → Prop} (hb : ∀ x Qb Q', wp (g x) Qb no → (Qb true → wp (f x) Q' no) → WG C Γ Λ tg (em κ x) ws fun Γ' => WT C ER.none Γ' Λ c fun b Λ' => Λ' = Λ ∧ Qb b ∧ (b = true → WE C ER.none Γ' Λ elt fun d Λ' => Λ' = Λ ∧ ∃ z, d = em κ z ∧ Q' z)) :
    ∀ (xs : List U) (acc : List D), acc.length + xs.length < 10000000 → wp (filC g f xs) (fun zs => P (acc ++ ems κ zs)) no → CompP C Γ Λ tg ws [c] elt P (ems κ xs) acc
  | [], acc, hm, h => by
    have h : P (acc ++ []) := h
    rw [List.append_nil] at h; exact h
  | x :: xs, acc, hm, h => by
    rw [List.length_cons] at hm
    replace h := wp_calm (wp_bind h)
    refine ⟨by omega, wg_mono (hb x (fun b => wp (if b = true then (f x).calm.bind fun y => (filC g f xs).bind fun ys => .ok (y :: ys) else filC g f xs) (fun zs => P (acc ++ ems κ zs)) no) (fun z => wp ((filC g f xs).bind fun ys => .ok (z :: ys)) (fun zs => P (acc ++ ems κ zs)) no) h fun h => ?_) fun Γ' h' => wt_mono h' fun b Λ' ⟨e, q, r⟩ => ⟨e, ?_⟩⟩
    · rw [if_pos rfl] at h; exact wp_calm (wp_bind h)
    · cases b with
      | false =>
        rw [if_neg (by simp)] at q ⊢
        exact comp_cf hb xs _ (by omega) q
      | true =>
        rw [if_pos rfl]
        have e := e.symm; subst e
        refine we_mono (r rfl) fun d Λ' ⟨e, z, e2, q⟩ => ⟨e, ?_⟩
        subst e2
        refine comp_cf hb xs _ (by simp; omega) (wp_mono (wp_bind q) (fun zs q => ?_) fun _ _ h => h)
        have q : P (acc ++ (em κ z :: ems κ zs)) := q
        rw [List.append_assoc]; exact q
end
section
variable {κ : Kl} {C : Pl.Ctx} {Γ : Pl.Env} {Λ : Cells} {α : Type} {Q : α → Prop} {Eh : Str → List U → Prop} {tg : Expr} {ws : List Nat}
/-- a comprehension as a whole -/
theorem comp_m {f : U → M U} {elt : Expr} {P : List D → Prop} {xs : List U} {k : List U → M α} (h : wp ((compM f xs).bind k) Q Eh)
    (hb : ∀ x Q', wp (f x) Q' no → WG C Γ Λ tg (em κ x) ws fun Γ' => WE C ER.none Γ' Λ elt fun d Λ' => Λ' = Λ ∧ ∃ z, d = em κ z ∧ Q' z) (i : ∀ zs, wp (k zs) Q Eh → P (ems κ zs)) : CompP C Γ Λ tg ws [] elt P (ems κ xs) [] := by
  obtain ⟨h1, h2⟩ := wp_sz (wp_bind h)
  refine comp_cp hb xs [] (by simpa using h1) ?_
  have key : ∀ xs : List U, ∀ c us, mapC f xs ≠ .err c us := by
    intro xs
    induction xs with
    | nil => intro c us e; cases e
    | cons x xs ih =>
      intro c us e
      unfold mapC at e
      cases e1 : f x <;> rw [e1] at e <;> try cases e
      cases e2 : mapC f xs <;> rw [e2] at e <;> try cases e
      exact ih _ _ e2
  cases e : mapC f xs with
  | stuck => rw [e] at h2; exact h2.elim
  | err c us => exact absurd e (key _ _ _)
  | ok a => rw [e] at h2; exact i a h2
theorem compF_m {g : U → M Bool} {f : U → M U} {elt c : Expr} {P : List D → Prop} {xs : List U} {k : List U → M α} (h : wp ((compF g f xs).bind k) Q Eh)
    (hb : ∀ x Qb Q', wp (g x) Qb no → (Qb true → wp (f x) Q' no) → WG C Γ Λ tg (em κ x) ws fun Γ' => WT C ER.none Γ' Λ c fun b Λ' => Λ' = Λ ∧ Qb b ∧ (b = true → WE C ER.none Γ' Λ elt fun d Λ' => Λ' = Λ ∧ ∃ z, d = em κ z ∧ Q' z)) (i : ∀ zs, wp (k zs) Q Eh → P (ems κ zs)) : CompP C Γ Λ tg ws [c] elt P (ems κ xs) [] := by
  obtain ⟨h1, h2⟩ := wp_sz (wp_bind h)
  refine comp_cf hb xs [] (by simpa using h1) ?_
  have key : ∀ xs : List U, ∀ c us, filC g f xs ≠ .err c us := by
    intro xs
    induction xs with
    | nil => intro c us e; cases e
    | cons x xs ih =>
      intro c us e
      unfold filC at e
      cases e1 : g x <;> rw [e1] at e <;> try cases e
      rename_i b
      have e : (if b = true then _ else _) = M.err c us := e
      split at e
      · cases e3 : f x <;> rw [e3] at e <;> try cases e
        cases e2 : filC g f xs <;> rw [e2] at e <;> try cases e
        exact ih _ _ e2
      · exact ih _ _ e
  cases e : filC g f xs with
  | stuck => rw [e] at h2; exact h2.elim
  | err c us => exact absurd e (key _ _ _)
  | ok a => rw [e] at h2; exact i a h2
end
/-! ### defs -/
section
variable {κ : Kl} {G : Gl}
theorem fn_none {x : Str} {st : Stmt} {ps : List Str} {S : Pl.Spec} {qn : Str} (h : DefAt G.K G.mg x st ps qn) {k : Nat} (hn : ∀ ds Λ Q E, ¬ S ds Λ Q E) : G.fn k x ps.length S := h.none hn
theorem spV_none {n : Nat} {f : List U → M U} (hf : ∀ us, f us = .stuck) (ds : List D) (Λ : Cells) (Q : Res → Cells → Prop) (E : Err → Cells → Prop) : ¬ spV κ n f ds Λ Q E := fun ⟨_, us, _, _, h⟩ => by rw [hf] at h; exact h
theorem spN_none {n : Nat} {f : List U → M (List U)} (hf : ∀ us, f us = .stuck) (ds : List D) (Λ : Cells) (Q : Res → Cells → Prop) (E : Err → Cells → Prop) : ¬ spN κ n f ds Λ Q E := fun ⟨_, us, _, _, h⟩ => by rw [hf] at h; exact h
/-- the refusals that a def may leave with -/
def erM (κ : Kl) (Eh : Str → List U → Prop) : ER := fun e _ _ => ∃ c us, e = errD κ c us ∧ Eh c us
theorem EI.erM {Eh : Str → List U → Prop} : EI κ Eh (erM κ Eh) := fun c us _ _ h => ⟨c, us, rfl, h⟩
/-- what a def's body is to reach: a value -/
def rtV (κ : Kl) (Q : U → Prop) (r : Res) (Λ : Cells) : Prop := (∃ u, r = .val (em κ u) ∧ Q u) ∨ (∃ n ks us, r = .val (.loc n) ∧ Λ[n]? = some (.dic ks (ems κ us)) ∧ Q (.dic ks us))
/-- .. a new list -/
def rtL (κ : Kl) (Q : List U → Prop) (r : Res) (Λ : Cells) : Prop := (∃ us, r = .new (ems κ us) ∧ Q us) ∨ (∃ n us, r = .val (.loc n) ∧ Λ[n]? = some (.lst (ems κ us)) ∧ Q us)
theorem def_V {x : Str} {st : Stmt} {ps : List Str} {qn : Str} (h : DefAt G.K G.mg x st ps qn) {N : List Str} {vs ls : List Bool} {gl : List Str} {k : Nat} {f : List U → M U} (sc : FnScope N ps (defScope st)) (good : goodC N (defScope st) vs ls gl = true)
    (hb : ∀ us, us.length = ps.length → ∀ Q Eh, wp (f us) Q Eh → WSs (G.cx N (defScope st) vs ls gl k 0) (Γ0 N (ems κ us)) [] (defBody st) ⟨fun _ _ => Q .non, rtV κ Q, fun _ _ => False, fun _ _ => False, erM κ Eh⟩) : G.fn (k + 1) x ps.length (spV κ ps.length f) :=
  def_okC (m := 0) h sc good (fun ds Λ Q E ⟨h, _⟩ => by subst h; exact Nat.le_refl _) fun ds Λ Q E hl ⟨h0, us, h1, h2, h3⟩ => by
    subst h0; subst h1
    refine wss_mono (hb us h2 _ _ h3) ⟨fun Γ Λ p => ?_, fun r Λ p => ?_, fun _ _ z => z, fun _ _ z => z, fun e Γ Λ p => ?_⟩
    · exact ⟨0, Nat.le_refl _, rfl, .inl ⟨rfl, p⟩⟩
    · rcases p with ⟨u, rfl, q⟩ | ⟨n, ks, us, rfl, q1, q2⟩
      · exact ⟨0, Nat.le_refl _, rfl, .inl ⟨ltD_nl _ (nl_em u), q⟩⟩
      · exact ⟨0, Nat.le_refl _, rfl, .inr (.inr ⟨n, ks, _, Nat.zero_le _, rfl, q1, nls_em us, q2⟩)⟩
    · obtain ⟨c, es, rfl, q⟩ := p
      exact ⟨nlE_errD, rfl, q⟩
theorem def_N {x : Str} {st : Stmt} {ps : List Str} {qn : Str} (h : DefAt G.K G.mg x st ps qn) {N : List Str} {vs ls : List Bool} {gl : List Str} {k : Nat} {f : List U → M (List U)} (sc : FnScope N ps (defScope st)) (good : goodC N (defScope st) vs ls gl = true)
    (hb : ∀ us, us.length = ps.length → ∀ Q Eh, wp (f us) Q Eh → WSs (G.cx N (defScope st) vs ls gl k 0) (Γ0 N (ems κ us)) [] (defBody st) ⟨fun _ _ => False, rtL κ Q, fun _ _ => False, fun _ _ => False, erM κ Eh⟩) : G.fn (k + 1) x ps.length (spN κ ps.length f) :=
  def_okC (m := 0) h sc good (fun ds Λ Q E ⟨h, _⟩ => by subst h; exact Nat.le_refl _) fun ds Λ Q E hl ⟨h0, us, h1, h2, h3⟩ => by
    subst h0; subst h1
    refine wss_mono (hb us h2 _ _ h3) ⟨fun Γ Λ p => p.elim, fun r Λ p => ?_, fun _ _ z => z, fun _ _ z => z, fun e Γ Λ p => ?_⟩
    · rcases p with ⟨u, rfl, q⟩ | ⟨n, us, rfl, q1, q2⟩
      · exact ⟨0, Nat.le_refl _, rfl, .inl ⟨nls_em u, q⟩⟩
      · exact ⟨0, Nat.le_refl _, rfl, .inr (.inl ⟨n, _, Nat.zero_le _, rfl, q1, nls_em us, q2⟩)⟩
    · obtain ⟨c, es, rfl, q⟩ := p
      exact ⟨nlE_errD, rfl, q⟩
/-- the law's own def -/
theorem law_M {x p : Str} {st : Stmt} {N : List Str} {vs ls : List Bool} {gl : List Str} {k n : Nat} {f : Addr} {fd : FuncData} {m : List U → M U} (F : Fun G.K x x st f fd) (sc : FnScope N [p] (defScope st)) (good : goodC N (defScope st) vs ls gl = true)
    (hb : ∀ us, us.length = 1 → ∀ Q Eh, wp (m us) Q Eh → WSs (G.cx N (defScope st) vs ls gl k 0) (Γ0 N (ems κ us)) [] (defBody st) ⟨fun _ _ => Q .non, rtV κ Q, fun _ _ => False, fun _ _ => False, erM κ Eh⟩)
    (hm : ∀ ns : List Int, ns.length ≤ n → m [.fzl (ns.map .int)] = .ok (.bl true)) : FnG G.P G.w G.K G.mg G.base (L2.CX G.P G.w) (k + 1) f fd [p] (spOf G.K 1 (lawSpec n)) :=
  law_ok F sc good fun ns hl => by
    have e : [em κ (.fzl (ns.map .int))] = [D.fzl (ns.map .int)] := by rw [em, ems_map, List.map_map]; rfl
    have := hb [.fzl (ns.map .int)] rfl (fun u => u = .bl true) no (by rw [hm ns hl]; exact rfl)
    have e2 : ems κ [.fzl (ns.map .int)] = [D.fzl (ns.map .int)] := e
    rw [e2] at this
    refine wss_mono this ⟨fun Γ Λ p => (by cases p), fun r Λ p => ?_, fun _ _ z => z, fun _ _ z => z, fun e Γ Λ p => ?_⟩
    · rcases p with ⟨u, rfl, rfl⟩ | ⟨n, ks, us, rfl, q1, q2⟩
      · rfl
      · cases q2
    · obtain ⟨c, es, rfl, q⟩ := p
      exact q
end
end Sh

/-! Sh4: the rules of expressions, in the pure reading. -/
namespace Sh
open PySem L2 Pl PyProof.Rows
abbrev Tr : Str → List U → Prop := fun _ _ => True
theorem wp_ret {α : Type} {m : M α} {P : α → Prop} {E : Str → List U → Prop} (h : wp m P E) : wp (m.bind .ok) P E := by cases m <;> exact h
section
variable {κ : Kl} {Λ : Cells} {α β : Type} {Q : α → Prop} {Eh : Str → List U → Prop} {x y : D}
theorem fin0 {m : M β} {k : β → M α} {P : β → Prop} (h : wp (m.bind k) Q Eh) (i : ∀ z, wp (k z) Q Eh → P z) : wp m P Tr := wp_mono (wp_bind h) i fun _ _ _ => trivial
theorem fin1 {f : U → M β} {k : β → M α} {P : β → Prop} (u : U) (hx : Vw κ Λ x u) (h : wp ((f u).bind k) Q Eh) (i : ∀ z, wp (k z) Q Eh → P z) : ∃ u, Vw κ Λ x u ∧ wp (f u) P Tr := ⟨u, hx, fin0 h i⟩
/-- the arguments of a call -/
theorem finF {β : Type} {n : Nat} {f : List U → M β} {E : ER} {Γ : Pl.Env} {ds : List D} {k : β → M α} {P : β → Prop} (us : List U) (hd : ds = ems κ us) (hn : us.length = n) (hE : EI κ Eh E) (h : wp ((f us).bind k) Q Eh) (i : ∀ z, wp (k z) Q Eh → P z) : ∃ us, ds = ems κ us ∧ us.length = n ∧ wp (f us) P (fun c es => E (errD κ c es) Γ Λ) :=
  ⟨us, hd, hn, wp_mono (wp_bind h) i fun c es h => hE _ _ _ _ h⟩
theorem fin2 {f : U → U → M β} {k : β → M α} {P : β → Prop} (u v : U) (hx : Vw κ Λ x u) (hy : Vw κ Λ y v) (h : wp ((f u v).bind k) Q Eh) (i : ∀ z, wp (k z) Q Eh → P z) : ∃ u v, Vw κ Λ x u ∧ Vw κ Λ y v ∧ wp (f u v) P Tr := ⟨u, v, hx, hy, fin0 h i⟩
end
section
variable {κ : Kl} {C : Pl.Ctx} {E : ER} {Γ : Pl.Env} {Λ : Cells} {P : D → Cells → Prop} {Pt : Bool → Cells → Prop} {Pn : List D → Cells → Prop} {pos p : Pos} {a b e e2 : Expr}
/-- two operands, an operation -/
abbrev Op2 (κ : Kl) (C : Pl.Ctx) (E : ER) (Γ : Pl.Env) (Λ : Cells) (a b : Expr) (f : U → U → M U) (P : D → Cells → Prop) : Prop := WE C E Γ Λ a fun x Λ1 => WE C E Γ Λ1 b fun y Λ2 => ∃ u v, Vw κ Λ2 x u ∧ Vw κ Λ2 y v ∧ wp (f u v) (fun z => P (em κ z) Λ2) Tr
abbrev Op2t (κ : Kl) (C : Pl.Ctx) (E : ER) (Γ : Pl.Env) (Λ : Cells) (a b : Expr) (f : U → U → M Bool) (P : Bool → Cells → Prop) : Prop := WE C E Γ Λ a fun x Λ1 => WE C E Γ Λ1 b fun y Λ2 => ∃ u v, Vw κ Λ2 x u ∧ Vw κ Λ2 y v ∧ wp (f u v) (fun z => P z Λ2) Tr
abbrev Op1 (κ : Kl) (C : Pl.Ctx) (E : ER) (Γ : Pl.Env) (Λ : Cells) (a : Expr) (f : U → M U) (P : D → Cells → Prop) : Prop := WE C E Γ Λ a fun x Λ1 => ∃ u, Vw κ Λ1 x u ∧ wp (f u) (fun z => P (em κ z) Λ1) Tr
abbrev Op1n (κ : Kl) (C : Pl.Ctx) (E : ER) (Γ : Pl.Env) (Λ : Cells) (a : Expr) (f : U → M (List U)) (P : List D → Cells → Prop) : Prop := WE C E Γ Λ a fun x Λ1 => ∃ u, Vw κ Λ1 x u ∧ wp (f u) (fun z => P (ems κ z) Λ1) Tr
theorem we_addM (h : Op2 κ C E Γ Λ a b addM P) : WE C E Γ Λ (.BinOp a .Add b pos) P := we_add (we_mono h fun x Λ1 h => we_mono h fun y Λ2 ⟨u, v, hx, hy, h⟩ => addP_m (P := fun d => P d Λ2) u v hx hy (wp_ret h) fun z h => h)
theorem we_subM (h : Op2 κ C E Γ Λ a b subM P) : WE C E Γ Λ (.BinOp a .Sub b pos) P := we_sub (we_mono h fun x Λ1 h => we_mono h fun y Λ2 ⟨u, v, hx, hy, h⟩ => subP_m (P := fun d => P d Λ2) u v hx hy (wp_ret h) fun z h => h)
theorem we_mulM (h : Op2 κ C E Γ Λ a b mulM P) : WE C E Γ Λ (.BinOp a .Mult b pos) P := we_mul (we_mono h fun x Λ1 h => we_mono h fun y Λ2 ⟨u, v, hx, hy, h⟩ => mulP_m (P := fun d => P d Λ2) u v hx hy (wp_ret h) fun z h => h)
theorem we_fdivM (h : Op2 κ C E Γ Λ a b fdivM P) : WE C E Γ Λ (.BinOp a .FloorDiv b pos) P := we_fdiv (we_mono h fun x Λ1 h => we_mono h fun y Λ2 ⟨u, v, hx, hy, h⟩ => fdivP_m (P := fun d => P d Λ2) u v hx hy (wp_ret h) fun z h => h)
theorem we_modM (h : Op2 κ C E Γ Λ a b modM P) : WE C E Γ Λ (.BinOp a .Mod b pos) P := we_mod (we_mono h fun x Λ1 h => we_mono h fun y Λ2 ⟨u, v, hx, hy, h⟩ => modP_m (P := fun d => P d Λ2) u v hx hy (wp_ret h) fun z h => h)
theorem we_powM (h : Op2 κ C E Γ Λ a b powM P) : WE C E Γ Λ (.BinOp a .Pow b pos) P := we_pow (we_mono h fun x Λ1 h => we_mono h fun y Λ2 ⟨u, v, hx, hy, h⟩ => powP_m (P := fun d => P d Λ2) u v hx hy (wp_ret h) fun z h => h)
theorem we_negM (h : Op1 κ C E Γ Λ a negM P) : WE C E Γ Λ (.UnaryOp .USub a pos) P := we_neg (we_mono h fun x Λ1 ⟨u, hx, h⟩ => negP_m (P := fun d => P d Λ1) u hx (wp_ret h) fun z h => h)
/-! comparisons, as values and as tests -/
abbrev vB (f : U → U → M Bool) (u v : U) : M U := (f u v).bind fun b => .ok (.bl b)
theorem vB_wp {m : M Bool} {P : U → Prop} (h : wp (m.bind fun b => .ok (.bl b)) P Tr) : wp m (fun b => P (.bl b)) Tr := by cases m <;> exact h
abbrev nB (f : U → U → M Bool) (u v : U) : M Bool := (f u v).bind fun b => .ok (!b)
theorem nB_wp {m : M Bool} {P : Bool → Prop} (h : wp (m.bind fun b => .ok (!b)) P Tr) : wp m (fun b => P (!b)) Tr := by cases m <;> exact h
theorem wt_eqM (h : Op2t κ C E Γ Λ a b eqM Pt) : WT C E Γ Λ (.Compare a [.Eq] [b] pos) Pt := wt_eq (we_mono h fun x Λ1 h => we_mono h fun y Λ2 ⟨u, v, hx, hy, h⟩ => eqP_m (Pb := fun d => Pt d Λ2) u v hx hy (wp_ret h) fun z h => h)
theorem wt_neM (h : Op2t κ C E Γ Λ a b (nB eqM) Pt) : WT C E Γ Λ (.Compare a [.NotEq] [b] pos) Pt := wt_ne (we_mono h fun x Λ1 h => we_mono h fun y Λ2 ⟨u, v, hx, hy, h⟩ => eqP_m (Pb := fun d => Pt (!d) Λ2) u v hx hy (wp_ret (nB_wp h)) fun z h => h)
theorem wt_ltM (h : Op2t κ C E Γ Λ a b ltM Pt) : WT C E Γ Λ (.Compare a [.Lt] [b] pos) Pt := wt_lt (we_mono h fun x Λ1 h => we_mono h fun y Λ2 ⟨u, v, hx, hy, h⟩ => ltP_m (Pb := fun d => Pt d Λ2) u v hx hy (wp_ret h) fun z h => h)
theorem wt_gtM (h : Op2t κ C E Γ Λ a b gtM Pt) : WT C E Γ Λ (.Compare a [.Gt] [b] pos) Pt := wt_gt (we_mono h fun x Λ1 h => we_mono h fun y Λ2 ⟨u, v, hx, hy, h⟩ => gtP_m (Pb := fun d => Pt d Λ2) u v hx hy (wp_ret h) fun z h => h)
theorem we_leM (h : Op2 κ C E Γ Λ a b (vB leM) P) : WE C E Γ Λ (.Compare a [.LtE] [b] pos) P := we_le (we_mono h fun x Λ1 h => we_mono h fun y Λ2 ⟨u, v, hx, hy, h⟩ => leP_m (Pb := fun d => P (.bl d) Λ2) u v hx hy (wp_ret (vB_wp h)) fun z h => h)
/-- x is not None -/
def isntM (x y : U) : M Bool := match y with
  | .non => .ok (!isNone x)
  | _ => .stuck
/-! and, or, not, tests by value -/
theorem we_andM {rest : List Expr} (h : WE C E Γ Λ a fun x Λ1 => ∃ u, Vw κ Λ1 x u ∧ wp (boolM u) (fun c => if c = true then WE C E Γ Λ1 (.BoolOp .And (b :: rest) pos) P else P (.bl false) Λ1) Tr) : WE C E Γ Λ (.BoolOp .And (a :: b :: rest) pos) P :=
  we_and (we_mono h fun x Λ1 ⟨u, hx, h⟩ => boolP_m u hx (wp_ret h) fun z h => h)
/-! subscripts, slices -/
theorem we_ixM (h : Op2 κ C E Γ Λ a b ixM P) (hs : PlainIx b := by intro _ _; rfl) : WE C E Γ Λ (.Subscript a b pos) P := we_ix (we_mono h fun x Λ1 h => we_mono h fun y Λ2 ⟨u, v, hx, hy, h⟩ => ixP_m (P := fun d => P d Λ2) u v hx hy (wp_ret h) fun z h => h) hs
theorem we_ixdM (h : Op2 κ C E Γ Λ a b ixdM P) (hs : NoSl b := by intro _ _; rfl) : WE C E Γ Λ (.Subscript a b pos) P := we_ixd (we_mono h fun x Λ1 h => we_mono h fun y Λ2 ⟨u, v, hx, hy, h⟩ => ixdP_m (P := fun d => P d Λ2) u v hx hy (wp_ret h) fun z h => h) hs
/-- a slice's end -/
def WOM (κ : Kl) (C : Pl.Ctx) (E : ER) (Γ : Pl.Env) (Λ : Cells) : Option Expr → (Option Int → Cells → Prop) → Prop
  | none, P => P none Λ
  | some e, P => WE C E Γ Λ e fun x Λ1 => ∃ u, Vw κ Λ1 x u ∧ wp (endM u) (fun z => P z Λ1) Tr
theorem wo_of {o : Option Expr} {P : Option Int → Cells → Prop} (h : WOM κ C E Γ Λ o P) : WO C E Γ Λ o P := by
  cases o with
  | none => exact h
  | some e => exact we_mono h fun x Λ1 ⟨u, hx, h⟩ => endP_m (Po := fun z => P z Λ1) u hx (wp_ret h) fun z h => h
theorem wo_mono {o : Option Expr} {P P' : Option Int → Cells → Prop} (h : WO C E Γ Λ o P) (i : ∀ z Λ, P z Λ → P' z Λ) : WO C E Γ Λ o P' := by
  cases o with
  | none => exact i _ _ h
  | some e => exact we_mono h fun x Λ1 ⟨j, e, h⟩ => ⟨j, e, i _ _ h⟩
theorem we_slM {lo hi : Option Expr} {p2 : Pos} (h : WE C E Γ Λ a fun x Λ1 => WOM κ C E Γ Λ1 lo fun l Λ2 => WOM κ C E Γ Λ2 hi fun r Λ3 => ∃ u, Vw κ Λ3 x u ∧ wp (slM u l r) (fun z => P (em κ z) Λ3) Tr) : WE C E Γ Λ (.Subscript a (.Slice lo hi none p2) pos) P :=
  we_sl (we_mono h fun x Λ1 h => wo_mono (wo_of h) fun l Λ2 h => wo_mono (wo_of h) fun r Λ3 ⟨u, hx, h⟩ => slP_m (P := fun d => P d Λ3) u hx (wp_ret h) fun z h => h)
/-! built-ins -/
theorem we_lenM (hj : GlAt C "len") (hm : C.mg "len" = none) (h : Op1 κ C E Γ Λ e lenM P) (he : plainE e = true := by rfl) : WE C E Γ Λ (.Call (.Name "len" p) [e] [] pos) P := we_len hj hm (we_mono h fun x Λ1 ⟨u, hx, h⟩ => lenP_m (P := fun d => P d Λ1) u hx (wp_ret h) fun z h => h) he
theorem wn_listM (hj : GlAt C "list") (hm : C.mg "list" = none) (h : Op1n κ C E Γ Λ e listM Pn) (he : plainE e = true := by rfl) : WN C E Γ Λ (.Call (.Name "list" p) [e] [] pos) Pn := wn_list hj hm (we_mono h fun x Λ1 ⟨u, hx, h⟩ => listP_m (Pl' := fun d => Pn d Λ1) u hx (wp_ret h) fun z h => h) he
theorem we_tupleM (hj : GlAt C "tuple") (hm : C.mg "tuple" = none) (h : Op1 κ C E Γ Λ e tupleM P) (he : plainE e = true := by rfl) : WE C E Γ Λ (.Call (.Name "tuple" p) [e] [] pos) P := we_tuple hj hm (we_mono h fun x Λ1 ⟨u, hx, h⟩ => tupleP_m (P := fun d => P d Λ1) u hx (wp_ret h) fun z h => h) he
theorem we_maxdM [Cool C] {i : Int} {j : Nat} {p1 p2 : Pos} (hj : GlAt C "max") (hm : C.mg "max" = none) (h : Op1 κ C E Γ Λ e (fun u => maxdM u i) P) (he : plainE e = true := by rfl) : WE C E Γ Λ (.Call (.Name "max" p) [e] [⟨some "default", .Constant (.int i) j p1, p2⟩] pos) P := we_maxd hj hm (we_mono h fun x Λ1 ⟨u, hx, h⟩ => maxdP_m (P := fun d => P d Λ1) u hx (wp_ret h) fun z h => h) he
theorem we_min2M [Cool C] (hj : GlAt C "min") (hm : C.mg "min" = none) (h : Op2 κ C E Γ Λ e e2 min2M P) (he : plainE e = true := by rfl) (he2 : plainE e2 = true := by rfl) : WE C E Γ Λ (.Call (.Name "min" p) [e, e2] [] pos) P := we_min2 hj hm (we_mono h fun x Λ1 h => we_mono h fun y Λ2 ⟨u, v, hx, hy, h⟩ => min2P_m (P := fun d => P d Λ2) u v hx hy (wp_ret h) fun z h => h) he he2
/-! what is walked -/
variable {tg : Expr}
theorem wi_range1M (hj : GlAt C "range") (hm : C.mg "range" = none) (h : Op1n κ C E Γ Λ a range1M Pn) (ha : plainE a = true := by rfl) : WI C E Γ Λ tg (.Call (.Name "range" p) [a] [] pos) Pn := wi_range1 hj hm (we_mono h fun x Λ1 ⟨u, hx, h⟩ => rng1P_m (Pl' := fun d => Pn d Λ1) u hx (wp_ret h) fun z h => h) ha
abbrev OpI (κ : Kl) (C : Pl.Ctx) (E : ER) (Γ : Pl.Env) (Λ : Cells) (a : Expr) (f : U → M (List U)) (P : List D → Cells → Prop) : Prop := WE C E Γ Λ a fun x Λ1 => ∃ u, x = em κ u ∧ wp (f u) (fun z => P (ems κ z) Λ1) Tr
theorem wi_LM (h : OpI κ C E Γ Λ e iterL Pn) : WI C E Γ Λ tg e Pn := wi_list (we_mono h fun x Λ1 ⟨u, hx, h⟩ => by subst hx; exact iterLP_m (Pl' := fun d => Pn d Λ1) u (wp_ret h) fun z h => h)
theorem wi_TM (h : OpI κ C E Γ Λ e iterT Pn) : WI C E Γ Λ tg e Pn := wi_tup (we_mono h fun x Λ1 ⟨u, hx, h⟩ => by subst hx; exact iterTP_m (Pl' := fun d => Pn d Λ1) u (wp_ret h) fun z h => h)
theorem finI {α : Type} {Q : α → Prop} {Eh : Str → List U → Prop} {f : U → M (List U)} {k : List U → M α} {P : List U → Prop} (u : U) (h : wp ((f u).bind k) Q Eh) (i : ∀ z, wp (k z) Q Eh → P z) : ∃ v, em κ u = em κ v ∧ wp (f v) P Tr := ⟨u, rfl, fin0 h i⟩
/-! targets -/
variable {α : Type} {Q : α → Prop} {Eh : Str → List U → Prop} {ws : List Nat} {Pg : Pl.Env → Prop}
/-! methods of owned lists -/
variable {apos cpos : Pos} {o : Expr}
theorem we_appM (n : Nat) (h : WE C E Γ Λ o fun x Λ1 => x = .loc n ∧ (∃ us : List U, Λ1[n]? = some (.lst (ems κ us))) ∧ WE C E Γ Λ1 e fun y Λ2 => ∃ us u, y = em κ u ∧ Λ2[n]? = some (.lst (ems κ us)) ∧ wp (appM us u) (fun z => P .non (Λ2.set n (.lst (ems κ z)))) Tr)
    (ho : plainO o = true := by rfl) (he : plainE e = true := by rfl) (hl : (apos.endLine == cpos.line) = true := by rfl) : WE C E Γ Λ (.Call (.Attribute o "append" apos) [e] [] cpos) P :=
  we_append (we_mono h fun x Λ1 ⟨hx, ⟨us0, h0⟩, h⟩ => ⟨n, _, hx, h0, we_mono h fun y Λ2 ⟨us, u, hy, h1, h⟩ => by
    subst hy
    obtain ⟨h2, h3⟩ := wp_sz h
    refine ⟨_, h1, by rw [ems_len]; exact sz_ltt h2, ?_⟩
    have h3 : P .non (Λ2.set n (.lst (ems κ (us ++ [u])))) := h3
    rw [ems_app] at h3; exact h3⟩) ho he hl
theorem we_popM (n : Nat) (h : WE C E Γ Λ o fun x Λ1 => x = .loc n ∧ ∃ us, Λ1[n]? = some (.lst (ems κ us)) ∧ wp (popM us) (fun z => P (em κ z.1) (Λ1.set n (.lst (ems κ z.2)))) Tr)
    (ho : plainO o = true := by rfl) (hl : (apos.endLine == cpos.line) = true := by rfl) : WE C E Γ Λ (.Call (.Attribute o "pop" apos) [] [] cpos) P :=
  we_pop (we_mono h fun x Λ1 ⟨hx, us, h1, h⟩ => by
    subst hx
    exact popP_m (P := P) (Q := fun z : U × List U => P (em κ z.1) (Λ1.set n (.lst (ems κ z.2)))) (Eh := Tr) (k := .ok) h1 (wp_ret h) fun z vs h => (show (fun z : U × List U => P (em κ z.1) (Λ1.set n (.lst (ems κ z.2)))) (z, vs) from h)) ho hl
theorem we_extM (n : Nat) (h : WE C E Γ Λ o fun x Λ1 => x = .loc n ∧ (∃ us : List U, Λ1[n]? = some (.lst (ems κ us))) ∧ WE C E Γ Λ1 e fun y Λ2 => ∃ us u, Vw κ Λ2 y u ∧ Λ2[n]? = some (.lst (ems κ us)) ∧ wp (extM us u) (fun z => P .non (Λ2.set n (.lst (ems κ z)))) Tr)
    (ho : plainO o = true := by rfl) (he : plainE e = true := by rfl) (hl : (apos.endLine == cpos.line) = true := by rfl) : WE C E Γ Λ (.Call (.Attribute o "extend" apos) [e] [] cpos) P :=
  we_extend (we_mono h fun x Λ1 ⟨hx, ⟨us0, h0⟩, h⟩ => ⟨n, _, hx, h0, we_mono h fun y Λ2 ⟨us, u, hy, h1, h⟩ =>
    extP_m (P := fun d Λ => P d Λ) u hy h1 (wp_ret h) fun z h => h⟩) ho he hl
/-- owned: the end of an operation on a cell's list -/
theorem finC {β : Type} {f : List U → M β} {n : Nat} {k : β → M α} {P : β → Prop} (us : List U) (hn : Λ[n]? = some (.lst (ems κ us))) (h : wp ((f us).bind k) Q Eh) (i : ∀ z, wp (k z) Q Eh → P z) : ∃ us, Λ[n]? = some (.lst (ems κ us)) ∧ wp (f us) P Tr := ⟨us, hn, fin0 h i⟩
theorem finA {f : List U → U → M (List U)} {n : Nat} {k : List U → M α} {P : List U → Prop} (us : List U) (u : U) (hn : Λ[n]? = some (.lst (ems κ us))) (h : wp ((f us u).bind k) Q Eh) (i : ∀ z, wp (k z) Q Eh → P z) : ∃ us v, em κ u = em κ v ∧ Λ[n]? = some (.lst (ems κ us)) ∧ wp (f us v) P Tr := ⟨us, u, rfl, hn, fin0 h i⟩
theorem finV {f : List U → U → M (List U)} {n : Nat} {y : D} {k : List U → M α} {P : List U → Prop} (us : List U) (u : U) (hy : Vw κ Λ y u) (hn : Λ[n]? = some (.lst (ems κ us))) (h : wp ((f us u).bind k) Q Eh) (i : ∀ z, wp (k z) Q Eh → P z) : ∃ us v, Vw κ Λ y v ∧ Λ[n]? = some (.lst (ems κ us)) ∧ wp (f us v) P Tr := ⟨us, u, hy, hn, fin0 h i⟩
variable {R : Rs} {pos' : Pos} {i : Expr}
theorem ws_setM (n : Nat) (h : WE C R.er Γ Λ e fun d Λ1 => WE C R.er Γ Λ1 o fun x Λ2 => WE C R.er Γ Λ2 i fun y Λ3 => x = .loc n ∧ ∃ us u j, d = em κ u ∧ y = em κ j ∧ Λ3[n]? = some (.lst (ems κ us)) ∧ wp (setM us j u) (fun z => R.nx Γ (Λ3.set n (.lst (ems κ z)))) Tr)
    (hc : noComp e = true := by rfl) (ha : ∀ (env : PySem.Env) v, assign (.Subscript o i pos') env v = (do
      let ov ← holding [v] (eval o env)
      let iv ← holding [v, ov] (eval i env)
      standAt pos'
      holding [v, ov, iv] (setItem ov iv v)
      release [v, ov, iv] []) := by intro _ _; rfl) : WS C Γ Λ (.Assign [.Subscript o i pos'] e pos) R :=
  ws_setix (we_mono h fun d Λ1 h => we_mono h fun x Λ2 h => we_mono h fun y Λ3 ⟨hx, us, u, j, hd, hy, h1, q⟩ => by
    subst hx; subst hd; subst hy
    exact setP_m (P := fun Λ => R.nx Γ Λ) j u vE h1 (wp_ret q) fun z h => h) hc ha
theorem finS {n : Nat} {k : List U → M α} {P : List U → Prop} (us : List U) (u j : U) (hn : Λ[n]? = some (.lst (ems κ us))) (h : wp ((setM us j u).bind k) Q Eh) (i : ∀ z, wp (k z) Q Eh → P z) : ∃ vs v w, em κ u = em κ v ∧ em κ j = em κ w ∧ Λ[n]? = some (.lst (ems κ vs)) ∧ wp (setM vs w v) P Tr := ⟨us, u, j, rfl, rfl, hn, fin0 h i⟩
theorem rtV_v {Q : U → Prop} {u : U} (h : Q u) : rtV κ Q (.val (em κ u)) Λ := .inl ⟨u, rfl, h⟩
theorem rtV_d {Q : U → Prop} {n : Nat} {ks : List Key} {us : List U} (hn : Λ[n]? = some (.dic ks (ems κ us))) (h : Q (.dic ks us)) : rtV κ Q (.val (.loc n)) Λ := .inr ⟨n, ks, us, rfl, hn, h⟩
theorem rtL_v {Q : List U → Prop} {us : List U} (h : Q us) : rtL κ Q (.new (ems κ us)) Λ := .inl ⟨us, rfl, h⟩
theorem rtL_o {Q : List U → Prop} {n : Nat} {us : List U} (hn : Λ[n]? = some (.lst (ems κ us))) (h : Q us) : rtL κ Q (.val (.loc n)) Λ := .inr ⟨n, us, rfl, hn, h⟩
/-- a list that was owned is seen from now on; slot j told it -/
theorem freezeM {st : List Stmt} (n j : Nat) (us : List U) (hm0 : C.m ≤ n) (hn : Λ[n]? = some (.lst (ems κ us))) (hg : Γ[j]? = some (some (.loc n))) (h : WSs C (Γ.set j (some (em κ (.lst us)))) (Λ.set n .gone) st R) : WSs C Γ Λ st R :=
  wss_freeze n (ems κ us) hm0 hn _ (by simp) (fun i d hi => by
    by_cases e : j = i
    · subst e
      rw [List.getElem?_set_self (List.getElem?_eq_some_iff.mp hg).1] at hi
      cases hi
      exact .inr ⟨hg, rfl⟩
    · rw [List.getElem?_set_ne e] at hi
      exact .inl hi) h
theorem szd {n : Nat} (h : n < 10000000) : n ≤ sizeLine := Pl.sz_lt h
theorem len1 {us : List U} (h : us.length = 1) : ∃ a, us = [a] := by
  match us, h with
  | [a], _ => exact ⟨a, rfl⟩
theorem len2 {us : List U} (h : us.length = 2) : ∃ a b, us = [a, b] := by
  match us, h with
  | [a, b], _ => exact ⟨a, b, rfl⟩
theorem len3 {us : List U} (h : us.length = 3) : ∃ a b c, us = [a, b, c] := by
  match us, h with
  | [a, b, c], _ => exact ⟨a, b, c, rfl⟩
end
end Sh

/-! Sh5: sayings as pure data; sorted. -/
namespace Sh
open PySem L2 Pl Law
/-- a saying's datum -/
def su : Sy → U
  | .no => .tup [.str "no"]
  | .lt l => .tup [.str "letter", .str l.s]
  | .not a => .tup [.str "not", su a]
  | .shown a => .tup [.str "shown", su a]
  | .bin o a b => .tup [.str o.s, su a, su b]
theorem em_su {κ : Kl} : ∀ s : Sy, em κ (su s) = s.pv
  | .no => rfl
  | .lt l => rfl
  | .not a => by rw [su, em, ems, ems, ems, em_su a]; rfl
  | .shown a => by rw [su, em, ems, ems, ems, em_su a]; rfl
  | .bin o a b => by rw [su, em, ems, ems, ems, ems, em_su a, em_su b]; rfl
theorem ems_su {κ : Kl} (ss : List Sy) : ems κ (ss.map su) = ss.map Sy.pv := by
  rw [ems_map, List.map_map]; exact List.map_congr_left fun s _ => em_su s
theorem pyU_su (s : Sy) : pyU (su s) = py s.pv := by rw [← em_su (κ := ⟨fun _ => 0, fun _ => []⟩) s, py_em]
theorem su_inj {s t : Sy} (h : su s = su t) : s = t := pv_inj (by rw [← pyU_su, ← pyU_su, h])
theorem map_inj {α β : Type} {f : α → β} (hf : ∀ a b, f a = f b → a = b) : ∀ {xs ys : List α}, xs.map f = ys.map f → xs = ys
  | [], [], _ => rfl
  | [], _ :: _, h => by simp at h
  | _ :: _, [], h => by simp at h
  | x :: xs, y :: ys, h => by
    rw [List.map_cons, List.map_cons, List.cons.injEq] at h
    rw [hf _ _ h.1, map_inj hf h.2]
end Sh
namespace Law
open PySem L2 Pl
/-- letters, in their order -/
def leL (a b : Lt) : Bool := decide (a.ix ≤ b.ix)
def sortL (ls : List Lt) : List Lt := ls.mergeSort leL
theorem leL_trans (a b c : Lt) (h : leL a b = true) (g : leL b c = true) : leL a c = true := by
  unfold leL at *; rw [decide_eq_true_eq] at *; omega
theorem leL_total (a b : Lt) : (leL a b || leL b a) = true := by
  unfold leL; rw [Bool.or_eq_true, decide_eq_true_eq, decide_eq_true_eq]; omega
theorem sortL_perm (ls : List Lt) : (sortL ls).Perm ls := List.mergeSort_perm ls leL
theorem sortL_pw (ls : List Lt) : (sortL ls).Pairwise fun a b => leL a b = true := List.pairwise_mergeSort leL_trans leL_total ls
theorem lix_inj {a b : Lt} (h : a.ix = b.ix) : a = b := by cases a <;> cases b <;> first | rfl | cases h
theorem leL_anti {a b : Lt} (h : leL a b = true) (g : leL b a = true) : a = b := by
  unfold leL at h g; rw [decide_eq_true_eq] at h g; exact lix_inj (by omega)
theorem sortL_uniq {l ls : List Lt} (hp : l.Perm ls) (hs : l.Pairwise fun a b => leL a b = true) : l = sortL ls :=
  List.Perm.eq_of_pairwise (le := fun a b => leL a b = true) (fun a b _ _ h g => leL_anti h g) hs (sortL_pw ls) (hp.trans (sortL_perm ls).symm)
theorem lt_leL : ∀ a b : Lt, PySem.Spec.ltCps b.s.cps.toList a.s.cps.toList = !leL a b := by intro a b; cases a <;> cases b <;> decide +kernel
theorem rising_L : ∀ (ms : List Lt) (a : Lt), PyProof.Rows.risingS a.s (ms.map Lt.s) = true → (a :: ms).Pairwise fun a b => leL a b = true
  | [], a, _ => List.pairwise_singleton ..
  | b :: ms, a, h => by
    rw [List.map_cons, PyProof.Rows.risingS, Bool.and_eq_true, lt_leL, Bool.not_not] at h
    have ih := rising_L ms b h.2
    refine List.pairwise_cons.mpr ⟨fun c hc => ?_, ih⟩
    rcases List.mem_cons.mp hc with rfl | hc
    · exact h.1
    · exact leL_trans _ _ _ h.1 ((List.pairwise_cons.mp ih).1 c hc)
theorem sortedS_L {ms : List Lt} (h : PyProof.Rows.sortedS (ms.map Lt.s) = true) : ms.Pairwise fun a b => leL a b = true := by
  cases ms with
  | nil => exact List.Pairwise.nil
  | cons a ms => exact rising_L ms a h
def unL (s : Str) : Lt := if s = "p" then .p else if s = "q" then .q else .r
theorem unL_s (a : Lt) : unL a.s = a := by cases a <;> decide +kernel
theorem perm_L {ys : List Str} {ls : List Lt} (h : ys.Perm (ls.map Lt.s)) (s : PyProof.Rows.sortedS ys = true) : ys = (sortL ls).map Lt.s := by
  have e : ys = (ys.map unL).map Lt.s := by
    rw [List.map_map]
    have e : ys.map (Lt.s ∘ unL) = ys.map id := List.map_congr_left fun y hy => by
      obtain ⟨a, _, rfl⟩ := List.mem_map.mp (h.mem_iff.mp hy)
      simp [unL_s]
    rw [e, List.map_id]
  rw [e] at s ⊢
  rw [sortL_uniq (l := ys.map unL) ?_ (sortedS_L s)]
  have := h.map unL
  rw [List.map_map] at this
  rw [show ls.map (unL ∘ Lt.s) = ls by rw [show (unL ∘ Lt.s) = id from funext unL_s]; simp] at this
  exact this
end Law
namespace Sh
open PySem L2 Pl Law
def ltU (l : Lt) : U := .str l.s
open Classical in
/-- sorted(xs) of sayings, of letters -/
noncomputable def sortedM (x : U) : M (List U) :=
  if h : ∃ ss : List Sy, itemsL x = some (ss.map su) ∧ ∀ s ∈ ss, s.ht ≤ 180 then .ok ((sortS h.choose).map su)
  else if h : ∃ ls : List Lt, itemsL x = some (ls.map ltU) ∧ ls.length < 64 then .ok ((sortL h.choose).map ltU) else .stuck
theorem sortedM_su {x : U} {ss : List Sy} (e : itemsL x = some (ss.map su)) (h : ∀ s ∈ ss, s.ht ≤ 180) : sortedM x = .ok ((sortS ss).map su) := by
  have hx : ∃ ss : List Sy, itemsL x = some (ss.map su) ∧ ∀ s ∈ ss, s.ht ≤ 180 := ⟨ss, e, h⟩
  unfold sortedM
  rw [dif_pos hx]
  have g := e.symm.trans hx.choose_spec.1
  rw [← map_inj (fun _ _ => su_inj) (Option.some.inj g)]
theorem ltU_inj {a b : Lt} (h : ltU a = ltU b) : a = b := by
  unfold ltU at h; injection h with h; exact Sy.lt_s_inj.mp h
section
variable {κ : Kl} {C : Pl.Ctx} {E : ER} {Γ : Pl.Env} {Λ : Cells} {Pn : List D → Cells → Prop} {pos p : Pos} {e : Expr}
def rSortA (K : PySem.W.Frag) : List V → Hp → VK → Prop := fun vs H Q => rSortT K vs H Q ∨ rSortedS K vs H Q
theorem cr_sortA {X : Cx} (hu : X.A.units + 200 < cLine) : CallR X (.builtin "sorted") (rSortA X.K) := by
  intro pins z σ H vs us Q I r h
  rcases h with h | h
  · exact cr_sortT hu pins z σ H vs us Q I r h
  · exact cr_sortedS pins z σ H vs us Q I r h
theorem ems_ltU (ls : List Lt) : ems κ (ls.map ltU) = ls.map fun l => D.str l.s := by rw [ems_map, List.map_map]; rfl
theorem wn_sortedM (hj : GlAt C "sorted") (hm : C.mg "sorted" = none) (h : Op1n κ C E Γ Λ e sortedM Pn) (he : plainE e = true := by rfl) : WN C E Γ Λ (.Call (.Name "sorted" p) [e] [] pos) Pn :=
  wn_callB (r := rSortA C.K) (fun X is => crK rSortA is (cr_sortA is.u200)) hj hm boot_sorted' (wa_cons (we_mono h fun x Λ1 ⟨u, hx, h⟩ => wa_nil (by
    intro F B α σ H vs Q S rs q
    obtain ⟨v, rfl, rv⟩ := reps1 rs
    unfold sortedM at h
    split at h
    · rename_i hs
      obtain ⟨h1, h2⟩ := hs.choose_spec
      generalize hs.choose = ss at h h1 h2
      have h3 : Pn (ems κ ((sortS ss).map su)) Λ1 := h
      have h1 : lstD Λ1 x = some (ss.map Sy.pv) := by rw [items_of hx h1, ems_su]
      rw [ems_su] at h3
      obtain ⟨a, ws, rfl, g1, g2⟩ := S.seqL rv h1
      obtain ⟨z1, z2⟩ := reps_zip g2
      refine .inl ⟨a, ws, ss, rfl, g1, z1, fun y hy => ?_, fun ys t l1 l2 ht => ?_⟩
      · have ry := z2 y hy
        refine ⟨Rep.dp S.bh _ _ (Sy.pv_plain _) ry, ?_, h2 _ (List.of_mem_zip hy).2⟩
        obtain ⟨ds, e⟩ := Sy.pv_tup y.2
        rw [e] at ry
        unfold Rep at ry
        obtain ⟨b, _, hb, _⟩ := ry
        exact ⟨b, hb⟩
      · exact q _ Λ1 t ys B α _ h3 (S.grow (Ex.new ht)) (Ex.refl B) (List.prefix_refl _) upd_same (S.bh.back ht) (S.dm t ht) (fun ha => (S.ah t ha).1 ht) (zip_reps l1 fun y hy => z2 y (l2 y hy))
    · split at h
      · rename_i hs
        obtain ⟨h1, h2⟩ := hs.choose_spec
        generalize hs.choose = ls at h h1 h2
        have h3 : Pn (ems κ ((sortL ls).map ltU)) Λ1 := h
        have h1 : lstD Λ1 x = some (ls.map fun l => D.str l.s) := by rw [items_of hx h1, ems_ltU]
        rw [ems_ltU] at h3
        obtain ⟨a, ws, rfl, g1, g2⟩ := S.seqL rv h1
        have hw : ws = (ls.map Lt.s).map V.str := by
          have key : ∀ (ls : List Lt) (ws : List V), Reps C.K B α (ls.map fun l => D.str l.s) ws → ws = (ls.map Lt.s).map V.str := by
            intro ls
            induction ls with
            | nil => intro ws h; unfold Reps at h; subst h; rfl
            | cons l ls ih =>
              intro ws h
              rw [List.map_cons] at h
              unfold Reps at h
              obtain ⟨v, r, rfl, a1, a2⟩ := h
              unfold Rep at a1
              rw [a1, ih r a2]; rfl
          exact key ls ws g2
        subst hw
        refine .inr ⟨a, ls.map Lt.s, rfl, g1, by rw [List.length_map]; exact h2, fun ys t l1 l2 ht => ?_⟩
        have e := perm_L l1 l2
        subst e
        have hr : Reps C.K B α ((sortL ls).map fun l => D.str l.s) (((sortL ls).map Lt.s).map V.str) := by
          generalize sortL ls = ms
          induction ms with
          | nil => exact .nil
          | cons m ms ih => exact .cons (by unfold Rep; rfl) ih
        exact q _ Λ1 t _ B α _ h3 (S.grow (Ex.new ht)) (Ex.refl B) (List.prefix_refl _) upd_same (S.bh.back ht) (S.dm t ht) (fun ha => (S.ah t ha).1 ht) hr
      · exact h.elim)) he) (he := he)
end
end Sh

/-! Sh6: more that is walked: enumerate, zip, reversed, ranges down. -/
namespace Sh
open PySem L2 Pl PyProof.Rows
section
variable {K : PySem.W.Frag} {B : Hp}
theorem Reps.at {α : List Addr} {ds : List D} {vs : List V} {i : Nat} {d : D} {x : V} (r : Reps K B α ds vs) (h : ds[i]? = some d) (hx : vs[i]? = some x) : Rep K B α d x := by
  obtain ⟨v, h1, h2⟩ := r.get h
  rw [hx] at h1; cases h1; exact h2
end
/-! the pure side -/
def enumU (us : List U) : List U := us.mapIdx fun i u => .tup [.int (i : Nat), u]
def zipU (us vs : List U) : List U := List.zipWith (fun a b => .tup [a, b]) us vs
def enumM (x : U) : M (List U) := match itemsL x with
  | some us => .ok (enumU us)
  | none => .stuck
def zipM (x y : U) : M (List U) := match itemsL x, itemsL y with
  | some us, some vs => .ok (zipU us vs)
  | _, _ => .stuck
def revM (x : U) : M (List U) := match itemsL x with
  | some us => .ok us.reverse
  | none => .stuck
section
variable {κ : Kl} {C : Pl.Ctx} {E : ER} {Γ : Pl.Env} {Λ : Cells} {Pn : List D → Cells → Prop} {pos p tpos : Pos} {e e2 tg : Expr} {elts : List Expr} {kk : Nat}
end
end Sh

/-! Sh7: cells handed, cells handed back; tuples of owned lists. -/
namespace Sh
open PySem L2 Pl PyProof.Rows
section
variable {κ : Kl} {Λ : Cells}
theorem ren_em {f : Nat → Nat} (u : U) : ren f (em κ u) = em κ u := ren_nl _ (nl_em u)
theorem ltD_em {m : Nat} (u : U) : ltD m (em κ u) = true := ltD_nl _ (nl_em u)
/-- looked through all cells, d is u -/
def Vx (κ : Kl) (Λ : Cells) (d : D) (u : U) : Prop := dv Λ d = em κ u
theorem Vx.cell {n : Nat} {us : List U} (h : Λ[n]? = some (.lst (ems κ us))) : Vx κ Λ (.loc n) (.lst us) := by
  unfold Vx dv; rw [h]; rfl
theorem Vx.tup {ds : List D} {us : List U} (h : dvs Λ ds = ems κ us) : Vx κ Λ (.tup ds) (.tup us) := by
  unfold Vx dv; rw [h]; rfl
theorem Vx.lst {ds : List D} {us : List U} (h : dvs Λ ds = ems κ us) : Vx κ Λ (.lst ds) (.lst us) := by
  unfold Vx dv; rw [h]; rfl
theorem Vx.nil : dvs Λ [] = ems κ [] := rfl
theorem Vx.cons {d : D} {u : U} {ds : List D} {us : List U} (h : Vx κ Λ d u) (h2 : dvs Λ ds = ems κ us) : dvs Λ (d :: ds) = ems κ (u :: us) := by
  rw [dvs, ems, h2]; unfold Vx at h; rw [h]
end
section
variable {κ : Kl} {C : Pl.Ctx} {E : ER} {Γ : Pl.Env} {Λ : Cells} {P : D → Cells → Prop} {Pt : Bool → Cells → Prop} {Pn : List D → Cells → Prop} {pos p : Pos} {a b e e2 : Expr}
/-- an operation that is known -/
theorem known {α β : Type} {Q : α → Prop} {Eh : Str → List U → Prop} {m : M β} {v : β} {k : β → M α} {A : Prop} (e : m = .ok v) (h : wp (m.bind k) Q Eh) (i : wp (k v) Q Eh → A) : A := by subst e; exact i h
end
/-! ### promises with cells -/
def spK (κ : Kl) {α γ β : Type} (Dd : α → List D) (L : α → Cells) (f : α → M γ) (g : γ → M β) (R : β → Res) (L' : α → β → Cells) : Pl.Spec := fun ds Λ Q _ => ∃ a, ds = Dd a ∧ Λ = L a ∧ wp (f a) (fun z => wp (g z) (fun w => Q (R w) (L' a w)) no) no
section
variable {κ : Kl} {α γ β : Type} {Dd : α → List D} {L : α → Cells} {f : α → M γ} {g : γ → M β} {R : β → Res} {L' : α → β → Cells}
theorem spK_mono : Mono (spK κ Dd L f g R L') := fun ds Λ Q Q' E E' ⟨a, h1, h2, h3⟩ i j => ⟨a, h1, h2, wp_mono h3 (fun z h => wp_mono h (fun w h => i _ _ h) fun _ _ h => h) fun _ _ h => h⟩
theorem spK_none (hf : ∀ a, f a = .stuck) (ds : List D) (Λ : Cells) (Q : Res → Cells → Prop) (E : Err → Cells → Prop) : ¬ spK κ Dd L f g R L' ds Λ Q E := fun ⟨a, _, _, h⟩ => by rw [hf] at h; exact h
variable {C : Pl.Ctx} {E : ER} {Γ : Pl.Env} {Λ : Cells} {pos p : Pos}
/-- the end of a call with cells -/
theorem kc {n : Nat} {ds : List D} {Pr : Res → Cells → Prop} (ls : List Nat) (a : α) (r2 : β → Res) (Λ2 : β → Cells) (h0 : Hand Λ ls) (h1 : ds = rens (gI ls Λ.length) (Dd a)) (h2 : ltDs ls.length (Dd a) = true) (h3 : (Dd a).length = n) (h4 : cellsAt Λ ls = L a)
    (h5 : ∀ w, (L' a w).all nlC = true) (h6 : ∀ w, match R w with | .val d => r2 w = .val (ren (gI ls Λ.length) d) | .new ds => nls ds = true ∧ r2 w = .new ds) (h7 : ∀ w, putB Λ ls (L' a w) = Λ2 w)
    (h : wp (f a) (fun z => wp (g z) (fun w => Pr (r2 w) (Λ2 w)) no) no) : CallC n (spK κ Dd L f g R L') E Γ Λ ds Pr := by
  refine ⟨ls, Dd a, h0, h1, h2, h3, a, rfl, h4, wp_mono h (fun z h => wp_mono h (fun w h => ⟨h5 w, ?_⟩) fun _ _ h => h) fun _ _ h => h⟩
  have h6 := h6 w
  rw [h7]
  cases e : R w with
  | val d => rw [e] at h6; dsimp only at h6 ⊢; rw [← h6]; exact h
  | new ds => rw [e] at h6; dsimp only at h6 ⊢; rw [← h6.2]; exact ⟨h6.1, h⟩
end
theorem finK1 {α γ : Type} {Q : α → Prop} {Eh : Str → List U → Prop} {m : M γ} {k : γ → M α} {P : γ → Prop} (h : wp (m.calm.bind k) Q Eh) (i : ∀ w, wp (k w) Q Eh → P w) : wp m (fun z => wp (M.ok z) P no) no :=
  wp_mono (wp_calm (wp_bind h)) (fun z h => i z h) fun _ _ h => h
/-! defs -/
section
variable {κ : Kl} {G : Gl} {α γ β : Type} {Dd : α → List D} {L : α → Cells} {f : α → M γ} {g : γ → M β} {R : β → Res} {L' : α → β → Cells}
def rtK (L0 : Cells) (R : β → Res) (L' : β → Cells) (Q : β → Prop) (r : Res) (Λ' : Cells) : Prop := ∃ w, Q w ∧ rtY L0 (fun r Λ => r = R w ∧ Λ = L' w) r Λ'
theorem def_K {x : Str} {st : Stmt} {ps : List Str} {qn : Str} (h : DefAt G.K G.mg x st ps qn) {N : List Str} {vs ls : List Bool} {gl : List Str} {k : Nat} (m : Nat) (sc : FnScope N ps (defScope st)) (good : goodC N (defScope st) vs ls gl = true)
    (hm : ∀ a, (L a).length ≤ m)
    (hb : ∀ a Q, wp (f a) (fun z => wp (g z) Q no) no → WSs (G.cx N (defScope st) vs ls gl k m) (Γ0 N (Dd a)) (L a) (defBody st) ⟨fun _ Λ' => rtK (L a) R (L' a) Q (.val .non) Λ', rtK (L a) R (L' a) Q, fun _ _ => False, fun _ _ => False, ER.none⟩) : G.fn (k + 1) x ps.length (spK κ Dd L f g R L') :=
  def_okC (m := m) h sc good (fun ds Λ Q E ⟨a, _, h, _⟩ => by subst h; exact hm a) fun ds Λ Q E hl ⟨a, h1, h2, h3⟩ => by
    subst h1; subst h2
    have key : ∀ r Λ', rtK (L a) R (L' a) (fun w => Q (R w) (L' a w)) r Λ' → rtY (L a) Q r Λ' := fun r Λ' ⟨w, q, m, a1, a2, a3⟩ => by
      refine ⟨m, a1, a2, ?_⟩
      rcases a3 with ⟨b1, b2, b3⟩ | ⟨n, ds, c1, c2, c3, c4, c5, c6⟩ | ⟨n, ks, ds, c1, c2, c3, c4, c5, c6⟩
      · exact .inl ⟨b1, by rw [b2, b3]; exact q⟩
      · exact .inr (.inl ⟨n, ds, c1, c2, c3, c4, by rw [c5, c6]; exact q⟩)
      · exact .inr (.inr ⟨n, ks, ds, c1, c2, c3, c4, by rw [c5, c6]; exact q⟩)
    exact wss_mono (hb a _ h3) ⟨fun Γ Λ p => key _ _ p, fun r Λ p => key _ _ p, fun _ _ z => z, fun _ _ z => z, fun e Γ Λ p => p.elim⟩
variable {L0 Λ : Cells} {L1 : β → Cells} {Q : β → Prop}
theorem rtK_v (w : β) (m : Nat) {d : D} (h : Q w) (e : R w = .val d) (h1 : L0.length ≤ m) (h2 : ltD m d = true) (h3 : Λ.take m = L1 w) (h4 : (L1 w).all nlC = true) : rtK L0 R L1 Q (.val d) Λ := ⟨w, h, m, h1, by rw [h3]; exact h4, .inl ⟨h2, e.symm, h3⟩⟩
end
/-! results that are taken apart -/
def gL2 : U → M (List U × List U)
  | .tup [.lst a, .lst b] => .ok (a, b)
  | _ => .stuck
end Sh
namespace Sh
open PySem L2 Pl PyProof.Rows
/-! the cells chosen anew between two statements -/
end Sh
namespace Sh
open PySem L2 Pl PyProof.Rows
end Sh

/-! Sh8: a def sees owned things, and hands back a bare word, number or truth. -/
namespace Sh
open PySem L2 Pl PyProof.Rows
mutual
/-- looked through all cells, dicts too -/
def fv (Λ : Cells) : D → D
  | .loc n => match Λ[n]? with
    | some (.lst ds) => .lst ds
    | some (.dic ks ds) => .dic ks ds
    | _ => .loc n
  | .tup ds => .tup (fvs Λ ds)
  | .lst ds => .lst (fvs Λ ds)
  | .fzl ds => .fzl (fvs Λ ds)
  | d => d
def fvs (Λ : Cells) : List D → List D
  | [] => []
  | d :: ds => fv Λ d :: fvs Λ ds
end
section
variable {K : PySem.W.Frag} {F : Fm} {B : Hp} {α : List Addr} {Γ : Pl.Env} {Λ : Cells} {σ : L2.St} {H : Hp}
end
/-- bare things -/
def atomM : U → M U
  | .non => .ok .non
  | .bl b => .ok (.bl b)
  | .int i => .ok (.int i)
  | .str s => .ok (.str s)
  | _ => .stuck
@[simp] theorem atomM_bl {b : Bool} : atomM (.bl b) = .ok (.bl b) := rfl
@[simp] theorem atomM_int {b : Int} : atomM (.int b) = .ok (.int b) := rfl
@[simp] theorem atomM_str {b : Str} : atomM (.str b) = .ok (.str b) := rfl
@[simp] theorem atomM_non : atomM .non = .ok .non := rfl
section
variable {κ : Kl} {C : Pl.Ctx} {E : ER} {Γ : Pl.Env} {Λ : Cells} {pos p : Pos}
end
end Sh

/-! Sh9: reckoning with the pure reading. -/
namespace Sh
open PySem L2 Pl Law
@[simp] theorem ofS_inj {a b : String} : (Str.ofString a = Str.ofString b) = (a = b) := by
  apply propext; constructor
  · intro h
    rw [Str.ofString_eq_toList, Str.ofString_eq_toList] at h
    have h1 : (a.toList.map Char.toNat) = b.toList.map Char.toNat := by
      have := congrArg (fun s : Str => s.cps.toList) h
      simpa using this
    have h2 : a.toList = b.toList := map_inj (fun c d e => Char.ext (UInt32.toNat_inj.mp e)) h1
    exact String.toList_injective h2
  · intro h; rw [h]
section
variable {i j : Int} {s t : Str} {us vs : List U}
@[simp] theorem addM_int : addM (.int i) (.int j) = .ok (.int (i + j)) := rfl
@[simp] theorem subM_int : subM (.int i) (.int j) = .ok (.int (i - j)) := rfl
@[simp] theorem negM_int : negM (.int i) = .ok (.int (-i)) := rfl
@[simp] theorem modM_int (h : 0 < j) : modM (.int i) (.int j) = .ok (.int (i % j)) := if_pos h
theorem p64 : (2 : Int) ^ 64 = 18446744073709551616 := by decide
theorem p64n : (2 : Nat) ^ 64 = 18446744073709551616 := by decide
theorem p62 : (2 : Int) ^ 62 = 4611686018427387904 := by decide
@[simp] theorem fdivM_int (h : 0 < j) (h2 : j < 18446744073709551616) : fdivM (.int i) (.int j) = .ok (.int (i / j)) := by
  have h3 : j < 2 ^ 8999 := Int.lt_of_lt_of_le h2 (by
    rw [← p64]
    have e : (2 : Int) ^ 8999 = 2 ^ 64 * 2 ^ 8935 := by rw [← Int.pow_add]
    rw [e]
    have : (0 : Int) < 2 ^ 8935 := Int.pow_pos (by decide)
    generalize (2 : Int) ^ 8935 = m at this
    rw [p64]; omega)
  exact if_pos (by rw [Bool.and_eq_true, decide_eq_true_eq, decide_eq_true_eq]; exact ⟨h, h3⟩)
theorem small_of (h : -18446744073709551616 < i) (h2 : i < 18446744073709551616) : small i = true := by
  unfold small; rw [Bool.and_eq_true, decide_eq_true_eq, decide_eq_true_eq, p64]; exact ⟨h, h2⟩
theorem mulM_r (h : -18446744073709551616 < j) (h2 : j < 18446744073709551616) : mulM (.int i) (.int j) = .ok (.int (i * j)) :=
  if_pos (by rw [small_of h h2, Bool.or_true])
theorem mulM_l (h : -18446744073709551616 < i) (h2 : i < 18446744073709551616) : mulM (.int i) (.int j) = .ok (.int (i * j)) :=
  if_pos (by rw [small_of h h2, Bool.true_or])
theorem powM_int (h : 0 ≤ j) (h2 : j ≤ 1000000) (h3 : i.natAbs < 18446744073709551616) : powM (.int i) (.int j) = .ok (.int (i ^ j.toNat)) :=
  if_pos (by rw [Bool.and_eq_true, Bool.and_eq_true, decide_eq_true_eq, decide_eq_true_eq, decide_eq_true_eq, p64n]; exact ⟨h, h2, h3⟩)
@[simp] theorem pow10_1 : powM (.int 10) (.int 1) = .ok (.int 10) := (powM_int (by decide) (by decide) (by decide)).trans (congrArg (fun z => M.ok (U.int z)) (by decide))
@[simp] theorem pow10_2 : powM (.int 10) (.int 2) = .ok (.int 100) := (powM_int (by decide) (by decide) (by decide)).trans (congrArg (fun z => M.ok (U.int z)) (by decide))
@[simp] theorem pow10_3 : powM (.int 10) (.int 3) = .ok (.int 1000) := (powM_int (by decide) (by decide) (by decide)).trans (congrArg (fun z => M.ok (U.int z)) (by decide))
@[simp] theorem pow10_4 : powM (.int 10) (.int 4) = .ok (.int 10000) := (powM_int (by decide) (by decide) (by decide)).trans (congrArg (fun z => M.ok (U.int z)) (by decide))
@[simp] theorem pow10_5 : powM (.int 10) (.int 5) = .ok (.int 100000) := (powM_int (by decide) (by decide) (by decide)).trans (congrArg (fun z => M.ok (U.int z)) (by decide))
@[simp] theorem pow10_6 : powM (.int 10) (.int 6) = .ok (.int 1000000) := (powM_int (by decide) (by decide) (by decide)).trans (congrArg (fun z => M.ok (U.int z)) (by decide))
@[simp] theorem pow10_7 : powM (.int 10) (.int 7) = .ok (.int 10000000) := (powM_int (by decide) (by decide) (by decide)).trans (congrArg (fun z => M.ok (U.int z)) (by decide))
@[simp] theorem pow10_8 : powM (.int 10) (.int 8) = .ok (.int 100000000) := (powM_int (by decide) (by decide) (by decide)).trans (congrArg (fun z => M.ok (U.int z)) (by decide))
@[simp] theorem pow10_9 : powM (.int 10) (.int 9) = .ok (.int 1000000000) := (powM_int (by decide) (by decide) (by decide)).trans (congrArg (fun z => M.ok (U.int z)) (by decide))
@[simp] theorem pow10_12 : powM (.int 10) (.int 12) = .ok (.int 1000000000000) := (powM_int (by decide) (by decide) (by decide)).trans (congrArg (fun z => M.ok (U.int z)) (by decide))
@[simp] theorem pow10_15 : powM (.int 10) (.int 15) = .ok (.int 1000000000000000) := (powM_int (by decide) (by decide) (by decide)).trans (congrArg (fun z => M.ok (U.int z)) (by decide))
@[simp] theorem pow10_18 : powM (.int 10) (.int 18) = .ok (.int 1000000000000000000) := (powM_int (by decide) (by decide) (by decide)).trans (congrArg (fun z => M.ok (U.int z)) (by decide))
@[simp] theorem pow10_20 : powM (.int 10) (.int 20) = .ok (.int 100000000000000000000) := (powM_int (by decide) (by decide) (by decide)).trans (congrArg (fun z => M.ok (U.int z)) (by decide))
@[simp] theorem pow10_24 : powM (.int 10) (.int 24) = .ok (.int 1000000000000000000000000) := (powM_int (by decide) (by decide) (by decide)).trans (congrArg (fun z => M.ok (U.int z)) (by decide))
@[simp] theorem pow10_30 : powM (.int 10) (.int 30) = .ok (.int 1000000000000000000000000000000) := (powM_int (by decide) (by decide) (by decide)).trans (congrArg (fun z => M.ok (U.int z)) (by decide))
@[simp] theorem ltM_int : ltM (.int i) (.int j) = .ok (decide (i < j)) := rfl
@[simp] theorem leM_int : leM (.int i) (.int j) = .ok (decide (i ≤ j)) := rfl
@[simp] theorem gtM_int : gtM (.int i) (.int j) = .ok (decide (j < i)) := rfl
@[simp] theorem geM_int : geM (.int i) (.int j) = .ok (decide (j ≤ i)) := rfl
@[simp] theorem eqM_int : eqM (.int i) (.int j) = .ok (decide (i = j)) := by
  unfold eqM
  rw [if_pos (by simp [pl, dp, pyU, PyData.plain, PyData.depth])]
  simp only [pyU, PyData.eqv]; by_cases h : i = j <;> simp [h]
@[simp] theorem eqM_str : eqM (.str s) (.str t) = .ok (decide (s = t)) := by
  unfold eqM
  rw [if_pos (by simp [pl, dp, pyU, PyData.plain, PyData.depth])]
  simp only [pyU]; rw [Law.Sy.strs_eqv]
@[simp] theorem eqM_bl {a b : Bool} : eqM (.bl a) (.bl b) = .ok (decide (a = b)) := by
  unfold eqM
  rw [if_pos (by simp [pl, dp, pyU, PyData.plain, PyData.depth])]
  have e : PyData.eqv (pyU (.bl a)) (pyU (.bl b)) = decide (a = b) := bl_eqv a b
  rw [e]
@[simp] theorem boolM_bl {b : Bool} : boolM (.bl b) = .ok b := rfl
@[simp] theorem endM_int : endM (.int i) = .ok (some i) := rfl
@[simp] theorem isM_non {x : U} : isM x .non = .ok (isNone x) := by cases x <;> rfl
@[simp] theorem isntM_non {x : U} : isntM x .non = .ok (!isNone x) := by cases x <;> rfl
@[simp] theorem isM_bl {a b : Bool} : isM (.bl a) (.bl b) = .ok (decide (a = b)) := rfl
@[simp] theorem lenM_lst : lenM (.lst us) = .ok (.int us.length) := rfl
@[simp] theorem lenM_fzl : lenM (.fzl us) = .ok (.int us.length) := rfl
@[simp] theorem lenM_tup : lenM (.tup us) = .ok (.int us.length) := rfl
@[simp] theorem iterL_lst : iterL (.lst us) = .ok us := rfl
@[simp] theorem iterL_fzl : iterL (.fzl us) = .ok us := rfl
@[simp] theorem iterT_tup : iterT (.tup us) = .ok us := rfl
@[simp] theorem iterS_str : iterS (.str s) = .ok (s.cps.toList.map fun c => .str ⟨#[c]⟩) := rfl
@[simp] theorem listM_lst : listM (.lst us) = .ok us := rfl
@[simp] theorem listM_fzl : listM (.fzl us) = .ok us := rfl
@[simp] theorem listM_tup : listM (.tup us) = .ok us := rfl
@[simp] theorem tupleM_lst : tupleM (.lst us) = .ok (.tup us) := rfl
@[simp] theorem tupleM_tup : tupleM (.tup us) = .ok (.tup us) := rfl
@[simp] theorem range1M_int (h : -4611686018427387904 ≤ i) (h2 : i < 4611686018427387904) : range1M (.int i) = .ok (rangeU 0 i.toNat) :=
  if_pos (by rw [Bool.and_eq_true, decide_eq_true_eq, decide_eq_true_eq, p62]; exact ⟨h, h2⟩)
@[simp] theorem isi_tup : isiM (.tup us) "tuple" = .ok (.bl true) := rfl
@[simp] theorem isi_lst : isiM (.lst us) "list" = .ok (.bl true) := rfl
@[simp] theorem isi_bl {b : Bool} : isiM (.bl b) "bool" = .ok (.bl true) := rfl
@[simp] theorem isi_str : isiM (.str s) "str" = .ok (.bl true) := rfl
@[simp] theorem isi_int : isiM (.int i) "int" = .ok (.bl true) := rfl
@[simp] theorem isi_st : isiM (.str s) "tuple" = .ok (.bl false) := rfl
@[simp] theorem isi_ts : isiM (.tup us) "str" = .ok (.bl false) := rfl
@[simp] theorem isi_ib : isiM (.int i) "bool" = .ok (.bl false) := rfl
/-! subscripts -/
theorem ixM_seq {x : U} (hx : seqU x = some us) : ixM x (.int i) = match atI us i with | some u => .ok u | none => .stuck := by
  cases x <;> first | (cases hx; done) | (simp only [seqU, Option.some.injEq] at hx; subst hx; rfl)
theorem ixM_at {u : U} {x : U} (hx : seqU x = some us) (h : atI us i = some u) : ixM x (.int i) = .ok u := by rw [ixM_seq hx, h]
theorem ixM_get {k : Nat} {u : U} {x : U} (hx : seqU x = some us) (h : us[k]? = some u) : ixM x (.int (k : Int)) = .ok u := by
  have hk := (List.getElem?_eq_some_iff.mp h).1
  have e : ixN us.length (k : Int) = some k := by
    unfold L2.ixN
    rw [if_pos (by omega), if_pos (by exact_mod_cast hk)]; simp
  exact ixM_at hx (by unfold L2.atI; rw [e]; exact h)
@[simp] theorem ix_t0 {a : U} : ixM (.tup (a :: us)) (.int 0) = .ok a := ixM_get (k := 0) rfl rfl
@[simp] theorem ix_t1 {a b : U} : ixM (.tup (a :: b :: us)) (.int 1) = .ok b := ixM_get (k := 1) rfl rfl
@[simp] theorem ix_t2 {a b c : U} : ixM (.tup (a :: b :: c :: us)) (.int 2) = .ok c := ixM_get (k := 2) rfl rfl
@[simp] theorem ix_t3 {a b c d : U} : ixM (.tup (a :: b :: c :: d :: us)) (.int 3) = .ok d := ixM_get (k := 3) rfl rfl
@[simp] theorem ix_l0 {a : U} : ixM (.lst (a :: us)) (.int 0) = .ok a := ixM_get (k := 0) rfl rfl
@[simp] theorem ix_l1 {a b : U} : ixM (.lst (a :: b :: us)) (.int 1) = .ok b := ixM_get (k := 1) rfl rfl
@[simp] theorem ix_l2 {a b c : U} : ixM (.lst (a :: b :: c :: us)) (.int 2) = .ok c := ixM_get (k := 2) rfl rfl
/-- the last one -/
@[simp] theorem ix_last {u : U} : ixM (.lst (us ++ [u])) (.int (-1)) = .ok u := by
  refine ixM_at rfl ?_
  unfold L2.atI L2.ixN
  rw [if_neg (by omega), if_pos (by rw [List.length_append]; simp only [List.length_cons, List.length_nil]; omega)]
  have e : (-1 + ((us ++ [u]).length : Int)).toNat = us.length := by rw [List.length_append]; simp only [List.length_cons, List.length_nil]; omega
  rw [e]; simp
/-- an index that is known to be within -/
theorem ixM_any {x : U} (hx : seqU x = some us) (h1 : 0 ≤ i) (h2 : i < us.length) : ∃ u ∈ us, ixM x (.int i) = .ok u := by
  obtain ⟨k, rfl⟩ := Int.eq_ofNat_of_zero_le h1
  have hk : k < us.length := by exact_mod_cast h2
  exact ⟨us[k], List.getElem_mem _, ixM_get hx (List.getElem?_eq_getElem hk)⟩
/-! lists that are owned -/
theorem appM_ok {x : U} (h : us.length < 10000000) : appM us x = .ok (us ++ [x]) := sz_ok h
@[simp] theorem popM_last {x : U} : popM (us ++ [x]) = .ok (x, us) := by unfold popM; simp
theorem extM_ok (h : us.length + vs.length < 10000000) : extM us (.lst vs) = .ok (us ++ vs) := sz_ok h
@[simp] theorem setM_last {x y : U} : setM (us ++ [x]) (.int (-1)) y = .ok (us ++ [y]) := by
  unfold setM
  have e : ixN (us ++ [x]).length (-1) = some us.length := by
    unfold L2.ixN
    rw [if_neg (by omega), if_pos (by simp only [List.length_append, List.length_cons, List.length_nil]; omega)]
    congr 1
    simp only [List.length_append, List.length_cons, List.length_nil]; omega
  dsimp only; rw [e]; simp
@[simp] theorem gL2_ok {a b : List U} : gL2 (.tup [.lst a, .lst b]) = .ok (a, b) := rfl
end
@[simp] theorem nB_ok {f : U → U → M Bool} {u v : U} : nB f u v = (f u v).bind fun b => .ok (!b) := rfl
@[simp] theorem vB_ok {f : U → U → M Bool} {u v : U} : vB f u v = (f u v).bind fun b => .ok (.bl b) := rfl
/-! total: m comes to something -/
def Ok {α : Type} (m : M α) (P : α → Prop) : Prop := ∃ a, m = .ok a ∧ P a
theorem Ok.bind {α β : Type} {m : M α} {k : α → M β} {P : α → Prop} {Q : β → Prop} (h : Ok m P) (i : ∀ a, P a → Ok (k a) Q) : Ok (m.bind k) Q := by
  obtain ⟨a, rfl, p⟩ := h; exact i a p
theorem Ok.ret {α : Type} {a : α} {P : α → Prop} (h : P a) : Ok (.ok a) P := ⟨a, rfl, h⟩
theorem Ok.of {α : Type} {m : M α} {a : α} {P : α → Prop} (e : m = .ok a) (h : P a) : Ok m P := ⟨a, e, h⟩
theorem Ok.mono {α : Type} {m : M α} {P P' : α → Prop} (h : Ok m P) (i : ∀ a, P a → P' a) : Ok m P' := by
  obtain ⟨a, e, p⟩ := h; exact ⟨a, e, i a p⟩
theorem Ok.calm {α : Type} {m : M α} {P : α → Prop} (h : Ok m P) : Ok m.calm P := by
  obtain ⟨a, rfl, p⟩ := h; exact ⟨a, rfl, p⟩
theorem Ok.ite {α : Type} {c : Bool} {m m' : M α} {P : α → Prop} (h1 : c = true → Ok m P) (h2 : c = false → Ok m' P) : Ok (if c = true then m else m') P := by
  cases c
  · rw [if_neg (by simp)]; exact h2 rfl
  · rw [if_pos rfl]; exact h1 rfl
/-! loops -/
section
variable {σ ρ : Type}
theorem forN_inv {f : σ → U → M σ} (I : Nat → σ → Prop) : ∀ (xs : List U) (n : Nat) (s : σ), I n s → (∀ k x s, n ≤ k → xs[k - n]? = some x → I k s → Ok (f s x) (I (k + 1))) → Ok (forN f xs s) (I (n + xs.length))
  | [], n, s, h, _ => ⟨s, rfl, h⟩
  | x :: xs, n, s, h, i => by
    obtain ⟨s', e, h'⟩ := i n x s (Nat.le_refl _) (by simp) h
    have := forN_inv I xs (n + 1) s' h' fun k x s hk hx hs => i k x s (by omega) (by
      have e : k - n = (k - (n + 1)) + 1 := by omega
      rw [e]; simpa using hx) hs
    obtain ⟨s2, e2, h2⟩ := this
    refine ⟨s2, by rw [forN, e]; exact e2, ?_⟩
    have e3 : n + 1 + xs.length = n + (x :: xs).length := by simp; omega
    rw [e3] at h2; exact h2
/-- .. that keeps a word of its state -/
theorem forN_keep {f : σ → U → M σ} (I : σ → Prop) {xs : List U} {s : σ} (h : I s) (i : ∀ x ∈ xs, ∀ s, I s → Ok (f s x) I) : Ok (forN f xs s) I :=
  forN_inv (fun _ => I) xs 0 s h fun k x s _ hx hs => i x (List.mem_of_getElem? hx) s hs
theorem whN_down {c : σ → M Bool} {f : σ → M σ} (I : σ → Prop) (P : σ → Prop) (v : σ → Nat) (hc : ∀ s, I s → Ok (c s) fun b => if b = true then Ok (f s) (fun s' => I s' ∧ v s' < v s) else P s) : ∀ (n : Nat) (s : σ), I s → v s < n → Ok (whN c f n s) P
  | 0, s, _, h => absurd h (Nat.not_lt_zero _)
  | n + 1, s, hs, h => by
    obtain ⟨b, e, p⟩ := hc s hs
    cases b with
    | false => exact ⟨s, by rw [whN, e]; rfl, p⟩
    | true =>
      obtain ⟨s', e2, p1, p2⟩ := p
      obtain ⟨s2, e3, p3⟩ := whN_down I P v hc n s' p1 (by omega)
      exact ⟨s2, by rw [whN, e, M.bind_ok, if_pos rfl, e2]; exact e3, p3⟩
end
/-! comprehensions -/
theorem mapC_ok {β : Type} {f : U → M U} (g : β → U) (h : β → U) : ∀ {xs : List β}, (∀ x ∈ xs, f (g x) = .ok (h x)) → mapC f (xs.map g) = .ok (xs.map h)
  | [], _ => rfl
  | x :: xs, i => by
    rw [List.map_cons, mapC, i x (List.mem_cons_self ..), mapC_ok g h fun x hx => i x (List.mem_cons_of_mem _ hx)]; rfl
theorem compM_ok {β : Type} {f : U → M U} (g : β → U) (h : β → U) {xs : List β} (hl : xs.length < 10000000) (i : ∀ x ∈ xs, f (g x) = .ok (h x)) : compM f (xs.map g) = .ok (xs.map h) := by
  unfold compM; rw [sz_ok (by rw [List.length_map]; exact hl)]; exact mapC_ok g h i
theorem filC_ok {β : Type} {c : U → M Bool} {f : U → M U} (g : β → U) (p : β → Bool) (h : β → U) : ∀ {xs : List β}, (∀ x ∈ xs, c (g x) = .ok (p x)) → (∀ x ∈ xs, p x = true → f (g x) = .ok (h x)) → filC c f (xs.map g) = .ok ((xs.filter p).map h)
  | [], _, _ => rfl
  | x :: xs, i, j => by
    have ih := filC_ok g p h (fun x hx => i x (List.mem_cons_of_mem _ hx)) fun x hx => j x (List.mem_cons_of_mem _ hx)
    rw [List.map_cons, filC, i x (List.mem_cons_self ..)]
    simp only [M.calm_ok, M.bind_ok]
    cases e : p x with
    | false => rw [if_neg (by simp), ih, List.filter_cons_of_neg (by simp [e])]
    | true => rw [if_pos rfl, j x (List.mem_cons_self ..) e, ih, List.filter_cons_of_pos e]; rfl
theorem compF_ok {β : Type} {c : U → M Bool} {f : U → M U} (g : β → U) (p : β → Bool) (h : β → U) {xs : List β} (hl : xs.length < 10000000) (i : ∀ x ∈ xs, c (g x) = .ok (p x)) (j : ∀ x ∈ xs, p x = true → f (g x) = .ok (h x)) : compF c f (xs.map g) = .ok ((xs.filter p).map h) := by
  unfold compF; rw [sz_ok (by rw [List.length_map]; exact hl)]; exact filC_ok g p h i j
/-! sayings -/
theorem pl_su (s : Sy) : pl (su s) = true := by unfold pl; rw [pyU_su]; exact Sy.pv_plain s
theorem dp_su (s : Sy) : dp (su s) ≤ s.ht := by unfold dp; rw [pyU_su]; exact Sy.pv_depth s
theorem eqM_su {s t : Sy} (h : min s.ht t.ht ≤ 190) : eqM (su s) (su t) = .ok (decide (s = t)) := by
  unfold eqM
  have h1 := dp_su s; have h2 := dp_su t
  rw [if_pos (by rw [pl_su, pl_su]; simp only [Bool.true_and, decide_eq_true_eq]; omega), pyU_su, pyU_su, Sy.eqv_pv]
/-- == of what bears no dicts and is not deep -/
theorem eqM_py {x y : U} (h1 : pl x = true) (h2 : pl y = true) (h3 : min (dp x) (dp y) ≤ 190) : eqM x y = .ok (PyData.eqv (pyU x) (pyU y)) := by
  unfold eqM; rw [if_pos (by rw [h1, h2]; simpa using h3)]
theorem eqM_rfl {x : U} (h1 : pl x = true) (h3 : dp x ≤ 190) : eqM x x = .ok true := by
  rw [eqM_py h1 h1 (by omega), PySem.SeqAt.eqv_refl_plain _ h1]
theorem pl_lst {us : List U} (h : PyData.plainAll (pyUs us) = true) : pl (.lst us) = true := by unfold pl pyU; rw [PyData.plain]; exact h
theorem dp_lst {us : List U} {n : Nat} (h : PyData.depthAll (pyUs us) ≤ n) : dp (.lst us) ≤ n + 1 := by unfold dp pyU; rw [PyData.depth]; omega
/-! folds -/
section
variable {σ ρ τ β : Type}
theorem forN_fold' {f : σ → U → M σ} (enc : τ → σ) (g : β → U) (step : τ → β → τ) (N : Nat) (I : Nat → τ → Prop) : ∀ (xs : List β) (n : Nat) (s : τ), n + xs.length = N → I n s → (∀ n s x, n < N → I n s → x ∈ xs → f (enc s) (g x) = .ok (enc (step s x)) ∧ I (n + 1) (step s x)) → forN f (xs.map g) (enc s) = .ok (enc (xs.foldl step s))
  | [], _, _, _, _, _ => rfl
  | x :: xs, n, s, hN, h, i => by
    rw [List.length_cons] at hN
    obtain ⟨e, h'⟩ := i n s x (by omega) h (List.mem_cons_self ..)
    rw [List.map_cons, forN, e, List.foldl_cons]
    exact forN_fold' enc g step N I xs (n + 1) (step s x) (by omega) h' fun n s y hn hs hy => i n s y hn hs (List.mem_cons_of_mem _ hy)
theorem forN_fold {f : σ → U → M σ} (enc : τ → σ) (g : β → U) (step : τ → β → τ) (I : Nat → τ → Prop) (xs : List β) (s : τ) (h : I 0 s) (i : ∀ n s x, n < xs.length → I n s → x ∈ xs → f (enc s) (g x) = .ok (enc (step s x)) ∧ I (n + 1) (step s x)) : forN f (xs.map g) (enc s) = .ok (enc (xs.foldl step s)) :=
  forN_fold' enc g step xs.length I xs 0 s (by omega) h i
end
theorem rangeU_len {lo : Int} {n : Nat} : (rangeU lo n).length = n := by unfold rangeU; simp
theorem rangeU_mem {lo : Int} {n : Nat} {x : U} (h : x ∈ rangeU lo n) : ∃ i : Nat, i < n ∧ x = .int (lo + i) := by
  unfold rangeU at h
  obtain ⟨i, hi, rfl⟩ := List.mem_map.mp h
  exact ⟨i, List.mem_range.mp hi, rfl⟩
/-- a list that is not empty ends with an item -/
theorem snoc_of {β : Type} {xs : List β} (h : xs ≠ []) : ∃ ys y, xs = ys ++ [y] := ⟨xs.dropLast, xs.getLast h, (List.dropLast_concat_getLast h).symm⟩
theorem snoc2_of {β : Type} {xs : List β} (h : 2 ≤ xs.length) : ∃ ys y z, xs = ys ++ [y] ++ [z] := by
  obtain ⟨ys, z, rfl⟩ := snoc_of (xs := xs) (by intro e; subst e; simp at h)
  obtain ⟨ws, y, rfl⟩ := snoc_of (xs := ys) (by intro e; subst e; simp at h)
  exact ⟨ws, y, z, rfl⟩
theorem Ok.bindw {α β : Type} {m : M α} {k : α → M β} {Q : β → Prop} (h : Ok m fun a => Ok (k a) Q) : Ok (m.bind k) Q := h.bind fun _ h => h
theorem Ok_ok {α : Type} {a : α} {P : α → Prop} : Ok (.ok a) P = P a := propext ⟨fun ⟨_, e, p⟩ => by cases e; exact p, fun h => ⟨a, rfl, h⟩⟩
theorem Ok_ite {α : Type} {c : Bool} {m m' : M α} {P : α → Prop} : Ok (if c = true then m else m') P = ((c = true → Ok m P) ∧ (c = false → Ok m' P)) := by
  cases c <;> simp
theorem Ok_itd {α : Type} {c : Prop} [Decidable c] {m m' : M α} {P : α → Prop} : Ok (if c then m else m') P = ((c → Ok m P) ∧ (¬ c → Ok m' P)) := by
  by_cases h : c <;> simp [h]
theorem Ok_bind {α β : Type} {m : M α} {k : α → M β} {Q : β → Prop} : Ok (m.bind k) Q = Ok m fun a => Ok (k a) Q := by
  apply propext; constructor
  · rintro ⟨b, e, q⟩
    cases m with
    | ok a => exact ⟨a, rfl, b, e, q⟩
    | stuck => cases e
    | err c us => cases e
  · exact Ok.bindw
theorem Ok_calm {α : Type} {m : M α} {P : α → Prop} : Ok m.calm P = Ok m P := by
  apply propext; constructor
  · rintro ⟨a, e, p⟩
    cases m with
    | ok b => exact ⟨a, e, p⟩
    | stuck => cases e
    | err c us => cases e
  · exact Ok.calm
/-- known to be, told as a wish -/
theorem Ok.is {α : Type} {m : M α} {a : α} {P : α → Prop} (e : m = .ok a) (h : P a) : Ok m P := ⟨a, e, h⟩
end Sh

/-! Sh10: sorted lists of sayings, each once. -/
namespace Law
open PySem L2 Pl Sh
/-- rising -/
def Rise (l : List Sy) : Prop := l.Pairwise fun a b => Sy.ltS a b = true
theorem ltS_irr (a : Sy) : Sy.ltS a a = false := by
  cases h : Sy.ltS a a with
  | false => rfl
  | true => have := lexN_asym _ _ h; rw [show lexN (Sy.code a) (Sy.code a) = Sy.ltS a a from rfl, h] at this; exact this
theorem rise_ext {l m : List Sy} (h : Rise l) (h2 : Rise m) (e : ∀ s, s ∈ l ↔ s ∈ m) : l = m := by
  have nd : ∀ {l : List Sy}, Rise l → l.Nodup := fun h => h.imp fun {a b} h e => by subst e; rw [ltS_irr] at h; cases h
  have p : l.Perm m := (List.perm_ext_iff_of_nodup (nd h) (nd h2)).mpr e
  refine List.Perm.eq_of_pairwise (le := fun a b => Sy.ltS a b = true) (fun a b _ _ h g => ?_) h h2 p
  have := lexN_asym _ _ h
  rw [show lexN (Sy.code b) (Sy.code a) = Sy.ltS b a from rfl, g] at this; cases this
theorem onceS_iff {x : Sy} {l : List Sy} : x ∈ onceS l ↔ x ∈ l := by
  refine ⟨onceS_mem, ?_⟩
  have key : ∀ (l acc : List Sy), (x ∈ acc ∨ x ∈ l) → x ∈ l.foldl (fun told one => if told.getLast? = some one then told else told ++ [one]) acc := by
    intro l
    induction l with
    | nil => intro acc h; rcases h with h | h
             · exact h
             · simp at h
    | cons y l ih =>
      intro acc h
      rw [List.foldl_cons]
      apply ih
      rcases h with h | h
      · left; split
        · exact h
        · exact List.mem_append_left _ h
      · rcases List.mem_cons.mp h with rfl | h
        · left; split
          · rename_i e; exact List.mem_of_getLast? e
          · simp
        · exact .inr h
  exact fun h => key l [] (.inr h)
theorem leS_of_not {a b : Sy} (h : leS a b = true) (n : a ≠ b) : Sy.ltS a b = true := by
  cases e : Sy.ltS a b with
  | true => rfl
  | false => exact absurd (leS_anti h (by unfold leS; rw [e]; rfl)) n
theorem once_rise {l : List Sy} (h : l.Pairwise fun a b => leS a b = true) : Rise (onceS l) := by
  have key : ∀ (n : Nat) (l : List Sy), l.length = n → (l.Pairwise fun a b => leS a b = true) → Rise (onceS l) := by
    intro n
    induction n with
    | zero => intro l hl _; rw [List.length_eq_zero_iff.mp hl]; exact List.Pairwise.nil
    | succ n ih =>
      intro l hl h
      obtain ⟨l, x, rfl⟩ := snoc_of (xs := l) (by intro e; subst e; simp at hl)
      rw [List.pairwise_append] at h
      obtain ⟨h1, _, h3⟩ := h
      have ih := ih l (by simpa using hl) h1
      rw [onceS_snoc]
      split
      · exact ih
      · rename_i hne
        refine List.pairwise_append.mpr ⟨ih, List.pairwise_singleton .., fun a ha b hb => ?_⟩
        rw [List.mem_singleton] at hb; subst hb
        refine leS_of_not (h3 a (onceS_mem ha) b (by simp)) fun e => ?_
        subst e
        obtain ⟨ys, z, e2⟩ := snoc_of (xs := onceS l) (by intro e; rw [e] at ha; simp at ha)
        rw [e2] at hne ha ih
        rcases List.mem_append.mp ha with q | q
        · have h4 := (List.pairwise_append.mp ih).2.2 a q z (by simp)
          have h5 := h3 z (onceS_mem (by rw [e2]; simp)) a (by simp)
          unfold leS at h5; rw [h4] at h5; cases h5
        · rw [List.mem_singleton] at q; subst q
          simp at hne
  exact key _ l rfl h
/-- the sayings, sorted, each once -/
def setS (l : List Sy) : List Sy := onceS (sortS l)
theorem setS_rise (l : List Sy) : Rise (setS l) := once_rise (sortS_pw l)
theorem setS_iff {x : Sy} {l : List Sy} : x ∈ setS l ↔ x ∈ l := onceS_iff.trans (sortS_perm l).mem_iff
theorem rise_filter {l : List Sy} (p : Sy → Bool) (h : Rise l) : Rise (l.filter p) := List.Pairwise.filter p h
theorem setS_len (l : List Sy) : (setS l).length ≤ l.length := by
  have := onceS_len (sortS l); have := (sortS_perm l).length_eq; unfold setS; omega
theorem parts_ht {s t : Sy} (h : t ∈ partsL s) : t.ht ≤ s.ht := by
  induction s with
  | no => simp [partsL] at h; subst h; exact Nat.le_refl _
  | lt l => simp [partsL] at h; subst h; exact Nat.le_refl _
  | not a ih => rcases List.mem_cons.mp h with rfl | h
                · exact Nat.le_refl _
                · have := ih h; simp only [Sy.ht]; omega
  | shown a ih => rcases List.mem_cons.mp h with rfl | h
                  · exact Nat.le_refl _
                  · have := ih h; simp only [Sy.ht]; omega
  | bin o a b ih1 ih2 =>
    rcases List.mem_cons.mp h with rfl | h
    · exact Nat.le_refl _
    · rcases List.mem_append.mp h with h | h
      · have := ih1 h; simp only [Sy.ht]; omega
      · have := ih2 h; simp only [Sy.ht]; omega
def isShown : Sy → Bool
  | .shown _ => true
  | _ => false
end Law
namespace Sh
open PySem L2 Pl Law
@[simp] theorem addM_lst {us vs : List U} (h : us.length + vs.length < 10000000) : addM (.lst us) (.lst vs) = .ok (.lst (us ++ vs)) := sz_ok h
@[simp] theorem slM_tail {us : List U} {a : U} : slM (.tup (a :: us)) (some 1) none = .ok (.tup us) := by
  show M.ok _ = _
  congr 2
  unfold cutU
  have e1 : HT.sIx (a :: us).length 0 (some 1) = 1 := by unfold HT.sIx; simp
  have e2 : HT.sIx (a :: us).length (a :: us).length none = us.length + 1 := by unfold HT.sIx; simp
  rw [e1, e2]; simp
/-- the first word of a saying -/
def wd : Sy → Str
  | .no => "no"
  | .lt _ => "letter"
  | .not _ => "not"
  | .shown _ => "shown"
  | .bin o _ _ => o.s
/-- what stands behind it -/
def tl : Sy → List U
  | .no => []
  | .lt l => [.str l.s]
  | .not a => [su a]
  | .shown a => [su a]
  | .bin _ a b => [su a, su b]
theorem su_tup (s : Sy) : su s = .tup (.str (wd s) :: tl s) := by cases s <;> rfl
@[simp] theorem ix_su0 {s : Sy} : ixM (su s) (.int 0) = .ok (.str (wd s)) := by rw [su_tup]; exact ix_t0
@[simp] theorem wd_shown {s : Sy} : (wd s = Str.ofString "shown") = (isShown s = true) := by
  cases s with
  | bin o a b => cases o <;> simp [wd, isShown, Bop.s]
  | _ => simp [wd, isShown]
end Sh
namespace Sh
open PySem L2 Pl Law
@[simp] theorem un2_ok {a b : U} : un2 (.tup [a, b]) = .ok (a, b) := rfl
@[simp] theorem un3_ok {a b c : U} : un3 (.tup [a, b, c]) = .ok (a, b, c) := rfl
@[simp] theorem zipM_lst {us vs : List U} : zipM (.lst us) (.lst vs) = .ok (zipU us vs) := rfl
@[simp] theorem enumM_lst {us : List U} : enumM (.lst us) = .ok (enumU us) := rfl
@[simp] theorem revM_lst {us : List U} : revM (.lst us) = .ok us.reverse := rfl
end Sh
namespace Sh
open PySem L2 Pl Law
end Sh
namespace Law
open PySem L2 Pl Sh
def words : List Str := ["and", "if", "letter", "no", "not", "or", "shown"]
end Law
namespace Sh
open PySem L2 Pl Law
@[simp] theorem ltM_str {s t : Str} : ltM (.str s) (.str t) = .ok (decide (s.cps.toList < t.cps.toList)) := rfl
end Sh
namespace Sh
open PySem L2 Pl Law
end Sh

/-! Sh11: index; dicts. -/
namespace Sh
open PySem L2 Pl PyProof.Rows Law
/-- a dict's keys and what stands under them -/
abbrev Dc := List Key × List U
def putM (d : Dc) (k v : U) : M Dc := match keyU k with
  | some c => sz d.1.length (.ok (putKs d.1 c, putDs d.1 d.2 c v))
  | none => .stuck
section
variable {κ : Kl} {C : Pl.Ctx} {E : ER} {Γ : Pl.Env} {Λ : Cells} {P : D → Cells → Prop} {pos apos cpos p : Pos} {o e f : Expr}
theorem ems_put {ks : List Key} {us : List U} {k : Key} {u : U} : ems κ (putDs ks us k u) = putDs ks (ems κ us) k (em κ u) := by
  unfold putDs
  split
  · rw [ems_map, ems_map, List.zip_map_right, List.map_map, List.map_map]
    refine List.map_congr_left fun q _ => ?_
    simp only [Function.comp, Prod.map, id]
    split <;> rfl
  · rw [ems_app]; rfl
/-- d.get(k, z) -/
theorem we_getM (h : WE C E Γ Λ o fun x Λ1 => ∃ ks us, vw Λ1 x = .dic ks (ems κ us) ∧ WE C E Γ Λ1 e fun y Λ2 => WE C E Γ Λ2 f fun z Λ3 => ∃ v w, Vw κ Λ3 y v ∧ z = em κ w ∧ vw Λ3 x = .dic ks (ems κ us) ∧ wp (getdM (.dic ks us) v w) (fun z => P (em κ z) Λ3) Tr)
    (ho : plainO o = true := by rfl) (he : plainE e = true := by rfl) (hf : plainE f = true := by rfl) (hl : (apos.endLine == cpos.line) = true := by rfl) : WE C E Γ Λ (.Call (.Attribute o "get" apos) [e, f] [] cpos) P :=
  we_dget2 (we_mono h fun x Λ1 ⟨ks, us, hx, h⟩ => ⟨ks, _, hx, we_mono h fun y Λ2 h => we_mono h fun z Λ3 ⟨v, w, hv, hz, hx3, p⟩ => by
    subst hz
    unfold getdM at p
    dsimp only at p
    split at p
    · rename_i c hc
      refine ⟨c, key_of hv hc, hx3, ?_⟩
      have p : P (em κ ((uLook ks us c).getD w)) Λ3 := p
      rw [uLook_em]
      cases e : uLook ks us c with
      | none => rw [e] at p; exact p
      | some d => rw [e] at p; exact p
    · exact p.elim⟩) ho he hf hl
variable {R : Rs} {pos' : Pos} {i : Expr}
/-- d[k] = v, d owned -/
theorem ws_putM (n : Nat) (h : WE C R.er Γ Λ e fun d Λ1 => WE C R.er Γ Λ1 o fun x Λ2 => WE C R.er Γ Λ2 i fun y Λ3 => x = .loc n ∧ ∃ (dc : Dc) (u j : U), d = em κ u ∧ Vw κ Λ3 y j ∧ Λ3[n]? = some (.dic dc.1 (ems κ dc.2)) ∧ wp (putM dc j u) (fun z => R.nx Γ (Λ3.set n (.dic z.1 (ems κ z.2)))) Tr)
    (hc : noComp e = true := by rfl) : WS C Γ Λ (.Assign [.Subscript o i pos'] e pos) R :=
  ws_dput (we_mono h fun d Λ1 h => we_mono h fun x Λ2 h => we_mono h fun y Λ3 ⟨hx, dc, u, j, hd, hy, hn, p⟩ => by
    subst hx; subst hd
    unfold putM at p
    split at p
    · rename_i c hc
      obtain ⟨p1, p2⟩ := wp_sz p
      have p2 : R.nx Γ (Λ3.set n (.dic (putKs dc.1 c) (ems κ (putDs dc.1 dc.2 c u)))) := p2
      rw [ems_put] at p2
      exact ⟨n, _, _, c, rfl, key_of hy hc, hn, p1, p2⟩
    · exact p.elim) hc
theorem finP {α : Type} {Q : α → Prop} {Eh : Str → List U → Prop} {n : Nat} {y : D} {k : Dc → M α} {P : Dc → Prop} (dc : Dc) (u j : U) (hy : Vw κ Λ y j) (hn : Λ[n]? = some (.dic dc.1 (ems κ dc.2))) (h : wp ((putM dc j u).bind k) Q Eh) (i : ∀ z, wp (k z) Q Eh → P z) : ∃ (dc : Dc) (v w : U), em κ u = em κ v ∧ Vw κ Λ y w ∧ Λ[n]? = some (.dic dc.1 (ems κ dc.2)) ∧ wp (putM dc w v) P Tr := ⟨dc, u, j, rfl, hy, hn, fin0 h i⟩
end
/-- a dict that was owned is seen from now on -/
theorem wss_freezeD {C : Pl.Ctx} {Γ : Pl.Env} {Λ : Cells} {R : Rs} {st : List Stmt} (n : Nat) (ks : List Key) (ds : List D) (hm0 : C.m ≤ n) (hn : Λ[n]? = some (.dic ks ds)) (Γ' : Pl.Env) (hl : Γ'.length = Γ.length) (hΓ : ∀ (i : Nat) (d : D), Γ'[i]? = some (some d) → Γ[i]? = some (some d) ∨ (Γ[i]? = some (some (.loc n)) ∧ d = .dic ks ds)) (h : WSs C Γ' (Λ.set n .gone) st R) : WSs C Γ Λ st R := fun X F W is hm tk => by
  refine pss_imp pss_U fun Dn σ H ⟨B, α, S, q⟩ => ?_
  obtain ⟨a, q1, q2, q3, vs, q4, q5, q6⟩ := S.ce n _ hn (by simp)
  have h0 : F.H0 a = none := by
    rcases q3 with z | z
    · exact z
    · exfalso
      obtain ⟨i, hi⟩ := List.getElem?_of_mem z
      have hi' := pre_get S.pf hi
      have : i = n := (List.getElem?_inj (List.getElem?_eq_some_iff.mp hi').1 S.nd).mp (hi'.trans q1.symm)
      have := (List.getElem?_eq_some_iff.mp hi).1
      omega
  have hx : Ex B (upd B a (.dK (ks.zip vs))) := Ex.new q2
  have nl : n < Λ.length := (List.getElem?_eq_some_iff.mp hn).1
  refine WSs.use h is hm tk (B := upd B a (.dK (ks.zip vs))) (α := α) ⟨S.bb.trans hx, fun b u hb => ?_, fun b u hb => ?_, S.kp, S.dm, S.pf, S.nd, by simp [S.al], fun m c hc hg => ?_, S.ah, fun i d hi => ?_, by rw [hl]; exact S.ln, S.tb.see fun _ q => nomatch q⟩ (q.mono hx)
  · by_cases e : b = a
    · subst e; rw [upd_same] at hb; rw [← hb]; exact q4
    · rw [upd_ne e] at hb; exact S.bh b u hb
  · by_cases e : b = a
    · subst e; exact .inr h0
    · rw [upd_ne e] at hb; exact S.fr b u hb
  · by_cases e : n = m
    · subst e
      rw [List.getElem?_set_self nl] at hc
      cases hc
      exact absurd rfl hg
    · rw [List.getElem?_set_ne e] at hc
      obtain ⟨b, k1, k2, k3, k4⟩ := S.ce m c hc hg
      have hba : b ≠ a := fun z => by
        subst z
        exact e ((List.getElem?_inj (by rw [S.al]; exact nl) S.nd).mp (q1.trans k1.symm))
      exact ⟨b, k1, by rw [upd_ne hba]; exact k2, k3, k4.mono hx (List.prefix_refl _) fun u z _ => z⟩
  · rcases hΓ i d hi with z | ⟨z, rfl⟩
    · obtain ⟨v, k1, k2⟩ := S.sl i d z
      exact ⟨v, k1, k2.mono hx (List.prefix_refl _)⟩
    · obtain ⟨v, k1, k2⟩ := S.sl i _ z
      unfold Rep at k2
      obtain ⟨a', rfl, k3⟩ := k2
      rw [q1] at k3; cases k3
      exact ⟨_, k1, by unfold Rep; exact ⟨a, vs, rfl, .inl upd_same, q5.mono hx (List.prefix_refl _), q6⟩⟩
theorem freezeMD {κ : Kl} {C : Pl.Ctx} {Γ : Pl.Env} {Λ : Cells} {R : Rs} {st : List Stmt} (n j : Nat) (dc : Dc) (hm0 : C.m ≤ n) (hn : Λ[n]? = some (.dic dc.1 (ems κ dc.2))) (hg : Γ[j]? = some (some (.loc n))) (h : WSs C (Γ.set j (some (em κ (.dic dc.1 dc.2)))) (Λ.set n .gone) st R) : WSs C Γ Λ st R :=
  wss_freezeD n dc.1 (ems κ dc.2) hm0 hn _ (by simp) (fun i d hi => by
    by_cases e : j = i
    · subst e
      rw [List.getElem?_set_self (List.getElem?_eq_some_iff.mp hg).1] at hi
      cases hi
      exact .inr ⟨hg, rfl⟩
    · rw [List.getElem?_set_ne e] at hi
      exact .inl hi) h
end Sh
namespace Sh
open PySem L2 Pl PyProof.Rows Law
section
variable {κ : Kl} {Λ : Cells} {α : Type} {Q : α → Prop} {Eh : Str → List U → Prop} {x : D}
def asD : U → M Dc
  | .dic ks us => .ok (ks, us)
  | _ => .stuck
@[simp] theorem asD_ok {ks : List Key} {us : List U} : asD (.dic ks us) = .ok (ks, us) := rfl
theorem asDic {u : U} {k : Dc → M α} {P : List Key → List U → Prop} (hx : Vw κ Λ x u) (h : wp ((asD u).bind k) Q Eh) (i : ∀ ks us, vw Λ x = .dic ks (ems κ us) → wp (k (ks, us)) Q Eh → P ks us) : ∃ ks us, vw Λ x = .dic ks (ems κ us) ∧ P ks us := by
  replace h := wp_bind h
  unfold asD at h
  split at h
  · rename_i ks us
    exact ⟨ks, us, hx, i ks us hx h⟩
  · exact h.elim
end
end Sh
namespace Law
open PySem L2 Pl Sh
def isLt : Sy → Bool
  | .lt _ => true
  | _ => false
theorem canLay_su : ∀ s : Sy, (pyU (su s)).canLay0 = true
  | .no => by show (PyData.tuple [.str "no"]).canLay0 = true; decide +kernel
  | .lt l => by cases l <;> (show (PyData.tuple [.str "letter", .str _]).canLay0 = true) <;> decide +kernel
  | .not a => by
    have h : PyData.canLay0 (.str "not") = true := by decide +kernel
    show (PyData.tuple [.str "not", pyU (su a)]).canLay0 = true
    simp only [PyData.canLay0, PyData.canLayAll0, canLay_su a, Bool.and_true]
    simpa only [PyData.canLay0] using h
  | .shown a => by
    have h : PyData.canLay0 (.str "shown") = true := by decide +kernel
    show (PyData.tuple [.str "shown", pyU (su a)]).canLay0 = true
    simp only [PyData.canLay0, PyData.canLayAll0, canLay_su a, Bool.and_true]
    simpa only [PyData.canLay0] using h
  | .bin o a b => by
    have h : ∀ o : Bop, PyData.canLay0 (.str o.s) = true := by intro o; cases o <;> decide +kernel
    have h := h o
    show (PyData.tuple [.str o.s, pyU (su a), pyU (su b)]).canLay0 = true
    simp only [PyData.canLay0, PyData.canLayAll0, canLay_su a, canLay_su b, Bool.and_true]
    simpa only [PyData.canLay0] using h
theorem canLay_lt (l : Lt) : (pyU (ltU l)).canLay0 = true := by cases l <;> (show (PyData.str _).canLay0 = true) <;> decide +kernel
/-- a letter or a saying, not deep -/
def Th (n : Nat) (u : U) : Prop := (∃ l : Lt, u = ltU l) ∨ ∃ s : Sy, u = su s ∧ s.ht ≤ n
theorem Th.lay {n : Nat} {u : U} (h : Th n u) : (pyU u).canLay0 = true ∧ (pyU u).depth ≤ n ∧ pl u = true := by
  rcases h with ⟨l, rfl⟩ | ⟨s, rfl, hs⟩
  · exact ⟨canLay_lt l, Nat.zero_le _, by cases l <;> rfl⟩
  · have := dp_su s; unfold dp at this
    exact ⟨canLay_su s, by omega, pl_su s⟩
theorem Th.refl {n : Nat} {u : U} (h : Th n u) : PyData.eqv (pyU u) (pyU u) = true := PySem.SeqAt.eqv_refl_plain _ h.lay.2.2
def ltsOf (s : Sy) : List Lt := [Lt.p, .q, .r].filter fun l => decide (Sy.lt l ∈ partsL s)
theorem mem_ltsOf {s : Sy} {l : Lt} : l ∈ ltsOf s ↔ Sy.lt l ∈ partsL s := by
  unfold ltsOf
  rw [List.mem_filter, decide_eq_true_eq]
  exact ⟨fun h => h.2, fun h => ⟨by cases l <;> simp, h⟩⟩
theorem ltsOf_len (s : Sy) : (ltsOf s).length ≤ 3 := List.length_filter_le _ _
theorem ltsOf_rise (s : Sy) : Rise ((ltsOf s).map Sy.lt) :=
  List.Pairwise.sublist ((List.filter_sublist (l := [Lt.p, .q, .r])).map Sy.lt) (by decide +kernel)
def litU : Sy → U
  | .lt l => ltU l
  | _ => .non
theorem ltsOf_eq (s : Sy) : (setS (partsL s)).filter isLt = (ltsOf s).map Sy.lt := by
  refine rise_ext (rise_filter isLt (setS_rise _)) (ltsOf_rise s) fun x => ?_
  rw [List.mem_filter, setS_iff, List.mem_map]
  constructor
  · rintro ⟨h1, h2⟩
    cases x with
    | lt l => exact ⟨l, mem_ltsOf.mpr h1, rfl⟩
    | _ => cases h2
  · rintro ⟨l, hl, rfl⟩
    exact ⟨mem_ltsOf.mp hl, rfl⟩
end Law

/-! Sh12: classes: made, their fields, their methods. -/
namespace Sh
open PySem L2 Pl PyProof.Rows Law
/-- a class of the module with plain fields -/
structure ClsAt (K : PySem.W.Frag) (mg : Str → Option Value) (x : Str) (Cl : Addr) (ns : List Str) : Prop where
  gl : mg x = some (.ref Cl)
  cl : Cls K Cl
  nf : ∀ f ∈ ns, NoAttr K Cl f
structure MethAt (K : PySem.W.Frag) (Cl : Addr) (m qual : Str) (st : Stmt) (ps : List Str) : Prop where
  ex : ∃ f fd, Fun K m qual st f fd ∧ Meth K Cl m f ∧ ∀ us : List Value, us.length = ps.length → bindArgs fd ⟨us, []⟩ = pure (ps.zip us)
structure InitAt (K : PySem.W.Frag) (Cl : Addr) (qual : Str) (st : Stmt) (ps : List Str) : Prop where
  ex : ∃ f fd, Fun K "__init__" qual st f fd ∧ Mk K Cl f ∧ ∀ us : List Value, us.length = ps.length → bindArgs fd ⟨us, []⟩ = pure (ps.zip us)
/-- a method's promise, an __init__'s -/
structure Mt (P : Program) (w : World) (K : PySem.W.Frag) (mg : Str → Option Value) (base : Heap) (k : Nat) (Cl : Addr) (m : Str) (n : Nat) (S : Pl.Spec) : Prop where
  ex : ∃ f fd ps, FnG P w K mg base (L2.CX P w) k f fd ps (spOf K n S) ∧ Meth K Cl m f ∧ Binds K fd ps []
structure It (P : Program) (w : World) (K : PySem.W.Frag) (mg : Str → Option Value) (base : Heap) (k : Nat) (Cl : Addr) (n : Nat) (S : Pl.Spec) : Prop where
  ex : ∃ f fd ps, FnG P w K mg base (L2.CX P w) k f fd ps (spOf K n S) ∧ Mk K Cl f ∧ Binds K fd ps []
abbrev it (C : Pl.Ctx) := It C.P C.w C.K C.mg C.base
section
variable {K : PySem.W.Frag} {F : Fm} {B : Hp} {α : List Addr} {Γ : Pl.Env} {Λ : Cells} {σ : L2.St} {H : Hp}
end
section
variable {κ : Kl} {C : Pl.Ctx} {E : ER} {Γ : Pl.Env} {Λ : Cells} {pos p apos pos' : Pos} {o e : Expr} {es : List Expr} {f : Str}
variable {R : Rs}
end
/-! defs of classes -/
section
variable {κ : Kl} {G : Gl} {Cl : Addr}
abbrev Glmt (G : Gl) := Mt G.P G.w G.K G.mg G.base
abbrev Glit (G : Gl) := It G.P G.w G.K G.mg G.base
theorem MethAt.fn {m qual : Str} {st : Stmt} {ps : List Str} (h : MethAt G.K Cl m qual st ps) {k : Nat} {S : Pl.Spec} (H : ∀ (f : Addr) (fd : FuncData), Fun G.K m qual st f fd → FnG G.P G.w G.K G.mg G.base (L2.CX G.P G.w) k f fd ps (spOf G.K ps.length S)) : Glmt G k Cl m ps.length S := by
  obtain ⟨f, fd, h1, h2, h3⟩ := h.ex
  exact ⟨f, fd, ps, H f fd h1, h2, .all h3⟩
theorem InitAt.fn {qual : Str} {st : Stmt} {ps : List Str} (h : InitAt G.K Cl qual st ps) {k : Nat} {S : Pl.Spec} (H : ∀ (f : Addr) (fd : FuncData), Fun G.K "__init__" qual st f fd → FnG G.P G.w G.K G.mg G.base (L2.CX G.P G.w) k f fd ps (spOf G.K ps.length S)) : Glit G k Cl ps.length S := by
  obtain ⟨f, fd, h1, h2, h3⟩ := h.ex
  exact ⟨f, fd, ps, H f fd h1, h2, .all h3⟩
end
end Sh

/-! Sh13: a loop over a list of owned lists, its body one expression. -/
namespace Sh
open PySem L2 Pl PyProof.Rows Law
section
variable {C : Pl.Ctx} {Γ : Pl.Env} {Λ : Cells} {R : Rs} {pos pos2 : Pos}
end
end Sh
namespace Sh
open PySem L2 Pl PyProof.Rows Law
section
variable {κ : Kl} {C : Pl.Ctx} {E : ER} {Γ : Pl.Env} {Λ : Cells} {pos : Pos} {a b : Expr} {P : D → Cells → Prop}
end
end Sh
namespace Sh
open PySem L2 Pl PyProof.Rows Law
/-! classes in the text -/
/-- the one field of a thing of the class c -/
def fldM (c : Str) : U → M U
  | .ins c' [k] => if c' = c then .ok k else .stuck
  | _ => .stuck
@[simp] theorem fldM_ok {c : Str} {k : U} : fldM c (.ins c [k]) = .ok k := if_pos rfl
section
variable {κ : Kl} {Λ : Cells} {α : Type} {Q : α → Prop} {Eh : Str → List U → Prop} {c f : Str} {u : U} {k : U → M α}
end
section
variable {G : Gl} {Cl : Addr}
theorem MethAt.none {m qual : Str} {st : Stmt} {ps : List Str} (h : MethAt G.K Cl m qual st ps) {k : Nat} {S : Pl.Spec} (hS : ∀ ds Λ Q E, ¬ S ds Λ Q E) : Glmt G k Cl m ps.length S :=
  h.fn fun f fd F => ⟨fun vs H Q E ⟨_, _, _, _, _, _, _, z⟩ => absurd z (hS _ _ _ _), fun A outer s H args us vs Q E _ _ _ _ ⟨_, _, _, _, _, _, _, z⟩ => absurd z (hS _ _ _ _)⟩
theorem InitAt.none {qual : Str} {st : Stmt} {ps : List Str} (h : InitAt G.K Cl qual st ps) {k : Nat} {S : Pl.Spec} (hS : ∀ ds Λ Q E, ¬ S ds Λ Q E) : Glit G k Cl ps.length S :=
  h.fn fun f fd F => ⟨fun vs H Q E ⟨_, _, _, _, _, _, _, z⟩ => absurd z (hS _ _ _ _), fun A outer s H args us vs Q E _ _ _ _ ⟨_, _, _, _, _, _, _, z⟩ => absurd z (hS _ _ _ _)⟩
end
section
variable {κ : Kl} {C : Pl.Ctx} {E : ER} {Γ : Pl.Env} {Λ : Cells} {P : D → Cells → Prop} {pos apos cpos : Pos} {o e : Expr}
end
end Sh

/-! Sh14: zip of a text with a list. -/
namespace Sh
open PySem L2 Pl PyProof.Rows Law
section
variable {P : Program} {w : World} {K : PySem.W.Frag} {elts : List Expr} {kk : Nat} {tpos : Pos} {b z TI TO i1 i2 : Addr} {x : Str} {tx : Tok}
end
section
variable {K : PySem.W.Frag} {B : Hp}
end
section
variable {κ : Kl} {C : Pl.Ctx} {E : ER} {Γ : Pl.Env} {Λ : Cells} {Pn : List D → Cells → Prop} {pos p tpos : Pos} {e e2 tg : Expr} {elts : List Expr} {kk : Nat}
end
end Sh

/-! Sh15: things of one of several classes; a def read off a class; what is owned looked at by an expression that gives a bare thing. -/
namespace Sh
open PySem L2 Pl PyProof.Rows Law
section
variable {X : Cx} {CX : CXT} {E : XK} {o e : Expr} {es : List Expr} {m : Str} {pos apos : Pos} {ta : TE} {t : TA} {pl : Sem Bool}
end
section
variable {κ : Kl} {C : Pl.Ctx} {E : ER} {Γ : Pl.Env} {Λ : Cells} {pos p apos pos' : Pos} {o e : Expr} {es : List Expr} {f m : Str} {cs : List Str} {k n : Nat}
end
/-! a def read off a class, called with the thing that is being made -/
structure CAt (K : PySem.W.Frag) (mg : Str → Option Value) (x m qual : Str) (st : Stmt) (ps : List Str) : Prop where
  ex : ∃ Cl mc f fd, mg x = some (.ref Cl) ∧ ClX.CRead K Cl mc ∧ PySem.W.findCls K (.ref Cl) mc m = some (.val (.ref f)) ∧ PySem.W.keepIn K (.ref f) = true ∧ Fun K m qual st f fd ∧ ∀ us : List Value, us.length = ps.length → bindArgs fd ⟨us, []⟩ = pure (ps.zip us)
structure Cfn (P : Program) (w : World) (K : PySem.W.Frag) (mg : Str → Option Value) (base : Heap) (k : Nat) (x m : Str) (n : Nat) (S : Pl.Spec) : Prop where
  ex : ∃ Cl mc f fd ps, mg x = some (.ref Cl) ∧ ClX.CRead K Cl mc ∧ PySem.W.findCls K (.ref Cl) mc m = some (.val (.ref f)) ∧ PySem.W.keepIn K (.ref f) = true ∧ FnG P w K mg base (L2.CX P w) k f fd ps (spOf K n S) ∧ Binds K fd ps []
abbrev Glct (G : Gl) := Cfn G.P G.w G.K G.mg G.base
section
variable {κ : Kl} {C : Pl.Ctx} {E : ER} {Γ : Pl.Env} {Λ : Cells} {pos p apos : Pos} {e : Expr} {es : List Expr} {f m x : Str} {k n : Nat} {G : Gl}
theorem CAt.fn {qual : Str} {st : Stmt} {ps : List Str} (h : CAt G.K G.mg x m qual st ps) {S : Pl.Spec} (H : ∀ (f : Addr) (fd : FuncData), Fun G.K m qual st f fd → FnG G.P G.w G.K G.mg G.base (L2.CX G.P G.w) k f fd ps (spOf G.K ps.length S)) : Glct G k x m ps.length S := by
  obtain ⟨Cl, mc, f, fd, h1, h2, h3, h4, h5, h6⟩ := h.ex
  exact ⟨Cl, mc, f, fd, ps, h1, h2, h3, h4, H f fd h5, .all h6⟩
theorem CAt.none {qual : Str} {st : Stmt} {ps : List Str} (h : CAt G.K G.mg x m qual st ps) {S : Pl.Spec} (hS : ∀ ds Λ Q E, ¬ S ds Λ Q E) : Glct G k x m ps.length S :=
  h.fn fun f fd F => ⟨fun vs H Q E ⟨_, _, _, _, _, _, _, z⟩ => absurd z (hS _ _ _ _), fun A outer s H args us vs Q E _ _ _ _ ⟨_, _, _, _, _, _, _, z⟩ => absurd z (hS _ _ _ _)⟩
end
/-! ### an expression that gives a bare thing sees what is owned -/
inductive ThE (κ : Kl) (Λ : Cells) : Pl.Env → Pl.Env → Prop where
  | nil : ThE κ Λ [] []
  | no {o : Option D} {Γ Γ' : Pl.Env} (h : ThE κ Λ Γ Γ') : ThE κ Λ (o :: Γ) (none :: Γ')
  | so {d : D} {u : U} {Γ Γ' : Pl.Env} (h : fv Λ d = em κ u) (h2 : ThE κ Λ Γ Γ') : ThE κ Λ (some d :: Γ) (some (em κ u) :: Γ')
theorem ThE.len {κ : Kl} {Λ : Cells} {Γ Γ' : Pl.Env} (h : ThE κ Λ Γ Γ') : Γ'.length = Γ.length := by
  induction h with
  | nil => rfl
  | no _ ih => simp [ih]
  | so _ _ ih => simp [ih]
theorem ThE.get {κ : Kl} {Λ : Cells} {Γ Γ' : Pl.Env} (h : ThE κ Λ Γ Γ') : ∀ (i : Nat) (d' : D), Γ'[i]? = some (some d') → ∃ d u, Γ[i]? = some (some d) ∧ fv Λ d = em κ u ∧ d' = em κ u := by
  induction h with
  | nil => intro i d' e; simp at e
  | no _ ih => intro i d' e; cases i with
    | zero => simp at e
    | succ i => simpa using ih i d' (by simpa using e)
  | so h _ ih => intro i d' e; cases i with
    | zero => simp at e; exact ⟨_, _, rfl, h, e.symm⟩
    | succ i => simpa using ih i d' (by simpa using e)
section
variable {κ : Kl} {C : Pl.Ctx} {E : ER} {Γ Γ' : Pl.Env} {Λ : Cells} {e : Expr}
/-- all of them bare -/
def bare : U → Bool
  | .non => true
  | .bl _ => true
  | .int _ => true
  | .str _ => true
  | _ => false
end
/-! ### the facts of classes, out of the text -/
section
variable {K : PySem.W.Frag} {mg : Str → Option Value} {x : Str} {C : Addr}
end
section
variable {κ : Kl} {C : Pl.Ctx} {Γ : Pl.Env} {Λ : Cells} {tg : Expr} {ws : List Nat} {Pg : Pl.Env → Prop} {α : Type} {Q : α → Prop} {Eh : Str → List U → Prop}
end
end Sh

/-! Sh16: what is owned, handed to a def that hands back bare things and tuples of such; things made with what is owned. -/
namespace Sh
open PySem L2 Pl PyProof.Rows Law
/-- bare things and tuples of such -/
def imm : U → Bool
  | .non => true
  | .bl _ => true
  | .int _ => true
  | .str _ => true
  | .tup us => imms us
  | _ => false
where imms : List U → Bool
  | [] => true
  | u :: us => imm u && imms us
def immM (u : U) : M U := if imm u = true then .ok u else .stuck
@[simp] theorem immM_int {i : Int} : immM (.int i) = .ok (.int i) := rfl
@[simp] theorem immM_bl {i : Bool} : immM (.bl i) = .ok (.bl i) := rfl
section
variable {K : PySem.W.Frag} {F : Fm} {B : Hp} {α : List Addr} {Γ : Pl.Env} {Λ : Cells} {σ : L2.St} {H : Hp}
variable {H1 B' H2 : Hp} {α' α0 : List Addr} {Γ' : Pl.Env} {Λ' : Cells} {σ' : L2.St} {X : Addr → Prop}
end
section
variable {κ : Kl} {C : Pl.Ctx} {E : ER} {Γ Γ' : Pl.Env} {Λ : Cells} {e : Expr}
end
/-! ### __init__: the field is a new list -/
section
variable {κ : Kl}
end
section
variable {κ : Kl} {G : Gl} {Cl : Addr} {x m : Str} {N : List Str} {vs ls : List Bool} {gl : List Str} {k : Nat} {f : Str} {g : List U → M (List U)} {qual : Str} {st : Stmt} {ps : List Str}
end
section
variable {κ : Kl} {C : Pl.Ctx} {E : ER} {Γ : Pl.Env} {Λ : Cells} {pos p apos : Pos} {e : Expr} {es : List Expr} {f m x c : Str} {k n : Nat}
variable {R : Rs} {o : Expr}
end
end Sh

/-! Sh17: list(reversed(x)), list(range(..)), x.reverse(), isinstance(x, C). -/
namespace Sh
open PySem PySem.Spec L2 Pl PyProof.Rows Law
section
variable {prog : Program} {w : World} {A : Around} {E : Value → Shared → Prop} {s : Shared}
end
section
variable {κ : Kl} {C : Pl.Ctx} {E : ER} {Γ : Pl.Env} {Λ : Cells} {pos p p2 pos2 apos cpos : Pos} {e e2 o : Expr}
/-- isinstance(x, T), x a thing of the class at Ci -/
structure IsiC (K : PySem.W.Frag) (Ci Ct : Addr) : Prop where
  cl : Cls K Ci
  ha : PySem.W.findIn K (.ref Ci) "__class__" = some (some (.builtin "object.__class__"))
  hn : PySem.W.specialIn K (.builtin "object.__class__") "__get__" = some (some (.builtin "getset_descriptor.__get__"))
  htk : PySem.W.takesIn K (.builtin "object.__class__") = some true
  hm : PySem.W.mroIn K Ci (.type "object") = some true
  me : PySem.W.kitOne K (.ref Ci) (.ref Ct) = some true
end
end Sh

/-! Sh18: refusals: raise, try, what was caught. -/
namespace L2
open PySem PySem.Spec PyProof.Rows
section
variable {X : Cx} {pins : List (Addr × Obj)} {σ : St} {H : Hp} {s : Shared}
end
section
variable {X : Cx} {x n y : Str} {c : Value} {i j : Nat} {body : List Stmt} {np np2 yp apos pos pos' : Pos} {tb : WX → TS}
end
end L2

/-! Sh19: refusals in the pure reading. -/
namespace Pl
open PySem L2 PyProof.Rows
section
variable {K : PySem.W.Frag} {F : Fm} {B B' : Hp} {α α' : List Addr} {Γ : Env} {Λ : Cells} {σ : L2.St} {H H' : Hp}
end
section
variable {C : Ctx} {Γ : Env} {Λ : Cells} {R : Rs} {x n y : Str} {CA : Addr} {i j : Nat} {body : List Stmt} {np np2 yp apos pos pos' : Pos}
end
end Pl
namespace Sh
open PySem L2 Pl PyProof.Rows
/-- k1 behind what goes well; refusals of the classes cs (each with its number of fields) are caught -/
def tryK {α σ : Type} (cs : List (Str × Nat)) (m : M σ) (k1 : σ → M α) (k2 : Str → List U → M α) : M α := match m with
  | .ok s => k1 s
  | .err c us => if cs.contains (c, us.length) then k2 c us else .stuck
  | .stuck => .stuck
@[simp] theorem tryK_ok {α σ : Type} {cs : List (Str × Nat)} {k1 : σ → M α} {k2 : Str → List U → M α} (a : σ) : tryK cs (.ok a) k1 k2 = k1 a := rfl
@[simp] theorem tryK_err {α σ : Type} {cs : List (Str × Nat)} {k1 : σ → M α} {k2 : Str → List U → M α} (c : Str) (us : List U) : tryK cs (.err c us) k1 k2 = if cs.contains (c, us.length) then k2 c us else .stuck := rfl
/-- .. at this state -/
def EIa (κ : Kl) (Eh : Str → List U → Prop) (E : ER) (Γ : Pl.Env) (Λ : Cells) : Prop := ∀ c us, Eh c us → E (errD κ c us) Γ Λ
theorem EI.at {κ : Kl} {Eh : Str → List U → Prop} {E : ER} {Γ : Pl.Env} {Λ : Cells} (h : EI κ Eh E) : EIa κ Eh E Γ Λ := fun c us q => h c us Γ Λ q
/-- .. where the first m cells are told -/
def EIm (κ : Kl) (m : Nat) (Eh : Str → List U → Prop) (E : ER) : Prop := ∀ c us Γ Λ, m ≤ Λ.length → (Λ.take m).all nlC = true → Eh c us → E (errD κ c us) Γ Λ
theorem EIm.at {κ : Kl} {m : Nat} {Eh : Str → List U → Prop} {E : ER} {Γ : Pl.Env} {Λ : Cells} (h : EIm κ m Eh E) (h1 : m ≤ Λ.length) (h2 : (Λ.take m).all nlC = true) : EIa κ Eh E Γ Λ := fun c us q => h c us Γ Λ h1 h2 q
theorem EI.m {κ : Kl} {m : Nat} {Eh : Str → List U → Prop} {E : ER} (h : EI κ Eh E) : EIm κ m Eh E := fun c us Γ Λ _ _ q => h c us Γ Λ q
/-- a class of refusals that a def raises without fields -/
structure ExcK (K : PySem.W.Frag) (mg : Str → Option Value) (κ : Kl) (c : Str) : Prop where
  g : mg c = some (.ref (κ.ad c))
  q : PySem.W.excIn K (κ.ad c) [.type "ValueError", .type "Exception", .type "BaseException", .type "object"] "ValueError.__new__" = true
  k : PySem.W.keepIn K (.ref (κ.ad c)) = true
  b : PySem.W.subIn K (.ref (κ.ad c)) (.type "BaseException") = some true
  t : PySem.W.typeIn K (.ref (κ.ad c)) = some (.type "type")
  f : κ.fs c = []
section
variable {κ : Kl} {C : Pl.Ctx} {E : ER} {Γ : Pl.Env} {Λ : Cells} {R : Rs} {pos pos' np : Pos} {x n y : Str} {Eh : Str → List U → Prop}
end
/-! ### defs that are handed cells and may refuse -/
section
variable {κ : Kl} {mu : Bool} {α γ β : Type} {Dd : α → List D} {L : α → Cells} {f : α → M γ} {g : γ → M β} {R : β → Res} {L' : α → β → Cells}
theorem setAll_all : ∀ {Λ : Cells} {ls : List Nat} {cs : Cells}, Λ.all nlC = true → cs.all nlC = true → (setAll Λ ls cs).all nlC = true
  | _, [], _, h, _ => by cases ‹Cells› <;> exact h
  | _, _ :: _, [], h, _ => h
  | Λ, n :: ls, c :: cs, h, k => by
    rw [List.all_cons, Bool.and_eq_true] at k
    show (setAll (Λ.set n c) ls cs).all nlC = true
    refine setAll_all ?_ k.2
    rw [List.all_eq_true] at h ⊢
    intro x hx
    rcases List.mem_or_eq_of_mem_set hx with z | z
    · exact h x z
    · rw [z]; exact k.1
end
end Sh

/-! Sh20: what was caught is asked: isinstance, fields; calls with cells that refuse. -/
namespace L2
open PySem PySem.Spec PyProof.Rows
section
variable {X : Cx}
end
end L2
namespace Sh
open PySem L2 Pl PyProof.Rows
structure ExcF (K : PySem.W.Frag) (κ : Kl) (c f : Str) : Prop where
  x : XfC K (κ.ad c)
  n : PySem.W.findIn K (.ref (κ.ad c)) f = some none
  f : κ.fs c = [f]
section
variable {κ : Kl} {C : Pl.Ctx} {E : ER} {Γ : Pl.Env} {Λ : Cells} {pos p p2 : Pos} {x : Str} {e : Expr} {P : D → Cells → Prop} {Eh : Str → List U → Prop}
end
/-! ### calls with cells that may refuse -/
section
variable {κ : Kl} {mu : Bool} {α γ β : Type} {Dd : α → List D} {L : α → Cells} {f : α → M γ} {g : γ → M β} {R : β → Res} {L' : α → β → Cells} {C : Pl.Ctx} {E : ER} {Γ : Pl.Env} {Λ : Cells} {Eh : Str → List U → Prop}
/-- what a call with cells wishes of a refusal -/
def EIp (κ : Kl) (mu : Bool) (Eh : Str → List U → Prop) (E : ER) (Γ : Pl.Env) (Λ : Cells) (ls : List Nat) (L0 : Cells) : Prop := ∀ c us Λ', Λ'.length = L0.length → Λ'.all nlC = true → (mu = false → Λ' = L0) → Eh c us → E (errD κ c us) Γ (putB Λ ls Λ')
theorem EI.p {ls : List Nat} {L0 : Cells} (h : EI κ Eh E) : EIp κ mu Eh E Γ Λ ls L0 := fun c us Λ' _ _ _ q => h c us _ _ q
theorem EIa.p {ls : List Nat} {L0 : Cells} (h : EIa κ Eh E Γ Λ) (e : putB Λ ls L0 = Λ) : EIp κ false Eh E Γ Λ ls L0 := fun c us Λ' _ _ z q => by rw [z rfl, e]; exact h c us q
theorem putB_len {ls : List Nat} {Λ' : Cells} : Λ.length ≤ (putB Λ ls Λ').length := by
  unfold putB
  rw [List.length_append, setAll_length]; omega
theorem putB_nl {ls : List Nat} {Λ' : Cells} (h : Λ.all nlC = true) (h' : Λ'.all nlC = true) : (putB Λ ls Λ').all nlC = true := by
  unfold putB
  rw [List.all_append, Bool.and_eq_true]
  rw [List.all_eq_true] at h'
  refine ⟨setAll_all h (List.all_eq_true.mpr fun x hx => h' x (List.mem_of_mem_take hx)), List.all_eq_true.mpr fun x hx => h' x (List.mem_of_mem_drop hx)⟩
theorem EIm.p {m : Nat} {ls : List Nat} {L0 : Cells} (h : EIm κ m Eh E) (hm : m ≤ Λ.length) (hn : Λ.all nlC = true) : EIp κ mu Eh E Γ Λ ls L0 := fun c us Λ' _ n _ q => h c us _ _ (Nat.le_trans hm putB_len) (by
  have := putB_nl (ls := ls) hn n
  rw [List.all_eq_true] at this ⊢
  exact fun x hx => this x (List.mem_of_mem_take hx)) q
/-- .. where the cells stay -/
def EIz (κ : Kl) (L0 : Cells) (Eh : Str → List U → Prop) (E : ER) : Prop := ∀ c us Γ Λ, L0.length ≤ Λ.length → Λ.take L0.length = L0 → L0.all nlC = true → Eh c us → E (errD κ c us) Γ Λ
theorem EIz.at {L0 : Cells} (h : EIz κ L0 Eh E) (h1 : L0.length ≤ Λ.length) (h2 : Λ.take L0.length = L0) (h3 : L0.all nlC = true) : EIa κ Eh E Γ Λ := fun c us q => h c us Γ Λ h1 h2 h3 q
end
end Sh

/-! Sh21: calls without arguments. -/
namespace Sh
open PySem L2 Pl PyProof.Rows
section
variable {κ : Kl} {C : Pl.Ctx} {E : ER} {Γ : Pl.Env} {Λ : Cells} {pos p : Pos}
end
/-! what the text tells of the classes of refusals -/
section
variable {K : PySem.W.Frag} {mg : Str → Option Value} {x y : Str} {Cx Cy : Addr} {fs : Str → List Str}
end
end Sh

/-! Sh22: {k: v}. -/
namespace Pl
open PySem L2
section
variable {C : Ctx} {E : ER} {Γ : Env} {Λ : Cells} {pos : Pos}
end
end Pl
namespace Pl
open PySem L2
section
variable {C : Ctx} {Γ : Env} {Λ : Cells} {pos : Pos} {P : Env → Prop}
end
end Pl
namespace Sh
open PySem L2 Pl PyProof.Rows
def un2l : U → M (U × U)
  | .lst [a, b] => .ok (a, b)
  | _ => .stuck
@[simp] theorem un2l_ok {a b : U} : un2l (.lst [a, b]) = .ok (a, b) := rfl
end Sh

/-! Sh23: a str that is put down once or not at all. -/
namespace Pl
open PySem L2
section
variable {C : Ctx} {E : ER} {Γ : Env} {Λ : Cells} {P : D → Cells → Prop} {pos : Pos} {a b : Expr}
end
end Pl
namespace Sh
open PySem L2 Pl PyProof.Rows
def smulM (x y : U) : M U := match x, y with
  | .str s, .int n => if n = 0 then .ok (.str "") else if n = 1 then .ok (.str s) else .stuck
  | _, _ => .stuck
section
variable {κ : Kl} {C : Pl.Ctx} {E : ER} {Γ : Pl.Env} {Λ : Cells} {P : D → Cells → Prop} {pos : Pos} {a b : Expr}
end
@[simp] theorem smulM_0 {s : Str} : smulM (.str s) (.int 0) = .ok (.str "") := rfl
@[simp] theorem smulM_1 {s : Str} : smulM (.str s) (.int 1) = .ok (.str s) := rfl
end Sh

/-! Sh24: a tuple of the module. -/
namespace Sh
open PySem L2 Pl PyProof.Rows
section
variable {κ : Kl} {C : Pl.Ctx} {E : ER} {Γ : Pl.Env} {Λ : Cells} {P : D → Cells → Prop} {pos : Pos}
end
end Sh

/-! Sh25: x is not True. -/
namespace Sh
open PySem L2 Pl PyProof.Rows
def isntbM (x y : U) : M Bool := match x, y with
  | .bl a, .bl b => .ok (!decide (a = b))
  | _, _ => .stuck
section
variable {κ : Kl} {C : Pl.Ctx} {E : ER} {Γ : Pl.Env} {Λ : Cells} {P : D → Cells → Prop} {Pt : Bool → Cells → Prop} {pos : Pos} {a b : Expr}
end
@[simp] theorem isntbM_bl {a b : Bool} : isntbM (.bl a) (.bl b) = .ok (!decide (a = b)) := rfl
end Sh

/-! Sh26: comprehensions over an owned list. -/
namespace Pl
open PySem L2
section
variable {C : Ctx} {E : ER} {Γ : Env} {Λ : Cells} {tg : Expr} {P : List D → Cells → Prop}
end
section
variable {C : Ctx} {E : ER} {Γ : Env} {Λ : Cells}
end
end Pl
namespace Sh
open PySem L2 Pl
end Sh

/-! Sh27: enumerate of a text. -/
namespace Pl
open PySem PySem.Spec L2 PyProof.Rows
end Pl
namespace Sh
open PySem L2 Pl
def enumSM : U → M (List U)
  | .str s => .ok (s.cps.toList.mapIdx fun i c => .tup [.int (i : Nat), .str ⟨#[c]⟩])
  | _ => .stuck
@[simp] theorem enumSM_str {s : Str} : enumSM (.str s) = .ok (s.cps.toList.mapIdx fun i c => .tup [.int (i : Nat), .str ⟨#[c]⟩]) := rfl
end Sh

/-! Sh28: d != e, two dicts alike. -/
namespace Sh
open PySem L2 Pl PyProof.Rows
end Sh

/-! Sh29: d[k] = [.. for ..], d owned -/
namespace Pl
open PySem L2
section
variable {C : Ctx} {Γ : Env} {Λ : Cells} {R : Rs} {pos pos' : Pos} {e o i : Expr}
end
end Pl
namespace Sh
open PySem L2 Pl PyProof.Rows Law
section
variable {κ : Kl} {C : Pl.Ctx} {Γ : Pl.Env} {Λ : Cells} {R : Rs} {pos pos' : Pos} {e o i : Expr}
end
end Sh

/-! Sh30: exceptions with fields: C.__init__(self, ..) where C is a class of the program with ValueError's own __init__. -/
namespace L2
open PySem PySem.Spec PyProof.Rows
section
variable {X : Cx} {e : Expr} {es : List Expr} {ta : TA} {p1 p2 pos : Pos} {x : Str} {S : Addr}
end
end L2
namespace L2
open PySem PySem.Spec PyProof.Rows
/-- what the own __init__ of a refusal does: it keeps its argument under f -/
def spFld (K : PySem.W.Frag) (f : Str) : Sp := fun vs H Q _ => ∃ (a C : Addr) (y : V), vs = [.ref a, y] ∧ OexC K C ∧ PySem.W.findIn K (.ref C) f = some none ∧ H a = some (exo a C none) ∧ ∀ dx, H dx = none → dx ≠ a → Q .non (upd (upd H dx (exd dx [(f, y)])) a (exo a C (some dx)))
end L2
namespace Pl
open PySem L2 PyProof.Rows
section
variable {C : Ctx} {Γ : Env} {Λ : Cells} {R : Rs} {x f : Str} {CA fI : Addr} {k : Nat} {fd : FuncData} {ps : List Str} {np pos pos' : Pos} {e : Expr}
end
end Pl
namespace Sh
open PySem L2 Pl PyProof.Rows
/-- a class of refusals that keeps one thing -/
structure Exc1 (P : Program) (w : World) (K : PySem.W.Frag) (mg : Str → Option Value) (base : Heap) (κ : Kl) (k : Nat) (c : Str) : Prop where
  g : mg c = some (.ref (κ.ad c))
  ex : ∃ (fI : Addr) (fd : FuncData) (ps : List Str) (f : Str), OexC K (κ.ad c) ∧ PySem.W.findIn K (.ref (κ.ad c)) "__init__" = some (some (.ref fI)) ∧ PySem.W.typeIn K (.ref fI) = some (.type "function") ∧ PySem.W.findIn K (.ref (κ.ad c)) f = some none ∧
    FnOk P w K mg base (L2.CX P w) k fI fd ps (spFld K f) ∧ Binds K fd ps [] ∧ κ.fs c = [f]
end Sh

/-! Sh31: repr; a thing whose two fields are an owned list and an owned dict, handed to its own methods. -/
namespace Pl
open PySem L2 PyProof.Rows
section
variable {K : PySem.W.Frag} {F : Fm} {B B' : Hp} {α α' : List Addr} {Γ : Env} {Λ Λ' : Cells} {σ : L2.St} {H H' : Hp} {m : Nat}
end
end Pl
namespace Sh
open PySem L2 Pl PyProof.Rows
section
variable {κ : Kl} {C : Pl.Ctx} {E : ER} {Γ : Pl.Env} {Λ : Cells} {pos p apos pos' : Pos} {o e : Expr} {es : List Expr} {f m c : Str} {k n : Nat}
variable {R : Rs}
end
end Sh

/-! Sh32: the owned list of a thing seen from now on; global tuples of texts. -/
namespace Sh
open PySem L2 Pl PyProof.Rows
end Sh

/-! Sh33: for over a list that is owned (alone, in zip, in enumerate): no turn changes it. -/
namespace Pl
open PySem L2 PyProof.Rows
/-- what is walked, as long as the list at a bears ds0 -/
structure ItsC (K : PySem.W.Frag) (B : Hp) (a : Addr) (ds0 : List D) (J : It) (ds : List D) : Prop where
  go : ∀ (i : Nat) (H : Hp) (vs : List V) (B1 : Hp) (α1 : List Addr), i < ds.length → Ex B B1 → Ex B1 H → H a = some (.lst vs) → Reps K B1 α1 ds0 vs → J.go i H
  stop : ∀ (H : Hp) (vs : List V) (B1 : Hp) (α1 : List Addr), Ex B B1 → Ex B1 H → H a = some (.lst vs) → Reps K B1 α1 ds0 vs → J.stop ds.length H
  yld : ∀ (i : Nat) (H : Hp) (x : V) (H' : Hp) (d : D) (vs : List V) (B1 : Hp) (α1 : List Addr), ds[i]? = some d → Ex B B1 → Ex B1 H → H a = some (.lst vs) → Reps K B1 α1 ds0 vs → J.yld i H x H' →
    (H' = H ∧ Rep K B1 α1 d x) ∨ (∃ p o vs es, x = .ref p ∧ H p = none ∧ H' = upd H p o ∧ TupHO o vs es ∧ d = .tup es ∧ Reps K B1 α1 es vs)
/-- the context in which M cells stay where they are -/
@[reducible] def Ctx.at (C : Ctx) (M : Nat) : Ctx := { C with m := M }
instance {C : Ctx} {M : Nat} [c : Cool C] : Cool (C.at M) := ⟨c.h⟩
theorem Ctx.Is.at {C : Ctx} {X : Cx} (is : C.Is X) (M : Nat) : (C.at M).Is X := ⟨is.prog, is.w, is.K, is.mg, is.base, is.N, is.sc, is.calmW, is.hdW, is.roomW, is.fn, ⟨is.good.nd, is.good.vis, is.good.sto, is.good.glo⟩, is.po, is.tp, is.cdv⟩
def LoopPO (C : Ctx) (tg : Expr) (vs : List Nat) (body : List Stmt) (R : Rs) (M n : Nat) (ds0 : List D) : List D → Env → Cells → Prop
  | [], Γ, Λ => Λ[n]? = some (Cell.lst ds0) ∧ R.nx Γ Λ
  | d :: ds, Γ, Λ => Λ[n]? = some (Cell.lst ds0) ∧ WG C Γ Λ tg d vs fun Γ' => WSs (C.at M) Γ' Λ body { R with nx := LoopPO C tg vs body R M n ds0 ds, ct := LoopPO C tg vs body R M n ds0 ds, bk := R.nx }
theorem LoopPO.cell {C : Ctx} {tg : Expr} {vs : List Nat} {body : List Stmt} {R : Rs} {M n : Nat} {ds0 ds : List D} {Γ : Env} {Λ : Cells} (h : LoopPO C tg vs body R M n ds0 ds Γ Λ) : Λ[n]? = some (Cell.lst ds0) := by
  cases ds <;> exact h.1
section
variable {K : PySem.W.Frag} {F : Fm} {B B' : Hp} {α α' : List Addr} {Γ Γ' : Env} {Λ Λ' : Cells} {σ σ' : L2.St} {H H' : Hp} {W : WX} {R : Rs} {D' : Ends}
end
section
variable {C : Ctx} {Γ : Env} {Λ : Cells} {R : Rs} {pos : Pos}
end
section
variable {C : Ctx} {E : ER} {Γ : Env} {Λ : Cells} {tg : Expr} {P : List D → Nat → List D → Cells → Prop} {p pos tpos : Pos} {elts : List Expr} {kk : Nat} {K : PySem.W.Frag} {B : Hp}
end
end Pl
namespace Sh
open PySem L2 Pl
section
variable {κ : Kl} {C : Pl.Ctx} {E : ER} {Γ : Pl.Env} {Λ : Cells} {α : Type} {Q : α → Prop} {Eh : Str → List U → Prop} {tg : Expr} {ws : List Nat} {body : List Stmt} {R : Rs} {Mc n : Nat} {us0 : List U}
variable {Pn : List D → Nat → List D → Cells → Prop} {pos p tpos : Pos} {e e2 : Expr} {elts : List Expr} {kk : Nat}
end
end Sh

/-! Sh34: methods and __init__s that refuse. -/
namespace L2
open PySem PySem.Spec PyProof.Rows
section
variable {X : Cx} {CX : CXT} {k : Nat} {f C : Addr} {fd : FuncData} {ps : List Str} {sp : Sp} {E : St → XK} {x m : Str} {p pos apos : Pos} {e o : Expr} {es : List Expr} {ta : TE} {t : TA}
end
end L2
namespace Sh
open PySem L2 Pl PyProof.Rows
section
variable {κ : Kl} {G : Gl} {Cl : Addr} {x m : Str} {N : List Str} {vs ls : List Bool} {gl : List Str} {k : Nat} {f : Str} {g : List U → M (List U)} {qual : Str} {st : Stmt} {ps : List Str}
end
theorem nls_nil : nls [] = true := rfl
theorem nls_cons (d : D) (ds : List D) : nls (d :: ds) = (nl d && nls ds) := rfl
/-- a refusal's wish -/
structure Rto (κ : Kl) (E : ER) (c : Str) (u : U) (Γ : Pl.Env) (Λ : Cells) : Prop where
  to : E (errD κ c [u]) Γ Λ
section
variable {κ : Kl} {C : Pl.Ctx} {E : ER} {Γ : Pl.Env} {Λ : Cells} {pos p apos : Pos} {e : Expr} {es : List Expr} {f m x c : Str} {k n : Nat}
end
end Sh

/-! Sh35: the module's dicts of texts and whole numbers by words. -/
namespace Sh
open PySem L2 Pl PyProof.Rows
section
variable {κ : Kl} {C : Pl.Ctx} {E : ER} {Γ : Pl.Env} {Λ : Cells} {P : D → Cells → Prop} {Pb : Bool → Cells → Prop} {pos p : Pos} {e : Expr} {x : Str} {ps : List (Str × U)}
end
end Sh

/-! Sh36: split, partition, upper, replace, str(int). -/
namespace L2
open PySem PySem.Spec PyProof.Rows
section
variable {X : Cx} {a o e : Expr} {ta to te : TE} {t : TE} {y z : Str} {j : Int} {k k1 k2 : Nat} {c0 c1 c2 apos pos p1 p2 : Pos}
end
end L2
namespace Sh
open PySem L2 Pl PyProof.Rows
section
variable {κ : Kl} {C : Pl.Ctx} {E : ER} {Γ : Pl.Env} {Λ : Cells} {P : D → Cells → Prop} {Pn : List D → Cells → Prop} {pos apos cpos p p1 p2 c0 c1 c2 : Pos} {o e a : Expr} {j : Int} {k k1 k2 : Nat} {y z : Str}
end
end Sh

/-! Sh37: a thing with one field that bears a bare thing, owned, changed by its own methods, which may refuse. -/
namespace Sh
open PySem L2 Pl PyProof.Rows
section
variable {κ : Kl} {c f : Str} {n : Nat}
variable {G : Gl} {Cl : Addr} {m qual : Str} {st : Stmt} {ps : List Str} {N : List Str} {vs ls : List Bool} {gl : List Str} {k : Nat} {g : List U → U → M (U × U)}
end
section
variable {κ : Kl} {C : Pl.Ctx} {E : ER} {Γ : Pl.Env} {Λ : Cells} {pos p apos pos' : Pos} {o e : Expr} {es : List Expr} {f m c : Str} {k n : Nat}
variable {R : Rs}
end
end Sh

/-! Sh38: x or y of texts; what stays as it was. -/
namespace Sh
open PySem L2 Pl PyProof.Rows
section
variable {κ : Kl} {C : Pl.Ctx} {E : ER} {Γ : Pl.Env} {Λ : Cells} {a b : Expr} {pos : Pos} {P : D → Cells → Prop}
end
/-- it is as it was -/
noncomputable def sameM (u v : U) : M Unit := by classical exact if u = v then .ok () else .stuck
@[simp] theorem sameM_ok {u : U} : sameM u u = .ok () := by unfold sameM; rw [if_pos rfl]
end Sh

/-! Sh39: sorted(e, key=lambda x: ..): the lambda made, called for each thing, the things sorted by what it gives. -/
namespace PySem.W
open PySem PySem.Calls PyProof.Rows
section
variable {prog : Program} {w : World} {A : Around} {E : Value → Shared → Prop} {s : Shared} {a kS : Addr} {vs : List Value} {e1 : Nat} {P : PySem.Fin → Shared → Prop} {kz : List Int} {J : Shared → Prop}
/-- both objects that a sort writes are elsewhere -/
def Off (a kS : Addr) (h h' : Heap) : Prop := ∀ b o, b ≠ a → b ≠ kS → h.get? b = some o → h'.get? b = some o
theorem Off.trans {a kS : Addr} {h h1 h2 : Heap} (x : Off a kS h h1) (y : Off a kS h1 h2) : Off a kS h h2 := fun b o n1 n2 e => y b o n1 n2 (x b o n1 n2 e)
end
end PySem.W

namespace L2
open PySem PySem.Spec PyProof.Rows LamX
section
variable {X : Cx} {pins : List (Addr × Obj)} {σ : St} {H : Hp} {s : Shared}
end
end L2
namespace Pl
open PySem L2 PyProof.Rows LamX
section
variable {K : PySem.W.Frag} {F : Fm} {B : Hp} {α : List Addr} {Γ : Env} {Λ : Cells} {σ : L2.St} {H H' : Hp}
end
@[reducible] def lamCtx (C : Ctx) (N : List Str) (sc : Scope) (vs ls : List Bool) (gl : List Str) (k : Nat) : Ctx := ⟨C.P, C.w, C.K, C.mg, C.base, N, sc, vs, ls, gl, k, 0, true, none, false⟩
instance {C : Ctx} {N : List Str} {sc : Scope} {vs ls : List Bool} {gl : List Str} {k : Nat} : Cool (lamCtx C N sc vs ls gl k) := ⟨rfl⟩
section
variable {C : Ctx} {E : ER} {Γ : Env} {Λ : Cells} {P : List D → Cells → Prop} {pos p kpos lpos : Pos} {e : Expr}
end
end Pl

/-! Sh40: t.count(b) of truths; sorted by a lambda in the pure reading; defs that make lambdas. -/
namespace L2
open PySem PySem.Spec PyProof.Rows PySem.W
section
variable {X : Cx} {o e : Expr} {es : List Expr} {to : TE} {t : TA} {name : Str} {apos cpos : Pos} {id : String} {r : V → List V → Hp → VK → Prop}
end
end L2
namespace Sh
open PySem L2 Pl PyProof.Rows
section
variable {κ : Kl} {C : Pl.Ctx} {E : ER} {Γ : Pl.Env} {Λ : Cells} {P : D → Cells → Prop} {o e : Expr} {apos cpos : Pos} {α : Type} {Q : α → Prop} {Eh : Str → List U → Prop}
end
section
variable {κ : Kl} {C C' : Pl.Ctx} {Λ1 : Cells} {α : Type} {Q : α → Prop} {Eh : Str → List U → Prop} {N : List Str} {body : Expr} {P : List D → Cells → Prop}
end
end Sh
namespace Pl
open PySem L2 PyProof.Rows
/-- a def of the module that makes lambdas: its code object stands at c -/
structure DefAtL (K : PySem.W.Frag) (mg : Str → Option Value) (x : Str) (st : Stmt) (ps : List Str) (c : Addr) : Prop where
  ex : ∃ f fd, Fun K x x st f fd ∧ mg x = some (.ref f) ∧ (∀ us : List Value, us.length = ps.length → bindArgs fd ⟨us, []⟩ = pure (ps.zip us)) ∧ fd.code = .ref c
theorem DefAtL.at {K : PySem.W.Frag} {mg : Str → Option Value} {x : Str} {st : Stmt} {ps : List Str} {c : Addr} (h : DefAtL K mg x st ps c) : DefAt K mg x st ps := by
  obtain ⟨f, fd, h1, h2, h3, _⟩ := h.ex
  exact ⟨f, fd, h1, h2, h3⟩
end Pl
namespace Sh
open PySem L2 Pl PyProof.Rows
end Sh

/-! Sh41: sorted(rows): rows are tuples of truths. -/
namespace Law
end Law
namespace L2
open PySem PySem.Spec PyProof.Rows PySem.W
end L2
namespace Sh
open PySem L2 Pl PyProof.Rows
section
variable {κ : Kl} {C : Pl.Ctx} {E : ER} {Γ : Pl.Env} {Λ : Cells} {Pn : List D → Cells → Prop} {pos p : Pos} {e : Expr}
end
end Sh

/-! Sh42: s < t of tuples of truths. -/
namespace L2
open PySem PySem.Spec PyProof.Rows PySem.W
end L2
namespace Sh
open PySem L2 Pl PyProof.Rows
section
variable {κ : Kl} {C : Pl.Ctx} {E : ER} {Γ : Pl.Env} {Λ : Cells} {Pt : Bool → Cells → Prop} {pos : Pos} {a b : Expr}
end
end Sh

/-! Sh43: defs that are called while an exception is being handled. -/
namespace L2
open PySem PySem.Spec PyProof.Rows
theorem RoomW.mono {j k : Nat} {A : Around} (r : RoomW k A) (h : j ≤ k) : RoomW j A := ⟨r.gd, by have := r.dp; omega, by have := r.un; omega⟩
theorem RoomW.deeper {k : Nat} {A : Around} (r : RoomW (k + 1) A) (env : Env) : RoomW k (A.deeper env) :=
  ⟨r.gd, by have := r.dp; show A.depth + 1 + k + 8 < _; omega, by have := r.un; show A.units + 3 + 4 * k + 220 < _; omega⟩
theorem RoomW.depth {k : Nat} {A : Around} (r : RoomW k A) : A.depth < recursionLimit := by have := r.dp; omega
/-- what a def promises, whatever is being handled -/
structure FnW (P : Program) (w : World) (K : PySem.W.Frag) (mg : Str → Option Value) (base : Heap) (CX : CXT) (k : Nat) (f : Addr) (fd : FuncData) (ps : List Str) (sp : Sp) : Prop where
  len : ∀ vs H Q E, sp vs H Q E → vs.length = ps.length
  run : ∀ (A : Around) (outer : List Env) (s : Shared) (H : Hp) (args : Args) (us : List Value) (vs : List V) (Q : VK) (E : XK), RoomW k A → Env0 P w K mg base A outer s H → BindsTo s fd args (ps.zip us) → Vals vs us → sp vs H Q E →
    codeAny (model P w) A (.call (.ref f) args) (CR CX outer P w H s Q E) s
/-- .. so where nothing is, too -/
theorem FnW.g {P : Program} {w : World} {K : PySem.W.Frag} {mg : Str → Option Value} {base : Heap} {CX : CXT} {k : Nat} {f : Addr} {fd : FuncData} {ps : List Str} {sp : Sp} (F : FnW P w K mg base CX k f fd ps sp) : FnG P w K mg base CX k f fd ps sp :=
  ⟨F.len, fun A outer s H args us vs Q E hr => F.run A outer s H args us vs Q E hr.w⟩
section
variable {P : Program} {w : World} {K : PySem.W.Frag} {mg : Str → Option Value} {base : Heap}
end
section
variable {X : Cx} {CX : CXT} {k : Nat} {f : Addr} {fd : FuncData} {ps : List Str} {sp : Sp} {dvs : List V} {ds : List Value} {E : St → XK} {x : Str} {p pos : Pos} {e : Expr} {es : List Expr} {t : TA}
end
end L2
namespace Pl
open PySem L2 PyProof.Rows
/-- a def of the module, whatever is being handled -/
structure FnHot (P : Program) (w : World) (K : PySem.W.Frag) (mg : Str → Option Value) (base : Heap) (k : Nat) (x : Str) (n : Nat) (S : Spec) : Prop where
  ex : ∃ f fd ps, FnW P w K mg base (L2.CX P w) k f fd ps (spOf K n S) ∧ mg x = some (.ref f) ∧ PySem.W.keepIn K (.ref f) = true ∧ Binds K fd ps [] ∧ ps.length = n
theorem FnHot.g {P : Program} {w : World} {K : PySem.W.Frag} {mg : Str → Option Value} {base : Heap} {k : Nat} {x : Str} {n : Nat} {S : Spec} (h : FnHot P w K mg base k x n S) : Fn P w K mg base k x n S := by
  obtain ⟨f, fd, ps, h1, h2⟩ := h.ex
  exact ⟨f, fd, ps, h1.g, h2⟩
section
variable {C : Ctx} {E : ER} {Γ : Env} {Λ : Cells} {pos p : Pos}
end
@[reducible] def Gl.cxh (G : Gl) (N : List Str) (sc : Scope) (vs ls : List Bool) (gl : List Str) (k : Nat) (m : Nat := 0) : Ctx := ⟨G.P, G.w, G.K, G.mg, G.base, N, sc, vs, ls, gl, k, m, true, none, true⟩
end Pl
namespace Sh
open PySem L2 Pl PyProof.Rows
section
variable {κ : Kl} {C : Pl.Ctx} {E : ER} {Γ : Pl.Env} {Λ : Cells} {n : Nat} {pos p : Pos}
end
section
variable {κ : Kl} {G : Gl}
end
end Sh

/-! Sh44: a suite of one statement behind `except x as n`, walked while the exception is being handled. -/
namespace L2
open PySem PySem.Spec PyProof.Rows
section
variable {X : Cx} {x n : Str} {c : Value} {i : Nat} {body : List Stmt} {b₀ : Stmt} {np pos pos' : Pos} {tb : WX → TS}
end
end L2
namespace Pl
open PySem L2 PyProof.Rows
/-- the context while an exception is being handled -/
@[reducible] def Ctx.heat (C : Ctx) : Ctx := { C with hot := true }
section
variable {C : Ctx} {Γ : Env} {Λ : Cells} {R : Rs} {x n : Str} {CA : Addr} {i : Nat} {body : List Stmt} {b₀ : Stmt} {np pos pos' : Pos}
end
end Pl
namespace Sh
open PySem L2 Pl PyProof.Rows
section
variable {κ : Kl} {C : Pl.Ctx} {E : ER} {Γ : Pl.Env} {Λ : Cells} {R : Rs} {pos pos' np : Pos} {x n y : Str} {Eh : Str → List U → Prop}
end
end Sh

/-! Sh45: int(text). -/
namespace Sh
open PySem L2 Pl
section
variable {κ : Kl} {C : Pl.Ctx} {E : ER} {Γ : Pl.Env} {Λ : Cells} {e : Expr} {p pos : Pos} {P : D → Cells → Prop}
end
end Sh

/-! Sh46: comprehensions whose items may be refused. -/
namespace Pl
open PySem L2

section
variable {M : Model} {A : Around} {E : Value → Shared → Prop} {s : Shared} {Z : Obj → Prop} {base : Heap} {env : PySem.Env} {outer l : List PySem.Env} {L e : Addr}
end

section
variable {M : Model} {A : Around} {E : Value → Shared → Prop} {s : Shared} {env : PySem.Env}
end

section
variable {X : Cx} {pins : List (Addr × Obj)} {σ : L2.St} {H H3 : Hp} {s s3 : Shared} {W : WX}
end

/-! ### the loop -/
section
variable {X : Cx}
end

section
variable {C : Ctx} {E : ER} {Γ : Env} {Λ : Cells}
end
end Pl
namespace Sh
open PySem L2 Pl
section
variable {κ : Kl} {C : Pl.Ctx} {E : ER} {Γ : Pl.Env} {Λ : Cells} {α : Type} {Q : α → Prop} {Eh : Str → List U → Prop} {tg : Expr} {ws : List Nat}
end
end Sh

/-! Sh47: a dict of items that is owned; a, b = u, v. -/
namespace Pl
open PySem L2 PyProof.Rows
section
variable {C : Ctx} {E : ER} {Γ : Env} {Λ : Cells} {pos : Pos}
end
section
variable {C : Ctx} {E : ER} {Γ : Env} {Λ : Cells}
end
end Pl

/-! Sh48: x.index(y) of a list of deep things. -/
namespace Pl
open PySem PySem.Spec PyProof.Rows L2
section
variable {X : Cx}
end
end Pl
namespace Sh
open PySem L2 Pl PyProof.Rows
section
variable {κ : Kl} {C : Pl.Ctx} {E : ER} {Γ : Pl.Env} {Λ : Cells} {P : D → Cells → Prop} {o e : Expr} {apos cpos : Pos}
end
end Sh
namespace Law
open PySem L2 Pl Sh PyProof.Rows
end Law

/-! Sh49: sorted(d.keys()); defs that hand back a tuple in which a list is owned; cells thrown away. -/
namespace L2
open PySem PySem.Spec PyProof.Rows
section
variable {X : Cx} {e : Expr} {td : TE} {apos cpos : Pos}
end
end L2
namespace Sh
open PySem L2 Pl PyProof.Rows Law
section
variable {κ : Kl} {C : Pl.Ctx} {E : ER} {Γ : Pl.Env} {Λ : Cells} {Pn : List D → Cells → Prop} {pos p apos cpos : Pos} {e : Expr}
end
/-! cells thrown away -/
/-! results that are taken apart -/
end Sh

/-! Sh50: exceptions made as values. -/
namespace L2
open PySem PySem.Spec PyProof.Rows
end L2
namespace Pl
open PySem L2 PyProof.Rows
section
variable {C : Ctx} {E : ER} {Γ : Env} {Λ : Cells} {P : D → Cells → Prop} {x f : Str} {CA fI : Addr} {k : Nat} {fd : FuncData} {ps : List Str} {np pos : Pos} {e : Expr}
end
end Pl
namespace Sh
open PySem L2 Pl PyProof.Rows
section
variable {κ : Kl} {C : Pl.Ctx} {E : ER} {Γ : Pl.Env} {Λ : Cells} {P : D → Cells → Prop} {pos np : Pos} {c : Str} {e : Expr} {k : Nat}
end
end Sh

/-! Sh51: sorted(set(xs)), xs a list of texts: sets of texts as HandS.SetBool's of truth values, made of a list as HandS.SetFor's of ints. -/
namespace L2
open PySem PySem.Spec PyProof.Rows
theorem strK_is (P : Program) (w : World) (k : Str) (tk : Tok) : (PySem.strKind P w).is k (.str k tk) = true := by
  show Value.isStrOf k (.str k tk) = true
  simp [Value.isStrOf]
def keyT (e : Int × Value) : Str := match e.2 with | .str k _ => k | _ => Str.empty
def GoodT (w : World) (e : Int × Value) : Prop := ∃ k tk, e.2 = Value.str k tk ∧ e.1 = hashStr w k
/-- the set of texts at a: S its members, n their number; its table rises and can be walked -/
def SetT (w : World) (h : Heap) (a : Addr) (S : Str → Bool) (n : Nat) : Prop :=
  ∃ o es ep t, h.get? a = some o ∧ o.ExactSet ∧ o.data = .set es ep t ∧ (∀ e ∈ es.toList, GoodT w e) ∧ (es.toList.map keyT).Nodup ∧ (∀ k, S k = true ↔ k ∈ es.toList.map keyT) ∧
    es.size < scanBound ∧ t.fits es.size = true ∧ es.size = n ∧ Ris t.place.toList ∧ (w.params.followText "set-order" = true ∨ t.led = true)
section
variable {P : Program} {w : World} {h h' : Heap} {a : Addr} {S : Str → Bool} {n : Nat}
theorem SetT.at (R : SetT w h a S n) (k : ∀ o, h.get? a = some o → h'.get? a = some o) : SetT w h' a S n := by
  obtain ⟨o, es, ep, t, ho, r⟩ := R
  exact ⟨o, es, ep, t, k o ho, r⟩
theorem SetT.congr {S' : Str → Bool} (R : SetT w h a S n) (e : ∀ k, S' k = S k) : SetT w h a S' n := by
  have q : S' = S := funext e
  rw [q]; exact R
theorem goodT_elems {l : List (Int × Value)} (g : ∀ e ∈ l, GoodT w e) : ElemsOf (PySem.strKind P w) l := fun e he => by
  obtain ⟨k, tk, h1, h2⟩ := g e he
  exact ⟨⟨k, by rw [h1]; exact strK_is P w k tk, h2⟩, by rw [h1] <;> rfl⟩
theorem goodT_is {e : Int × Value} (g : GoodT w e) (k : Str) : (PySem.strKind P w).is k e.2 = true ↔ keyT e = k := by
  obtain ⟨k0, tk, h1, _⟩ := g
  unfold keyT
  rw [h1]
  dsimp only
  constructor
  · intro z
    obtain ⟨t, e⟩ := Value.isStrOf_shape (show Value.isStrOf k (.str k0 tk) = true from z)
    injection e
  · intro z; subst z; exact strK_is P w k0 tk
theorem goodT_mem {l : List (Int × Value)} (g : ∀ e ∈ l, GoodT w e) (k : Str) : k ∈ l.map keyT ↔ ∃ e ∈ l, (PySem.strKind P w).is k e.2 = true := by
  rw [List.mem_map]
  constructor
  · rintro ⟨e, he, q⟩
    exact ⟨e, he, (goodT_is (g e he) k).2 q⟩
  · rintro ⟨e, he, q⟩
    exact ⟨e, he, (goodT_is (g e he) k).1 q⟩
end
section
variable {P : Program} {w : World} {A : Around} {E : Value → Shared → Prop} {s : Shared} {a : Addr} {S : Str → Bool} {n : Nat}
theorem storeT_at {h : Heap} {a : Addr} {o : Obj} {es es' : Array (Int × Value)} {ep : Nat} {t t' : SetTable} (ho : h.get? a = some o) (hd : o.data = .set es ep t) :
    (h.update a (Obj.putSet es' t')).get? a = some { o with data := .set es' (ep + 1) t' } := by
  have q := Heap.get?_update_self (Obj.putSet es' t') ho (by rw [putSet_of es' t' hd]; rfl)
  rw [putSet_of es' t' hd] at q
  exact q

theorem setT_add_tail {g : Bool → Sem Unit} (hg : ∀ (b : Bool) (s₁ : Shared) (Q' : Unit → Shared → Prop), Q' () s₁ → wpAny (model P w) A (g b) Q' E s₁)
    {o : Obj} {es : Array (Int × Value)} {ep : Nat} {t : SetTable} (ho : s.heap.get? a = some o) (hex : o.ExactSet) (hd : o.data = .set es ep t)
    {es1 : Array (Int × Value)} {t2 : SetTable} {S' : Str → Bool} (g1 : ∀ e ∈ es1.toList, GoodT w e) (nd1 : (es1.toList.map keyT).Nodup) (m1 : ∀ k, S' k = true ↔ k ∈ es1.toList.map keyT)
    (hb1 : es1.size < scanBound) (hf2 : t2.fits es1.size = true) (hr : Ris t2.place.toList) (hl : w.params.followText "set-order" = true ∨ t2.led = true) {wasDummy : Bool} {R : Option Bool → Shared → Prop}
    (hR : ∀ h', Heap.SameBut a s.heap h' → SetT w h' a S' es1.size → R (some true) { s with heap := h' }) :
    wpAny (model P w) A (do
        storeSet a es1 t2
        if (!wasDummy && t2.tooFull) = true then do
            g (relayAll t2 es1 (SetTable.grown es1.size)).2.2
            storeSet a (relayAll t2 es1 (SetTable.grown es1.size)).1 (relayAll t2 es1 (SetTable.grown es1.size)).2.1
            pure (some true)
          else pure (some true)) R E s := by
  refine wpAny_bind (wpAny_storeSet_of ho hd ?_ (fits_of_scanBound hb1))
  have ho1 := storeT_at (es' := es1) (t' := t2) ho hd
  have sb1 := Heap.SameBut.update s.heap a (Obj.putSet es1 t2)
  split
  · have pm := relayAll_perm t2 es1 (SetTable.grown es1.size)
    have hf3 := relayAll_fits t2 es1 (SetTable.grown es1.size)
    have hr3 := relayAll_ris t2 es1 (SetTable.grown es1.size)
    have hl3 := relayAll_led t2 es1 (SetTable.grown es1.size)
    generalize relayAll t2 es1 (SetTable.grown es1.size) = Z at pm hf3 hr3 hl3 ⊢
    obtain ⟨es2, t3, gave⟩ := Z
    dsimp only at pm hf3 hr3 hl3 ⊢
    have hsz : es2.size = es1.size := by rw [← Array.length_toList, pm.length_eq, Array.length_toList]
    have hb2 : es2.size < scanBound := by rw [hsz]; exact hb1
    refine wpAny_bind (hg _ _ _ ?_)
    refine wpAny_bind (wpAny_storeSet_of ho1 rfl ?_ (fits_of_scanBound hb2))
    have ho2 := storeT_at (es' := es2) (t' := t3) ho1 rfl
    refine wpAny_pure (hR _ (sb1.trans (Heap.SameBut.update _ a _)) ?_)
    exact ⟨_, es2, _, t3, ho2, hex, rfl, fun e he => g1 e (pm.mem_iff.mp he), (pm.map keyT).nodup_iff.mpr nd1, fun k => (m1 k).trans (pm.map keyT).mem_iff.symm, hb2, hf3, hsz, hr3,
      hl.imp id fun z => by rw [hl3]; exact z⟩
  · exact wpAny_pure (hR _ sb1 ⟨_, es1, _, t2, ho1, hex, rfl, g1, nd1, m1, hb1, hf2, rfl, hr, hl⟩)

theorem setT_add_hashed {k : Str} {tk : Tok} {Q : Bool → Shared → Prop} (R : SetT w s.heap a S n) (room : n + 1 < scanBound)
    (hQ : ∀ h', Heap.SameBut a s.heap h' → SetT w h' a (fun j => S j || decide (j = k)) (if S k = true then n else n + 1) → Q (!S k) { s with heap := h' }) :
    wpAny (model P w) A (setAddHashed a (.str k tk) ((PySem.strKind P w).hash k)) Q E s := by
  obtain ⟨o, es, ep, t, ho, hex, hd, g, nd, hm, hb, hf, hn, hr, hl⟩ := R
  have hkey : (PySem.strKind P w).is k (.str k tk) = true := strK_is P w k tk
  have hsc : (Value.str k tk).scannable = true := rfl
  have hel : ElemsOf (PySem.strKind P w) es.toList := goodT_elems g
  unfold setAddHashed setAddHashedIn
  refine wpAny_holding (wpAny_bind (wpAny_setState_of ho hd hf ?_))
  dsimp only
  rw [byScan_of hsc hb hel]
  simp only [↓reduceIte]
  unfold setAddByScan
  refine wpAny_bind ?_
  refine wpAny_bind (wpAny_rule ?_)
  refine wpAny_bind (wpAny_setScan_of hkey ho hd hf hel ?_)
  cases hfi : List.findIdx? (fun e => (PySem.strKind P w).is k e.2) es.toList with
  | some j =>
    dsimp only
    obtain ⟨hj, pj, _⟩ := List.findIdx?_eq_some_iff_getElem.mp hfi
    have hSk : S k = true := (hm k).2 ((goodT_mem (P := P) (w := w) g k).2 ⟨es.toList[j], List.getElem_mem hj, pj⟩)
    refine wpAny_pure (wpAny_pure ?_)
    have q := hQ s.heap (Heap.SameBut.refl a s.heap) ⟨o, es, ep, t, ho, hex, hd, g, nd, fun i => by
      rw [Bool.or_eq_true, decide_eq_true_eq, ← hm i]
      exact ⟨fun z => z.elim id (fun e => e ▸ hSk), .inl⟩, hb, hf, by rw [if_pos hSk]; exact hn, hr, hl⟩
    rw [hSk] at q
    exact q
  | none =>
    dsimp only
    have hnk : k ∉ es.toList.map keyT := fun z => by
      obtain ⟨e, he, q⟩ := (goodT_mem (P := P) (w := w) g k).1 z
      have c := List.findIdx?_eq_none_iff.mp hfi e he
      rw [q] at c
      cases c
    have hSk : S k = false := by
      cases q : S k with
      | false => rfl
      | true => exact absurd ((hm k).1 q) hnk
    have hgw : ∀ (b : Bool) {s₁ : Shared} {Q' : Unit → Shared → Prop}, Q' () s₁ → wpAny (model P w) A (match b with | true => rule "set.scan.the-table-gave-way" | false => pure ()) Q' E s₁ :=
      fun b s₁ Q' q => by cases b <;> first | exact wpAny_pure q | exact wpAny_rule q
    have pm := layNew_perm t es ((PySem.strKind P w).hash k) (.str k tk)
    have hf1 := layNew_fits t es ((PySem.strKind P w).hash k) (.str k tk)
    have hr1 := layNew_ris t es ((PySem.strKind P w).hash k) (.str k tk) hr
    have hl1 := layNew_led t es ((PySem.strKind P w).hash k) (.str k tk)
    generalize layNew t es ((PySem.strKind P w).hash k) (.str k tk) = Z at pm hf1 hr1 hl1 ⊢
    obtain ⟨es1, t1, wasDummy, gave⟩ := Z
    dsimp only at pm hf1 hr1 hl1 ⊢
    rw [Array.toList_push] at pm
    have pc : es1.toList.Perm (((PySem.strKind P w).hash k, Value.str k tk) :: es.toList) := pm.trans (List.perm_append_singleton _ _)
    have pk : (es1.toList.map keyT).Perm (k :: es.toList.map keyT) := pc.map keyT
    have g1 : ∀ e ∈ es1.toList, GoodT w e := fun e he => by
      rcases List.mem_cons.mp (pc.mem_iff.mp he) with z | z
      · rw [z]; exact ⟨k, tk, rfl, rfl⟩
      · exact g e z
    have nd1 : (es1.toList.map keyT).Nodup := pk.nodup_iff.mpr (List.nodup_cons.mpr ⟨hnk, nd⟩)
    have m1 : ∀ i, (S i || decide (i = k)) = true ↔ i ∈ es1.toList.map keyT := fun i => by
      rw [Bool.or_eq_true, decide_eq_true_eq, hm i, pk.mem_iff, List.mem_cons]
      exact Or.comm
    have hsz : es1.size = n + 1 := by rw [← Array.length_toList, pc.length_eq, List.length_cons, Array.length_toList, hn]
    have hb1 : es1.size < scanBound := by rw [hsz]; exact room
    have hled : w.params.followText "set-order" = true ∨ t1.led = true := hl.imp id fun z => by rw [hl1]; exact z
    have fin : ∀ h', Heap.SameBut a s.heap h' → SetT w h' a (fun j => S j || decide (j = k)) es1.size → Q true { s with heap := h' } := fun h' sb r => by
      have q := hQ h' sb
      rw [hSk] at q
      rw [hsz] at r
      exact q r
    refine wpAny_bind (hgw _ ?_)
    split
    · refine wpAny_bind ?_
      rw [hashByValue_scannable 8 hsc]
      refine wpAny_pure ?_
      refine setT_add_tail ?_ ho hex hd g1 nd1 m1 hb1 ?_ ?_ ?_ ?_
      · intro b s₁ Q' q; cases b <;> first | exact wpAny_pure q | exact wpAny_rule q
      · first | (split <;> first | exact hf1 | exact SetTable.fits_plain_off hf1) | exact hf1
      · first | (split <;> exact hr1) | exact hr1
      · first | (split <;> exact hled) | exact hled
      · intro h' sb r; dsimp only; exact wpAny_pure (fin h' sb r)
    · refine wpAny_bind (wpAny_pure ?_)
      simp only [↓reduceIte]
      refine setT_add_tail ?_ ho hex hd g1 nd1 m1 hb1 hf1 hr1 hled ?_
      · intro b s₁ Q' q; cases b <;> first | exact wpAny_pure q | exact wpAny_rule q
      · intro h' sb r; dsimp only; exact wpAny_pure (fin h' sb r)

end
theorem setT_new_at {w : World} {h : Heap} {a : Addr} {ns : List Str} (ho : h.get? a = some { cls := .type "set", dict := none, data := .set #[] 0 (.fresh 0 0 (!w.params.followText "set-order")) }) : SetT w h a (fun j => decide (j ∈ ns.take 0)) 0 :=
  ⟨_, #[], 0, _, ho, ⟨rfl, rfl, rfl⟩, rfl, (fun e he => by simp at he), (by simp), (fun k => by simp), (by decide), (by rfl), rfl, List.Pairwise.nil, by
    show _ ∨ (!w.params.followText "set-order") = true
    cases w.params.followText "set-order"
    · exact .inr rfl
    · exact .inl rfl⟩
section
variable {P : Program} {w : World} {A : Around} {E : Value → Shared → Prop} {s : Shared}
theorem set_update_strs {I : Addr} {fp wr : List Addr} {G : Array GenState → Array GenState → Prop} {n : Nat} {Pv : Nat → Value → Prop} {St : Nat → Shared → Prop} {R : Result → Shared → Prop}
    (W : WalksS P w A.in1 I fp wr G n Pv St) (S : Addr) (hSf : S ∉ fp) (ns : List Str) (hn : n = ns.length) (hb : ns.length + 1 < scanBound) (hval : ∀ i v, Pv i v → ∃ k t, ns[i]? = some k ∧ v = .str k t) :
    ∀ (k i : Nat) (s : Shared), n - i = k → i ≤ n → St i s → (∃ c, c ≤ i ∧ SetT w s.heap S (fun j => decide (j ∈ ns.take i)) c) →
      (∀ s' c, Moved (S :: wr) G s s' → c ≤ n → SetT w s'.heap S (fun j => decide (j ∈ ns)) c → R (.ok (.ret .none)) s') →
      codeAny (model P w) A (.builtin "set.update.loop" ⟨[.ref S, .ref I], []⟩) R s := by
  have hSw : S ∉ wr := fun h => hSf (W.sub _ h)
  have hsub : ∀ b ∈ wr, b ∈ S :: wr := fun b hb => List.mem_cons_of_mem _ hb
  intro k
  induction k with
  | zero =>
    intro i s hk' hi hst ⟨c, hc, hS⟩ hR
    have hin : i = n := by omega
    subst hin
    refine codeAny_builtin F.entry_set_update_loop ?_
    rw [Around.under_plainId F.plain_set_update_loop _]
    show wpAny _ A.in1 (pyNext (.ref I) >>= _) _ _ s
    refine wpAny_bind (W.done s _ _ hst fun s' hm => ?_)
    show wpAny _ A.in1 (ret Value.none) _ _ s'
    have e : ns.take i = ns := List.take_of_length_le (by omega)
    rw [e] at hS
    exact wpAny_pure (hR s' c (hm.mono hsub) hc (hS.at fun o e => hm.heap S o hSw e))
  | succ k ih =>
    intro i s hk' hi hst ⟨c, hc, hS⟩ hR
    have hlt : i < n := by omega
    refine codeAny_builtin F.entry_set_update_loop ?_
    rw [Around.under_plainId F.plain_set_update_loop _]
    show wpAny _ A.in1 (pyNext (.ref I) >>= _) _ _ s
    refine wpAny_bind (W.item i s _ _ hlt hst fun v s' hP hst' hm => ?_)
    obtain ⟨z, t, hz, rfl⟩ := hval i v hP
    have hS' : SetT w s'.heap S (fun j => decide (j ∈ ns.take i)) c := hS.at fun o e => hm.heap S o hSw e
    show wpAny _ A.in1 (holding [Value.str z t] (setAdd S (.str z t)) >>= _) _ _ s'
    refine wpAny_bind (wpAny_holding ?_)
    unfold setAdd
    refine wpAny_holding ?_
    refine wpAny_bind ((PySem.strKind P w).pyHash (k := z) (strK_is P w z t) ?_)
    refine setT_add_hashed (s := { s' with toks := s'.toks + 1 }) hS' (by omega) fun h' hsb hS2 => ?_
    have hS3 : SetT w h' S (fun j => decide (j ∈ ns.take (i + 1))) (if decide (z ∈ ns.take i) = true then c else c + 1) := hS2.congr fun j => by
      rw [List.take_add_one, hz]
      simp [List.mem_append]
    have hc3 : (if decide (z ∈ ns.take i) = true then c else c + 1) ≤ i + 1 := by
      split <;> omega
    refine wpAny_pure ⟨plainId_quiet F.plain_set_update_loop _, ih (i + 1) _ (by omega) hlt (W.frame _ s' _ _ hst' (Nat.le_succ _) fun b hb o e => ?_) ⟨_, hc3, hS3⟩ fun s'' c2 hm'' hc'' hS'' => ?_⟩
    · rw [hsb.2 b (fun h : b = S => hSf (by rw [← h]; exact hb))]; exact e
    · refine hR s'' c2 (Moved.trans W.gtrans ((hm.mono hsub).then_heap (Nat.le_succ _) fun b o hb e => ?_) hm'') hc'' hS''
      rw [hsb.2 b (fun h : b = S => hb (by rw [h]; exact List.mem_cons_self))]; exact e

theorem call_set_lstT {l : Addr} {items : Array Value} (ns : List Str) {Q : Value → Shared → Prop} (hh : A.handled = none) (hl : s.heap.IsList l items) (hit : StrsAre items.toList ns) (hb : ns.length + 1 < scanBound)
    (h : ∀ (h' : Heap) (tk c : Nat), SetT w h' s.heap.objs.size (fun j => decide (j ∈ ns)) c → c ≤ ns.length → (∀ b o, s.heap.get? b = some o → h'.get? b = some o) → Q (.ref s.heap.objs.size) { s with heap := h', toks := tk }) :
    wpAny (model P w) A (call (.type "set") [.ref l]) Q E s := by
  have hisz : items.size = ns.length := by
    have q := StrsAre.len_eq hit
    rw [Array.length_toList] at q
    exact q
  obtain ⟨c, tl, hmro⟩ := F.called_set.mro
  have hmade := F.called_set.made
  have hsub := F.called_set.sub
  refine wpAny_call (codeAny_of_tree ?_)
  show wpAny _ _ (callAny (.type "set") _) _ _ _
  refine wpAny_pure ⟨Code.quiet_builtin _ (by decide +kernel), codeAny_builtin F.entry_type_call ?_⟩
  rw [Around.under_plain (weight_type_call_type "set" [.ref l] []) rfl]
  have h1 := F.called_set.notType
  have h2 := F.called_set.canCreate
  have hct := F.typeCall_set_1 (.ref l)
  repeat (any_goals (first | assumption | wp_step))

  refine codeAny_mono (code_set_led1 (.ref l) (E := E) (Q₁ := fun obj s₁ => obj = .ref s.heap.objs.size ∧ s₁ = { s with heap := s.heap.push { cls := .type "set", dict := none, data := .set #[] 0 (.fresh 0 0 (!w.params.followText "set-order")) } }) ⟨rfl, rfl⟩) fun r s₁ hr => ?_
  cases r with
  | error e => exact hr
  | ok fl =>
    cases fl with
    | ret obj =>
      obtain ⟨rfl, rfl⟩ := hr
      have hS : (s.heap.push { cls := .type "set", dict := none, data := .set #[] 0 (.fresh 0 0 (!w.params.followText "set-order")) }).get? s.heap.objs.size = some { cls := .type "set", dict := none, data := .set #[] 0 (.fresh 0 0 (!w.params.followText "set-order")) } := Heap.get?_push_size _ rfl
      have hT : Shared.TypeIs { s with heap := s.heap.push { cls := .type "set", dict := none, data := .set #[] 0 (.fresh 0 0 (!w.params.followText "set-order")) } } (.ref s.heap.objs.size) "set" := ⟨_, hS, rfl⟩
      have hli := F.called_set.init.lookup
      have hbi := F.called_set.init.bind (.ref s.heap.objs.size)
      repeat (any_goals (first | assumption | wp_step))

      refine codeAny_mono (codeAny_call_builtin (R := wants (fun r s₂ => r = .none ∧ ∃ h' tk c, s₂ = { s with heap := h', toks := tk } ∧ SetT w h' s.heap.objs.size (fun j => decide (j ∈ ns)) c ∧ c ≤ ns.length ∧
          (∀ b o, s.heap.get? b = some o → h'.get? b = some o)) E) F.called_set.init.plain F.entry_set_init (check_set_init_1 hT ?_)) fun r₂ s₂ hr₂ => ?_
      · obtain ⟨ol, hol, hcl, nl, hdl⟩ := hl
        obtain ⟨ocls, odict, odata, oslots⟩ := ol
        simp only at hcl hdl
        subst hcl; subst hdl
        have hol' : (s.heap.push { cls := .type "set", dict := none, data := .set #[] 0 (.fresh 0 0 (!w.params.followText "set-order")) }).get? l = some { cls := .type "list", dict := odict, data := .seq items nl, slots := oslots } := Heap.get?_push_of_some _ hol
        have hsls := F.sub_list_set
        have hslf := F.sub_list_frozenset
        have hne : (Value.type "list" == Value.type "dict") = false := by decide
        have hl1 : (s.heap.push { cls := .type "set", dict := none, data := .set #[] 0 (.fresh 0 0 (!w.params.followText "set-order")) }).IsList l items := ⟨_, hol', rfl, nl, rfl⟩
        unfold Builtin.«set.__init__» noKeywords Builtin.Frozenset.updateFrom
        generalize hPI : pyIter = PI
        wp_walk
        subst hPI

        refine wpAny_pyIter_list hl1 ?_
        refine wpAny_bind (wpAny_runValue ?_)
        have hlS : l < s.heap.objs.size := Heap.lt_size hol
        have hh3 : A.in1.in1.in1.handled = none := by simp [hh]
        have hz1 : (s.heap.push { cls := .type "set", dict := none, data := .set #[] 0 (.fresh 0 0 (!w.params.followText "set-order")) }).objs.size = s.heap.objs.size + 1 := Heap.size_push ..
        have hneI : l ≠ (s.heap.push { cls := .type "set", dict := none, data := .set #[] 0 (.fresh 0 0 (!w.params.followText "set-order")) }).objs.size := by
          rw [Heap.size_push]; exact Nat.ne_of_lt (Nat.lt_succ_of_lt hlS)
        have hSf : s.heap.objs.size ∉ [(s.heap.push { cls := .type "set", dict := none, data := .set #[] 0 (.fresh 0 0 (!w.params.followText "set-order")) }).objs.size, l] := by
          rw [Heap.size_push]; simp only [List.mem_cons, List.mem_singleton, List.not_mem_nil, or_false, not_or]
          exact ⟨Nat.ne_of_lt (Nat.lt_succ_self _), Nat.ne_of_gt hlS⟩
        have hval : ∀ (i : Nat) (v : Value), items[i]? = some v → ∃ k t, ns[i]? = some k ∧ v = .str k t := fun i v hv => by
          have hi : i < ns.length := by rw [← hisz]; exact (Array.getElem?_eq_some_iff.mp hv).1
          obtain ⟨t, e⟩ := SS.strs_at hit i v (by rw [Array.getElem?_toList]; exact hv)
          refine ⟨ns[i], t, List.getElem?_eq_getElem hi, ?_⟩
          rw [e, List.getD_eq_getElem?_getD, List.getElem?_eq_getElem hi] <;> rfl
        refine set_update_strs ((Walks.list hh3 _ l hneI items).toS) s.heap.objs.size
          hSf ns hisz hb hval (items.size - 0) 0 _ (by omega) (Nat.zero_le _)
          ⟨⟨_, Heap.get?_push_size _ rfl, rfl, rfl⟩, (hl1.push _)⟩ ?hS0 ?hR
        case hS0 =>
          have hget : ((s.heap.push { cls := .type "set", dict := none, data := .set #[] 0 (.fresh 0 0 (!w.params.followText "set-order")) }).push { cls := .type "list_iterator", data := .fields #[.ref l, .int 0 0] }).get? s.heap.objs.size
              = some { cls := .type "set", dict := none, data := .set #[] 0 (.fresh 0 0 (!w.params.followText "set-order")) } := Heap.get?_push_of_some _ hS
          exact ⟨0, Nat.le_refl 0, setT_new_at hget⟩
        case hR =>
          intro s' c' hm hc' hS'
          obtain ⟨h', g2, d', tk', os'⟩ := s'
          have eg : g2 = s.gens := hm.gens
          have ed : d' = s.drawn := hm.drawn
          have eo : os' = s.os := hm.os
          subst eg; subst ed; subst eo
          show wpAny _ _ _ _ _ _
          refine wpAny_pure ?_
          show wpAny _ _ (ret Value.none) _ _ _
          rw [hisz] at hc'
          refine wpAny_pure ⟨rfl, h', tk', c', rfl, hS', hc', fun b o e => ?_⟩
          have hb0 : b < s.heap.objs.size := Heap.lt_size e
          have hb1 : b ≠ s.heap.objs.size := Nat.ne_of_lt hb0
          have hb2 : b ≠ (s.heap.push { cls := .type "set", dict := none, data := .set #[] 0 (.fresh 0 0 (!w.params.followText "set-order")) }).objs.size := by
            rw [Heap.size_push]; exact Nat.ne_of_lt (Nat.lt_succ_of_lt hb0)
          exact hm.heap b o (by simp only [List.mem_cons, List.mem_singleton, List.not_mem_nil, or_false, not_or]; exact ⟨hb1, hb2⟩) (Heap.get?_push_of_some _ (Heap.get?_push_of_some _ e))

      · cases r₂ with
        | error e => exact hr₂
        | ok fl₂ =>
          cases fl₂ with
          | ret r =>
            obtain ⟨rfl, h', tk, c', rfl, hS', hc', hk'⟩ := hr₂
            repeat (any_goals (first | assumption | wp_step))
            exact h _ _ _ hS' hc' hk'
          | _ => exact hr₂.elim
    | _ => exact hr.elim

end

def vStr (v : Value) : Str := match v with | .str k _ => k | _ => Str.empty
theorem strs_ofT : ∀ (l : List Value), (∀ v ∈ l, ∃ k tk, v = Value.str k tk) → StrsAre l (l.map vStr)
  | [], _ => .nil
  | v :: l, h => by
    obtain ⟨k, tk, rfl⟩ := h v List.mem_cons_self
    exact .cons k tk (strs_ofT l fun u hu => h u (List.mem_cons_of_mem _ hu))

/-- sorted(s), s a set of fewer than 64 texts -/
theorem sorted_setT {A : Around} {E : Value → Shared → Prop} {P : Program} {w : World} {s : Shared} {a : Addr} {S : Str → Bool} {n : Nat} {Q : Value → Shared → Prop} (R : SetT w s.heap a S n) (hh : A.handled = none) (h64 : n < 64)
    (hQ : ∀ s' p (out : Array Value) (c : Nat) (ys : List Str), (∀ b o, s.heap.get? b = some o → s'.heap.get? b = some o) → s'.gens = s.gens → s'.os = s.os → s.heap.objs.size ≤ p →
      s'.heap.get? p = some (seqObj "list" out c) → StrsAre out.toList ys → sortedS ys = true → ys.Nodup → (∀ k, k ∈ ys ↔ S k = true) → ys.length = n → Q (.ref p) s') :
    wpAny (model P w) A (call (.builtin "sorted") [.ref a]) Q E s := by
  obtain ⟨o, es, ep, t, ho, hex, hd, g, nd, hm, hb, hf, hn, hr, hl⟩ := R
  refine Calls.call_function_entry kind_sorted plain_sorted entry_sorted (args_sorted1 _) ?_
  unfold Builtin.«sorted»
  refine wpAny_bind (m := checkCount "sorted" 1 1 _) (wpAny_pure ?_)
  refine wpAny_bind (collect_set (A := A.in1) hh ⟨o, ho, hex.1, hd⟩ hf hb hr hl fun s1 vs k1 hz g1 o1 pm => ?_)
  have hvl : vs.length = n := by rw [pm.length_eq, List.length_map, Array.length_toList]; exact hn
  have hS : StrsAre vs (vs.map vStr) := strs_ofT vs fun v hv => by
    obtain ⟨e, he, q⟩ := List.mem_map.mp (pm.mem_iff.mp hv)
    obtain ⟨k, tk, h1, _⟩ := g e he
    exact ⟨k, tk, by rw [← q]; exact h1⟩
  have pk : (vs.map vStr).Perm (es.toList.map keyT) := by
    have q := pm.map vStr
    rw [List.map_map] at q
    exact q
  refine wpAny_bind (wpAny_newList ?_ (by rw [hvl, sizeLine_eq]; omega))
  have hoL : (s1.heap.push (seqObj "list" vs.toArray 0)).get? s1.heap.objs.size = some (seqObj "list" vs.toArray 0) := Heap.get?_push_size _ rfl
  refine wpAny_bind (wpAny_holding (wpAny_call_entry slot_list_sort ⟨_, hoL, rfl⟩ entry_list_sort
    (list_sort_treeK strKind_oneLt (s := { s1 with heap := s1.heap.push (seqObj "list" vs.toArray 0) }) hoL hS.keysOf (fun v₁ v₂ rest e => keyKind_strs (by rw [← e]; exact hS)) (by rw [hvl]; exact h64) fun st' hp hs => ⟨_, rfl, ?_⟩)
    (args_list_sort _)))
  obtain ⟨ys, g1', g2, g3⟩ := sorted_out_str hS hp hs
  obtain ⟨c, hc⟩ := sortedHeap_at (vs := vs) (out := (arrOf st').map (·.2)) hoL
  have pn : ys.Perm (es.toList.map keyT) := g2.trans pk
  refine wpAny_pure ⟨_, rfl, hQ _ s1.heap.objs.size _ c ys (fun b u e => ?_) g1 o1 hz hc g1' g3 (pn.nodup_iff.mpr nd) (fun k => by rw [pn.mem_iff, ← hm k]) ?_⟩
  · have q := k1 b u e
    have hlt := Heap.lt_size q
    show (sortedHeap (s1.heap.push (seqObj "list" vs.toArray 0)) s1.heap.objs.size vs _).get? b = some u
    rw [sortedHeap_old (Nat.ne_of_lt hlt) (by rw [size_push']; exact Nat.lt_succ_of_lt hlt)]
    exact Heap.get?_push_of_some _ q
  · rw [pn.length_eq, List.length_map, Array.length_toList]; exact hn
/-! as tracked things -/
def SetTO (w : World) (a : Addr) (S : Str → Bool) (n : Nat) : HO := .ext fun h => SetT w h a S n
theorem setTO_new {w : World} {P : Program} {H : Hp} {h : Heap} {a : Addr} {S : Str → Bool} {n : Nat} (R : SetT w h a S n) : ObjOk P w H h a (SetTO w a S n) := by
  have ⟨o, _, _, _, ho, _⟩ := R
  exact ⟨R, ⟨o, ho⟩, fun h1 h2 p k => SetT.at p k⟩
section
variable {X : Cx}
def rSetLT (w : World) (K : PySem.W.Frag) : List V → Hp → VK → Prop := fun xs H Q => ∃ (l : Addr) (ts : List Str), xs = [.ref l] ∧ SqL K H l (ts.map V.str) ∧ ts.length + 1 < scanBound ∧ ∀ p c, c ≤ ts.length → H p = none → Q (.ref p) (upd H p (SetTO w p (fun j => decide (j ∈ ts)) c))
theorem cr_setLT (hc : X.calm = true) : CallR X (.type "set") (rSetLT X.w X.K) := by
  intro pins s σ H xs us Q I r h
  obtain ⟨l, ts, rfl, hs, hb, q⟩ := h
  rw [Vals.ref1 r]
  obtain ⟨its, o, n, rv, ho, h1, h2⟩ := sqL_at I.hok I.kIn hs
  refine call_set_lstT ts (I.ok.hd hc) (items := its.toArray) ⟨o, ho, h1, n, h2⟩ (by simpa using strsAre_of rv) hb fun h' tk c R hcl k => ?_
  exact ⟨.ref s.heap.objs.size, _, I.laid (t' := tk) k (Nat.le_refl _) (setTO_new R), rfl, q _ c hcl (I.hok.fresh (Nat.le_refl _))⟩
def rSortT2 (w : World) : List V → Hp → VK → Prop := fun vs H Q => ∃ (a : Addr) (S : Str → Bool) (n : Nat), vs = [V.ref a] ∧ H a = some (SetTO w a S n) ∧ n < 64 ∧
  ∀ (ys : List Str) (p : Addr), sortedS ys = true → ys.Nodup → (∀ k, k ∈ ys ↔ S k = true) → ys.length = n → H p = none → Q (.ref p) (upd H p (.lst (ys.map V.str)))
theorem cr_sortT2 (hc : X.calm = true) : CallR X (.builtin "sorted") (rSortT2 X.w) := by
  intro pins s σ H vs us Q I r h
  obtain ⟨a, S, n, rfl, ha, h64, q⟩ := h
  have R : SetT X.w s.heap a S n := (I.hok a _ ha).1
  rw [Vals.ref1 r]
  refine sorted_setT R (I.ok.hd hc) h64 fun s' p out c ys k g o hp hg hi hs nd hm hl => ?_
  have hlen : (ys.map V.str).length ≤ sizeLine := by rw [List.length_map, hl, sizeLine_eq]; omega
  have hn : H p = none := I.hok.fresh hp
  have J : Inv X pins σ (upd H p (.lst (ys.map V.str))) { s with heap := s'.heap, gens := s'.gens, drawn := s'.drawn, toks := s'.toks } :=
    I.call (ch := []) (Un.laid k hp hn) (I.hok.laid k hp ⟨hlen, out.toList, c, vals_of_strs hi, hg⟩) (by rw [g]; exact I.bare) (fun _ z => nomatch z)
  have e : s' = { s with heap := s'.heap, gens := s'.gens, drawn := s'.drawn, toks := s'.toks } := by
    cases s'
    cases s
    cases o
    rfl
  rw [e]
  exact ⟨.ref p, _, J, rfl, q ys p hs nd hm hl hn⟩
end
end L2
namespace Sh
open PySem L2 Pl PyProof.Rows Law
/-- the letters of a list, each once, in their order -/
def ltsU (ls : List Lt) : List Lt := [Lt.p, .q, .r].filter fun l => decide (l ∈ ls)
theorem ltsU_mem {ls : List Lt} {l : Lt} : l ∈ ltsU ls ↔ l ∈ ls := by
  unfold ltsU
  rw [List.mem_filter, decide_eq_true_eq]
  exact ⟨fun h => h.2, fun h => ⟨by cases l <;> simp, h⟩⟩
theorem ltsU_pw (ls : List Lt) : (ltsU ls).Pairwise fun a b => leL a b = true := List.Pairwise.filter _ (by decide)
theorem ltsU_nd (ls : List Lt) : (ltsU ls).Nodup := List.Pairwise.filter _ (by decide)
theorem ltsU_ext {ls ms : List Lt} (h : ∀ l, l ∈ ls ↔ l ∈ ms) : ltsU ls = ltsU ms := by
  unfold ltsU
  exact List.filter_congr fun l _ => by simp only [h l]
open Classical in
/-- sorted(set(xs)), xs letters -/
noncomputable def sortsetM (x : U) : M (List U) :=
  if h : ∃ ls : List Lt, itemsL x = some (ls.map ltU) ∧ ls.length < 60 then .ok ((ltsU h.choose).map ltU) else .stuck
theorem sortsetM_lt {x : U} {ls : List Lt} (e : itemsL x = some (ls.map ltU)) (h : ls.length < 60) : sortsetM x = .ok ((ltsU ls).map ltU) := by
  have hx : ∃ ls : List Lt, itemsL x = some (ls.map ltU) ∧ ls.length < 60 := ⟨_, e, h⟩
  unfold sortsetM
  rw [dif_pos hx]
  have g := e.symm.trans hx.choose_spec.1
  rw [← map_inj (fun _ _ => ltU_inj) (Option.some.inj g)]
theorem boot_set' : bootBuiltins "set" = some (.type "set") := by decide +kernel
section
variable {κ : Kl} {C : Pl.Ctx} {E : ER} {Γ : Pl.Env} {Λ : Cells} {Pn : List D → Cells → Prop} {pos pos2 p p2 : Pos} {e : Expr}
theorem wn_sortsetM [Cool C] (hj : GlAt C "sorted") (hm : C.mg "sorted" = none) (hj2 : GlAt C "set") (hm2 : C.mg "set" = none) (h : Op1n κ C E Γ Λ e sortsetM Pn) (he : plainE e = true := by rfl) :
    WN C E Γ Λ (.Call (.Name "sorted" p) [.Call (.Name "set" p2) [e] [] pos2] [] pos) Pn := fun X F W is tk => by
  refine pe_imp (pe_callB (cr_sortT2 is.calm) (is.gl hj) (by rw [is.mg]; exact hm) boot_sorted' (pa_cons (pe_callTy (cr_setLT is.calm) (is.gl hj2) (by rw [is.mg]; exact hm2) boot_set' (pa_cons (pe_U (e := e)) pa_nil (star_plain he)) (he := star_plain he) (hpl := back_plain rfl)) pa_nil)) fun σ H Q ⟨B, α, S, q, er⟩ => ?_
  show UE X e σ H _
  refine WE.use h is tk S er fun x Λ1 v B1 α1 H1 p1 S1 e1 f1 r1 => ?_
  obtain ⟨u, hx, p2⟩ := p1
  unfold sortsetM at p2
  split at p2
  · rename_i hs
    obtain ⟨h1, h2⟩ := hs.choose_spec
    generalize hs.choose = ls at p2 h1 h2
    have p2 : Pn (ems κ ((ltsU ls).map ltU)) Λ1 := p2
    have h1 : lstD Λ1 x = some (ls.map fun l => D.str l.s) := by rw [items_of hx h1, ems_ltU]
    rw [ems_ltU] at p2
    obtain ⟨a, ws, rfl, g1, g2⟩ := S1.seqL r1 h1
    have hw : ws = (ls.map Lt.s).map V.str := by
      have key : ∀ (ls : List Lt) (ws : List V), Reps C.K B1 α1 (ls.map fun l => D.str l.s) ws → ws = (ls.map Lt.s).map V.str := by
        intro ls
        induction ls with
        | nil => intro ws h; unfold Reps at h; subst h; rfl
        | cons l ls ih =>
          intro ws h
          rw [List.map_cons] at h
          unfold Reps at h
          obtain ⟨v, r, rfl, a1, a2⟩ := h
          unfold Rep at a1
          rw [a1, ih r a2]; rfl
      exact key ls ws g2
    subst hw
    refine ⟨a, ls.map Lt.s, rfl, by rw [is.K]; exact g1, by rw [List.length_map]; unfold scanBound; omega, fun sp c hc hsp => ?_⟩
    have ne : ∀ {b u}, H1 b = some u → b ≠ sp := fun {b u} z => ne_of_none z hsp
    have ex1 : Ex H1 (upd H1 sp (SetTO X.w sp (fun j => decide (j ∈ ls.map Lt.s)) c)) := Ex.new hsp
    rw [List.length_map] at hc
    refine ⟨sp, _, c, rfl, upd_same, by omega, fun ys pp hsrt hnd hmem hlen hn => ?_⟩
    have hn1 : H1 pp = none := by
      by_cases z : pp = sp
      · subst z; exact hsp
      · rw [upd_ne z] at hn; exact hn
    have ey : ys = (ltsU ls).map Lt.s := by
      have hp : ys.Perm ((ltsU ls).map Lt.s) := by
        refine (List.perm_ext_iff_of_nodup hnd ?_).mpr fun k => ?_
        · exact List.Pairwise.map _ (fun a b z e => z (Sy.lt_s_inj.mp e)) (ltsU_nd ls)
        · rw [hmem k, decide_eq_true_eq, List.mem_map, List.mem_map]
          exact ⟨fun ⟨l, h1, h2⟩ => ⟨l, ltsU_mem.mpr h1, h2⟩, fun ⟨l, h1, h2⟩ => ⟨l, ltsU_mem.mp h1, h2⟩⟩
      rw [perm_L hp hsrt, ← sortL_uniq (List.Perm.refl _) (ltsU_pw ls)]
    subst ey
    refine q _ Λ1 pp _ B1 α1 _ p2 ((S1.grow ex1).grow (Ex.new hn)) e1 f1 upd_same (S1.bh.back hn1) (S1.dm pp hn1) (fun ha => (S1.ah pp ha).1 hn1) ?_
    rw [List.map_map]
    have : ∀ zs : List Lt, Reps C.K B1 α1 (zs.map fun l => D.str l.s) (zs.map (V.str ∘ Lt.s)) := fun zs => by
      induction zs with
      | nil => exact .nil
      | cons z zs ih => exact .cons rfl ih
    exact this _
  · exact p2.elim
end
end Sh

namespace Law
open PySem L2 Pl Sh
local macro_rules | `(tactic| walk_at "ms") => `(tactic| simp only [Ok_bind, Ok_calm, Ok_ok, Ok_ite, Ok_itd, M.bind_ok, M.calm_ok, eqM_int, eqM_str, eqM_bl, ltM_int, leM_int, gtM_int, geM_int, addM_int, subM_int, negM_int, lenM_lst, lenM_fzl, lenM_tup, modM_int, fdivM_int, mulM_l, mulM_r, Int.reduceLT, Int.reduceNeg, nB_ok, vB_ok, boolM_bl, endM_int, listM_lst, listM_tup, iterL_lst, iterL_fzl, iterT_tup, isi_tup, isi_lst, isi_bl, isi_str, isi_int, isi_st, isi_ts, isi_ib, ix_t0, ix_t1, ix_t2, ix_l0, ix_l1, ix_l2, pow10_6, pow10_9, pow10_12, pow10_30, decide_eq_true_eq, decide_eq_false_iff_not, Bool.not_true, Bool.not_false, Bool.not_eq_true, if_true, if_false, reduceIte, Bool.false_eq_true, true_implies, false_implies, implies_true, and_self, and_true, true_and, reduceCtorEq])
local macro_rules | `(tactic| walk_at "nlc") => `(tactic| simp only [cellsAt, List.map, List.take_succ_cons, List.take_zero, List.take_nil, List.all_cons, List.all_nil, nlC, nls_em, nls_nil, nls_cons, nl_em, Bool.and_self, Bool.and_true, List.getElem?_cons_zero, List.getElem?_cons_succ, Option.getD_some, Option.getD_none])
noncomputable def sh__law_mix : Nat → List U → M U
  | kk + 1, [v_script, v_k] =>
    (
      (lenM v_script).bind fun z1 =>
      (gtM z1 (.int 0)).bind fun b2 =>
      if b2 then
        (lenM v_script).bind fun z3 =>
        (modM v_k z3).bind fun z4 =>
        (ixM v_script z4).bind fun z5 =>
        .ok z5
      else
        .ok (.int 0)
    ).bind fun v_cell_6 =>
    (
      (lenM v_script).bind fun z7 =>
      (gtM z7 (.int 1)).bind fun b8 =>
      if b8 then
        (ixM v_script (.int 0)).bind fun z9 =>
        (modM z9 (.int 2)).bind fun z10 =>
        (eqM z10 (.int 1)).bind fun b11 =>
        .ok b11
      else
        .ok false
    ).bind fun b12 =>
    if b12 then
      (lenM v_script).bind fun z13 =>
      (subM z13 (.int 1)).bind fun z14 =>
      (modM v_k z14).bind fun z15 =>
      (addM (.int 1) z15).bind fun z16 =>
      (ixM v_script z16).bind fun z17 =>
      (lenM v_script).bind fun z19 =>
      (subM z19 (.int 1)).bind fun z20 =>
      (fdivM v_k z20).bind fun z21 =>
      (min2M (.int 60) z21).bind fun z22 =>
      (range1M z22).bind fun it18 =>
      (forN (fun v_cell_23 x24 =>
          (powM (.int 10) (.int 9)).bind fun z25 =>
          (fdivM v_cell_23 z25).bind fun z26 =>
          .ok z26
        ) it18 z17).bind fun v_cell_27 =>
      (powM (.int 10) (.int 9)).bind fun z28 =>
      (modM v_cell_27 z28).bind fun z29 =>
      .ok z29
    else
      (mulM (.int 7) v_k).bind fun z30 =>
      (mulM z30 v_k).bind fun z31 =>
      (addM v_cell_6 z31).bind fun z32 =>
      (addM z32 (.int 11)).bind fun z33 =>
      (mulM z33 (.int 48271)).bind fun z34 =>
      (modM z34 (.int 2147483647)).bind fun z35 =>
      (mulM z35 (.int 69621)).bind fun z36 =>
      (modM z36 (.int 1000000007)).bind fun z37 =>
      .ok z37
  | _, _ => .stuck

noncomputable def sh__law_built : Nat → List U → M U
  | kk + 1, [v_script, v_at, v_count] =>
    (range1M v_count).bind fun it1 =>
    (forN (fun v_stack_2 x3 =>
        (addM v_at x3).bind fun z4 =>
        (sh__law_mix kk [v_script, z4]).bind fun z5 =>
        (modM z5 (.int 9)).bind fun z6 =>
        (fdivM z5 (.int 9)).bind fun z7 =>
        (modM z7 (.int 4)).bind fun z8 =>
        (ixM (.lst [.tup [.str "no"], .tup [.str "letter", .str "p"], .tup [.str "letter", .str "q"], .tup [.str "letter", .str "r"]]) z8).bind fun z9 =>
        (
          (
            (ltM z6 (.int 4)).bind fun b10 =>
            if b10 then
              .ok true
            else
              (lenM (.lst v_stack_2)).bind fun z11 =>
              (eqM z11 (.int 0)).bind fun b12 =>
              .ok b12
          ).bind fun b13 =>
          if b13 then
            (appM v_stack_2 z9).bind fun l14 =>
            .ok l14
          else
            (
              (ltM z6 (.int 7)).bind fun b15 =>
              if b15 then
                (subM z6 (.int 4)).bind fun z16 =>
                (ixM (.lst [.str "not", .str "shown", .str "shown"]) z16).bind fun z17 =>
                (negM (.int 1)).bind fun z18 =>
                (ixM (.lst v_stack_2) z18).bind fun z19 =>
                (negM (.int 1)).bind fun z20 =>
                (setM v_stack_2 z20 (.tup [z17, z19])).bind fun l21 =>
                .ok l21
              else
                (
                  (lenM (.lst v_stack_2)).bind fun z22 =>
                  (gtM z22 (.int 1)).bind fun b23 =>
                  if b23 then
                    (popM v_stack_2).bind fun (z24, l25) =>
                    (fdivM z5 (.int 9)).bind fun z27 =>
                    (modM z27 (.int 3)).bind fun z28 =>
                    (ixM (.lst [.str "and", .str "or", .str "if"]) z28).bind fun z29 =>
                    (negM (.int 1)).bind fun z30 =>
                    (ixM (.lst l25) z30).bind fun z31 =>
                    (negM (.int 1)).bind fun z32 =>
                    (setM l25 z32 (.tup [z29, z31, z24])).bind fun l33 =>
                    .ok l33
                  else
                    .ok v_stack_2
                ).bind fun v_stack_34 =>
                .ok v_stack_34
            ).bind fun v_stack_35 =>
            .ok v_stack_35
        ).bind fun v_stack_36 =>
        .ok v_stack_36
      ) it1 []).bind fun v_stack_37 =>
    (whN (fun v_stack_38 =>
        (lenM (.lst v_stack_38)).bind fun z39 =>
        (gtM z39 (.int 1)).bind fun b40 =>
        .ok b40
      ) (fun v_stack_41 =>
        (popM v_stack_41).bind fun (z42, l43) =>
        (lenM (.lst l43)).bind fun z45 =>
        (modM z45 (.int 3)).bind fun z46 =>
        (ixM (.lst [.str "and", .str "or", .str "if"]) z46).bind fun z47 =>
        (negM (.int 1)).bind fun z48 =>
        (ixM (.lst l43) z48).bind fun z49 =>
        (negM (.int 1)).bind fun z50 =>
        (setM l43 z50 (.tup [z47, z49, z42])).bind fun l51 =>
        .ok l51
      ) 1000000 v_stack_37).bind fun v_stack_52 =>
    (ixM (.lst v_stack_52) (.int 0)).bind fun z53 =>
    .ok z53
  | _, _ => .stuck

noncomputable def sh__law_dict : Nat → List U → M U
  | kk + 1, [v_script, v_at, v_count] =>
    (range1M (.int 3)).bind fun it1 =>
    (forN (fun v_sayings_2 x3 =>
        (mulM (.int 9) x3).bind fun z4 =>
        (addM v_at z4).bind fun z5 =>
        (sh__law_mix kk [v_script, z5]).bind fun z6 =>
        (
          (modM z6 (.int 4)).bind fun z7 =>
          (gtM z7 (.int 0)).bind fun b8 =>
          if b8 then
            (addM v_at (.int 1)).bind fun z9 =>
            (mulM (.int 9) x3).bind fun z10 =>
            (addM z9 z10).bind fun z11 =>
            (fdivM z6 (.int 12)).bind fun z12 =>
            (modM z12 v_count).bind fun z13 =>
            (addM (.int 1) z13).bind fun z14 =>
            (sh__law_built kk [v_script, z11, z14]).bind fun z15 =>
            (fdivM z6 (.int 4)).bind fun z16 =>
            (addM x3 z16).bind fun z17 =>
            (modM z17 (.int 3)).bind fun z18 =>
            (ixM (.str "rpq") z18).bind fun z19 =>
            (putM v_sayings_2 z19 z15).bind fun l20 =>
            .ok l20
          else
            .ok v_sayings_2
        ).bind fun v_sayings_21 =>
        .ok v_sayings_21
      ) it1 (([], []) : Dc)).bind fun v_sayings_22 =>
    .ok (.dic v_sayings_22.1 v_sayings_22.2)
  | _, _ => .stuck

noncomputable def sh_put : Nat → List U → M U
  | kk + 1, [v_saying, v_sayings] =>
    (ixM v_saying (.int 0)).bind fun z1 =>
    (eqM z1 (.str "no")).bind fun b2 =>
    if b2 then
      .ok v_saying
    else
      (ixM v_saying (.int 0)).bind fun z3 =>
      (eqM z3 (.str "letter")).bind fun b4 =>
      if b4 then
        (asD v_sayings).bind fun (dk6, du7) =>
        (ixM v_saying (.int 1)).bind fun z8 =>
        (getdM (.dic dk6 du7) z8 v_saying).bind fun z5 =>
        .ok z5
      else
        (ixM v_saying (.int 0)).bind fun z9 =>
        (endM (.int 1)).bind fun z10 =>
        (slM v_saying z10 none).bind fun z11 =>
        (iterT z11).bind fun it12 =>
        (compM (fun x13 =>
            (sh_put kk [x13, v_sayings]).bind fun z15 =>
            .ok z15
          ) it12).bind fun zs14 =>
        (addM (.lst [z9]) (.lst zs14)).bind fun z16 =>
        (tupleM z16).bind fun z17 =>
        .ok z17
  | _, _ => .stuck

noncomputable def sh_inner_of : Nat → List U → M (List U)
  | kk + 1, [v_saying] =>
    (
      (ixM v_saying (.int 0)).bind fun z1 =>
      (eqM z1 (.str "no")).bind fun b2 =>
      if b2 then
        .ok true
      else
        (ixM v_saying (.int 0)).bind fun z3 =>
        (eqM z3 (.str "letter")).bind fun b4 =>
        .ok b4
    ).bind fun b5 =>
    if b5 then
      .ok []
    else
      (endM (.int 1)).bind fun z6 =>
      (slM v_saying z6 none).bind fun z7 =>
      (listM z7).bind fun z8 =>
      .ok z8
  | _, _ => .stuck

noncomputable def sh_gather : Nat → List U → M (U × List U)
  | kk + 1, [v_saying, .lst v_found] =>
    (appM v_found v_saying).bind fun l1 =>
    (sh_inner_of kk [v_saying]).bind fun z2 =>
    (iterL (.lst z2)).bind fun it3 =>
    (forN (fun v_found_4 x5 =>
        (sh_gather kk [x5, .lst v_found_4]).calm.bind fun (z6, l7) =>
        .ok l7
      ) it3 l1).bind fun v_found_8 =>
    .ok (.non, v_found_8)
  | _, _ => .stuck

noncomputable def sh_each_once : Nat → List U → M (List U)
  | kk + 1, [v_some] =>
    (sortedM v_some).bind fun z1 =>
    (iterL (.lst z1)).bind fun it2 =>
    (forN (fun v_told_3 x4 =>
        (
          (
            (lenM (.lst v_told_3)).bind fun z5 =>
            (eqM z5 (.int 0)).bind fun b6 =>
            if b6 then
              .ok true
            else
              (negM (.int 1)).bind fun z7 =>
              (ixM (.lst v_told_3) z7).bind fun z8 =>
              ((nB eqM) z8 x4).bind fun b9 =>
              .ok b9
          ).bind fun b10 =>
          if b10 then
            (appM v_told_3 x4).bind fun l11 =>
            .ok l11
          else
            .ok v_told_3
        ).bind fun v_told_12 =>
        .ok v_told_12
      ) it2 []).bind fun v_told_13 =>
    .ok v_told_13
  | _, _ => .stuck

noncomputable def sh_parts_of : Nat → List U → M (List U)
  | kk + 1, [v_saying] =>
    (sh_gather kk [v_saying, .lst []]).calm.bind fun (z1, l2) =>
    (sh_each_once kk [.lst l2]).bind fun z3 =>
    .ok z3
  | _, _ => .stuck

noncomputable def sh_letters_of : Nat → List U → M (List U)
  | kk + 1, [v_saying] =>
    (sh_parts_of kk [v_saying]).bind fun z1 =>
    (iterL (.lst z1)).bind fun it2 =>
    (compF (fun x3 =>
        (ixM x3 (.int 0)).bind fun z5 =>
        (eqM z5 (.str "letter")).bind fun b6 =>
        .ok b6
      ) (fun x3 =>
        (ixM x3 (.int 1)).bind fun z7 =>
        .ok z7
      ) it2).bind fun zs4 =>
    .ok zs4
  | _, _ => .stuck

noncomputable def sh_depth_of : Nat → List U → M U
  | kk + 1, [v_saying] =>
    (sh_inner_of kk [v_saying]).bind fun z1 =>
    (iterL (.lst z1)).bind fun it2 =>
    (compM (fun x3 =>
        (sh_depth_of kk [x3]).bind fun z5 =>
        .ok z5
      ) it2).bind fun zs4 =>
    (maxdM (.lst zs4) 0).bind fun z6 =>
    (ixM v_saying (.int 0)).bind fun z7 =>
    (eqM z7 (.str "shown")).bind fun b8 =>
    if b8 then
      (addM z6 (.int 1)).bind fun z9 =>
      .ok z9
    else
      .ok z6
  | _, _ => .stuck

noncomputable def sh_law : Nat → List U → M U
  | kk + 1, [v_script] =>
    (sh__law_mix kk [v_script, .int 0]).bind fun z1 =>
    (modM z1 (.int 6)).bind fun z2 =>
    (addM (.int 1) z2).bind fun z3 =>
    (sh__law_built kk [v_script, .int 1, z3]).bind fun z4 =>
    (sh__law_dict kk [v_script, .int 8, .int 3]).bind fun z5 =>
    (sh__law_dict kk [v_script, .int 36, .int 3]).bind fun z6 =>
    (iterL (.lst [.str "p", .str "q", .str "r"])).bind fun it7 =>
    (forN (fun v_both_8 x9 =>
        (asD z5).bind fun (dk11, du12) =>
        (getdM (.dic dk11 du12) x9 (.tup [.str "letter", x9])).bind fun z10 =>
        (sh_put kk [z10, z6]).bind fun z13 =>
        (putM v_both_8 x9 z13).bind fun l14 =>
        .ok l14
      ) it7 (([], []) : Dc)).bind fun v_both_15 =>
    (sh_put kk [z4, z5]).bind fun z16 =>
    (sh_put kk [z16, z6]).bind fun z17 =>
    (sh_put kk [z4, .dic v_both_15.1 v_both_15.2]).bind fun z18 =>
    ((nB eqM) z17 z18).bind fun b19 =>
    if b19 then
      .ok (.bl false)
    else
      (sh_letters_of kk [z4]).bind fun z20 =>
      (iterL (.lst z20)).bind fun it21 =>
      (forN (fun v_allowed_22 x23 =>
          (ixdM (.dic v_both_15.1 v_both_15.2) x23).bind fun z24 =>
          (sh_letters_of kk [z24]).bind fun z25 =>
          (extM v_allowed_22 (.lst z25)).bind fun l26 =>
          .ok l26
        ) it21 []).bind fun v_allowed_27 =>
      (sh_letters_of kk [z17]).bind fun z28 =>
      (sortsetM (.lst z28)).bind fun z29 =>
      (sortsetM (.lst v_allowed_27)).bind fun z30 =>
      ((nB eqM) (.lst z29) (.lst z30)).bind fun b31 =>
      if b31 then
        .ok (.bl false)
      else
        (sh_letters_of kk [z4]).bind fun z32 =>
        (iterL (.lst z32)).bind fun it33 =>
        (compM (fun x34 =>
            (ixdM (.dic v_both_15.1 v_both_15.2) x34).bind fun z36 =>
            (sh_depth_of kk [z36]).bind fun z37 =>
            .ok z37
          ) it33).bind fun zs35 =>
        (maxdM (.lst zs35) 0).bind fun z38 =>
        (
          (sh_depth_of kk [z4]).bind fun z39 =>
          (sh_depth_of kk [z17]).bind fun z40 =>
          ((vB leM) z39 z40).bind fun z41 =>
          (boolM z41).bind fun b42 =>
          if b42 then
            (sh_depth_of kk [z17]).bind fun z43 =>
            (sh_depth_of kk [z4]).bind fun z44 =>
            (addM z44 z38).bind fun z45 =>
            ((vB leM) z43 z45).bind fun z46 =>
            .ok z46
          else
            .ok (.bl false)
        ).bind fun z47 =>
        .ok z47
  | _, _ => .stuck

/-- a stack of sayings, not empty, with at most n parts -/
def Stk (n : Nat) (l : List U) : Prop := ∃ sts : List Sy, l = sts.map su ∧ sts ≠ [] ∧ tot sts ≤ n
theorem Stk.mono {n m : Nat} {l : List U} (h : Stk n l) (i : n ≤ m) : Stk m l := by obtain ⟨s, h1, h2, h3⟩ := h; exact ⟨s, h1, h2, by omega⟩
/-- the top is put otherwise -/
theorem Stk.upd {α : Type} {n m : Nat} {l : List U} {f : U → U} {k : List U → M α} {P : α → Prop} (h : Stk n l) (hf : ∀ s : Sy, ∃ t : Sy, f (su s) = su t ∧ t.size ≤ s.size + m) (i : ∀ l, Stk (n + m) l → Ok (k l) P) :
    Ok ((negM (.int 1)).bind fun z => (ixM (.lst l) z).bind fun z26 => (negM (.int 1)).bind fun z27 => (setM l z27 (f z26)).bind k) P := by
  obtain ⟨s, rfl, h2, h3⟩ := h
  obtain ⟨ys, y, rfl⟩ := snoc_of h2
  obtain ⟨t, e, ht⟩ := hf y
  rw [List.map_append, List.map_cons, List.map_nil]
  simp only [negM_int, M.bind_ok, ix_last, setM_last]
  refine i _ ⟨ys ++ [t], by simp [e], by simp, ?_⟩
  rw [tot_snoc] at h3 ⊢; omega
theorem Stk.pop {n : Nat} {l : List U} (h : Stk n l) (hl : 2 ≤ l.length) : ∃ (a : Sy) (l' : List U), popM l = .ok (su a, l') ∧ Stk (n - a.size) l' ∧ a.size ≤ n := by
  obtain ⟨s, rfl, h2, h3⟩ := h
  rw [List.length_map] at hl
  obtain ⟨ys, y, z, rfl⟩ := snoc2_of hl
  refine ⟨z, (ys ++ [y]).map su, by rw [List.map_append, List.map_cons, List.map_nil, popM_last], ⟨_, rfl, by simp, ?_⟩, ?_⟩
  · rw [tot_snoc] at h3; omega
  · rw [tot_snoc] at h3; omega
theorem bops {u : U} (h : u ∈ [U.str "and", .str "or", .str "if"]) : ∃ o : Bop, u = .str o.s := by
  simp only [List.mem_cons, List.not_mem_nil, or_false] at h
  rcases h with rfl | rfl | rfl
  · exact ⟨.and, rfl⟩
  · exact ⟨.or, rfl⟩
  · exact ⟨.iff, rfl⟩
theorem leafs {u : U} (h : u ∈ [U.tup [.str "no"], .tup [.str "letter", .str "p"], .tup [.str "letter", .str "q"], .tup [.str "letter", .str "r"]]) : ∃ s : Sy, u = su s ∧ s.size = 1 := by
  simp only [List.mem_cons, List.not_mem_nil, or_false] at h
  rcases h with rfl | rfl | rfl | rfl
  · exact ⟨.no, rfl, rfl⟩
  · exact ⟨.lt .p, rfl, rfl⟩
  · exact ⟨.lt .q, rfl, rfl⟩
  · exact ⟨.lt .r, rfl, rfl⟩

theorem asInts_map (is : List Int) : asInts (is.map .int) = some is := by
  induction is with
  | nil => rfl
  | cons a is ih => rw [List.map_cons, asInts, ih]; rfl
theorem once_step {ts : List Sy} (h : ts.length < 10000000) (x : Sy) {b : M Bool} (hb : b = .ok (decide (¬ ts.getLast? = some x))) : ((b.bind fun b10 => if b10 = true then (appM (ts.map su) (su x)).bind fun l11 => M.ok l11 else M.ok (ts.map su)).bind fun v => M.ok v) = .ok ((if ts.getLast? = some x then ts else ts ++ [x]).map su) := by
  subst hb
  rw [M.bind_ok, appM_ok (by rw [List.length_map]; exact h)]
  by_cases e : ts.getLast? = some x
  · simp [e]
  · simp [e]
theorem last_ne {ts : List Sy} (hd : ∀ s ∈ ts, s.ht ≤ 180) (x : Sy) (hn : ts ≠ []) : ((negM (.int 1)).bind fun z7 => (ixM (.lst (ts.map su)) z7).bind fun z8 => (nB eqM z8 (su x)).bind fun b9 => M.ok b9) = .ok (decide (¬ ts.getLast? = some x)) := by
  obtain ⟨ys, y, rfl⟩ := snoc_of hn
  rw [List.map_append, List.map_cons, List.map_nil]
  simp only [negM_int, M.bind_ok, ix_last, nB_ok]
  have := hd y (by simp)
  rw [eqM_su (by omega)]
  simp [M.bind_ok]
theorem onceI {ts ss : List Sy} {n : Nat} {x : Sy} (hs : ∀ s ∈ ss, s.ht ≤ 180) (h : ts.length ≤ n ∧ ∀ s ∈ ts, s.ht ≤ 180) (hx : x ∈ sortS ss) : (if ts.getLast? = some x then ts else ts ++ [x]).length ≤ n + 1 ∧ ∀ s ∈ (if ts.getLast? = some x then ts else ts ++ [x]), s.ht ≤ 180 := by
  split
  · exact ⟨by omega, h.2⟩
  · refine ⟨by simp; omega, fun s hm => ?_⟩
    rcases List.mem_append.mp hm with z | z
    · exact h.2 s z
    · rw [List.mem_singleton] at z; subst z
      exact hs s ((sortS_perm ss).mem_iff.mp hx)
theorem sh_once {k : Nat} {ss : List Sy} {x : U} (hx : itemsL x = some (ss.map su)) (h : ∀ s ∈ ss, s.ht ≤ 180) (hl : ss.length ≤ 1000000) : sh_each_once (k + 1) [x] = .ok ((onceS (sortS ss)).map su) := by
  rw [sh_each_once, sortedM_su hx h, M.bind_ok, iterL_lst, M.bind_ok]
  refine (congrArg (fun m => M.bind m _) (forN_fold (fun ts : List Sy => ts.map su) su (fun told one => if told.getLast? = some one then told else told ++ [one]) (fun n ts => ts.length ≤ n ∧ ∀ s ∈ ts, s.ht ≤ 180) (sortS ss) [] ⟨Nat.le_refl _, by simp⟩ fun n ts x hn hI hm => ⟨once_step (by have := (sortS_perm ss).length_eq; omega) x ?_, onceI h hI hm⟩)).trans rfl
  cases ts with
  | nil => rfl
  | cons t ts =>
    rw [lenM_lst, M.bind_ok, eqM_int, M.bind_ok, if_neg (by simp; omega)]
    exact last_ne hI.2 x (by simp)

theorem sh_inner {k : Nat} {s : Sy} : sh_inner_of (k + 1) [su s] = .ok (s.kids.map su) := by
  rw [sh_inner_of]
  cases s with
  | bin o a b => cases o <;> simp [su, Bop.s, Sy.kids]
  | _ => simp [su, Sy.kids]
theorem sh_gath : ∀ (k : Nat) (s : Sy) (acc : List U), s.ht ≤ k → acc.length + s.size < 10000000 → sh_gather (k + 1) [su s, .lst acc] = .ok (.non, acc ++ (partsL s).map su)
  | 0, s, acc, h, _ => by have := Sy.ht_pos s; omega
  | k + 1, s, acc, h, hs => by
    have hp := size_pos s
    rw [sh_gather, appM_ok (by omega), M.bind_ok, sh_inner, M.bind_ok, iterL_lst, M.bind_ok]
    have key : ∀ (ks : List Sy) (acc : List U), (∀ x ∈ ks, x.ht ≤ k) → acc.length + (ks.map Sy.size).sum < 10000000 →
        forN (fun v_found_4 x5 => (sh_gather (k + 1) [x5, .lst v_found_4]).calm.bind fun x => match x with | (z6, l7) => M.ok l7) (ks.map su) acc = .ok (acc ++ (ks.flatMap partsL).map su) := by
      intro ks
      induction ks with
      | nil => intro acc _ _; simp [forN]
      | cons x ks ih =>
        intro acc h1 h2
        rw [List.map_cons, List.sum_cons] at h2
        rw [List.map_cons, forN, sh_gath k x acc (h1 x (by simp)) (by omega), M.calm_ok, M.bind_ok]
        dsimp only
        rw [M.bind_ok, ih _ (fun y hy => h1 y (by simp [hy])) (by rw [List.length_append, List.length_map, partsL_len]; omega)]
        simp
    rw [key s.kids _ (fun x hx => Sy.kid_ht (by omega) hx) (by
      have : (s.kids.map Sy.size).sum + 1 = s.size := by cases s <;> simp [Sy.kids, Sy.size] <;> omega
      rw [List.length_append]; simp only [List.length_cons, List.length_nil]; omega), M.bind_ok, partsL_kids s]
    simp
theorem sh_parts {k : Nat} {s : Sy} (h : s.ht ≤ k) (hs : s.size ≤ 1000000) (hh : s.ht ≤ 180) : sh_parts_of (k + 2) [su s] = .ok ((setS (partsL s)).map su) := by
  rw [sh_parts_of, show sh_gather (k + 1) [su s, .lst []] = .ok (.non, [] ++ (partsL s).map su) from sh_gath k s [] h (by simp; omega), M.calm_ok, M.bind_ok]
  dsimp only
  rw [List.nil_append, sh_once rfl (fun t ht => by have := parts_ht ht; omega) (by rw [partsL_len]; exact hs)]; rfl

theorem sh_letters {k : Nat} {s : Sy} (h : s.ht ≤ k) (hs : s.size ≤ 1000000) (hh : s.ht ≤ 180) : sh_letters_of (k + 3) [su s] = .ok ((ltsOf s).map ltU) := by
  rw [sh_letters_of, sh_parts h hs hh, M.bind_ok, iterL_lst, M.bind_ok, compF_ok su isLt litU]
  · rw [ltsOf_eq, List.map_map]; rfl
  · have := setS_len (partsL s); rw [partsL_len] at this; omega
  · intro x _
    rw [ix_su0, M.bind_ok, eqM_str, M.bind_ok]
    cases x with
    | bin o a b => cases o <;> simp [wd, isLt, Bop.s]
    | _ => simp [wd, isLt]
  · intro x _ hx
    cases x with
    | lt l => rfl
    | _ => cases hx


/-- how many shown stand within one another -/
def sd : Sy → Nat
  | .no => 0
  | .lt _ => 0
  | .not a => sd a
  | .shown a => sd a + 1
  | .bin _ a b => max (sd a) (sd b)
theorem sh_sd : ∀ (k : Nat) (s : Sy), s.ht ≤ k → sh_depth_of (k + 1) [su s] = .ok (.int (sd s : Nat))
  | 0, s, h => by have := Sy.ht_pos s; omega
  | k + 1, s, h => by
    rw [sh_depth_of, sh_inner, M.bind_ok, iterL_lst, M.bind_ok, compM_ok su (fun x => .int (sd x : Nat)) (by cases s <;> simp [Sy.kids]) (fun x hx => by rw [sh_sd k x (Sy.kid_ht (by omega) hx)]; rfl), M.bind_ok]
    have em : maxdM (.lst (s.kids.map fun x => U.int (sd x : Nat))) 0 = .ok (.int (((s.kids.map sd).foldl max 0 : Nat) : Int)) := by
      have : (s.kids.map fun x => U.int (sd x : Nat)) = (s.kids.map fun x => ((sd x : Nat) : Int)).map .int := by rw [List.map_map]; rfl
      rw [this]
      unfold maxdM itemsL
      dsimp only
      rw [asInts_map]
      cases s <;> simp only [Sy.kids, List.map_cons, List.map_nil, mxd, List.foldl_cons, List.foldl_nil] <;> (congr 2 <;> omega)
    rw [em, M.bind_ok, ix_su0, M.bind_ok, eqM_str, M.bind_ok]
    cases s with
    | bin o a b =>
      have : decide (wd (Sy.bin o a b) = ("shown" : Str)) = false := by show decide (o.s = ("shown" : Str)) = false; cases o <;> decide
      rw [this, if_neg (by simp)]
      simp [Sy.kids, sd]
    | shown a =>
      rw [show decide (wd (Sy.shown a) = ("shown" : Str)) = true from by show decide (("shown" : Str) = "shown") = true; decide, if_pos rfl, addM_int]
      simp [Sy.kids, sd]
    | not a =>
      rw [show decide (wd (Sy.not a) = ("shown" : Str)) = false from by show decide (("not" : Str) = "shown") = false; decide, if_neg (by simp)]
      simp [Sy.kids, sd]
    | no => rfl
    | lt l =>
      rw [show decide (wd (Sy.lt l) = ("shown" : Str)) = false from by show decide (("letter" : Str) = "shown") = false; decide, if_neg (by simp)]
      rfl

theorem kids1 {f : U → M U} {a b : U} (e : f a = .ok b) : compM f [a] = .ok [b] := by
  unfold compM
  rw [sz_ok (by simp), mapC, e, M.calm_ok, M.bind_ok, mapC, M.bind_ok]
theorem kids2 {f : U → M U} {a b c d : U} (e : f a = .ok c) (e2 : f b = .ok d) : compM f [a, b] = .ok [c, d] := by
  unfold compM
  rw [sz_ok (by simp), mapC, e, M.calm_ok, M.bind_ok, mapC, e2, M.calm_ok, M.bind_ok, mapC, M.bind_ok, M.bind_ok]
/-- a skeleton: what stands for x and y is put in -/
inductive Sk
  | no | x | y | lt (l : Lt) | not (a : Sk) | bin (o : Bop) (a b : Sk)
namespace Sk
def u : Sk → U
  | no => .tup [.str "no"]
  | x => .tup [.str "letter", .str "x"]
  | y => .tup [.str "letter", .str "y"]
  | lt l => .tup [.str "letter", .str l.s]
  | not a => .tup [.str "not", a.u]
  | bin o a b => .tup [.str o.s, a.u, b.u]
def size : Sk → Nat
  | not a => 1 + a.size
  | bin _ a b => 1 + a.size + b.size
  | _ => 1
theorem size_pos (s : Sk) : 1 ≤ s.size := by cases s <;> simp only [size] <;> omega
end Sk
/-- sayings put for letters -/
def subS (g : Lt → Sy) : Sy → Sy
  | .no => .no
  | .lt l => g l
  | .not a => .not (subS g a)
  | .shown a => .shown (subS g a)
  | .bin o a b => .bin o (subS g a) (subS g b)
theorem subS_ht {g : Lt → Sy} {n : Nat} (h : ∀ l, (g l).ht ≤ n) : ∀ s : Sy, (subS g s).ht ≤ s.ht + n
  | .no => by simp only [subS]; omega
  | .lt l => by have := h l; simp only [subS]; omega
  | .not a => by have := subS_ht h a; simp only [subS, Sy.ht]; omega
  | .shown a => by have := subS_ht h a; simp only [subS, Sy.ht]; omega
  | .bin o a b => by have := subS_ht h a; have := subS_ht h b; simp only [subS, Sy.ht]; omega
/-- the dict of sayings for letters -/
def dKs (ps : List (Lt × Sy)) : List Key := ps.map fun p => .inr p.1.s
def dUs (ps : List (Lt × Sy)) : List U := ps.map fun p => su p.2
def lk (ps : List (Lt × Sy)) (l : Lt) : Option Sy := (ps.find? fun p => decide (p.1 = l)).map (·.2)
def gp (ps : List (Lt × Sy)) (l : Lt) : Sy := (lk ps l).getD (.lt l)
theorem uLook_lk : ∀ (ps : List (Lt × Sy)) (l : Lt), uLook (dKs ps) (dUs ps) (.inr l.s) = (lk ps l).map su
  | [], l => rfl
  | (m, s) :: ps, l => by
    have ih := uLook_lk ps l
    unfold uLook lk dKs dUs at ih ⊢
    rw [List.map_cons, List.map_cons, List.zip_cons_cons, List.find?_cons, List.find?_cons]
    have e : decide ((.inr m.s : Key) = .inr l.s) = decide (m = l) := by cases m <;> cases l <;> decide +kernel
    dsimp only
    rw [e]
    cases decide (m = l) with
    | false => exact ih
    | true => rfl
theorem sh_putL (ps : List (Lt × Sy)) : ∀ (k : Nat) (s : Sy), s.ht ≤ k → sh_put k [su s, .dic (dKs ps) (dUs ps)] = .ok (su (subS (gp ps) s))
  | 0, s, h => by have := Sy.ht_pos s; omega
  | k + 1, s, h => by
    rw [sh_put]
    cases s with
    | no => rfl
    | lt l =>
      have eg : getdM (.dic (dKs ps) (dUs ps)) (.str l.s) (su (.lt l)) = .ok (su (gp ps l)) := by
        show M.ok ((uLook (dKs ps) (dUs ps) (.inr l.s)).getD (su (.lt l))) = _
        rw [uLook_lk]; unfold gp; cases lk ps l <;> rfl
      rw [ix_su0, M.bind_ok, eqM_str, show decide (wd (Sy.lt l) = ("no" : Str)) = false from by show decide (("letter" : Str) = "no") = false; decide, M.bind_ok, if_neg (by simp), M.bind_ok, eqM_str, show decide (wd (Sy.lt l) = ("letter" : Str)) = true from by show decide (("letter" : Str) = "letter") = true; decide, M.bind_ok, if_pos rfl, asD_ok, M.bind_ok]
      dsimp only
      rw [show ixM (su (.lt l)) (.int 1) = .ok (.str l.s) from ix_t1, M.bind_ok, eg]; rfl
    | not a =>
      simp only [Sy.ht] at h
      have e := kids1 (f := fun x13 => (sh_put k [x13, .dic (dKs ps) (dUs ps)]).bind fun z15 => .ok z15) (a := su a) (b := su (subS (gp ps) a)) (by rw [sh_putL ps k a (by omega)]; rfl)
      simp only [su, ix_t0, M.bind_ok, eqM_str, ofS_inj, String.reduceEq, decide_false, Bool.false_eq_true, if_false, endM_int, slM_tail, iterT_tup, e, addM_lst (us := [.str "not"]) (vs := [su (subS (gp ps) a)]) (by simp), tupleM_lst, subS]
      rfl
    | shown a =>
      simp only [Sy.ht] at h
      have e := kids1 (f := fun x13 => (sh_put k [x13, .dic (dKs ps) (dUs ps)]).bind fun z15 => .ok z15) (a := su a) (b := su (subS (gp ps) a)) (by rw [sh_putL ps k a (by omega)]; rfl)
      simp only [su, ix_t0, M.bind_ok, eqM_str, ofS_inj, String.reduceEq, decide_false, Bool.false_eq_true, if_false, endM_int, slM_tail, iterT_tup, e, addM_lst (us := [.str "shown"]) (vs := [su (subS (gp ps) a)]) (by simp), tupleM_lst, subS]
      rfl
    | bin o a b =>
      simp only [Sy.ht] at h
      have e := kids2 (f := fun x13 => (sh_put k [x13, .dic (dKs ps) (dUs ps)]).bind fun z15 => .ok z15) (a := su a) (b := su b) (c := su (subS (gp ps) a)) (d := su (subS (gp ps) b)) (by rw [sh_putL ps k a (by omega)]; rfl) (by rw [sh_putL ps k b (by omega)]; rfl)
      cases o <;>
      · simp only [su, Bop.s, ix_t0, M.bind_ok, eqM_str, ofS_inj, String.reduceEq, decide_false, Bool.false_eq_true, if_false, endM_int, slM_tail, iterT_tup, e, addM_lst (us := [_]) (vs := [su (subS (gp ps) a), su (subS (gp ps) b)]) (by simp), tupleM_lst, subS]
        rfl

theorem sh_mixK {k : Nat} {ns : List Int} {i : Int} (hn : ns.length ≤ 63) (h : 0 ≤ i) (h2 : i < 1000000) : ∃ c : Int, sh__law_mix (k + 1) [.fzl (ns.map .int), .int i] = .ok (.int c) ∧ 0 ≤ c := by
  rw [sh__law_mix, lenM_fzl, M.bind_ok, gtM_int, M.bind_ok, List.length_map]
  have h0 : ∃ g : Int, ((if decide ((0 : Int) < (ns.length : Int)) = true then (M.ok (U.int (ns.length : Int))).bind fun z3 => (modM (.int i) z3).bind fun z4 => (ixM (.fzl (ns.map .int)) z4).bind fun z5 => M.ok z5 else M.ok (.int 0)) : M U) = .ok (.int g) := by
    by_cases hl : (0 : Int) < ns.length
    · obtain ⟨u, hu, e⟩ := ixM_any (i := i % ns.length) (x := .fzl (ns.map .int)) rfl (Int.emod_nonneg _ (by omega)) (by rw [List.length_map]; exact Int.emod_lt_of_pos _ hl)
      obtain ⟨n, _, rfl⟩ := List.mem_map.mp hu
      rw [decide_eq_true hl, if_pos rfl, M.bind_ok, modM_int hl, M.bind_ok, e]; exact ⟨n, rfl⟩
    · rw [decide_eq_false hl, if_neg (by simp)]; exact ⟨0, rfl⟩
  obtain ⟨g, eg⟩ := h0
  rw [eg, M.bind_ok, M.bind_ok, gtM_int, M.bind_ok]
  have hb : ∃ b : Bool, ((if decide (1 < (ns.length : Int)) = true then (ixM (.fzl (ns.map .int)) (.int 0)).bind fun z3 => (modM z3 (.int 2)).bind fun z4 => (eqM z4 (.int 1)).bind fun b5 => .ok b5 else .ok false) : M Bool) = .ok b ∧ (b = true → 1 < ns.length) := by
    by_cases h1 : (1 : Int) < ns.length
    · rw [decide_eq_true h1, if_pos rfl]
      obtain ⟨u, hu, e⟩ := ixM_any (i := 0) (x := .fzl (ns.map .int)) rfl (by decide) (by rw [List.length_map]; omega)
      obtain ⟨n, _, rfl⟩ := List.mem_map.mp hu
      rw [e, M.bind_ok, modM_int (by decide), M.bind_ok, eqM_int]
      exact ⟨_, rfl, fun _ => by omega⟩
    · rw [decide_eq_false h1, if_neg (by simp)]; exact ⟨false, rfl, fun h => by cases h⟩
  obtain ⟨b, eb, hb⟩ := hb
  rw [eb, M.bind_ok]
  cases b with
  | true =>
    have hb := hb rfl
    have hl : (0 : Int) < (ns.length : Int) - 1 := by omega
    have m1 := Int.emod_nonneg i (b := (ns.length : Int) - 1) (by omega)
    have m2 := Int.emod_lt_of_pos i hl
    have d1 := Int.ediv_nonneg h (Int.le_of_lt hl)
    obtain ⟨u, hu, e⟩ := ixM_any (i := 1 + i % ((ns.length : Int) - 1)) (x := .fzl (ns.map .int)) rfl (by omega) (by rw [List.length_map]; omega)
    obtain ⟨n, _, rfl⟩ := List.mem_map.mp hu
    have hz : ((ns.length : Int) - 1) < 18446744073709551616 := by omega
    rw [if_pos rfl, M.bind_ok, subM_int, M.bind_ok, modM_int hl, M.bind_ok, addM_int, M.bind_ok, e, M.bind_ok, M.bind_ok, subM_int, M.bind_ok, fdivM_int hl hz, M.bind_ok, show min2M (.int 60) (.int (i / ((ns.length : Int) - 1))) = .ok (.int (min 60 (i / ((ns.length : Int) - 1)))) from rfl, M.bind_ok, range1M_int (by omega) (by omega), M.bind_ok]
    obtain ⟨_, e2, c, rfl⟩ := forN_keep (f := fun v_cell_23 x24 => (powM (.int 10) (.int 9)).bind fun z25 => (fdivM v_cell_23 z25).bind fun z26 => .ok z26) (fun s => ∃ c : Int, s = .int c) (xs := rangeU 0 (min 60 (i / ((ns.length : Int) - 1))).toNat) (s := .int n) ⟨n, rfl⟩ (fun x _ s hs => by
      obtain ⟨c, rfl⟩ := hs
      rw [pow10_9, M.bind_ok, fdivM_int (by decide) (by decide)]
      exact ⟨_, rfl, _, rfl⟩)
    rw [e2, M.bind_ok, pow10_9, M.bind_ok, modM_int (by decide), M.bind_ok]
    exact ⟨_, rfl, Int.emod_nonneg _ (by decide)⟩
  | false =>
    rw [if_neg (by simp), mulM_l (by decide) (by decide), M.bind_ok, mulM_r (by omega) (by omega), M.bind_ok, addM_int, M.bind_ok, addM_int, M.bind_ok, mulM_r (by decide) (by decide), M.bind_ok, modM_int (by decide), M.bind_ok, mulM_r (by decide) (by decide), M.bind_ok, modM_int (by decide), M.bind_ok]
    exact ⟨_, rfl, Int.emod_nonneg _ (by decide)⟩
/-- a stack, perhaps empty -/
def Stk0 (n : Nat) (l : List U) : Prop := ∃ sts : List Sy, l = sts.map su ∧ tot sts ≤ n
theorem sh_built {k : Nat} {ns : List Int} {at_ count : Int} (hmix : ∀ i : Int, 0 ≤ i → i < 100000 → ∃ c : Int, sh__law_mix k [.fzl (ns.map .int), .int i] = .ok (.int c) ∧ 0 ≤ c) (h : 0 ≤ at_) (h2 : at_ < 1000) (hc : 1 ≤ count) (hc2 : count ≤ 1000) :
    Ok (sh__law_built (k + 1) [.fzl (ns.map .int), .int at_, .int count]) fun u => ∃ s : Sy, u = su s ∧ s.size + 1 ≤ 2 * count.toNat := by
  rw [sh__law_built, range1M_int (by omega) (by omega), M.bind_ok]
  refine Ok.bind (forN_inv (fun n l => Stk0 n l ∧ (0 < n → l ≠ [])) _ 0 _ ⟨⟨[], rfl, by simp [tot]⟩, by simp⟩ ?_) ?_
  · rintro n x l _ hx ⟨hl, hne⟩
    obtain ⟨i, hi, rfl⟩ := rangeU_mem (List.mem_of_getElem? hx)
    have hn' : n < count.toNat := by have := (List.getElem?_eq_some_iff.mp hx).1; rw [rangeU_len] at this; omega
    rw [addM_int, M.bind_ok]
    obtain ⟨c, e, hcc⟩ := hmix (at_ + (0 + (i : Int))) (by omega) (by omega)
    rw [e, M.bind_ok, modM_int (by decide), M.bind_ok, fdivM_int (by decide) (by decide), M.bind_ok, modM_int (by decide), M.bind_ok]
    obtain ⟨u, hu, e⟩ := ixM_any (i := c / 9 % 4) (x := .lst [.tup [.str "no"], .tup [.str "letter", .str "p"], .tup [.str "letter", .str "q"], .tup [.str "letter", .str "r"]]) rfl (by omega) (by simp; omega)
    obtain ⟨y, rfl, hy⟩ := leafs hu
    rw [e, M.bind_ok]
    refine Ok.bind (P := Stk (n + 1)) ?_ fun l hl => ⟨_, rfl, by obtain ⟨s, a, b, c⟩ := hl; exact ⟨⟨s, a, c⟩, fun _ => by rw [a]; simpa using b⟩⟩
    refine Ok.bind (P := fun b => b = false → l ≠ [] ∧ 4 ≤ c % 9) ?_ fun b hb => ?_
    · rw [ltM_int, M.bind_ok]
      refine Ok.ite (fun _ => ⟨_, rfl, by simp⟩) fun h4 => ?_
      rw [lenM_lst, M.bind_ok, eqM_int, M.bind_ok]
      exact ⟨_, rfl, fun h => ⟨fun e => by subst e; simp at h, by have := of_decide_eq_false h4; omega⟩⟩
    obtain ⟨sts, rfl, hs⟩ := hl
    have hlen := len_tot sts
    refine Ok.ite (fun _ => ?_) fun h => ?_
    · rw [appM_ok (by rw [List.length_map]; omega), M.bind_ok]
      exact ⟨_, rfl, sts ++ [y], by simp, by simp, by rw [tot_snoc]; omega⟩
    obtain ⟨hne2, h4⟩ := hb h
    have hst : Stk n (sts.map su) := ⟨sts, rfl, by simpa using hne2, hs⟩
    refine Ok.bind (P := Stk (n + 1)) ?_ fun l hl => ⟨_, rfl, hl⟩
    rw [ltM_int, M.bind_ok]
    refine Ok.ite (fun h7 => ?_) fun h7 => ?_
    · obtain ⟨u, hu, e⟩ := ixM_any (i := c % 9 - 4) (x := .lst [.str "not", .str "shown", .str "shown"]) rfl (by omega) (by have := of_decide_eq_true h7; simp; omega)
      rw [subM_int, M.bind_ok, e, M.bind_ok]
      refine hst.upd (f := fun w => .tup [u, w]) (m := 1) (fun s => ?_) fun l hl => ⟨_, rfl, hl⟩
      simp only [List.mem_cons, List.not_mem_nil, or_false] at hu
      rcases hu with rfl | rfl | rfl
      · exact ⟨.not s, rfl, by simp [Sy.size]; omega⟩
      · exact ⟨.shown s, rfl, by simp [Sy.size]; omega⟩
      · exact ⟨.shown s, rfl, by simp [Sy.size]; omega⟩
    refine Ok.bind (P := Stk (n + 1)) ?_ fun l hl => ⟨_, rfl, hl⟩
    rw [lenM_lst, M.bind_ok, gtM_int, M.bind_ok]
    refine Ok.ite (fun h2 => ?_) fun _ => ⟨_, rfl, hst.mono (by omega)⟩
    obtain ⟨a, l', e, hl', ha⟩ := hst.pop (by have := of_decide_eq_true h2; omega)
    obtain ⟨u, hu, e3⟩ := ixM_any (i := c / 9 % 3) (x := .lst [.str "and", .str "or", .str "if"]) rfl (by omega) (by simp; omega)
    obtain ⟨o, rfl⟩ := bops hu
    rw [e, M.bind_ok]
    dsimp only
    rw [M.bind_ok, modM_int (by decide), M.bind_ok, e3, M.bind_ok]
    exact hl'.upd (f := fun u => .tup [.str o.s, u, su a]) (m := 1 + a.size) (fun s => ⟨.bin o s a, rfl, by simp [Sy.size]; omega⟩) fun l hl => ⟨_, rfl, hl.mono (by omega)⟩
  · rw [rangeU_len]
    rintro l ⟨⟨ss, rfl, hss⟩, hne⟩
    have hne : ss ≠ [] := by have := hne (by omega); simpa using this
    have hlen := len_tot ss
    refine Ok.bind (whN_down (fun l => ∃ ss : List Sy, l = ss.map su ∧ ss ≠ [] ∧ tot ss + ss.length ≤ 2 * count.toNat) (fun l => ∃ s : Sy, l = [su s] ∧ s.size + 1 ≤ 2 * count.toNat) (fun l => l.length) ?_ 1000000 _ ⟨ss, rfl, hne, by omega⟩ (by rw [List.length_map]; omega)) ?_
    · rintro _ ⟨ss, rfl, hne, hss⟩
      rw [lenM_lst, M.bind_ok, gtM_int, M.bind_ok, Ok_ok, List.length_map]
      refine Classical.byCases (fun h1 : (1 : Int) < ss.length => ?_) fun h1 => ?_
      · rw [decide_eq_true h1, if_pos rfl]
        obtain ⟨ys, a, b, rfl⟩ := snoc2_of (xs := ss) (by omega)
        have e1 : popM ((ys ++ [a] ++ [b]).map su) = .ok (su b, (ys ++ [a]).map su) := by rw [List.map_append, List.map_cons, List.map_nil, popM_last]
        have e2 : (ys ++ [a]).map su = ys.map su ++ [su a] := by rw [List.map_append, List.map_cons, List.map_nil]
        obtain ⟨u, hu, e3⟩ := ixM_any (i := ((((ys ++ [a]).map su).length : Nat) : Int) % 3) (x := .lst [.str "and", .str "or", .str "if"]) rfl (by omega) (by simp; omega)
        obtain ⟨o, rfl⟩ := bops hu
        rw [tot_snoc, tot_snoc, List.length_append, List.length_append] at hss
        simp only [List.length_cons, List.length_nil] at hss
        have hly := len_tot ys
        rw [e1, M.bind_ok]
        dsimp only
        rw [lenM_lst, M.bind_ok, modM_int (by decide), M.bind_ok, e3, M.bind_ok, negM_int, M.bind_ok, e2, ix_last, M.bind_ok, M.bind_ok, setM_last, M.bind_ok, Ok_ok]
        refine ⟨⟨ys ++ [.bin o a b], by simp [su], by simp, ?_⟩, by simp⟩
        rw [tot_snoc, List.length_append]
        simp only [List.length_cons, List.length_nil, Sy.size]
        omega
      · rw [decide_eq_false h1, if_neg (by simp)]
        obtain ⟨ys, y, rfl⟩ := snoc_of hne
        have : ys = [] := by
          rw [List.length_append] at h1
          simp only [List.length_cons, List.length_nil] at h1
          exact List.length_eq_zero_iff.mp (by omega)
        subst this
        rw [tot_snoc, List.length_append] at hss
        exact ⟨y, rfl, by simp only [List.length_cons, List.length_nil] at hss; omega⟩
    · rintro _ ⟨s, rfl, hs⟩
      rw [ix_l0]
      exact ⟨_, rfl, s, rfl, hs⟩

theorem subS_size {g : Lt → Sy} {n : Nat} (h1 : 1 ≤ n) (h : ∀ l, (g l).size ≤ n) : ∀ s : Sy, (subS g s).size ≤ s.size * n
  | .no => by simp only [subS, Sy.size]; omega
  | .lt l => by have := h l; simp only [subS, Sy.size]; omega
  | .not a => by have := subS_size h1 h a; simp only [subS, Sy.size, Nat.add_mul]; omega
  | .shown a => by have := subS_size h1 h a; simp only [subS, Sy.size, Nat.add_mul]; omega
  | .bin o a b => by have := subS_size h1 h a; have := subS_size h1 h b; simp only [subS, Sy.size, Nat.add_mul]; omega
theorem subS_comp (g f : Lt → Sy) : ∀ s : Sy, subS g (subS f s) = subS (fun l => subS g (f l)) s
  | .no => rfl
  | .lt l => rfl
  | .not a => by simp only [subS, subS_comp g f a]
  | .shown a => by simp only [subS, subS_comp g f a]
  | .bin o a b => by simp only [subS, subS_comp g f a, subS_comp g f b]
/-- the letters that are left -/
theorem subS_lts (g : Lt → Sy) (l : Lt) : ∀ s : Sy, Sy.lt l ∈ partsL (subS g s) ↔ ∃ m, Sy.lt m ∈ partsL s ∧ Sy.lt l ∈ partsL (g m)
  | .no => by simp [subS, partsL]
  | .lt m => by simp [subS, partsL]
  | .not a => by
    rw [subS, partsL_kids, partsL_kids (.not a)]
    simp only [Sy.kids, List.flatMap_cons, List.flatMap_nil, List.append_nil, List.mem_cons, reduceCtorEq, false_or]
    exact subS_lts g l a
  | .shown a => by
    rw [subS, partsL_kids, partsL_kids (.shown a)]
    simp only [Sy.kids, List.flatMap_cons, List.flatMap_nil, List.append_nil, List.mem_cons, reduceCtorEq, false_or]
    exact subS_lts g l a
  | .bin o a b => by
    rw [subS, partsL_kids, partsL_kids (.bin o a b)]
    simp only [Sy.kids, List.flatMap_cons, List.flatMap_nil, List.append_nil, List.mem_cons, reduceCtorEq, false_or, List.mem_append, subS_lts g l a, subS_lts g l b]
    constructor
    · rintro (⟨m, h1, h2⟩ | ⟨m, h1, h2⟩)
      · exact ⟨m, .inl h1, h2⟩
      · exact ⟨m, .inr h1, h2⟩
    · rintro ⟨m, h1 | h1, h2⟩
      · exact .inl ⟨m, h1, h2⟩
      · exact .inr ⟨m, h1, h2⟩
theorem sd_ge (g : Lt → Sy) : ∀ s : Sy, sd s ≤ sd (subS g s)
  | .no => Nat.le_refl _
  | .lt m => Nat.zero_le _
  | .not a => sd_ge g a
  | .shown a => by have := sd_ge g a; simp only [subS, sd]; omega
  | .bin o a b => by have := sd_ge g a; have := sd_ge g b; simp only [subS, sd]; omega
theorem sd_le (g : Lt → Sy) (M : Nat) : ∀ s : Sy, (∀ m, Sy.lt m ∈ partsL s → sd (g m) ≤ M) → sd (subS g s) ≤ sd s + M
  | .no, _ => Nat.zero_le _
  | .lt m, h => by have := h m (by simp [partsL]); simp only [subS, sd]; omega
  | .not a, h => sd_le g M a fun m hm => h m (by rw [partsL_kids]; simp [Sy.kids, hm])
  | .shown a, h => by have := sd_le g M a fun m hm => h m (by rw [partsL_kids]; simp [Sy.kids, hm]); simp only [subS, sd]; omega
  | .bin o a b, h => by
    have := sd_le g M a fun m hm => h m (by rw [partsL_kids]; simp [Sy.kids, hm])
    have := sd_le g M b fun m hm => h m (by rw [partsL_kids]; simp [Sy.kids, hm])
    simp only [subS, sd]; omega
/-- a saying put into the dict -/
def putP (ps : List (Lt × Sy)) (l : Lt) (s : Sy) : List (Lt × Sy) := if l ∈ ps.map (·.1) then ps.map fun q => if q.1 = l then (q.1, s) else q else ps ++ [(l, s)]
theorem key_eq {l m : Lt} : ((Sum.inr l.s : Key) = .inr m.s) ↔ l = m := ⟨fun e => Sy.lt_s_inj.mp (Sum.inr.inj e), fun e => by rw [e]⟩
theorem put_ps {ps : List (Lt × Sy)} {l : Lt} {s : Sy} (h : ps.length ≤ 1000) : putM (dKs ps, dUs ps) (.str l.s) (su s) = .ok (dKs (putP ps l s), dUs (putP ps l s)) := by
  have e : hasK (dKs ps) (.inr l.s) = decide (l ∈ ps.map (·.1)) := by
    unfold hasK dKs
    rw [Bool.eq_iff_iff, decide_eq_true_eq, List.any_map, List.any_eq_true, List.mem_map]
    constructor
    · rintro ⟨p, hp, z⟩
      exact ⟨p, hp, key_eq.mp (of_decide_eq_true z)⟩
    · rintro ⟨p, hp, z⟩
      exact ⟨p, hp, decide_eq_true (key_eq.mpr z)⟩
  show sz (dKs ps).length (.ok (putKs (dKs ps) (.inr l.s), putDs (dKs ps) (dUs ps) (.inr l.s) (su s))) = _
  rw [sz_ok (by unfold dKs; rw [List.length_map]; omega)]
  unfold putKs putDs putP
  rw [e]
  by_cases z : l ∈ ps.map (·.1)
  · rw [decide_eq_true z, if_pos rfl, if_pos rfl, if_pos z]
    congr 2
    · unfold dKs
      rw [List.map_map]
      exact List.map_congr_left fun q _ => by simp only [Function.comp]; split <;> rfl
    · unfold dKs dUs
      rw [List.zip_map', List.map_map, List.map_map]
      refine List.map_congr_left fun q _ => ?_
      dsimp only [Function.comp]
      by_cases hq : q.1 = l
      · rw [if_pos (key_eq.mpr hq), if_pos hq]
      · rw [if_neg fun x => hq (key_eq.mp x), if_neg hq]
  · rw [decide_eq_false z, if_neg (by simp), if_neg (by simp), if_neg z]
    unfold dKs dUs
    rw [List.map_append, List.map_append]; rfl
theorem rpq_of {i : Int} (h : 0 ≤ i) (h2 : i < 3) : ∃ l : Lt, ixM (.str "rpq") (.int i) = .ok (.str l.s) := by
  have : i = 0 ∨ i = 1 ∨ i = 2 := by omega
  rcases this with rfl | rfl | rfl
  · exact ⟨.r, by rfl⟩
  · exact ⟨.p, by rfl⟩
  · exact ⟨.q, by rfl⟩
theorem putP_le {ps : List (Lt × Sy)} {l : Lt} {s : Sy} {n : Nat} (h : ∀ q ∈ ps, q.2.size ≤ n) (hs : s.size ≤ n) : (∀ q ∈ putP ps l s, q.2.size ≤ n) ∧ (putP ps l s).length ≤ ps.length + 1 := by
  unfold putP
  split
  · refine ⟨fun q hq => ?_, by rw [List.length_map]; omega⟩
    obtain ⟨p, hp, rfl⟩ := List.mem_map.mp hq
    split
    · exact hs
    · exact h p hp
  · refine ⟨fun q hq => ?_, by simp⟩
    rcases List.mem_append.mp hq with z | z
    · exact h q z
    · rw [List.mem_singleton] at z; subst z; exact hs
theorem gp_le {ps : List (Lt × Sy)} {n : Nat} (h1 : 1 ≤ n) (h : ∀ q ∈ ps, q.2.size ≤ n) (l : Lt) : (gp ps l).size ≤ n := by
  unfold gp lk
  cases e : ps.find? fun p => decide (p.1 = l) with
  | none => exact h1
  | some q => exact h q (List.mem_of_find?_eq_some e)
theorem sh_dict {k : Nat} {ns : List Int} {a : Int} (hn : ns.length ≤ 63) (h : 0 ≤ a) (h2 : a < 100) : ∃ ps : List (Lt × Sy), sh__law_dict (k + 3) [.fzl (ns.map .int), .int a, .int 3] = .ok (.dic (dKs ps) (dUs ps)) ∧ ∀ q ∈ ps, q.2.size ≤ 5 := by
  suffices q : Ok (sh__law_dict (k + 3) [.fzl (ns.map .int), .int a, .int 3]) fun u => ∃ ps : List (Lt × Sy), u = .dic (dKs ps) (dUs ps) ∧ ∀ q ∈ ps, q.2.size ≤ 5 by
    obtain ⟨u, e, ps, rfl, r⟩ := q
    exact ⟨ps, e, r⟩
  rw [sh__law_dict, range1M_int (by decide) (by decide), M.bind_ok]
  refine Ok.bind (forN_inv (fun n (d : Dc) => ∃ ps : List (Lt × Sy), d = (dKs ps, dUs ps) ∧ ps.length ≤ n ∧ ∀ q ∈ ps, q.2.size ≤ 5) _ 0 _ ⟨[], rfl, by simp, by simp⟩ ?_) ?_
  · rintro n x d _ hx ⟨ps, rfl, hl, hps⟩
    obtain ⟨i, hi, rfl⟩ := rangeU_mem (List.mem_of_getElem? hx)
    have hn3 : n < 3 := by have := (List.getElem?_eq_some_iff.mp hx).1; rw [rangeU_len] at this; simpa using this
    have hi3 : i < 3 := by simpa using hi
    obtain ⟨c, e, hc⟩ := sh_mixK (k := k + 1) hn (i := a + 9 * (0 + (i : Int))) (by omega) (by omega)
    rw [mulM_l (by decide) (by decide), M.bind_ok, addM_int, M.bind_ok, e, M.bind_ok, modM_int (by decide), M.bind_ok, gtM_int, M.bind_ok]
    have m1 := Int.emod_nonneg (c / 12) (b := 3) (by decide)
    have m2 := Int.emod_lt_of_pos (c / 12) (b := 3) (by decide)
    have m3 := Int.emod_nonneg (0 + (i : Int) + c / 4) (b := 3) (by decide)
    have m4 := Int.emod_lt_of_pos (0 + (i : Int) + c / 4) (b := 3) (by decide)
    refine Ok.bind (P := fun d : Dc => ∃ ps : List (Lt × Sy), d = (dKs ps, dUs ps) ∧ ps.length ≤ n + 1 ∧ ∀ q ∈ ps, q.2.size ≤ 5) ?_ fun d hd => ⟨_, rfl, hd⟩
    refine Ok.ite (fun _ => ?_) fun _ => ⟨_, rfl, ps, rfl, by omega, hps⟩
    obtain ⟨u, eb, s, rfl, hs⟩ := sh_built (k := k + 1) (ns := ns) (at_ := a + 1 + 9 * (0 + (i : Int))) (count := 1 + c / 12 % 3) (fun j h h2 => sh_mixK (k := k) hn h (by omega)) (by omega) (by omega) (by omega) (by omega)
    obtain ⟨l, el⟩ := rpq_of m3 m4
    rw [addM_int, M.bind_ok, M.bind_ok, addM_int, M.bind_ok, fdivM_int (by decide) (by decide), M.bind_ok, modM_int (by decide), M.bind_ok, addM_int, M.bind_ok, eb, M.bind_ok, fdivM_int (by decide) (by decide), M.bind_ok, addM_int, M.bind_ok, modM_int (by decide), M.bind_ok, el, M.bind_ok, put_ps (by omega), M.bind_ok]
    obtain ⟨q1, q2⟩ := putP_le (l := l) hps (show s.size ≤ 5 by omega)
    exact ⟨_, rfl, _, rfl, by omega, q1⟩
  · rintro _ ⟨ps, rfl, _, hps⟩
    exact ⟨_, rfl, ps, rfl, hps⟩
theorem pls_strs (ts : List Str) : PyData.plainAll (pyUs (ts.map .str)) = true := by
  induction ts with
  | nil => rfl
  | cons s ss ih => rw [List.map_cons, pyUs, PyData.plainAll, ih, Bool.and_true]; rfl
theorem dps_strs (ts : List Str) : PyData.depthAll (pyUs (ts.map .str)) = 0 := by
  induction ts with
  | nil => rfl
  | cons s ss ih => rw [List.map_cons, pyUs, PyData.depthAll, ih]; rfl
theorem eqM_lts {ls : List Lt} : eqM (.lst (ls.map ltU)) (.lst (ls.map ltU)) = .ok true := by
  have : ls.map ltU = (ls.map Lt.s).map .str := by rw [List.map_map]; rfl
  rw [this]
  exact eqM_rfl (pl_lst (pls_strs _)) (by have := dp_lst (n := 0) (us := (ls.map Lt.s).map .str) (by rw [dps_strs]; exact Nat.le_refl _); omega)
/-- the greatest of some numbers, 0 for none -/
theorem mxd_ok {is : List Nat} : ∃ m : Nat, maxdM (.lst (is.map fun i => U.int (i : Nat))) 0 = .ok (.int (m : Nat)) ∧ ∀ i ∈ is, i ≤ m := by
  have e : (is.map fun i => U.int ((i : Nat) : Int)) = (is.map fun i => ((i : Nat) : Int)).map .int := by rw [List.map_map]; rfl
  rw [e]
  unfold maxdM itemsL
  dsimp only
  rw [asInts_map]
  cases is with
  | nil => exact ⟨0, rfl, by simp⟩
  | cons n is =>
    obtain ⟨f1, f2, f3⟩ := foldl_max (is.map fun i => ((i : Nat) : Int)) n
    obtain ⟨m, hm⟩ : ∃ m : Nat, (is.map fun i => ((i : Nat) : Int)).foldl max (n : Int) = (m : Nat) := ⟨((is.map fun i => ((i : Nat) : Int)).foldl max (n : Int)).toNat, by omega⟩
    refine ⟨m, ?_, fun i hi => ?_⟩
    · show M.ok (U.int ((is.map fun i => ((i : Nat) : Int)).foldl max (n : Int))) = _
      rw [hm]
    · rw [hm] at f2 f3
      rcases List.mem_cons.mp hi with rfl | z
      · omega
      · have := f3 _ (List.mem_map.mpr ⟨i, z, rfl⟩); omega
def allow (b : Lt → Sy) (ls : List Lt) : List Lt := ls.flatMap fun l => ltsOf (b l)
theorem pure_law (ns : List Int) (hn : ns.length ≤ 63) : sh_law (300 + 1) [.fzl (ns.map .int)] = .ok (.bl true) := by
  obtain ⟨c, ec, hc⟩ := sh_mixK (k := 299) hn (i := 0) (by decide) (by decide)
  have m1 := Int.emod_nonneg c (b := 6) (by decide)
  have m2 := Int.emod_lt_of_pos c (b := 6) (by decide)
  obtain ⟨u, eb, s, rfl, hs⟩ := sh_built (k := 299) (ns := ns) (at_ := 1) (count := 1 + c % 6) (fun j h h2 => sh_mixK (k := 298) hn h (by omega)) (by decide) (by decide) (by omega) (by omega)
  have hs : s.size ≤ 11 := by omega
  obtain ⟨p1, e1, l1⟩ := sh_dict (k := 297) hn (a := 8) (by decide) (by decide)
  obtain ⟨p2, e2, l2⟩ := sh_dict (k := 297) hn (a := 36) (by decide) (by decide)
  have g1 := gp_le (by decide) l1
  have g2 := gp_le (by decide) l2
  have hh := Sy.ht_size s
  have z1 := subS_size (by decide) g1 s
  have y1 := Sy.ht_size (subS (gp p1) s)
  have z3 : ∀ l, (subS (gp p2) (gp p1 l)).size ≤ 25 := fun l => by have := subS_size (by decide) g2 (gp p1 l); have := g1 l; omega
  have y3 : ∀ l, (subS (gp p2) (gp p1 l)).ht ≤ 25 := fun l => Nat.le_trans (Sy.ht_size _) (z3 l)
  have y4 : ∀ l, (gp p1 l).ht ≤ 5 := fun l => Nat.le_trans (Sy.ht_size _) (g1 l)
  let b : Lt → Sy := fun l => subS (gp p2) (gp p1 l)
  let bs : List (Lt × Sy) := [(.p, b .p), (.q, b .q), (.r, b .r)]
  have hbs : gp bs = b := by funext l; cases l <;> rfl
  have hF : subS b s = subS (gp p2) (subS (gp p1) s) := (subS_comp _ _ s).symm
  have y2 : (subS b s).ht ≤ s.ht + 25 := subS_ht y3 s
  have z2 : (subS b s).size ≤ s.size * 25 := subS_size (by decide) z3 s
  have one : ∀ l : Lt, getdM (.dic (dKs p1) (dUs p1)) (.str l.s) (.tup [.str "letter", .str l.s]) = .ok (su (gp p1 l)) := fun l => by
    show M.ok ((uLook (dKs p1) (dUs p1) (.inr l.s)).getD (su (.lt l))) = _
    rw [uLook_lk]; unfold gp; cases lk p1 l <;> rfl
  have two : ∀ l : Lt, sh_put 300 [su (gp p1 l), .dic (dKs p2) (dUs p2)] = .ok (su (b l)) := fun l => sh_putL p2 300 _ (by have := y4 l; omega)
  have lit : (U.lst [.str "p", .str "q", .str "r"]) = .lst ([Lt.p, .q, .r].map fun l => .str l.s) := rfl
  rw [sh_law, ec, M.bind_ok, modM_int (by decide), M.bind_ok, addM_int, M.bind_ok, eb, M.bind_ok, e1, M.bind_ok, e2, M.bind_ok, lit, iterL_lst, M.bind_ok]
  have loop : forN (fun (v_both_8 : Dc) x9 =>
        (asD (.dic (dKs p1) (dUs p1))).bind fun (dk11, du12) =>
        (getdM (.dic dk11 du12) x9 (.tup [.str "letter", x9])).bind fun z10 =>
        (sh_put 300 [z10, .dic (dKs p2) (dUs p2)]).bind fun z13 =>
        (putM v_both_8 x9 z13).bind fun l14 =>
        M.ok l14) ([Lt.p, .q, .r].map fun l => U.str l.s) (dKs [], dUs []) = .ok (dKs bs, dUs bs) := by
    simp only [List.map_cons, List.map_nil, forN, asD_ok, M.bind_ok, one, two]
    rw [put_ps (by simp), M.bind_ok, M.bind_ok, put_ps (by unfold putP; split <;> simp), M.bind_ok, M.bind_ok, put_ps (by unfold putP; split <;> (try split) <;> simp <;> (try split) <;> simp)]
    rfl
  refine (congrArg (fun m => M.bind m _) loop).trans ?_
  rw [M.bind_ok, sh_putL p1 300 s (by omega), M.bind_ok, sh_putL p2 300 _ (by omega), M.bind_ok, sh_putL bs 300 s (by omega), M.bind_ok, hbs, hF, nB_ok, eqM_su (by rw [← hF]; omega), decide_eq_true rfl, M.bind_ok, M.bind_ok, Bool.not_true, if_neg (by simp), ← hF]
  have bl : ∀ l : Lt, ixdM (.dic (dKs bs) (dUs bs)) (.str l.s) = .ok (su (b l)) := fun l => by
    show (match uLook (dKs bs) (dUs bs) (.inr l.s) with | some u => M.ok u | none => .stuck) = _
    rw [uLook_lk]; cases l <;> rfl
  have el : sh_letters_of 300 [su s] = .ok ((ltsOf s).map ltU) := sh_letters (k := 297) (by omega) (by omega) (by omega)
  have elb : ∀ l, sh_letters_of 300 [su (b l)] = .ok ((ltsOf (b l)).map ltU) := fun l => sh_letters (k := 297) (by have := y3 l; show (subS _ _).ht ≤ _; omega) (by have := z3 l; show (subS _ _).size ≤ _; omega) (by have := y3 l; show (subS _ _).ht ≤ _; omega)
  have elF : sh_letters_of 300 [su (subS b s)] = .ok ((ltsOf (subS b s)).map ltU) := sh_letters (k := 297) (by omega) (by show (subS _ _).size ≤ _; omega) (by omega)
  have l3 := ltsOf_len s
  have ha : ∀ ls : List Lt, (allow b ls).length ≤ 3 * ls.length := fun ls => by
    induction ls with
    | nil => simp [allow]
    | cons l ls ih => have := ltsOf_len (b l); unfold allow at ih ⊢; rw [List.flatMap_cons, List.length_append, List.length_cons]; omega
  rw [el, M.bind_ok, iterL_lst, M.bind_ok]
  have loop2 : ∀ (ls acc : List Lt), acc.length + 3 * ls.length ≤ 1000 → forN (fun v_allowed_22 x23 =>
          (ixdM (.dic (dKs bs) (dUs bs)) x23).bind fun z24 =>
          (sh_letters_of 300 [z24]).bind fun z25 =>
          (extM v_allowed_22 (.lst z25)).bind fun l26 =>
          M.ok l26) (ls.map ltU) (acc.map ltU) = .ok ((acc ++ allow b ls).map ltU) := by
    intro ls
    induction ls with
    | nil => intro acc _; simp [forN, allow]
    | cons l ls ih =>
      intro acc h
      have := ltsOf_len (b l)
      rw [List.length_cons] at h
      rw [List.map_cons, forN, show ltU l = .str l.s from rfl, bl, M.bind_ok, elb, M.bind_ok, extM_ok (by rw [List.length_map, List.length_map]; omega), M.bind_ok, M.bind_ok, ← List.map_append, ih _ (by rw [List.length_append]; omega)]
      congr 2
      unfold allow
      rw [List.flatMap_cons, List.append_assoc]
  refine (congrArg (fun m => M.bind m _) (loop2 (ltsOf s) [] (by simp; omega))).trans ?_
  rw [M.bind_ok, elF, M.bind_ok, sortsetM_lt rfl (by have := ltsOf_len (subS b s); omega), M.bind_ok, List.nil_append, sortsetM_lt rfl (by have := ha (ltsOf s); omega), M.bind_ok, ltsU_ext (ls := ltsOf (subS b s)) (ms := allow b (ltsOf s)) (fun l => by
    unfold allow
    rw [mem_ltsOf, subS_lts, List.mem_flatMap]
    simp only [mem_ltsOf]), nB_ok, eqM_lts, M.bind_ok, M.bind_ok, Bool.not_true, if_neg (by simp)]
  have esd : ∀ t : Sy, t.ht ≤ 299 → sh_depth_of 300 [su t] = .ok (.int (sd t : Nat)) := fun t h => sh_sd 299 t h
  obtain ⟨m, em, hm⟩ := mxd_ok (is := (ltsOf s).map fun l => sd (b l))
  rw [List.map_map] at em
  have q1 := sd_ge b s
  have q2 := sd_le b m s fun l hl => hm _ (List.mem_map.mpr ⟨l, mem_ltsOf.mpr hl, rfl⟩)
  rw [M.bind_ok, iterL_lst, M.bind_ok]
  dsimp only
  rw [compM_ok ltU (fun l => .int (sd (b l) : Nat)) (by omega) (fun l _ => by
    rw [show ltU l = .str l.s from rfl, bl, M.bind_ok, esd _ (by have := y3 l; show (subS _ _).ht ≤ _; omega)]; rfl), M.bind_ok]
  refine (congrArg (fun m => M.bind m _) em).trans ?_
  rw [M.bind_ok, esd s (by omega), M.bind_ok, esd _ (by omega), M.bind_ok, vB_ok, show leM (.int (sd s : Nat)) (.int (sd (subS b s) : Nat)) = .ok (decide (((sd s : Nat) : Int) ≤ (sd (subS b s) : Nat))) from rfl, decide_eq_true (by omega), M.bind_ok, M.bind_ok, boolM_bl, M.bind_ok, if_pos rfl, M.bind_ok, M.bind_ok, addM_int, M.bind_ok, vB_ok, show leM (.int (sd (subS b s) : Nat)) (.int ((sd s : Nat) + (m : Nat))) = .ok (decide (((sd (subS b s) : Nat) : Int) ≤ (sd s : Nat) + (m : Nat))) from rfl, decide_eq_true (by omega)]
  rfl
--#end 300

def topS (i : Nat) : Stmt := PySem.Challenge.pw_selfsay_k04_whole_put_behind_one_another.main.body.getD i (.Pass ⟨0, 0, 0, 0⟩)
/-- what the text told -/
structure Tp (G : Gl) (κ : Kl) : Prop where
  z_len : G.mg "len" = none
  z_list : G.mg "list" = none
  z_tuple : G.mg "tuple" = none
  z_max : G.mg "max" = none
  z_min : G.mg "min" = none
  z_range : G.mg "range" = none
  z_sorted : G.mg "sorted" = none
  z_set : G.mg "set" = none
  d_inner_of : DefAt G.K G.mg "inner_of" (topS 1) ["saying"]
  d_depth_of : DefAt G.K G.mg "depth_of" (topS 2) ["saying"]
  d_gather : DefAt G.K G.mg "gather" (topS 3) ["saying", "found"]
  d_each_once : DefAt G.K G.mg "each_once" (topS 4) ["some"]
  d_parts_of : DefAt G.K G.mg "parts_of" (topS 5) ["saying"]
  d_letters_of : DefAt G.K G.mg "letters_of" (topS 6) ["saying"]
  d_put : DefAt G.K G.mg "put" (topS 7) ["saying", "sayings"]
  d__law_mix : DefAt G.K G.mg "_law_mix" (topS 9) ["_law_script", "_law_k"]
  d__law_built : DefAt G.K G.mg "_law_built" (topS 10) ["_law_script", "_law_at", "_law_count"]
  d__law_dict : DefAt G.K G.mg "_law_dict" (topS 11) ["_law_script", "_law_at", "_law_count"]
  d_law : DefAt G.K G.mg "law" (topS 12) ["_law_script"]
variable {G : Gl} {κ : Kl}
abbrev st__law_mix : Stmt := topS 9
abbrev N__law_mix : List Str := ["_law_script", "_law_k", "_law_cell", "_law_turn"]
abbrev vs__law_mix : List Bool := [true, true, true, true]
abbrev gl__law_mix : List Str := ["len", "range", "min"]
theorem sc__law_mix : FnScope N__law_mix ["_law_script", "_law_k"] (defScope st__law_mix) := ⟨rfl, rfl, rfl, by decide +kernel, rfl, by decide +kernel, by decide +kernel⟩
theorem gd__law_mix : goodC N__law_mix (defScope st__law_mix) vs__law_mix vs__law_mix gl__law_mix = true := by decide +kernel
@[reducible] def cx__law_mix (G : Gl) (k : Nat) : Pl.Ctx := G.cx N__law_mix (defScope st__law_mix) vs__law_mix vs__law_mix gl__law_mix k

theorem ok__law_mix (T : Tp G κ) : ∀ k, G.fn k "_law_mix" 2 (spV κ 2 (sh__law_mix k))
  | 0 => fn_none T.d__law_mix (spV_none fun us => rfl)
  | kk + 1 => by
    refine def_V T.d__law_mix sc__law_mix gd__law_mix fun us hl Q Eh h => ?_
    have hE : EI κ Eh (erM κ Eh) := EI.erM
    obtain ⟨v_script, v_k, rfl⟩ := len2 hl
    change WSs _ [some (em κ v_script), some (em κ v_k), none, none] _ (_ :: _) _
    rw [sh__law_mix] at h
    refine wss_cons ?_
    refine ws_set (i := 2) rfl rfl ?_ rfl
    refine we_int ?_
    refine wss_cons ?_
    refine ws_cutM (fun (st : U) (Γ : Pl.Env) (Λ : Cells) => ∃ (y0 : Option D), Γ = [some (em κ v_script), some (em κ v_k), some (em κ st), y0] ∧ Λ = []) h (fun Q1 h => ?_) (fun v_cell_6 Γ Λ hs h => ?_)
    · refine ws_if ?_
      refine wt_gtM (κ := κ) ?_
      refine we_lenM (κ := κ) ⟨0, rfl⟩ T.z_len ?_
      refine we_name (i := 0) rfl rfl rfl ?_
      refine fin1 (f := lenM) v_script (vE (u := v_script)) ‹_› fun z1 h => ?_
      refine we_int ?_
      refine fin2 (f := gtM) z1 (.int 0) (vE (u := z1)) (vE (u := .int 0)) ‹_› fun b2 h => ?_
      refine ite_m ‹_› (fun h => ?_) (fun h => ?_)
      · refine wss_cons ?_
        refine ws_set (i := 2) rfl rfl ?_ rfl
        refine we_ixM (κ := κ) ?_
        refine we_name (i := 0) rfl rfl rfl ?_
        refine we_modM (κ := κ) ?_
        refine we_name (i := 1) rfl rfl rfl ?_
        refine we_lenM (κ := κ) ⟨0, rfl⟩ T.z_len ?_
        refine we_name (i := 0) rfl rfl rfl ?_
        refine fin1 (f := lenM) v_script (vE (u := v_script)) ‹_› fun z3 h => ?_
        refine fin2 (f := modM) v_k z3 (vE (u := v_k)) (vE (u := z3)) ‹_› fun z4 h => ?_
        refine fin2 (f := ixM) v_script z4 (vE (u := v_script)) (vE (u := z4)) ‹_› fun z5 h => ?_
        refine wss_nil ?_
        exact ⟨z5, ⟨_, rfl, rfl⟩, h⟩
      · refine wss_nil ?_
        exact ⟨(.int 0), ⟨_, rfl, rfl⟩, h⟩
    · obtain ⟨y0, rfl, rfl⟩ := hs
      refine wss_cons ?_
      refine ws_if ?_
      refine wt_cutM ‹_› (fun Q1 h => ?_) (fun b12 h => ?_)
      · refine wt_ww (ww_and ?_)
        refine wt_gtM (κ := κ) ?_
        refine we_lenM (κ := κ) ⟨0, rfl⟩ T.z_len ?_
        refine we_name (i := 0) rfl rfl rfl ?_
        refine fin1 (f := lenM) v_script (vE (u := v_script)) ‹_› fun z7 h => ?_
        refine we_int ?_
        refine fin2 (f := gtM) z7 (.int 1) (vE (u := z7)) (vE (u := .int 1)) ‹_› fun b8 h => ?_
        refine ite_m ‹_› (fun h => ?_) (fun h => ?_)
        · refine ww_and1 ?_
          refine wt_eqM (κ := κ) ?_
          refine we_modM (κ := κ) ?_
          refine we_ixM (κ := κ) ?_
          refine we_name (i := 0) rfl rfl rfl ?_
          refine we_int ?_
          refine fin2 (f := ixM) v_script (.int 0) (vE (u := v_script)) (vE (u := .int 0)) ‹_› fun z9 h => ?_
          refine we_int ?_
          refine fin2 (f := modM) z9 (.int 2) (vE (u := z9)) (vE (u := .int 2)) ‹_› fun z10 h => ?_
          refine we_int ?_
          refine fin2 (f := eqM) z10 (.int 1) (vE (u := z10)) (vE (u := .int 1)) ‹_› fun b11 h => ?_
          exact ⟨rfl, h⟩
        · exact ⟨rfl, h⟩
      refine ite_m ‹_› (fun h => ?_) (fun h => ?_)
      · refine wss_cons ?_
        refine ws_set (i := 2) rfl rfl ?_ rfl
        refine we_ixM (κ := κ) ?_
        refine we_name (i := 0) rfl rfl rfl ?_
        refine we_addM (κ := κ) ?_
        refine we_int ?_
        refine we_modM (κ := κ) ?_
        refine we_name (i := 1) rfl rfl rfl ?_
        refine we_subM (κ := κ) ?_
        refine we_lenM (κ := κ) ⟨0, rfl⟩ T.z_len ?_
        refine we_name (i := 0) rfl rfl rfl ?_
        refine fin1 (f := lenM) v_script (vE (u := v_script)) ‹_› fun z13 h => ?_
        refine we_int ?_
        refine fin2 (f := subM) z13 (.int 1) (vE (u := z13)) (vE (u := .int 1)) ‹_› fun z14 h => ?_
        refine fin2 (f := modM) v_k z14 (vE (u := v_k)) (vE (u := z14)) ‹_› fun z15 h => ?_
        refine fin2 (f := addM) (.int 1) z15 (vE (u := .int 1)) (vE (u := z15)) ‹_› fun z16 h => ?_
        refine fin2 (f := ixM) v_script z16 (vE (u := v_script)) (vE (u := z16)) ‹_› fun z17 h => ?_
        refine wss_cons ?_
        refine ws_for [3] ?_
        refine wi_range1M (κ := κ) ⟨1, rfl⟩ T.z_range ?_
        refine we_min2M (κ := κ) ⟨2, rfl⟩ T.z_min ?_
        refine we_int ?_
        refine we_fdivM (κ := κ) ?_
        refine we_name (i := 1) rfl rfl rfl ?_
        refine we_subM (κ := κ) ?_
        refine we_lenM (κ := κ) ⟨0, rfl⟩ T.z_len ?_
        refine we_name (i := 0) rfl rfl rfl ?_
        refine fin1 (f := lenM) v_script (vE (u := v_script)) ‹_› fun z19 h => ?_
        refine we_int ?_
        refine fin2 (f := subM) z19 (.int 1) (vE (u := z19)) (vE (u := .int 1)) ‹_› fun z20 h => ?_
        refine fin2 (f := fdivM) v_k z20 (vE (u := v_k)) (vE (u := z20)) ‹_› fun z21 h => ?_
        refine fin2 (f := min2M) (.int 60) z21 (vE (u := .int 60)) (vE (u := z21)) ‹_› fun z22 h => ?_
        refine fin1 (f := range1M) z22 (vE (u := z22)) ‹_› fun it18 h => ?_
        refine loopN_m (fun (st : U) (Γ : Pl.Env) (Λ : Cells) => ∃ (y0 : Option D), Γ = [some (em κ v_script), some (em κ v_k), some (em κ st), y0] ∧ Λ = []) h ⟨_, rfl, rfl⟩ (fun v_cell_23 x24 Γ Λ Q1 hs h => ?_) (fun v_cell_27 Γ Λ hs h => ?_)
        · obtain ⟨y0, rfl, rfl⟩ := hs
          refine wg_name (i := 3) rfl rfl ?_
          refine wss_cons ?_
          refine ws_set (i := 2) rfl rfl ?_ rfl
          refine we_fdivM (κ := κ) ?_
          refine we_name (i := 2) rfl rfl rfl ?_
          refine we_powM (κ := κ) ?_
          refine we_int ?_
          refine we_int ?_
          refine fin2 (f := powM) (.int 10) (.int 9) (vE (u := .int 10)) (vE (u := .int 9)) ‹_› fun z25 h => ?_
          refine fin2 (f := fdivM) v_cell_23 z25 (vE (u := v_cell_23)) (vE (u := z25)) ‹_› fun z26 h => ?_
          refine wss_nil ?_
          exact ⟨z26, ⟨_, rfl, rfl⟩, h⟩
        · obtain ⟨y0, rfl, rfl⟩ := hs
          refine wss_cons ?_
          refine ws_ret ?_
          refine we_modM (κ := κ) ?_
          refine we_name (i := 2) rfl rfl rfl ?_
          refine we_powM (κ := κ) ?_
          refine we_int ?_
          refine we_int ?_
          refine fin2 (f := powM) (.int 10) (.int 9) (vE (u := .int 10)) (vE (u := .int 9)) ‹_› fun z28 h => ?_
          refine fin2 (f := modM) v_cell_27 z28 (vE (u := v_cell_27)) (vE (u := z28)) ‹_› fun z29 h => ?_
          exact rtV_v (u := z29) h
      · refine wss_nil ?_
        refine wss_cons ?_
        refine ws_ret ?_
        refine we_modM (κ := κ) ?_
        refine we_mulM (κ := κ) ?_
        refine we_modM (κ := κ) ?_
        refine we_mulM (κ := κ) ?_
        refine we_addM (κ := κ) ?_
        refine we_addM (κ := κ) ?_
        refine we_name (i := 2) rfl rfl rfl ?_
        refine we_mulM (κ := κ) ?_
        refine we_mulM (κ := κ) ?_
        refine we_int ?_
        refine we_name (i := 1) rfl rfl rfl ?_
        refine fin2 (f := mulM) (.int 7) v_k (vE (u := .int 7)) (vE (u := v_k)) ‹_› fun z30 h => ?_
        refine we_name (i := 1) rfl rfl rfl ?_
        refine fin2 (f := mulM) z30 v_k (vE (u := z30)) (vE (u := v_k)) ‹_› fun z31 h => ?_
        refine fin2 (f := addM) v_cell_6 z31 (vE (u := v_cell_6)) (vE (u := z31)) ‹_› fun z32 h => ?_
        refine we_int ?_
        refine fin2 (f := addM) z32 (.int 11) (vE (u := z32)) (vE (u := .int 11)) ‹_› fun z33 h => ?_
        refine we_int ?_
        refine fin2 (f := mulM) z33 (.int 48271) (vE (u := z33)) (vE (u := .int 48271)) ‹_› fun z34 h => ?_
        refine we_int ?_
        refine fin2 (f := modM) z34 (.int 2147483647) (vE (u := z34)) (vE (u := .int 2147483647)) ‹_› fun z35 h => ?_
        refine we_int ?_
        refine fin2 (f := mulM) z35 (.int 69621) (vE (u := z35)) (vE (u := .int 69621)) ‹_› fun z36 h => ?_
        refine we_int ?_
        refine fin2 (f := modM) z36 (.int 1000000007) (vE (u := z36)) (vE (u := .int 1000000007)) ‹_› fun z37 h => ?_
        exact rtV_v (u := z37) h

abbrev st__law_built : Stmt := topS 10
abbrev N__law_built : List Str := ["_law_script", "_law_at", "_law_count", "_law_stack", "_law_k", "_law_cell", "_law_way", "_law_leaf", "_law_other"]
abbrev vs__law_built : List Bool := [true, true, true, true, true, true, true, true, true]
abbrev gl__law_built : List Str := ["range", "_law_mix", "len"]
theorem sc__law_built : FnScope N__law_built ["_law_script", "_law_at", "_law_count"] (defScope st__law_built) := ⟨rfl, rfl, rfl, by decide +kernel, rfl, by decide +kernel, by decide +kernel⟩
theorem gd__law_built : goodC N__law_built (defScope st__law_built) vs__law_built vs__law_built gl__law_built = true := by decide +kernel
@[reducible] def cx__law_built (G : Gl) (k : Nat) : Pl.Ctx := G.cx N__law_built (defScope st__law_built) vs__law_built vs__law_built gl__law_built k

theorem ok__law_built (T : Tp G κ) : ∀ k, G.fn k "_law_built" 3 (spV κ 3 (sh__law_built k))
  | 0 => fn_none T.d__law_built (spV_none fun us => rfl)
  | kk + 1 => by
    have h__law_mix := ok__law_mix T kk
    refine def_V T.d__law_built sc__law_built gd__law_built fun us hl Q Eh h => ?_
    have hE : EI κ Eh (erM κ Eh) := EI.erM
    obtain ⟨v_script, v_at, v_count, rfl⟩ := len3 hl
    change WSs _ [some (em κ v_script), some (em κ v_at), some (em κ v_count), none, none, none, none, none, none] _ (_ :: _) _
    refine wss_cons ?_
    refine ws_set (i := 3) rfl rfl (we_o ?_) rfl
    refine wn_lst ?_
    refine wa_nil ?_
    refine ⟨szd (by decide : 0 < 10000000), ?_⟩
    refine wss_cons ?_
    refine ws_for [4] ?_
    refine wi_range1M (κ := κ) ⟨0, rfl⟩ T.z_range ?_
    refine we_name (i := 2) rfl rfl rfl ?_
    refine fin1 (f := range1M) v_count (vE (u := v_count)) ‹_› fun it1 h => ?_
    refine loopN_m (fun (st : List U) (Γ : Pl.Env) (Λ : Cells) => ∃ (y0 : Option D) (y1 : Option D) (y2 : Option D) (y3 : Option D) (y4 : Option D), Γ = [some (em κ v_script), some (em κ v_at), some (em κ v_count), some (.loc 0), y0, y1, y2, y3, y4] ∧ Λ = [.lst (ems κ st)]) h ⟨_, _, _, _, _, rfl, rfl⟩ (fun v_stack_2 x3 Γ Λ Q1 hs h => ?_) (fun v_stack_37 Γ Λ hs h => ?_)
    · obtain ⟨y0, y1, y2, y3, y4, rfl, rfl⟩ := hs
      refine wg_name (i := 4) rfl rfl ?_
      refine wss_cons ?_
      refine ws_set (i := 5) rfl rfl ?_ rfl
      refine we_callV (κ := κ) h__law_mix (Nat.le_refl _) ⟨1, rfl⟩ ?_
      refine wa_cons ?_ rfl
      refine we_name (i := 0) rfl rfl rfl ?_
      refine wa_cons ?_ rfl
      refine we_addM (κ := κ) ?_
      refine we_name (i := 1) rfl rfl rfl ?_
      refine we_name (i := 4) rfl rfl rfl ?_
      refine fin2 (f := addM) v_at x3 (vE (u := v_at)) (vE (u := x3)) ‹_› fun z4 h => ?_
      refine wa_nil ?_
      refine finF (Γ := _) [v_script, z4] rfl rfl hE ‹_› fun z5 h => ?_
      refine wss_cons ?_
      refine ws_set (i := 6) rfl rfl ?_ rfl
      refine we_modM (κ := κ) ?_
      refine we_name (i := 5) rfl rfl rfl ?_
      refine we_int ?_
      refine fin2 (f := modM) z5 (.int 9) (vE (u := z5)) (vE (u := .int 9)) ‹_› fun z6 h => ?_
      refine wss_cons ?_
      refine ws_set (i := 7) rfl rfl ?_ rfl
      refine we_ixM (κ := κ) ?_
      refine we_f ?_
      refine wn_lst ?_
      refine wa_cons ?_ rfl
      refine we_tup ?_
      refine wa_cons ?_ rfl
      refine we_str ?_
      refine wa_nil ?_
      refine ⟨szd (by decide : 1 < 10000000), ?_⟩
      refine wa_cons ?_ rfl
      refine we_tup ?_
      refine wa_cons ?_ rfl
      refine we_str ?_
      refine wa_cons ?_ rfl
      refine we_str ?_
      refine wa_nil ?_
      refine ⟨szd (by decide : 2 < 10000000), ?_⟩
      refine wa_cons ?_ rfl
      refine we_tup ?_
      refine wa_cons ?_ rfl
      refine we_str ?_
      refine wa_cons ?_ rfl
      refine we_str ?_
      refine wa_nil ?_
      refine ⟨szd (by decide : 2 < 10000000), ?_⟩
      refine wa_cons ?_ rfl
      refine we_tup ?_
      refine wa_cons ?_ rfl
      refine we_str ?_
      refine wa_cons ?_ rfl
      refine we_str ?_
      refine wa_nil ?_
      refine ⟨szd (by decide : 2 < 10000000), ?_⟩
      refine wa_nil ?_
      refine ⟨szd (by decide : 4 < 10000000), ?_⟩
      refine we_modM (κ := κ) ?_
      refine we_fdivM (κ := κ) ?_
      refine we_name (i := 5) rfl rfl rfl ?_
      refine we_int ?_
      refine fin2 (f := fdivM) z5 (.int 9) (vE (u := z5)) (vE (u := .int 9)) ‹_› fun z7 h => ?_
      refine we_int ?_
      refine fin2 (f := modM) z7 (.int 4) (vE (u := z7)) (vE (u := .int 4)) ‹_› fun z8 h => ?_
      refine fin2 (f := ixM) (.lst [.tup [.str "no"], .tup [.str "letter", .str "p"], .tup [.str "letter", .str "q"], .tup [.str "letter", .str "r"]]) z8 (vE (u := .lst [.tup [.str "no"], .tup [.str "letter", .str "p"], .tup [.str "letter", .str "q"], .tup [.str "letter", .str "r"]])) (vE (u := z8)) ‹_› fun z9 h => ?_
      refine wss_cons ?_
      refine ws_cutM (fun (st : List U) (Γ : Pl.Env) (Λ : Cells) => ∃ (y0 : Option D), Γ = [some (em κ v_script), some (em κ v_at), some (em κ v_count), some (.loc 0), some (em κ x3), some (em κ z5), some (em κ z6), some (em κ z9), y0] ∧ Λ = [.lst (ems κ st)]) h (fun Q1 h => ?_) (fun v_stack_36 Γ Λ hs h => ?_)
      · refine ws_if ?_
        refine wt_cutM ‹_› (fun Q1 h => ?_) (fun b13 h => ?_)
        · refine wt_ww (ww_or ?_)
          refine wt_ltM (κ := κ) ?_
          refine we_name (i := 6) rfl rfl rfl ?_
          refine we_int ?_
          refine fin2 (f := ltM) z6 (.int 4) (vE (u := z6)) (vE (u := .int 4)) ‹_› fun b10 h => ?_
          refine ite_m ‹_› (fun h => ?_) (fun h => ?_)
          · exact ⟨rfl, h⟩
          · refine ww_or1 ?_
            refine wt_eqM (κ := κ) ?_
            refine we_lenM (κ := κ) ⟨2, rfl⟩ T.z_len ?_
            refine we_name (i := 3) rfl rfl rfl ?_
            refine fin1 (f := lenM) (.lst v_stack_2) (vL rfl) ‹_› fun z11 h => ?_
            refine we_int ?_
            refine fin2 (f := eqM) z11 (.int 0) (vE (u := z11)) (vE (u := .int 0)) ‹_› fun b12 h => ?_
            exact ⟨rfl, h⟩
        refine ite_m ‹_› (fun h => ?_) (fun h => ?_)
        · refine wss_cons ?_
          refine ws_expr ?_
          refine we_appM (κ := κ) 0 ?_
          refine we_name (i := 3) rfl rfl rfl ?_
          refine ⟨rfl, ⟨v_stack_2, rfl⟩, ?_⟩
          refine we_name (i := 7) rfl rfl rfl ?_
          refine finA (f := appM) v_stack_2 z9 rfl ‹_› fun l14 h => ?_
          refine wss_nil ?_
          exact ⟨l14, ⟨_, rfl, rfl⟩, h⟩
        · refine wss_cons ?_
          refine ws_cutM (fun (st : List U) (Γ : Pl.Env) (Λ : Cells) => ∃ (y0 : Option D), Γ = [some (em κ v_script), some (em κ v_at), some (em κ v_count), some (.loc 0), some (em κ x3), some (em κ z5), some (em κ z6), some (em κ z9), y0] ∧ Λ = [.lst (ems κ st)]) h (fun Q1 h => ?_) (fun v_stack_35 Γ Λ hs h => ?_)
          · refine ws_if ?_
            refine wt_ltM (κ := κ) ?_
            refine we_name (i := 6) rfl rfl rfl ?_
            refine we_int ?_
            refine fin2 (f := ltM) z6 (.int 7) (vE (u := z6)) (vE (u := .int 7)) ‹_› fun b15 h => ?_
            refine ite_m ‹_› (fun h => ?_) (fun h => ?_)
            · refine wss_cons ?_
              refine ws_setM (κ := κ) 0 ?_
              refine we_tup ?_
              refine wa_cons ?_ rfl
              refine we_ixM (κ := κ) ?_
              refine we_f ?_
              refine wn_lst ?_
              refine wa_cons ?_ rfl
              refine we_str ?_
              refine wa_cons ?_ rfl
              refine we_str ?_
              refine wa_cons ?_ rfl
              refine we_str ?_
              refine wa_nil ?_
              refine ⟨szd (by decide : 3 < 10000000), ?_⟩
              refine we_subM (κ := κ) ?_
              refine we_name (i := 6) rfl rfl rfl ?_
              refine we_int ?_
              refine fin2 (f := subM) z6 (.int 4) (vE (u := z6)) (vE (u := .int 4)) ‹_› fun z16 h => ?_
              refine fin2 (f := ixM) (.lst [.str "not", .str "shown", .str "shown"]) z16 (vE (u := .lst [.str "not", .str "shown", .str "shown"])) (vE (u := z16)) ‹_› fun z17 h => ?_
              refine wa_cons ?_ rfl
              refine we_ixM (κ := κ) ?_
              refine we_name (i := 3) rfl rfl rfl ?_
              refine we_negM (κ := κ) ?_
              refine we_int ?_
              refine fin1 (f := negM) (.int 1) (vE (u := .int 1)) ‹_› fun z18 h => ?_
              refine fin2 (f := ixM) (.lst v_stack_2) z18 (vL rfl) (vE (u := z18)) ‹_› fun z19 h => ?_
              refine wa_nil ?_
              refine ⟨szd (by decide : 2 < 10000000), ?_⟩
              refine we_name (i := 3) rfl rfl rfl ?_
              refine we_negM (κ := κ) ?_
              refine we_int ?_
              refine fin1 (f := negM) (.int 1) (vE (u := .int 1)) ‹_› fun z20 h => ?_
              refine ⟨rfl, finS v_stack_2 (.tup [z17, z19]) z20 rfl ‹_› fun l21 h => ?_⟩
              refine wss_nil ?_
              exact ⟨l21, ⟨_, rfl, rfl⟩, h⟩
            · refine wss_cons ?_
              refine ws_cutM (fun (st : List U) (Γ : Pl.Env) (Λ : Cells) => ∃ (y0 : Option D), Γ = [some (em κ v_script), some (em κ v_at), some (em κ v_count), some (.loc 0), some (em κ x3), some (em κ z5), some (em κ z6), some (em κ z9), y0] ∧ Λ = [.lst (ems κ st)]) h (fun Q1 h => ?_) (fun v_stack_34 Γ Λ hs h => ?_)
              · refine ws_if ?_
                refine wt_gtM (κ := κ) ?_
                refine we_lenM (κ := κ) ⟨2, rfl⟩ T.z_len ?_
                refine we_name (i := 3) rfl rfl rfl ?_
                refine fin1 (f := lenM) (.lst v_stack_2) (vL rfl) ‹_› fun z22 h => ?_
                refine we_int ?_
                refine fin2 (f := gtM) z22 (.int 1) (vE (u := z22)) (vE (u := .int 1)) ‹_› fun b23 h => ?_
                refine ite_m ‹_› (fun h => ?_) (fun h => ?_)
                · refine wss_cons ?_
                  refine ws_set (i := 8) rfl rfl ?_ rfl
                  refine we_popM (κ := κ) 0 ?_
                  refine we_name (i := 3) rfl rfl rfl ?_
                  refine ⟨rfl, finC (f := popM) v_stack_2 rfl h fun (z24, l25) h => ?_⟩
                  refine wss_cons ?_
                  refine ws_setM (κ := κ) 0 ?_
                  refine we_tup ?_
                  refine wa_cons ?_ rfl
                  refine we_ixM (κ := κ) ?_
                  refine we_f ?_
                  refine wn_lst ?_
                  refine wa_cons ?_ rfl
                  refine we_str ?_
                  refine wa_cons ?_ rfl
                  refine we_str ?_
                  refine wa_cons ?_ rfl
                  refine we_str ?_
                  refine wa_nil ?_
                  refine ⟨szd (by decide : 3 < 10000000), ?_⟩
                  refine we_modM (κ := κ) ?_
                  refine we_fdivM (κ := κ) ?_
                  refine we_name (i := 5) rfl rfl rfl ?_
                  refine we_int ?_
                  refine fin2 (f := fdivM) z5 (.int 9) (vE (u := z5)) (vE (u := .int 9)) ‹_› fun z27 h => ?_
                  refine we_int ?_
                  refine fin2 (f := modM) z27 (.int 3) (vE (u := z27)) (vE (u := .int 3)) ‹_› fun z28 h => ?_
                  refine fin2 (f := ixM) (.lst [.str "and", .str "or", .str "if"]) z28 (vE (u := .lst [.str "and", .str "or", .str "if"])) (vE (u := z28)) ‹_› fun z29 h => ?_
                  refine wa_cons ?_ rfl
                  refine we_ixM (κ := κ) ?_
                  refine we_name (i := 3) rfl rfl rfl ?_
                  refine we_negM (κ := κ) ?_
                  refine we_int ?_
                  refine fin1 (f := negM) (.int 1) (vE (u := .int 1)) ‹_› fun z30 h => ?_
                  refine fin2 (f := ixM) (.lst l25) z30 (vL rfl) (vE (u := z30)) ‹_› fun z31 h => ?_
                  refine wa_cons ?_ rfl
                  refine we_name (i := 8) rfl rfl rfl ?_
                  refine wa_nil ?_
                  refine ⟨szd (by decide : 3 < 10000000), ?_⟩
                  refine we_name (i := 3) rfl rfl rfl ?_
                  refine we_negM (κ := κ) ?_
                  refine we_int ?_
                  refine fin1 (f := negM) (.int 1) (vE (u := .int 1)) ‹_› fun z32 h => ?_
                  refine ⟨rfl, finS l25 (.tup [z29, z31, z24]) z32 rfl ‹_› fun l33 h => ?_⟩
                  refine wss_nil ?_
                  exact ⟨l33, ⟨_, rfl, rfl⟩, h⟩
                · refine wss_nil ?_
                  exact ⟨v_stack_2, ⟨_, rfl, rfl⟩, h⟩
              · obtain ⟨y0, rfl, rfl⟩ := hs
                refine wss_nil ?_
                exact ⟨v_stack_34, ⟨_, rfl, rfl⟩, h⟩
          · obtain ⟨y0, rfl, rfl⟩ := hs
            refine wss_nil ?_
            exact ⟨v_stack_35, ⟨_, rfl, rfl⟩, h⟩
      · obtain ⟨y0, rfl, rfl⟩ := hs
        refine wss_nil ?_
        exact ⟨v_stack_36, ⟨_, _, _, _, _, rfl, rfl⟩, h⟩
    · obtain ⟨y0, y1, y2, y3, y4, rfl, rfl⟩ := hs
      refine wss_cons ?_
      refine whN_m (fun (st : List U) (Γ : Pl.Env) (Λ : Cells) => ∃ (y0 : Option D) (y1 : Option D) (y2 : Option D) (y3 : Option D) (y4 : Option D), Γ = [some (em κ v_script), some (em κ v_at), some (em κ v_count), some (.loc 0), y0, y1, y2, y3, y4] ∧ Λ = [.lst (ems κ st)]) h ⟨_, _, _, _, _, rfl, rfl⟩ (fun v_stack_38 Γ Λ Q1 hs h => ?_) (fun v_stack_41 Γ Λ Q1 hs h => ?_) (fun v_stack_52 Γ Λ hs h => ?_)
      · obtain ⟨y0, y1, y2, y3, y4, rfl, rfl⟩ := hs
        refine wt_gtM (κ := κ) ?_
        refine we_lenM (κ := κ) ⟨2, rfl⟩ T.z_len ?_
        refine we_name (i := 3) rfl rfl rfl ?_
        refine fin1 (f := lenM) (.lst v_stack_38) (vL rfl) ‹_› fun z39 h => ?_
        refine we_int ?_
        refine fin2 (f := gtM) z39 (.int 1) (vE (u := z39)) (vE (u := .int 1)) ‹_› fun b40 h => ?_
        exact ⟨rfl, h⟩
      · obtain ⟨y0, y1, y2, y3, y4, rfl, rfl⟩ := hs
        refine wss_cons ?_
        refine ws_set (i := 8) rfl rfl ?_ rfl
        refine we_popM (κ := κ) 0 ?_
        refine we_name (i := 3) rfl rfl rfl ?_
        refine ⟨rfl, finC (f := popM) v_stack_41 rfl h fun (z42, l43) h => ?_⟩
        refine wss_cons ?_
        refine ws_setM (κ := κ) 0 ?_
        refine we_tup ?_
        refine wa_cons ?_ rfl
        refine we_ixM (κ := κ) ?_
        refine we_f ?_
        refine wn_lst ?_
        refine wa_cons ?_ rfl
        refine we_str ?_
        refine wa_cons ?_ rfl
        refine we_str ?_
        refine wa_cons ?_ rfl
        refine we_str ?_
        refine wa_nil ?_
        refine ⟨szd (by decide : 3 < 10000000), ?_⟩
        refine we_modM (κ := κ) ?_
        refine we_lenM (κ := κ) ⟨2, rfl⟩ T.z_len ?_
        refine we_name (i := 3) rfl rfl rfl ?_
        refine fin1 (f := lenM) (.lst l43) (vL rfl) ‹_› fun z45 h => ?_
        refine we_int ?_
        refine fin2 (f := modM) z45 (.int 3) (vE (u := z45)) (vE (u := .int 3)) ‹_› fun z46 h => ?_
        refine fin2 (f := ixM) (.lst [.str "and", .str "or", .str "if"]) z46 (vE (u := .lst [.str "and", .str "or", .str "if"])) (vE (u := z46)) ‹_› fun z47 h => ?_
        refine wa_cons ?_ rfl
        refine we_ixM (κ := κ) ?_
        refine we_name (i := 3) rfl rfl rfl ?_
        refine we_negM (κ := κ) ?_
        refine we_int ?_
        refine fin1 (f := negM) (.int 1) (vE (u := .int 1)) ‹_› fun z48 h => ?_
        refine fin2 (f := ixM) (.lst l43) z48 (vL rfl) (vE (u := z48)) ‹_› fun z49 h => ?_
        refine wa_cons ?_ rfl
        refine we_name (i := 8) rfl rfl rfl ?_
        refine wa_nil ?_
        refine ⟨szd (by decide : 3 < 10000000), ?_⟩
        refine we_name (i := 3) rfl rfl rfl ?_
        refine we_negM (κ := κ) ?_
        refine we_int ?_
        refine fin1 (f := negM) (.int 1) (vE (u := .int 1)) ‹_› fun z50 h => ?_
        refine ⟨rfl, finS l43 (.tup [z47, z49, z42]) z50 rfl ‹_› fun l51 h => ?_⟩
        refine wss_nil ?_
        exact ⟨l51, ⟨_, _, _, _, _, rfl, rfl⟩, h⟩
      · obtain ⟨y0, y1, y2, y3, y4, rfl, rfl⟩ := hs
        refine wss_cons ?_
        refine ws_ret ?_
        refine we_ixM (κ := κ) ?_
        refine we_name (i := 3) rfl rfl rfl ?_
        refine we_int ?_
        refine fin2 (f := ixM) (.lst v_stack_52) (.int 0) (vL rfl) (vE (u := .int 0)) ‹_› fun z53 h => ?_
        exact rtV_v (u := z53) h

abbrev st__law_dict : Stmt := topS 11
abbrev N__law_dict : List Str := ["_law_script", "_law_at", "_law_count", "_law_sayings", "_law_k", "_law_cell"]
abbrev vs__law_dict : List Bool := [true, true, true, true, true, true]
abbrev gl__law_dict : List Str := ["range", "_law_mix", "_law_built"]
theorem sc__law_dict : FnScope N__law_dict ["_law_script", "_law_at", "_law_count"] (defScope st__law_dict) := ⟨rfl, rfl, rfl, by decide +kernel, rfl, by decide +kernel, by decide +kernel⟩
theorem gd__law_dict : goodC N__law_dict (defScope st__law_dict) vs__law_dict vs__law_dict gl__law_dict = true := by decide +kernel
@[reducible] def cx__law_dict (G : Gl) (k : Nat) : Pl.Ctx := G.cx N__law_dict (defScope st__law_dict) vs__law_dict vs__law_dict gl__law_dict k

theorem ok__law_dict (T : Tp G κ) : ∀ k, G.fn k "_law_dict" 3 (spV κ 3 (sh__law_dict k))
  | 0 => fn_none T.d__law_dict (spV_none fun us => rfl)
  | kk + 1 => by
    have h__law_mix := ok__law_mix T kk
    have h__law_built := ok__law_built T kk
    refine def_V T.d__law_dict sc__law_dict gd__law_dict fun us hl Q Eh h => ?_
    have hE : EI κ Eh (erM κ Eh) := EI.erM
    obtain ⟨v_script, v_at, v_count, rfl⟩ := len3 hl
    change WSs _ [some (em κ v_script), some (em κ v_at), some (em κ v_count), none, none, none] _ (_ :: _) _
    rw [sh__law_dict] at h
    refine wss_cons ?_
    refine ws_set (i := 3) rfl rfl (we_dnewO ?_) rfl
    refine wss_cons ?_
    refine ws_for [4] ?_
    refine wi_range1M (κ := κ) ⟨0, rfl⟩ T.z_range ?_
    refine we_int ?_
    refine fin1 (f := range1M) (.int 3) (vE (u := .int 3)) ‹_› fun it1 h => ?_
    refine loopN_m (fun (st : Dc) (Γ : Pl.Env) (Λ : Cells) => ∃ (y0 : Option D) (y1 : Option D), Γ = [some (em κ v_script), some (em κ v_at), some (em κ v_count), some (.loc 0), y0, y1] ∧ Λ = [.dic st.1 (ems κ st.2)]) h ⟨_, _, rfl, rfl⟩ (fun v_sayings_2 x3 Γ Λ Q1 hs h => ?_) (fun v_sayings_22 Γ Λ hs h => ?_)
    · obtain ⟨y0, y1, rfl, rfl⟩ := hs
      refine wg_name (i := 4) rfl rfl ?_
      refine wss_cons ?_
      refine ws_set (i := 5) rfl rfl ?_ rfl
      refine we_callV (κ := κ) h__law_mix (Nat.le_refl _) ⟨1, rfl⟩ ?_
      refine wa_cons ?_ rfl
      refine we_name (i := 0) rfl rfl rfl ?_
      refine wa_cons ?_ rfl
      refine we_addM (κ := κ) ?_
      refine we_name (i := 1) rfl rfl rfl ?_
      refine we_mulM (κ := κ) ?_
      refine we_int ?_
      refine we_name (i := 4) rfl rfl rfl ?_
      refine fin2 (f := mulM) (.int 9) x3 (vE (u := .int 9)) (vE (u := x3)) ‹_› fun z4 h => ?_
      refine fin2 (f := addM) v_at z4 (vE (u := v_at)) (vE (u := z4)) ‹_› fun z5 h => ?_
      refine wa_nil ?_
      refine finF (Γ := _) [v_script, z5] rfl rfl hE ‹_› fun z6 h => ?_
      refine wss_cons ?_
      refine ws_cutM (fun (st : Dc) (Γ : Pl.Env) (Λ : Cells) => Γ = [some (em κ v_script), some (em κ v_at), some (em κ v_count), some (.loc 0), some (em κ x3), some (em κ z6)] ∧ Λ = [.dic st.1 (ems κ st.2)]) h (fun Q1 h => ?_) (fun v_sayings_21 Γ Λ hs h => ?_)
      · refine ws_if ?_
        refine wt_gtM (κ := κ) ?_
        refine we_modM (κ := κ) ?_
        refine we_name (i := 5) rfl rfl rfl ?_
        refine we_int ?_
        refine fin2 (f := modM) z6 (.int 4) (vE (u := z6)) (vE (u := .int 4)) ‹_› fun z7 h => ?_
        refine we_int ?_
        refine fin2 (f := gtM) z7 (.int 0) (vE (u := z7)) (vE (u := .int 0)) ‹_› fun b8 h => ?_
        refine ite_m ‹_› (fun h => ?_) (fun h => ?_)
        · refine wss_cons ?_
          refine ws_putM (κ := κ) 0 ?_
          refine we_callV (κ := κ) h__law_built (Nat.le_refl _) ⟨2, rfl⟩ ?_
          refine wa_cons ?_ rfl
          refine we_name (i := 0) rfl rfl rfl ?_
          refine wa_cons ?_ rfl
          refine we_addM (κ := κ) ?_
          refine we_addM (κ := κ) ?_
          refine we_name (i := 1) rfl rfl rfl ?_
          refine we_int ?_
          refine fin2 (f := addM) v_at (.int 1) (vE (u := v_at)) (vE (u := .int 1)) ‹_› fun z9 h => ?_
          refine we_mulM (κ := κ) ?_
          refine we_int ?_
          refine we_name (i := 4) rfl rfl rfl ?_
          refine fin2 (f := mulM) (.int 9) x3 (vE (u := .int 9)) (vE (u := x3)) ‹_› fun z10 h => ?_
          refine fin2 (f := addM) z9 z10 (vE (u := z9)) (vE (u := z10)) ‹_› fun z11 h => ?_
          refine wa_cons ?_ rfl
          refine we_addM (κ := κ) ?_
          refine we_int ?_
          refine we_modM (κ := κ) ?_
          refine we_fdivM (κ := κ) ?_
          refine we_name (i := 5) rfl rfl rfl ?_
          refine we_int ?_
          refine fin2 (f := fdivM) z6 (.int 12) (vE (u := z6)) (vE (u := .int 12)) ‹_› fun z12 h => ?_
          refine we_name (i := 2) rfl rfl rfl ?_
          refine fin2 (f := modM) z12 v_count (vE (u := z12)) (vE (u := v_count)) ‹_› fun z13 h => ?_
          refine fin2 (f := addM) (.int 1) z13 (vE (u := .int 1)) (vE (u := z13)) ‹_› fun z14 h => ?_
          refine wa_nil ?_
          refine finF (Γ := _) [v_script, z11, z14] rfl rfl hE ‹_› fun z15 h => ?_
          refine we_name (i := 3) rfl rfl rfl ?_
          refine we_ixM (κ := κ) ?_
          refine we_str ?_
          refine we_modM (κ := κ) ?_
          refine we_addM (κ := κ) ?_
          refine we_name (i := 4) rfl rfl rfl ?_
          refine we_fdivM (κ := κ) ?_
          refine we_name (i := 5) rfl rfl rfl ?_
          refine we_int ?_
          refine fin2 (f := fdivM) z6 (.int 4) (vE (u := z6)) (vE (u := .int 4)) ‹_› fun z16 h => ?_
          refine fin2 (f := addM) x3 z16 (vE (u := x3)) (vE (u := z16)) ‹_› fun z17 h => ?_
          refine we_int ?_
          refine fin2 (f := modM) z17 (.int 3) (vE (u := z17)) (vE (u := .int 3)) ‹_› fun z18 h => ?_
          refine fin2 (f := ixM) (.str "rpq") z18 (vE (u := .str "rpq")) (vE (u := z18)) ‹_› fun z19 h => ?_
          refine ⟨rfl, finP v_sayings_2 z15 z19 (vE (u := z19)) rfl ‹_› fun l20 h => ?_⟩
          refine wss_nil ?_
          exact ⟨l20, ⟨rfl, rfl⟩, h⟩
        · refine wss_nil ?_
          exact ⟨v_sayings_2, ⟨rfl, rfl⟩, h⟩
      · obtain ⟨rfl, rfl⟩ := hs
        refine wss_nil ?_
        exact ⟨v_sayings_21, ⟨_, _, rfl, rfl⟩, h⟩
    · obtain ⟨y0, y1, rfl, rfl⟩ := hs
      refine wss_cons ?_
      refine ws_ret ?_
      refine we_name (i := 3) rfl rfl rfl ?_
      exact rtV_d rfl h

abbrev st_put : Stmt := topS 7
abbrev N_put : List Str := ["saying", "sayings", "part"]
abbrev vs_put : List Bool := [true, true, false]
abbrev gl_put : List Str := ["tuple"]
theorem sc_put : FnScope N_put ["saying", "sayings"] (defScope st_put) := ⟨rfl, rfl, rfl, by decide +kernel, rfl, by decide +kernel, by decide +kernel⟩
theorem gd_put : goodC N_put (defScope st_put) vs_put vs_put gl_put = true := by decide +kernel
@[reducible] def cx_put (G : Gl) (k : Nat) : Pl.Ctx := G.cx N_put (defScope st_put) vs_put vs_put gl_put k

theorem ok_put (T : Tp G κ) : ∀ k, G.fn k "put" 2 (spV κ 2 (sh_put k))
  | 0 => fn_none T.d_put (spV_none fun us => rfl)
  | kk + 1 => by
    have h_put := ok_put T kk
    refine def_V T.d_put sc_put gd_put fun us hl Q Eh h => ?_
    have hE : EI κ Eh (erM κ Eh) := EI.erM
    obtain ⟨v_saying, v_sayings, rfl⟩ := len2 hl
    change WSs _ [some (em κ v_saying), some (em κ v_sayings), none] _ (_ :: _) _
    refine wss_cons ?_
    refine ws_if ?_
    refine wt_eqM (κ := κ) ?_
    refine we_ixM (κ := κ) ?_
    refine we_name (i := 0) rfl rfl rfl ?_
    refine we_int ?_
    refine fin2 (f := ixM) v_saying (.int 0) (vE (u := v_saying)) (vE (u := .int 0)) ‹_› fun z1 h => ?_
    refine we_str ?_
    refine fin2 (f := eqM) z1 (.str "no") (vE (u := z1)) (vE (u := .str "no")) ‹_› fun b2 h => ?_
    refine ite_m ‹_› (fun h => ?_) (fun h => ?_)
    · refine wss_cons ?_
      refine ws_ret ?_
      refine we_name (i := 0) rfl rfl rfl ?_
      exact rtV_v (u := v_saying) h
    · refine wss_nil ?_
      refine wss_cons ?_
      refine ws_if ?_
      refine wt_eqM (κ := κ) ?_
      refine we_ixM (κ := κ) ?_
      refine we_name (i := 0) rfl rfl rfl ?_
      refine we_int ?_
      refine fin2 (f := ixM) v_saying (.int 0) (vE (u := v_saying)) (vE (u := .int 0)) ‹_› fun z3 h => ?_
      refine we_str ?_
      refine fin2 (f := eqM) z3 (.str "letter") (vE (u := z3)) (vE (u := .str "letter")) ‹_› fun b4 h => ?_
      refine ite_m ‹_› (fun h => ?_) (fun h => ?_)
      · refine wss_cons ?_
        refine ws_ret ?_
        refine we_getM (κ := κ) ?_
        refine we_name (i := 1) rfl rfl rfl ?_
        refine asDic (u := v_sayings) (vE (u := v_sayings)) ‹_› fun dk6 du7 hdd h => ?_
        refine we_ixM (κ := κ) ?_
        refine we_name (i := 0) rfl rfl rfl ?_
        refine we_int ?_
        refine fin2 (f := ixM) v_saying (.int 1) (vE (u := v_saying)) (vE (u := .int 1)) ‹_› fun z8 h => ?_
        refine we_name (i := 0) rfl rfl rfl ?_
        refine ⟨z8, v_saying, (vE (u := z8)), rfl, hdd, fin0 (m := getdM (.dic dk6 du7) z8 v_saying) ‹_› fun z5 h => ?_⟩
        exact rtV_v (u := z5) h
      · refine wss_nil ?_
        refine wss_cons ?_
        refine ws_ret ?_
        refine we_tupleM (κ := κ) ⟨0, rfl⟩ T.z_tuple ?_
        refine we_addM (κ := κ) ?_
        refine we_f ?_
        refine wn_lst ?_
        refine wa_cons ?_ rfl
        refine we_ixM (κ := κ) ?_
        refine we_name (i := 0) rfl rfl rfl ?_
        refine we_int ?_
        refine fin2 (f := ixM) v_saying (.int 0) (vE (u := v_saying)) (vE (u := .int 0)) ‹_› fun z9 h => ?_
        refine wa_nil ?_
        refine ⟨szd (by decide : 1 < 10000000), ?_⟩
        refine we_f ?_
        refine wn_lc [("part", 2)] [false, true, true] [false, false, true] ["put"] [2] (blkOk_by (by decide +kernel : blkC N_put (defScope st_put) _ [("part", 2)] = true)) (good_blk (by decide +kernel : goodC N_put (relS _ (defScope st_put)) [false, true, true] [false, false, true] ["put"] = true)) (sto_by (by decide +kernel : stoC N_put _ [false, false, true] = true)) (by decide) ?_
        refine wi_TM (κ := κ) ?_
        refine we_slM (κ := κ) ?_
        refine we_name (i := 0) rfl rfl rfl ?_
        refine we_int ?_
        refine fin1 (f := endM) (.int 1) (vE (u := .int 1)) ‹_› fun z10 h => ?_
        refine fin1 (f := fun u => slM u z10 none) v_saying (vE (u := v_saying)) ‹_› fun z11 h => ?_
        refine finI (f := iterT) z11 ‹_› fun it12 h => ?_
        refine comp_m h (fun x13 Q1 h => ?_) (fun zs14 h => ?_)
        · have hE : EI κ no ER.none := EI.no
          refine wg_name (i := 2) rfl rfl ?_
          refine we_callV (κ := κ) h_put (Nat.le_refl _) ⟨0, rfl⟩ ?_
          refine wa_cons ?_ rfl
          refine we_name (i := 2) rfl rfl rfl ?_
          refine wa_cons ?_ rfl
          refine we_name (i := 1) rfl rfl rfl ?_
          refine wa_nil ?_
          refine finF (Γ := _) [x13, v_sayings] rfl rfl hE ‹_› fun z15 h => ?_
          exact ⟨rfl, z15, rfl, h⟩
        refine fin2 (f := addM) (.lst [z9]) (.lst zs14) (vE (u := .lst [z9])) (vE (u := .lst zs14)) ‹_› fun z16 h => ?_
        refine fin1 (f := tupleM) z16 (vE (u := z16)) ‹_› fun z17 h => ?_
        exact rtV_v (u := z17) h

abbrev st_inner_of : Stmt := topS 1
abbrev N_inner_of : List Str := ["saying"]
abbrev vs_inner_of : List Bool := [true]
abbrev gl_inner_of : List Str := ["list"]
theorem sc_inner_of : FnScope N_inner_of ["saying"] (defScope st_inner_of) := ⟨rfl, rfl, rfl, by decide +kernel, rfl, by decide +kernel, by decide +kernel⟩
theorem gd_inner_of : goodC N_inner_of (defScope st_inner_of) vs_inner_of vs_inner_of gl_inner_of = true := by decide +kernel
@[reducible] def cx_inner_of (G : Gl) (k : Nat) : Pl.Ctx := G.cx N_inner_of (defScope st_inner_of) vs_inner_of vs_inner_of gl_inner_of k

theorem ok_inner_of (T : Tp G κ) : ∀ k, G.fn k "inner_of" 1 (spN κ 1 (sh_inner_of k))
  | 0 => fn_none T.d_inner_of (spN_none fun us => rfl)
  | kk + 1 => by
    refine def_N T.d_inner_of sc_inner_of gd_inner_of fun us hl Q Eh h => ?_
    have hE : EI κ Eh (erM κ Eh) := EI.erM
    obtain ⟨v_saying, rfl⟩ := len1 hl
    change WSs _ [some (em κ v_saying)] _ (_ :: _) _
    rw [sh_inner_of] at h
    refine wss_cons ?_
    refine ws_if ?_
    refine wt_cutM ‹_› (fun Q1 h => ?_) (fun b5 h => ?_)
    · refine wt_ww (ww_or ?_)
      refine wt_eqM (κ := κ) ?_
      refine we_ixM (κ := κ) ?_
      refine we_name (i := 0) rfl rfl rfl ?_
      refine we_int ?_
      refine fin2 (f := ixM) v_saying (.int 0) (vE (u := v_saying)) (vE (u := .int 0)) ‹_› fun z1 h => ?_
      refine we_str ?_
      refine fin2 (f := eqM) z1 (.str "no") (vE (u := z1)) (vE (u := .str "no")) ‹_› fun b2 h => ?_
      refine ite_m ‹_› (fun h => ?_) (fun h => ?_)
      · exact ⟨rfl, h⟩
      · refine ww_or1 ?_
        refine wt_eqM (κ := κ) ?_
        refine we_ixM (κ := κ) ?_
        refine we_name (i := 0) rfl rfl rfl ?_
        refine we_int ?_
        refine fin2 (f := ixM) v_saying (.int 0) (vE (u := v_saying)) (vE (u := .int 0)) ‹_› fun z3 h => ?_
        refine we_str ?_
        refine fin2 (f := eqM) z3 (.str "letter") (vE (u := z3)) (vE (u := .str "letter")) ‹_› fun b4 h => ?_
        exact ⟨rfl, h⟩
    refine ite_m ‹_› (fun h => ?_) (fun h => ?_)
    · refine wss_cons ?_
      refine ws_retn ?_
      refine wn_lst ?_
      refine wa_nil ?_
      refine ⟨szd (by decide : 0 < 10000000), ?_⟩
      exact rtL_v (us := []) h
    · refine wss_nil ?_
      refine wss_cons ?_
      refine ws_retn ?_
      refine wn_listM (κ := κ) ⟨0, rfl⟩ T.z_list ?_
      refine we_slM (κ := κ) ?_
      refine we_name (i := 0) rfl rfl rfl ?_
      refine we_int ?_
      refine fin1 (f := endM) (.int 1) (vE (u := .int 1)) ‹_› fun z6 h => ?_
      refine fin1 (f := fun u => slM u z6 none) v_saying (vE (u := v_saying)) ‹_› fun z7 h => ?_
      refine fin1 (f := listM) z7 (vE (u := z7)) ‹_› fun z8 h => ?_
      exact rtL_v (us := z8) h

abbrev st_gather : Stmt := topS 3
abbrev N_gather : List Str := ["saying", "found", "part"]
abbrev vs_gather : List Bool := [true, true, true]
abbrev gl_gather : List Str := ["inner_of", "gather"]
theorem sc_gather : FnScope N_gather ["saying", "found"] (defScope st_gather) := ⟨rfl, rfl, rfl, by decide +kernel, rfl, by decide +kernel, by decide +kernel⟩
theorem gd_gather : goodC N_gather (defScope st_gather) vs_gather vs_gather gl_gather = true := by decide +kernel
@[reducible] def cx_gather (G : Gl) (k : Nat) : Pl.Ctx := G.cx N_gather (defScope st_gather) vs_gather vs_gather gl_gather k

abbrev sp_gather (κ : Kl) (k : Nat) : Pl.Spec := spK κ (α := U × List U) (γ := U × List U) (β := U × List U) (fun a => [em κ a.1, .loc 0]) (fun a => [.lst (ems κ a.2)]) (fun a => sh_gather k [a.1, .lst a.2]) .ok (fun w => Res.val (em κ w.1)) (fun a w => [.lst (ems κ w.2)])
theorem ok_gather (T : Tp G κ) : ∀ k, G.fn k "gather" 2 (sp_gather κ k)
  | 0 => fn_none T.d_gather (spK_none fun us => rfl)
  | kk + 1 => by
    have h_inner_of := ok_inner_of T kk
    have h_gather := ok_gather T kk
    refine def_K T.d_gather 1 sc_gather gd_gather (fun a => Nat.le_of_ble_eq_true rfl) fun a Q h => ?_
    have hE : EI κ no ER.none := EI.no
    obtain ⟨v_saying, v_found⟩ := a
    try dsimp only at h
    change WSs _ [some (em κ v_saying), some (.loc 0), none] [.lst (ems κ v_found)] (_ :: _) _
    refine wss_cons ?_
    refine ws_expr ?_
    refine we_appM (κ := κ) 0 ?_
    refine we_name (i := 1) rfl rfl rfl ?_
    refine ⟨rfl, ⟨v_found, rfl⟩, ?_⟩
    refine we_name (i := 0) rfl rfl rfl ?_
    refine finA (f := appM) v_found v_saying rfl ‹_› fun l1 h => ?_
    refine wss_cons ?_
    refine ws_for [2] ?_
    refine wi_LM (κ := κ) ?_
    refine we_f ?_
    refine wn_callN (κ := κ) h_inner_of (Nat.le_refl _) ⟨0, rfl⟩ ?_
    refine wa_cons ?_ rfl
    refine we_name (i := 0) rfl rfl rfl ?_
    refine wa_nil ?_
    refine finF (Γ := _) [v_saying] rfl rfl hE ‹_› fun z2 h => ?_
    refine finI (f := iterL) (.lst z2) ‹_› fun it3 h => ?_
    refine loopN_m (fun (st : List U) (Γ : Pl.Env) (Λ : Cells) => ∃ (y0 : Option D), Γ = [some (em κ v_saying), some (.loc 0), y0] ∧ Λ = [.lst (ems κ st)]) h ⟨_, rfl, rfl⟩ (fun v_found_4 x5 Γ Λ Q1 hs h => ?_) (fun v_found_8 Γ Λ hs h => ?_)
    · obtain ⟨y0, rfl, rfl⟩ := hs
      refine wg_name (i := 2) rfl rfl ?_
      refine wss_cons ?_
      refine ws_expr ?_
      refine we_callc h_gather (Nat.le_refl _) ⟨1, rfl⟩ spK_mono ?_
      refine wa_cons ?_ rfl
      refine we_name (i := 2) rfl rfl rfl ?_
      refine wa_cons ?_ rfl
      refine we_name (i := 1) rfl rfl rfl ?_
      refine wa_nil ?_
      refine kc [0] ⟨x5, v_found_4⟩ (fun w => .val (em κ w.1)) (fun w => [.lst (ems κ w.2)]) ⟨by decide, fun n hn => by simp only [List.mem_cons, List.not_mem_nil, or_false] at hn; rcases hn with rfl <;> exact Nat.le_of_ble_eq_true rfl, by show List.all [.lst (ems κ v_found_4)] nlC = true; walk_at "nlc"⟩ (by show [em κ x5, .loc 0] = rens _ [em κ x5, .loc 0]; simp only [rens, ren, ren_em]; try rfl) (by show ltDs _ [em κ x5, .loc 0] = true; simp only [ltDs, ltD, ltD_em, List.length, Bool.true_and, Bool.and_true]; try decide) rfl rfl (fun w => by walk_at "nlc") (fun w => congrArg Res.val (ren_em _).symm) (fun w => rfl) (finK1 h fun ⟨z6, l7⟩ h => ⟨_, rfl, ?_⟩)
      refine wss_nil ?_
      exact ⟨l7, ⟨_, rfl, rfl⟩, h⟩
    · obtain ⟨y0, rfl, rfl⟩ := hs
      refine wss_nil ?_
      exact rtK_v (.non, v_found_8) 1 (d := em κ .non) (by exact h) rfl (Nat.le_of_ble_eq_true rfl) (ltD_em _) rfl (by walk_at "nlc")

abbrev st_each_once : Stmt := topS 4
abbrev N_each_once : List Str := ["some", "told", "one"]
abbrev vs_each_once : List Bool := [true, true, true]
abbrev gl_each_once : List Str := ["sorted", "len"]
theorem sc_each_once : FnScope N_each_once ["some"] (defScope st_each_once) := ⟨rfl, rfl, rfl, by decide +kernel, rfl, by decide +kernel, by decide +kernel⟩
theorem gd_each_once : goodC N_each_once (defScope st_each_once) vs_each_once vs_each_once gl_each_once = true := by decide +kernel
@[reducible] def cx_each_once (G : Gl) (k : Nat) : Pl.Ctx := G.cx N_each_once (defScope st_each_once) vs_each_once vs_each_once gl_each_once k

theorem ok_each_once (T : Tp G κ) : ∀ k, G.fn k "each_once" 1 (spN κ 1 (sh_each_once k))
  | 0 => fn_none T.d_each_once (spN_none fun us => rfl)
  | kk + 1 => by
    refine def_N T.d_each_once sc_each_once gd_each_once fun us hl Q Eh h => ?_
    have hE : EI κ Eh (erM κ Eh) := EI.erM
    obtain ⟨v_some, rfl⟩ := len1 hl
    change WSs _ [some (em κ v_some), none, none] _ (_ :: _) _
    refine wss_cons ?_
    refine ws_set (i := 1) rfl rfl (we_o ?_) rfl
    refine wn_lst ?_
    refine wa_nil ?_
    refine ⟨szd (by decide : 0 < 10000000), ?_⟩
    refine wss_cons ?_
    refine ws_for [2] ?_
    refine wi_LM (κ := κ) ?_
    refine we_f ?_
    refine wn_sortedM (κ := κ) ⟨0, rfl⟩ T.z_sorted ?_
    refine we_name (i := 0) rfl rfl rfl ?_
    refine fin1 (f := sortedM) v_some (vE (u := v_some)) ‹_› fun z1 h => ?_
    refine finI (f := iterL) (.lst z1) ‹_› fun it2 h => ?_
    refine loopN_m (fun (st : List U) (Γ : Pl.Env) (Λ : Cells) => ∃ (y0 : Option D), Γ = [some (em κ v_some), some (.loc 0), y0] ∧ Λ = [.lst (ems κ st)]) h ⟨_, rfl, rfl⟩ (fun v_told_3 x4 Γ Λ Q1 hs h => ?_) (fun v_told_13 Γ Λ hs h => ?_)
    · obtain ⟨y0, rfl, rfl⟩ := hs
      refine wg_name (i := 2) rfl rfl ?_
      refine wss_cons ?_
      refine ws_cutM (fun (st : List U) (Γ : Pl.Env) (Λ : Cells) => Γ = [some (em κ v_some), some (.loc 0), some (em κ x4)] ∧ Λ = [.lst (ems κ st)]) h (fun Q1 h => ?_) (fun v_told_12 Γ Λ hs h => ?_)
      · refine ws_if ?_
        refine wt_cutM ‹_› (fun Q1 h => ?_) (fun b10 h => ?_)
        · refine wt_ww (ww_or ?_)
          refine wt_eqM (κ := κ) ?_
          refine we_lenM (κ := κ) ⟨1, rfl⟩ T.z_len ?_
          refine we_name (i := 1) rfl rfl rfl ?_
          refine fin1 (f := lenM) (.lst v_told_3) (vL rfl) ‹_› fun z5 h => ?_
          refine we_int ?_
          refine fin2 (f := eqM) z5 (.int 0) (vE (u := z5)) (vE (u := .int 0)) ‹_› fun b6 h => ?_
          refine ite_m ‹_› (fun h => ?_) (fun h => ?_)
          · exact ⟨rfl, h⟩
          · refine ww_or1 ?_
            refine wt_neM (κ := κ) ?_
            refine we_ixM (κ := κ) ?_
            refine we_name (i := 1) rfl rfl rfl ?_
            refine we_negM (κ := κ) ?_
            refine we_int ?_
            refine fin1 (f := negM) (.int 1) (vE (u := .int 1)) ‹_› fun z7 h => ?_
            refine fin2 (f := ixM) (.lst v_told_3) z7 (vL rfl) (vE (u := z7)) ‹_› fun z8 h => ?_
            refine we_name (i := 2) rfl rfl rfl ?_
            refine fin2 (f := (nB eqM)) z8 x4 (vE (u := z8)) (vE (u := x4)) ‹_› fun b9 h => ?_
            exact ⟨rfl, h⟩
        refine ite_m ‹_› (fun h => ?_) (fun h => ?_)
        · refine wss_cons ?_
          refine ws_expr ?_
          refine we_appM (κ := κ) 0 ?_
          refine we_name (i := 1) rfl rfl rfl ?_
          refine ⟨rfl, ⟨v_told_3, rfl⟩, ?_⟩
          refine we_name (i := 2) rfl rfl rfl ?_
          refine finA (f := appM) v_told_3 x4 rfl ‹_› fun l11 h => ?_
          refine wss_nil ?_
          exact ⟨l11, ⟨rfl, rfl⟩, h⟩
        · refine wss_nil ?_
          exact ⟨v_told_3, ⟨rfl, rfl⟩, h⟩
      · obtain ⟨rfl, rfl⟩ := hs
        refine wss_nil ?_
        exact ⟨v_told_12, ⟨_, rfl, rfl⟩, h⟩
    · obtain ⟨y0, rfl, rfl⟩ := hs
      refine wss_cons ?_
      refine ws_ret ?_
      refine we_name (i := 1) rfl rfl rfl ?_
      exact rtL_o (us := v_told_13) rfl h

abbrev st_parts_of : Stmt := topS 5
abbrev N_parts_of : List Str := ["saying", "found"]
abbrev vs_parts_of : List Bool := [true, true]
abbrev gl_parts_of : List Str := ["gather", "each_once"]
theorem sc_parts_of : FnScope N_parts_of ["saying"] (defScope st_parts_of) := ⟨rfl, rfl, rfl, by decide +kernel, rfl, by decide +kernel, by decide +kernel⟩
theorem gd_parts_of : goodC N_parts_of (defScope st_parts_of) vs_parts_of vs_parts_of gl_parts_of = true := by decide +kernel
@[reducible] def cx_parts_of (G : Gl) (k : Nat) : Pl.Ctx := G.cx N_parts_of (defScope st_parts_of) vs_parts_of vs_parts_of gl_parts_of k

theorem ok_parts_of (T : Tp G κ) : ∀ k, G.fn k "parts_of" 1 (spN κ 1 (sh_parts_of k))
  | 0 => fn_none T.d_parts_of (spN_none fun us => rfl)
  | kk + 1 => by
    have h_gather := ok_gather T kk
    have h_each_once := ok_each_once T kk
    refine def_N T.d_parts_of sc_parts_of gd_parts_of fun us hl Q Eh h => ?_
    have hE : EI κ Eh (erM κ Eh) := EI.erM
    obtain ⟨v_saying, rfl⟩ := len1 hl
    change WSs _ [some (em κ v_saying), none] _ (_ :: _) _
    refine wss_cons ?_
    refine ws_set (i := 1) rfl rfl (we_o ?_) rfl
    refine wn_lst ?_
    refine wa_nil ?_
    refine ⟨szd (by decide : 0 < 10000000), ?_⟩
    refine wss_cons ?_
    refine ws_expr ?_
    refine we_callc h_gather (Nat.le_refl _) ⟨0, rfl⟩ spK_mono ?_
    refine wa_cons ?_ rfl
    refine we_name (i := 0) rfl rfl rfl ?_
    refine wa_cons ?_ rfl
    refine we_name (i := 1) rfl rfl rfl ?_
    refine wa_nil ?_
    refine kc [0] ⟨v_saying, []⟩ (fun w => .val (em κ w.1)) (fun w => [.lst (ems κ w.2)]) ⟨by decide, fun n hn => by simp only [List.mem_cons, List.not_mem_nil, or_false] at hn; rcases hn with rfl <;> exact Nat.le_of_ble_eq_true rfl, by show List.all [.lst (ems κ [])] nlC = true; walk_at "nlc"⟩ (by show [em κ v_saying, .loc 0] = rens _ [em κ v_saying, .loc 0]; simp only [rens, ren, ren_em]; try rfl) (by show ltDs _ [em κ v_saying, .loc 0] = true; simp only [ltDs, ltD, ltD_em, List.length, Bool.true_and, Bool.and_true]; try decide) rfl rfl (fun w => by walk_at "nlc") (fun w => congrArg Res.val (ren_em _).symm) (fun w => rfl) (finK1 h fun ⟨z1, l2⟩ h => ⟨_, rfl, ?_⟩)
    refine freezeM 0 1 l2 (Nat.le_of_ble_eq_true rfl) rfl rfl ?_
    refine wss_cons ?_
    refine ws_retn ?_
    refine wn_callN (κ := κ) h_each_once (Nat.le_refl _) ⟨1, rfl⟩ ?_
    refine wa_cons ?_ rfl
    refine we_name (i := 1) rfl rfl rfl ?_
    refine wa_nil ?_
    refine finF (Γ := _) [.lst l2] rfl rfl hE ‹_› fun z3 h => ?_
    exact rtL_v (us := z3) h

abbrev st_letters_of : Stmt := topS 6
abbrev N_letters_of : List Str := ["saying", "part"]
abbrev vs_letters_of : List Bool := [true, false]
abbrev gl_letters_of : List Str := ["parts_of"]
theorem sc_letters_of : FnScope N_letters_of ["saying"] (defScope st_letters_of) := ⟨rfl, rfl, rfl, by decide +kernel, rfl, by decide +kernel, by decide +kernel⟩
theorem gd_letters_of : goodC N_letters_of (defScope st_letters_of) vs_letters_of vs_letters_of gl_letters_of = true := by decide +kernel
@[reducible] def cx_letters_of (G : Gl) (k : Nat) : Pl.Ctx := G.cx N_letters_of (defScope st_letters_of) vs_letters_of vs_letters_of gl_letters_of k

theorem ok_letters_of (T : Tp G κ) : ∀ k, G.fn k "letters_of" 1 (spN κ 1 (sh_letters_of k))
  | 0 => fn_none T.d_letters_of (spN_none fun us => rfl)
  | kk + 1 => by
    have h_parts_of := ok_parts_of T kk
    refine def_N T.d_letters_of sc_letters_of gd_letters_of fun us hl Q Eh h => ?_
    have hE : EI κ Eh (erM κ Eh) := EI.erM
    obtain ⟨v_saying, rfl⟩ := len1 hl
    change WSs _ [some (em κ v_saying), none] _ (_ :: _) _
    refine wss_cons ?_
    refine ws_retn ?_
    refine wn_lc [("part", 1)] [false, true] [false, true] [] [1] (blkOk_by (by decide +kernel : blkC N_letters_of (defScope st_letters_of) _ [("part", 1)] = true)) (good_blk (by decide +kernel : goodC N_letters_of (relS _ (defScope st_letters_of)) [false, true] [false, true] [] = true)) (sto_by (by decide +kernel : stoC N_letters_of _ [false, true] = true)) (by decide) ?_
    refine wi_LM (κ := κ) ?_
    refine we_f ?_
    refine wn_callN (κ := κ) h_parts_of (Nat.le_refl _) ⟨0, rfl⟩ ?_
    refine wa_cons ?_ rfl
    refine we_name (i := 0) rfl rfl rfl ?_
    refine wa_nil ?_
    refine finF (Γ := _) [v_saying] rfl rfl hE ‹_› fun z1 h => ?_
    refine finI (f := iterL) (.lst z1) ‹_› fun it2 h => ?_
    refine compF_m h (fun x3 Qb Q1 h h2 => ?_) (fun zs4 h => ?_)
    · have hE : EI κ no ER.none := EI.no
      refine wg_name (i := 1) rfl rfl ?_
      refine wt_eqM (κ := κ) ?_
      refine we_ixM (κ := κ) ?_
      refine we_name (i := 1) rfl rfl rfl ?_
      refine we_int ?_
      refine fin2 (f := ixM) x3 (.int 0) (vE (u := x3)) (vE (u := .int 0)) ‹_› fun z5 h => ?_
      refine we_str ?_
      refine fin2 (f := eqM) z5 (.str "letter") (vE (u := z5)) (vE (u := .str "letter")) ‹_› fun b6 h => ?_
      refine ⟨rfl, h, fun hb => ?_⟩
      replace h := h2 (by cases hb; exact h)
      refine we_ixM (κ := κ) ?_
      refine we_name (i := 1) rfl rfl rfl ?_
      refine we_int ?_
      refine fin2 (f := ixM) x3 (.int 1) (vE (u := x3)) (vE (u := .int 1)) ‹_› fun z7 h => ?_
      exact ⟨rfl, z7, rfl, h⟩
    exact rtL_v (us := zs4) h

abbrev st_depth_of : Stmt := topS 2
abbrev N_depth_of : List Str := ["saying", "deepest", "part"]
abbrev vs_depth_of : List Bool := [true, true, false]
abbrev gl_depth_of : List Str := ["max", "inner_of"]
theorem sc_depth_of : FnScope N_depth_of ["saying"] (defScope st_depth_of) := ⟨rfl, rfl, rfl, by decide +kernel, rfl, by decide +kernel, by decide +kernel⟩
theorem gd_depth_of : goodC N_depth_of (defScope st_depth_of) vs_depth_of vs_depth_of gl_depth_of = true := by decide +kernel
@[reducible] def cx_depth_of (G : Gl) (k : Nat) : Pl.Ctx := G.cx N_depth_of (defScope st_depth_of) vs_depth_of vs_depth_of gl_depth_of k

theorem ok_depth_of (T : Tp G κ) : ∀ k, G.fn k "depth_of" 1 (spV κ 1 (sh_depth_of k))
  | 0 => fn_none T.d_depth_of (spV_none fun us => rfl)
  | kk + 1 => by
    have h_inner_of := ok_inner_of T kk
    have h_depth_of := ok_depth_of T kk
    refine def_V T.d_depth_of sc_depth_of gd_depth_of fun us hl Q Eh h => ?_
    have hE : EI κ Eh (erM κ Eh) := EI.erM
    obtain ⟨v_saying, rfl⟩ := len1 hl
    change WSs _ [some (em κ v_saying), none, none] _ (_ :: _) _
    refine wss_cons ?_
    refine ws_set (i := 1) rfl rfl ?_ rfl
    refine we_maxdM (κ := κ) ⟨0, rfl⟩ T.z_max ?_
    refine we_f ?_
    refine wn_lc [("part", 2)] [false, false, true] [false, false, true] ["depth_of"] [2] (blkOk_by (by decide +kernel : blkC N_depth_of (defScope st_depth_of) _ [("part", 2)] = true)) (good_blk (by decide +kernel : goodC N_depth_of (relS _ (defScope st_depth_of)) [false, false, true] [false, false, true] ["depth_of"] = true)) (sto_by (by decide +kernel : stoC N_depth_of _ [false, false, true] = true)) (by decide) ?_
    refine wi_LM (κ := κ) ?_
    refine we_f ?_
    refine wn_callN (κ := κ) h_inner_of (Nat.le_refl _) ⟨1, rfl⟩ ?_
    refine wa_cons ?_ rfl
    refine we_name (i := 0) rfl rfl rfl ?_
    refine wa_nil ?_
    refine finF (Γ := _) [v_saying] rfl rfl hE ‹_› fun z1 h => ?_
    refine finI (f := iterL) (.lst z1) ‹_› fun it2 h => ?_
    refine comp_m h (fun x3 Q1 h => ?_) (fun zs4 h => ?_)
    · have hE : EI κ no ER.none := EI.no
      refine wg_name (i := 2) rfl rfl ?_
      refine we_callV (κ := κ) h_depth_of (Nat.le_refl _) ⟨0, rfl⟩ ?_
      refine wa_cons ?_ rfl
      refine we_name (i := 2) rfl rfl rfl ?_
      refine wa_nil ?_
      refine finF (Γ := _) [x3] rfl rfl hE ‹_› fun z5 h => ?_
      exact ⟨rfl, z5, rfl, h⟩
    refine fin1 (f := fun u => maxdM u 0) (.lst zs4) (vE (u := .lst zs4)) ‹_› fun z6 h => ?_
    refine wss_cons ?_
    refine ws_if ?_
    refine wt_eqM (κ := κ) ?_
    refine we_ixM (κ := κ) ?_
    refine we_name (i := 0) rfl rfl rfl ?_
    refine we_int ?_
    refine fin2 (f := ixM) v_saying (.int 0) (vE (u := v_saying)) (vE (u := .int 0)) ‹_› fun z7 h => ?_
    refine we_str ?_
    refine fin2 (f := eqM) z7 (.str "shown") (vE (u := z7)) (vE (u := .str "shown")) ‹_› fun b8 h => ?_
    refine ite_m ‹_› (fun h => ?_) (fun h => ?_)
    · refine wss_cons ?_
      refine ws_ret ?_
      refine we_addM (κ := κ) ?_
      refine we_name (i := 1) rfl rfl rfl ?_
      refine we_int ?_
      refine fin2 (f := addM) z6 (.int 1) (vE (u := z6)) (vE (u := .int 1)) ‹_› fun z9 h => ?_
      exact rtV_v (u := z9) h
    · refine wss_nil ?_
      refine wss_cons ?_
      refine ws_ret ?_
      refine we_name (i := 1) rfl rfl rfl ?_
      exact rtV_v (u := z6) h

abbrev st_law : Stmt := topS 12
abbrev N_law : List Str := ["_law_script", "_law_saying", "_law_first", "_law_second", "_law_both", "_law_letter", "_law_found", "_law_allowed", "_law_deepest"]
abbrev vs_law : List Bool := [true, true, true, true, true, true, true, true, true]
abbrev gl_law : List Str := ["_law_built", "_law_mix", "_law_dict", "put", "letters_of", "sorted", "set", "max", "depth_of"]
theorem sc_law : FnScope N_law ["_law_script"] (defScope st_law) := ⟨rfl, rfl, rfl, by decide +kernel, rfl, by decide +kernel, by decide +kernel⟩
theorem gd_law : goodC N_law (defScope st_law) vs_law vs_law gl_law = true := by decide +kernel
@[reducible] def cx_law (G : Gl) (k : Nat) : Pl.Ctx := G.cx N_law (defScope st_law) vs_law vs_law gl_law k

theorem ok_the_law (T : Tp G κ) (f : Addr) (fd : FuncData) (F : Fun G.K "law" "law" (topS 12) f fd) : FnG G.P G.w G.K G.mg G.base (L2.CX G.P G.w) (300 + 1) f fd ["_law_script"] (spOf G.K 1 (lawSpec 63)) := by
  have h__law_built := ok__law_built T 300
  have h__law_mix := ok__law_mix T 300
  have h__law_dict := ok__law_dict T 300
  have h_put := ok_put T 300
  have h_letters_of := ok_letters_of T 300
  have h_depth_of := ok_depth_of T 300
  refine law_M (κ := κ) (m := sh_law (300 + 1)) F sc_law gd_law (fun us hl Q Eh h => ?_) pure_law
  have hE : EI κ Eh (erM κ Eh) := EI.erM
  obtain ⟨v_script, rfl⟩ := len1 hl
  change WSs _ [some (em κ v_script), none, none, none, none, none, none, none, none] _ (_ :: _) _
  refine wss_cons ?_
  refine ws_set (i := 1) rfl rfl ?_ rfl
  refine we_callV (κ := κ) h__law_built (Nat.le_refl _) ⟨0, rfl⟩ ?_
  refine wa_cons ?_ rfl
  refine we_name (i := 0) rfl rfl rfl ?_
  refine wa_cons ?_ rfl
  refine we_int ?_
  refine wa_cons ?_ rfl
  refine we_addM (κ := κ) ?_
  refine we_int ?_
  refine we_modM (κ := κ) ?_
  refine we_callV (κ := κ) h__law_mix (Nat.le_refl _) ⟨1, rfl⟩ ?_
  refine wa_cons ?_ rfl
  refine we_name (i := 0) rfl rfl rfl ?_
  refine wa_cons ?_ rfl
  refine we_int ?_
  refine wa_nil ?_
  refine finF (Γ := _) [v_script, .int 0] rfl rfl hE ‹_› fun z1 h => ?_
  refine we_int ?_
  refine fin2 (f := modM) z1 (.int 6) (vE (u := z1)) (vE (u := .int 6)) ‹_› fun z2 h => ?_
  refine fin2 (f := addM) (.int 1) z2 (vE (u := .int 1)) (vE (u := z2)) ‹_› fun z3 h => ?_
  refine wa_nil ?_
  refine finF (Γ := _) [v_script, .int 1, z3] rfl rfl hE ‹_› fun z4 h => ?_
  refine wss_cons ?_
  refine ws_set (i := 2) rfl rfl ?_ rfl
  refine we_callV (κ := κ) h__law_dict (Nat.le_refl _) ⟨2, rfl⟩ ?_
  refine wa_cons ?_ rfl
  refine we_name (i := 0) rfl rfl rfl ?_
  refine wa_cons ?_ rfl
  refine we_int ?_
  refine wa_cons ?_ rfl
  refine we_int ?_
  refine wa_nil ?_
  refine finF (Γ := _) [v_script, .int 8, .int 3] rfl rfl hE ‹_› fun z5 h => ?_
  refine wss_cons ?_
  refine ws_set (i := 3) rfl rfl ?_ rfl
  refine we_callV (κ := κ) h__law_dict (Nat.le_refl _) ⟨2, rfl⟩ ?_
  refine wa_cons ?_ rfl
  refine we_name (i := 0) rfl rfl rfl ?_
  refine wa_cons ?_ rfl
  refine we_int ?_
  refine wa_cons ?_ rfl
  refine we_int ?_
  refine wa_nil ?_
  refine finF (Γ := _) [v_script, .int 36, .int 3] rfl rfl hE ‹_› fun z6 h => ?_
  refine wss_cons ?_
  refine ws_set (i := 4) rfl rfl (we_dnewO ?_) rfl
  refine wss_cons ?_
  refine ws_for [5] ?_
  refine wi_LM (κ := κ) ?_
  refine we_f ?_
  refine wn_lst ?_
  refine wa_cons ?_ rfl
  refine we_str ?_
  refine wa_cons ?_ rfl
  refine we_str ?_
  refine wa_cons ?_ rfl
  refine we_str ?_
  refine wa_nil ?_
  refine ⟨szd (by decide : 3 < 10000000), ?_⟩
  refine finI (f := iterL) (.lst [.str "p", .str "q", .str "r"]) ‹_› fun it7 h => ?_
  refine loopN_m (fun (st : Dc) (Γ : Pl.Env) (Λ : Cells) => ∃ (y0 : Option D) (y1 : Option D) (y2 : Option D) (y3 : Option D), Γ = [some (em κ v_script), some (em κ z4), some (em κ z5), some (em κ z6), some (.loc 0), y0, y1, y2, y3] ∧ Λ = [.dic st.1 (ems κ st.2)]) h ⟨_, _, _, _, rfl, rfl⟩ (fun v_both_8 x9 Γ Λ Q1 hs h => ?_) (fun v_both_15 Γ Λ hs h => ?_)
  · obtain ⟨y0, y1, y2, y3, rfl, rfl⟩ := hs
    refine wg_name (i := 5) rfl rfl ?_
    refine wss_cons ?_
    refine ws_putM (κ := κ) 0 ?_
    refine we_callV (κ := κ) h_put (Nat.le_refl _) ⟨3, rfl⟩ ?_
    refine wa_cons ?_ rfl
    refine we_getM (κ := κ) ?_
    refine we_name (i := 2) rfl rfl rfl ?_
    refine asDic (u := z5) (vE (u := z5)) ‹_› fun dk11 du12 hdd h => ?_
    refine we_name (i := 5) rfl rfl rfl ?_
    refine we_tup ?_
    refine wa_cons ?_ rfl
    refine we_str ?_
    refine wa_cons ?_ rfl
    refine we_name (i := 5) rfl rfl rfl ?_
    refine wa_nil ?_
    refine ⟨szd (by decide : 2 < 10000000), ?_⟩
    refine ⟨x9, (.tup [.str "letter", x9]), (vE (u := x9)), rfl, hdd, fin0 (m := getdM (.dic dk11 du12) x9 (.tup [.str "letter", x9])) ‹_› fun z10 h => ?_⟩
    refine wa_cons ?_ rfl
    refine we_name (i := 3) rfl rfl rfl ?_
    refine wa_nil ?_
    refine finF (Γ := _) [z10, z6] rfl rfl hE ‹_› fun z13 h => ?_
    refine we_name (i := 4) rfl rfl rfl ?_
    refine we_name (i := 5) rfl rfl rfl ?_
    refine ⟨rfl, finP v_both_8 z13 x9 (vE (u := x9)) rfl ‹_› fun l14 h => ?_⟩
    refine wss_nil ?_
    exact ⟨l14, ⟨_, _, _, _, rfl, rfl⟩, h⟩
  · obtain ⟨y0, y1, y2, y3, rfl, rfl⟩ := hs
    refine wss_cons ?_
    refine ws_set (i := 6) rfl rfl ?_ rfl
    refine we_callV (κ := κ) h_put (Nat.le_refl _) ⟨3, rfl⟩ ?_
    refine wa_cons ?_ rfl
    refine we_callV (κ := κ) h_put (Nat.le_refl _) ⟨3, rfl⟩ ?_
    refine wa_cons ?_ rfl
    refine we_name (i := 1) rfl rfl rfl ?_
    refine wa_cons ?_ rfl
    refine we_name (i := 2) rfl rfl rfl ?_
    refine wa_nil ?_
    refine finF (Γ := _) [z4, z5] rfl rfl hE ‹_› fun z16 h => ?_
    refine wa_cons ?_ rfl
    refine we_name (i := 3) rfl rfl rfl ?_
    refine wa_nil ?_
    refine finF (Γ := _) [z16, z6] rfl rfl hE ‹_› fun z17 h => ?_
    refine freezeMD 0 4 v_both_15 (Nat.le_of_ble_eq_true rfl) rfl rfl ?_
    refine wss_cons ?_
    refine ws_if ?_
    refine wt_neM (κ := κ) ?_
    refine we_name (i := 6) rfl rfl rfl ?_
    refine we_callV (κ := κ) h_put (Nat.le_refl _) ⟨3, rfl⟩ ?_
    refine wa_cons ?_ rfl
    refine we_name (i := 1) rfl rfl rfl ?_
    refine wa_cons ?_ rfl
    refine we_name (i := 4) rfl rfl rfl ?_
    refine wa_nil ?_
    refine finF (Γ := _) [z4, .dic v_both_15.1 v_both_15.2] rfl rfl hE ‹_› fun z18 h => ?_
    refine fin2 (f := (nB eqM)) z17 z18 (vE (u := z17)) (vE (u := z18)) ‹_› fun b19 h => ?_
    refine ite_m ‹_› (fun h => ?_) (fun h => ?_)
    · refine wss_cons ?_
      refine ws_ret ?_
      refine we_bl ?_
      exact rtV_v (u := (.bl false)) h
    · refine wss_nil ?_
      refine wss_cons ?_
      refine ws_set (i := 7) rfl rfl (we_o ?_) rfl
      refine wn_lst ?_
      refine wa_nil ?_
      refine ⟨szd (by decide : 0 < 10000000), ?_⟩
      refine wss_cons ?_
      refine ws_for [5] ?_
      refine wi_LM (κ := κ) ?_
      refine we_f ?_
      refine wn_callN (κ := κ) h_letters_of (Nat.le_refl _) ⟨4, rfl⟩ ?_
      refine wa_cons ?_ rfl
      refine we_name (i := 1) rfl rfl rfl ?_
      refine wa_nil ?_
      refine finF (Γ := _) [z4] rfl rfl hE ‹_› fun z20 h => ?_
      refine finI (f := iterL) (.lst z20) ‹_› fun it21 h => ?_
      refine loopN_m (fun (st : List U) (Γ : Pl.Env) (Λ : Cells) => ∃ (y0 : Option D) (y1 : Option D), Γ = [some (em κ v_script), some (em κ z4), some (em κ z5), some (em κ z6), some (em κ (.dic v_both_15.1 v_both_15.2)), y0, some (em κ z17), some (.loc 1), y1] ∧ Λ = [.gone, .lst (ems κ st)]) h ⟨_, _, rfl, rfl⟩ (fun v_allowed_22 x23 Γ Λ Q1 hs h => ?_) (fun v_allowed_27 Γ Λ hs h => ?_)
      · obtain ⟨y0, y1, rfl, rfl⟩ := hs
        refine wg_name (i := 5) rfl rfl ?_
        refine wss_cons ?_
        refine ws_expr ?_
        refine we_extM (κ := κ) 1 ?_
        refine we_name (i := 7) rfl rfl rfl ?_
        refine ⟨rfl, ⟨v_allowed_22, rfl⟩, ?_⟩
        refine we_f ?_
        refine wn_callN (κ := κ) h_letters_of (Nat.le_refl _) ⟨4, rfl⟩ ?_
        refine wa_cons ?_ rfl
        refine we_ixdM (κ := κ) ?_
        refine we_name (i := 4) rfl rfl rfl ?_
        refine we_name (i := 5) rfl rfl rfl ?_
        refine fin2 (f := ixdM) (.dic v_both_15.1 v_both_15.2) x23 (vE (u := .dic v_both_15.1 v_both_15.2)) (vE (u := x23)) ‹_› fun z24 h => ?_
        refine wa_nil ?_
        refine finF (Γ := _) [z24] rfl rfl hE ‹_› fun z25 h => ?_
        refine finV (f := extM) v_allowed_22 (.lst z25) (vE (u := .lst z25)) rfl ‹_› fun l26 h => ?_
        refine wss_nil ?_
        exact ⟨l26, ⟨_, _, rfl, rfl⟩, h⟩
      · obtain ⟨y0, y1, rfl, rfl⟩ := hs
        refine freezeM 1 7 v_allowed_27 (Nat.le_of_ble_eq_true rfl) rfl rfl ?_
        refine wss_cons ?_
        refine ws_if ?_
        refine wt_neM (κ := κ) ?_
        refine we_f ?_
        refine wn_sortsetM (κ := κ) ⟨5, rfl⟩ T.z_sorted ⟨6, rfl⟩ T.z_set ?_
        refine we_f ?_
        refine wn_callN (κ := κ) h_letters_of (Nat.le_refl _) ⟨4, rfl⟩ ?_
        refine wa_cons ?_ rfl
        refine we_name (i := 6) rfl rfl rfl ?_
        refine wa_nil ?_
        refine finF (Γ := _) [z17] rfl rfl hE ‹_› fun z28 h => ?_
        refine fin1 (f := sortsetM) (.lst z28) (vE (u := .lst z28)) ‹_› fun z29 h => ?_
        refine we_f ?_
        refine wn_sortsetM (κ := κ) ⟨5, rfl⟩ T.z_sorted ⟨6, rfl⟩ T.z_set ?_
        refine we_name (i := 7) rfl rfl rfl ?_
        refine fin1 (f := sortsetM) (.lst v_allowed_27) (vE (u := .lst v_allowed_27)) ‹_› fun z30 h => ?_
        refine fin2 (f := (nB eqM)) (.lst z29) (.lst z30) (vE (u := .lst z29)) (vE (u := .lst z30)) ‹_› fun b31 h => ?_
        refine ite_m ‹_› (fun h => ?_) (fun h => ?_)
        · refine wss_cons ?_
          refine ws_ret ?_
          refine we_bl ?_
          exact rtV_v (u := (.bl false)) h
        · refine wss_nil ?_
          refine wss_cons ?_
          refine ws_set (i := 8) rfl rfl ?_ rfl
          refine we_maxdM (κ := κ) ⟨7, rfl⟩ T.z_max ?_
          refine we_f ?_
          refine wn_lc [("_law_letter", 5)] [false, false, false, false, true, true, false, false, false] [false, false, false, false, false, true, false, false, false] ["depth_of"] [5] (blkOk_by (by decide +kernel : blkC N_law (defScope st_law) _ [("_law_letter", 5)] = true)) (good_blk (by decide +kernel : goodC N_law (relS _ (defScope st_law)) [false, false, false, false, true, true, false, false, false] [false, false, false, false, false, true, false, false, false] ["depth_of"] = true)) (sto_by (by decide +kernel : stoC N_law _ [false, false, false, false, false, true, false, false, false] = true)) (by decide) ?_
          refine wi_LM (κ := κ) ?_
          refine we_f ?_
          refine wn_callN (κ := κ) h_letters_of (Nat.le_refl _) ⟨4, rfl⟩ ?_
          refine wa_cons ?_ rfl
          refine we_name (i := 1) rfl rfl rfl ?_
          refine wa_nil ?_
          refine finF (Γ := _) [z4] rfl rfl hE ‹_› fun z32 h => ?_
          refine finI (f := iterL) (.lst z32) ‹_› fun it33 h => ?_
          refine comp_m h (fun x34 Q1 h => ?_) (fun zs35 h => ?_)
          · have hE : EI κ no ER.none := EI.no
            refine wg_name (i := 5) rfl rfl ?_
            refine we_callV (κ := κ) h_depth_of (Nat.le_refl _) ⟨0, rfl⟩ ?_
            refine wa_cons ?_ rfl
            refine we_ixdM (κ := κ) ?_
            refine we_name (i := 4) rfl rfl rfl ?_
            refine we_name (i := 5) rfl rfl rfl ?_
            refine fin2 (f := ixdM) (.dic v_both_15.1 v_both_15.2) x34 (vE (u := .dic v_both_15.1 v_both_15.2)) (vE (u := x34)) ‹_› fun z36 h => ?_
            refine wa_nil ?_
            refine finF (Γ := _) [z36] rfl rfl hE ‹_› fun z37 h => ?_
            exact ⟨rfl, z37, rfl, h⟩
          refine fin1 (f := fun u => maxdM u 0) (.lst zs35) (vE (u := .lst zs35)) ‹_› fun z38 h => ?_
          refine wss_cons ?_
          refine ws_ret ?_
          refine we_cutM (κ := κ) h (fun Q1 h => ?_) (fun z47 h => ?_)
          · refine we_andM (κ := κ) ?_
            refine we_leM (κ := κ) ?_
            refine we_callV (κ := κ) h_depth_of (Nat.le_refl _) ⟨8, rfl⟩ ?_
            refine wa_cons ?_ rfl
            refine we_name (i := 1) rfl rfl rfl ?_
            refine wa_nil ?_
            refine finF (Γ := _) [z4] rfl rfl hE ‹_› fun z39 h => ?_
            refine we_callV (κ := κ) h_depth_of (Nat.le_refl _) ⟨8, rfl⟩ ?_
            refine wa_cons ?_ rfl
            refine we_name (i := 6) rfl rfl rfl ?_
            refine wa_nil ?_
            refine finF (Γ := _) [z17] rfl rfl hE ‹_› fun z40 h => ?_
            refine fin2 (f := (vB leM)) z39 z40 (vE (u := z39)) (vE (u := z40)) ‹_› fun z41 h => ?_
            refine fin1 (f := boolM) z41 (vE (u := z41)) ‹_› fun b42 h => ?_
            refine ite_m ‹_› (fun h => ?_) (fun h => ?_)
            · refine we_one ?_
              refine we_leM (κ := κ) ?_
              refine we_callV (κ := κ) h_depth_of (Nat.le_refl _) ⟨8, rfl⟩ ?_
              refine wa_cons ?_ rfl
              refine we_name (i := 6) rfl rfl rfl ?_
              refine wa_nil ?_
              refine finF (Γ := _) [z17] rfl rfl hE ‹_› fun z43 h => ?_
              refine we_addM (κ := κ) ?_
              refine we_callV (κ := κ) h_depth_of (Nat.le_refl _) ⟨8, rfl⟩ ?_
              refine wa_cons ?_ rfl
              refine we_name (i := 1) rfl rfl rfl ?_
              refine wa_nil ?_
              refine finF (Γ := _) [z4] rfl rfl hE ‹_› fun z44 h => ?_
              refine we_name (i := 8) rfl rfl rfl ?_
              refine fin2 (f := addM) z44 z38 (vE (u := z44)) (vE (u := z38)) ‹_› fun z45 h => ?_
              refine fin2 (f := (vB leM)) z43 z45 (vE (u := z43)) (vE (u := z45)) ‹_› fun z46 h => ?_
              exact ⟨rfl, z46, rfl, h⟩
            · exact ⟨rfl, (.bl false), rfl, h⟩
          exact rtV_v (u := z47) h
end Law
set_option maxHeartbeats 0 in
theorem PySem.Challenge.cw_selfsay_k04_whole_put_behind_one_another_holds : PySem.Challenge.rw_selfsay_k04_whole_put_behind_one_another.Holds := by
  w_on; o_law; k_head; (case hw => w_witness2)
  k_fill
  refine Pl.law_end (n := 63) (k := 301) (x := "_law_script") (st := Law.topS 12) rfl (by decide) rfl ⟨rfl, rfl, by decide, by decide⟩ rfl (fun w h Y => PySem.W.kIn_of Y) ?F
  case F =>
    intro w mg h KX G
    have z_len : mg "len" = none := by
      refine' PySem.W.mg_none_of KX G ?z
      (case z => k_is)
    have z_list : mg "list" = none := by
      refine' PySem.W.mg_none_of KX G ?z
      (case z => k_is)
    have z_tuple : mg "tuple" = none := by
      refine' PySem.W.mg_none_of KX G ?z
      (case z => k_is)
    have z_max : mg "max" = none := by
      refine' PySem.W.mg_none_of KX G ?z
      (case z => k_is)
    have z_min : mg "min" = none := by
      refine' PySem.W.mg_none_of KX G ?z
      (case z => k_is)
    have z_range : mg "range" = none := by
      refine' PySem.W.mg_none_of KX G ?z
      (case z => k_is)
    have z_sorted : mg "sorted" = none := by
      refine' PySem.W.mg_none_of KX G ?z
      (case z => k_is)
    have z_set : mg "set" = none := by
      refine' PySem.W.mg_none_of KX G ?z
      (case z => k_is)
    refine' (have d_inner_of := Pl.defAt_mk (x := "inner_of") (st := Law.topS 1) (ps := ["saying"]) KX G (fun _ _ _ _ _ _ us hl => match us, hl with | [_], _ => rfl) ?a_1 ?l_1 ?c_1 ?k_1; ?rest_1)
    (case a_1 => k_is); (case l_1 => k_is); (case c_1 => k_is); (case k_1 => k_is)
    refine' (have d_depth_of := Pl.defAt_mk (x := "depth_of") (st := Law.topS 2) (ps := ["saying"]) KX G (fun _ _ _ _ _ _ us hl => match us, hl with | [_], _ => rfl) ?a_2 ?l_2 ?c_2 ?k_2; ?rest_2)
    (case a_2 => k_is); (case l_2 => k_is); (case c_2 => k_is); (case k_2 => k_is)
    refine' (have d_gather := Pl.defAt_mk (x := "gather") (st := Law.topS 3) (ps := ["saying", "found"]) KX G (fun _ _ _ _ _ _ us hl => match us, hl with | [_, _], _ => rfl) ?a_3 ?l_3 ?c_3 ?k_3; ?rest_3)
    (case a_3 => k_is); (case l_3 => k_is); (case c_3 => k_is); (case k_3 => k_is)
    refine' (have d_each_once := Pl.defAt_mk (x := "each_once") (st := Law.topS 4) (ps := ["some"]) KX G (fun _ _ _ _ _ _ us hl => match us, hl with | [_], _ => rfl) ?a_4 ?l_4 ?c_4 ?k_4; ?rest_4)
    (case a_4 => k_is); (case l_4 => k_is); (case c_4 => k_is); (case k_4 => k_is)
    refine' (have d_parts_of := Pl.defAt_mk (x := "parts_of") (st := Law.topS 5) (ps := ["saying"]) KX G (fun _ _ _ _ _ _ us hl => match us, hl with | [_], _ => rfl) ?a_5 ?l_5 ?c_5 ?k_5; ?rest_5)
    (case a_5 => k_is); (case l_5 => k_is); (case c_5 => k_is); (case k_5 => k_is)
    refine' (have d_letters_of := Pl.defAt_mk (x := "letters_of") (st := Law.topS 6) (ps := ["saying"]) KX G (fun _ _ _ _ _ _ us hl => match us, hl with | [_], _ => rfl) ?a_6 ?l_6 ?c_6 ?k_6; ?rest_6)
    (case a_6 => k_is); (case l_6 => k_is); (case c_6 => k_is); (case k_6 => k_is)
    refine' (have d_put := Pl.defAt_mk (x := "put") (st := Law.topS 7) (ps := ["saying", "sayings"]) KX G (fun _ _ _ _ _ _ us hl => match us, hl with | [_, _], _ => rfl) ?a_7 ?l_7 ?c_7 ?k_7; ?rest_7)
    (case a_7 => k_is); (case l_7 => k_is); (case c_7 => k_is); (case k_7 => k_is)
    refine' (have d__law_mix := Pl.defAt_mk (x := "_law_mix") (st := Law.topS 9) (ps := ["_law_script", "_law_k"]) KX G (fun _ _ _ _ _ _ us hl => match us, hl with | [_, _], _ => rfl) ?a_8 ?l_8 ?c_8 ?k_8; ?rest_8)
    (case a_8 => k_is); (case l_8 => k_is); (case c_8 => k_is); (case k_8 => k_is)
    refine' (have d__law_built := Pl.defAt_mk (x := "_law_built") (st := Law.topS 10) (ps := ["_law_script", "_law_at", "_law_count"]) KX G (fun _ _ _ _ _ _ us hl => match us, hl with | [_, _, _], _ => rfl) ?a_9 ?l_9 ?c_9 ?k_9; ?rest_9)
    (case a_9 => k_is); (case l_9 => k_is); (case c_9 => k_is); (case k_9 => k_is)
    refine' (have d__law_dict := Pl.defAt_mk (x := "_law_dict") (st := Law.topS 11) (ps := ["_law_script", "_law_at", "_law_count"]) KX G (fun _ _ _ _ _ _ us hl => match us, hl with | [_, _, _], _ => rfl) ?a_10 ?l_10 ?c_10 ?k_10; ?rest_10)
    (case a_10 => k_is); (case l_10 => k_is); (case c_10 => k_is); (case k_10 => k_is)
    refine' (have d_law := Pl.defAt_mk (x := "law") (st := Law.topS 12) (ps := ["_law_script"]) KX G (fun _ _ _ _ _ _ us hl => match us, hl with | [_], _ => rfl) ?a_11 ?l_11 ?c_11 ?k_11; ?rest_11)
    (case a_11 => k_is); (case l_11 => k_is); (case c_11 => k_is); (case k_11 => k_is)
    exact ⟨d_law, fun base KB GB f fd F => Law.ok_the_law (G := ⟨_, w, _, mg, base⟩) (κ := ⟨fun _ => 0, fun _ => []⟩) ⟨z_len, z_list, z_tuple, z_max, z_min, z_range, z_sorted, z_set, d_inner_of, d_depth_of, d_gather, d_each_once, d_parts_of, d_letters_of, d_put, d__law_mix, d__law_built, d__law_dict, d_law⟩ f fd F⟩

