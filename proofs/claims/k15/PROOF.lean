import PyProof.Rows.All
import Wide.All
import OpenK.AllK
import Wide.FinOn
import HandS.ForMost
import HandS.ForExc
import HandS.Wide
import HandS.Flow
import HandS.Zip
import KE.DataEq
import HandS.CallSlots
import HandS.IsInst
import HandS.EndBits
import HandS.SortKw
import PyProof.MinMaxWalk
import PyProof.WalkInts
import HandS.TupAny
import HandS.Text
import HandS.TupLe
import HandS.More
import HandS.DictEq
import HandS.DeepEq
import KE.LtSeq
import KE.LtData
import HandS.SortOrd
import HandS.SortRule
import HandS.RevRange
import HandS.Rev
import HandS.Deep
import HandS.Replace
import KE.GoesMore
import HandS.ClsMeth
import HandS.Conv
import HandS.Codes
import KE.KExcIs
import HandS.ExcIs
import HandS.ExcField
import HandS.TryOnly
import PyProof.StrBlock2
import PyProof.Draws
import PyProof.EnumMake
import PySem.Challenge.RW_selfsay_k15_whole_put_for_letters
set_option Elab.async false
set_option linter.all false
set_option maxRecDepth 100000
set_option maxHeartbeats 4000000
/-! Pl: a layer over HandS: pure data D, cells, and judgements by weakest wishes over them. -/
namespace Pl
open PySem L2 PyProof.Rows

/-! ### data -/
/-- a datum: immutable things as trees; `loc n` is the n-th mutable thing that is owned -/
inductive D where
  | non | bl (b : Bool) | int (i : Int) | str (s : Str)
  | tup (ds : List D) | lst (ds : List D) | fzl (ds : List D)
  | loc (n : Nat) | raw (v : V)
  | ins (C : Addr) (ns : List Str) (ds : List D)
  | dic (ks : List Key) (ds : List D)
  | exc (C : Addr) (ns : List Str) (ds : List D)
  deriving Inhabited
/-- at a: an exception of the class at C, its dict at d -/
def excHO (C a : Addr) (d : Option Addr) : HO := .ext fun h => ∃ (oe : Obj) (vs : Array Value), h.get? a = some oe ∧ Zc (.ref C) d oe ∧ oe.data = .fields vs

/-- extension of heaps -/
def Ex (H H' : Hp) : Prop := ∀ a o, H a = some o → H' a = some o
theorem Ex.refl (H : Hp) : Ex H H := fun _ _ h => h
theorem Ex.trans {H H1 H2 : Hp} (a : Ex H H1) (b : Ex H1 H2) : Ex H H2 := fun x o h => b x o (a x o h)
theorem Ex.new {H : Hp} {p : Addr} {o : HO} (h : H p = none) : Ex H (upd H p o) := fun a u e => by
  rw [upd_ne (ne_of_none e h)]; exact e
theorem Ex.back {H H' : Hp} {p : Addr} (e : Ex H H') (h : H' p = none) : H p = none := by
  cases h1 : H p with
  | none => rfl
  | some o => rw [e p o h1] at h; cases h
theorem Ex.rd {H H' : Hp} {a : Addr} {u : HO} (e : Ex H H') (h : Rd H a u) : Rd H' a u := by
  rcases h with h | ⟨o, h⟩
  · exact .inl (e a _ h)
  · exact .inr ⟨o, e a _ h⟩
theorem Ex.sqL {K : PySem.W.Frag} {H H' : Hp} {a : Addr} {xs : List V} (e : Ex H H') (h : SqL K H a xs) : SqL K H' a xs := by
  rcases h with h | h
  · exact .inl (e.rd h)
  · exact .inr h
theorem Ex.sqT {K : PySem.W.Frag} {H H' : Hp} {a : Addr} {xs : List V} (e : Ex H H') (h : SqT K H a xs) : SqT K H' a xs := by
  rcases h with h | h
  · exact .inl (e.rd h)
  · exact .inr h
/-- an object that H does not know is laid or changed -/
theorem Ex.mut {H H' : Hp} {p : Addr} {o : HO} (e : Ex H H') (h : H p = none) : Ex H (upd H' p o) := fun a u ha => by
  rw [upd_ne (ne_of_none ha h)]; exact e a u ha

/-- a dict that is read: tracked, or of the written part -/
def RdD (K : PySem.W.Frag) (B : Hp) (a : Addr) (kvs : List (Key × V)) : Prop := Rd B a (.dK kvs)

mutual
/-- the value v bears the datum d, by the view B and the cells' addresses α -/
def Rep (K : PySem.W.Frag) (B : Hp) (α : List Addr) : D → V → Prop
  | .non, v => v = .non
  | .bl b, v => v = .bl b
  | .int i, v => v = .int i
  | .str s, v => v = .str s
  | .tup ds, v => ∃ a vs, v = .ref a ∧ SqT K B a vs ∧ Reps K B α ds vs
  | .lst ds, v => ∃ a vs, v = .ref a ∧ B a = some (.lst vs) ∧ Reps K B α ds vs
  | .fzl ds, v => ∃ a vs, v = .ref a ∧ SqL K B a vs ∧ Reps K B α ds vs
  | .loc n, v => ∃ a, v = .ref a ∧ α[n]? = some a
  | .raw u, v => v = u
  | .ins C ns ds, v => ∃ a dx vs, v = .ref a ∧ B a = some (.ins C dx (ns.zip vs)) ∧ Reps K B α ds vs ∧ ns.length = ds.length
  | .dic ks ds, v => ∃ a vs, v = .ref a ∧ Rd B a (.dK (ks.zip vs)) ∧ Reps K B α ds vs ∧ ks.length = ds.length
  | .exc C ns ds, v => ∃ a d vs, v = .ref a ∧ B a = some (excHO C a d) ∧ Reps K B α ds vs ∧ ns.length = ds.length ∧ (d = none → ns = []) ∧ ∀ dx, d = some dx → B dx = some (.xd (ns.zip vs))
def Reps (K : PySem.W.Frag) (B : Hp) (α : List Addr) : List D → List V → Prop
  | [], vs => vs = []
  | d :: ds, vs => ∃ v r, vs = v :: r ∧ Rep K B α d v ∧ Reps K B α ds r
end
section
variable {K : PySem.W.Frag} {B B' : Hp} {α α' : List Addr}
theorem pre_get {α α' : List Addr} {n : Nat} {a : Addr} (p : α <+: α') (h : α[n]? = some a) : α'[n]? = some a := by
  obtain ⟨t, rfl⟩ := p
  rw [List.getElem?_append_left]
  · exact h
  · exact (List.getElem?_eq_some_iff.mp h).1
mutual
theorem Rep.mono (e : Ex B B') (p : α <+: α') : ∀ (d : D) (v : V), Rep K B α d v → Rep K B' α' d v
  | .non, _, h => h
  | .bl _, _, h => h
  | .int _, _, h => h
  | .str _, _, h => h
  | .tup ds, v, h => by
    unfold Rep at h ⊢
    obtain ⟨a, vs, rfl, h1, h2⟩ := h
    exact ⟨a, vs, rfl, e.sqT h1, Reps.mono e p ds vs h2⟩
  | .lst ds, v, h => by
    unfold Rep at h ⊢
    obtain ⟨a, vs, rfl, h1, h2⟩ := h
    exact ⟨a, vs, rfl, e _ _ h1, Reps.mono e p ds vs h2⟩
  | .fzl ds, v, h => by
    unfold Rep at h ⊢
    obtain ⟨a, vs, rfl, h1, h2⟩ := h
    exact ⟨a, vs, rfl, e.sqL h1, Reps.mono e p ds vs h2⟩
  | .loc n, v, h => by
    unfold Rep at h ⊢
    obtain ⟨a, rfl, h1⟩ := h
    exact ⟨a, rfl, pre_get p h1⟩
  | .raw _, _, h => h
  | .ins C ns ds, v, h => by
    unfold Rep at h ⊢
    obtain ⟨a, dx, vs, rfl, h1, h2, h3⟩ := h
    exact ⟨a, dx, vs, rfl, e _ _ h1, Reps.mono e p ds vs h2, h3⟩
  | .dic ks ds, v, h => by
    unfold Rep at h ⊢
    obtain ⟨a, vs, rfl, h1, h2, h3⟩ := h
    exact ⟨a, vs, rfl, e.rd h1, Reps.mono e p ds vs h2, h3⟩
  | .exc C ns ds, v, h => by
    unfold Rep at h ⊢
    obtain ⟨a, d, vs, rfl, h1, h2, h3, h4⟩ := h
    exact ⟨a, d, vs, rfl, e _ _ h1, Reps.mono e p ds vs h2, h3, h4.1, fun dx q => e _ _ (h4.2 dx q)⟩
theorem Reps.mono (e : Ex B B') (p : α <+: α') : ∀ (ds : List D) (vs : List V), Reps K B α ds vs → Reps K B' α' ds vs
  | [], _, h => h
  | d :: ds, vs, h => by
    unfold Reps at h ⊢
    obtain ⟨v, r, rfl, h1, h2⟩ := h
    exact ⟨v, r, rfl, Rep.mono e p d v h1, Reps.mono e p ds r h2⟩
end
theorem Reps.length : ∀ {ds : List D} {vs : List V}, Reps K B α ds vs → vs.length = ds.length
  | [], _, h => by unfold Reps at h; subst h; rfl
  | _ :: _, _, h => by
    unfold Reps at h
    obtain ⟨v, r, rfl, _, h2⟩ := h
    simp [Reps.length h2]
theorem Reps.get : ∀ {ds : List D} {vs : List V} {i : Nat} {d : D}, Reps K B α ds vs → ds[i]? = some d → ∃ v, vs[i]? = some v ∧ Rep K B α d v
  | [], _, _, _, _, e => by simp at e
  | d :: ds, _, 0, _, h, e => by
    unfold Reps at h
    obtain ⟨v, r, rfl, h1, _⟩ := h
    simp at e; subst e
    exact ⟨v, rfl, h1⟩
  | d :: ds, _, i + 1, d', h, e => by
    unfold Reps at h
    obtain ⟨v, r, rfl, _, h2⟩ := h
    obtain ⟨u, e1, e2⟩ := Reps.get (i := i) h2 (by simpa using e)
    exact ⟨u, by simpa using e1, e2⟩
theorem Reps.getV : ∀ {ds : List D} {vs : List V} {i : Nat} {v : V}, Reps K B α ds vs → vs[i]? = some v → ∃ d, ds[i]? = some d ∧ Rep K B α d v := fun {ds vs i v} h e => by
  have hl := h.length
  have hi : i < ds.length := by rw [← hl]; exact (List.getElem?_eq_some_iff.mp e).1
  obtain ⟨u, e1, e2⟩ := h.get (List.getElem?_eq_getElem hi)
  rw [e] at e1; cases e1
  exact ⟨_, List.getElem?_eq_getElem hi, e2⟩
theorem Reps.append : ∀ {ds es : List D} {vs ws : List V}, Reps K B α ds vs → Reps K B α es ws → Reps K B α (ds ++ es) (vs ++ ws)
  | [], _, _, _, h, k => by unfold Reps at h; subst h; exact k
  | d :: ds, es, _, ws, h, k => by
    unfold Reps at h
    obtain ⟨v, r, rfl, h1, h2⟩ := h
    show Reps K B α (d :: (ds ++ es)) (v :: (r ++ ws))
    unfold Reps
    exact ⟨v, _, rfl, h1, h2.append k⟩
theorem Reps.cons {d : D} {v : V} {ds : List D} {vs : List V} (h : Rep K B α d v) (t : Reps K B α ds vs) : Reps K B α (d :: ds) (v :: vs) := by
  unfold Reps; exact ⟨v, vs, rfl, h, t⟩
theorem Reps.nil : Reps K B α [] [] := by unfold Reps; rfl
theorem Reps.one {d : D} {v : V} (h : Rep K B α d v) : Reps K B α [d] [v] := .cons h .nil
theorem Reps.take (n : Nat) : ∀ {ds : List D} {vs : List V}, Reps K B α ds vs → Reps K B α (ds.take n) (vs.take n) := by
  induction n with
  | zero => intro ds vs _; simp [Reps]
  | succ n ih =>
    intro ds vs h
    cases ds with
    | nil => unfold Reps at h; subst h; simp [Reps]
    | cons d ds =>
      unfold Reps at h
      obtain ⟨v, r, rfl, h1, h2⟩ := h
      exact .cons h1 (ih h2)
theorem Reps.drop (n : Nat) : ∀ {ds : List D} {vs : List V}, Reps K B α ds vs → Reps K B α (ds.drop n) (vs.drop n) := by
  induction n with
  | zero => intro ds vs h; exact h
  | succ n ih =>
    intro ds vs h
    cases ds with
    | nil => unfold Reps at h; subst h; simp [Reps]
    | cons d ds =>
      unfold Reps at h
      obtain ⟨v, r, rfl, h1, h2⟩ := h
      exact ih h2
theorem Reps.set {i : Nat} {d : D} {v : V} (hd : Rep K B α d v) : ∀ {ds : List D} {vs : List V}, Reps K B α ds vs → Reps K B α (ds.set i d) (vs.set i v) := by
  induction i with
  | zero =>
    intro ds vs h
    cases ds with
    | nil => unfold Reps at h; subst h; simp [Reps]
    | cons e ds =>
      unfold Reps at h
      obtain ⟨w, r, rfl, h1, h2⟩ := h
      exact .cons hd h2
  | succ n ih =>
    intro ds vs h
    cases ds with
    | nil => unfold Reps at h; subst h; simp [Reps]
    | cons e ds =>
      unfold Reps at h
      obtain ⟨w, r, rfl, h1, h2⟩ := h
      exact .cons h1 (ih h2)
end

/-! ### cells -/
/-- a mutable thing that is owned -/
inductive Cell where
  | lst (ds : List D)
  | dic (ks : List Key) (ds : List D)
  | ins (C : Addr) (ns : List Str) (ds : List D)
  | gone
  deriving Inhabited

def CellAt (K : PySem.W.Frag) (B : Hp) (α : List Addr) (H : Hp) (a : Addr) : Cell → Prop
  | .lst ds => ∃ vs, H a = some (.lst vs) ∧ Reps K B α ds vs
  | .dic ks ds => ∃ vs, H a = some (.dK (ks.zip vs)) ∧ Reps K B α ds vs ∧ ks.length = ds.length
  | .ins C ns ds => ∃ dx vs, H a = some (.ins C dx (ns.zip vs)) ∧ Reps K B α ds vs ∧ ns.length = ds.length
  | .gone => True
theorem CellAt.mono {K : PySem.W.Frag} {B B' : Hp} {α α' : List Addr} {H H' : Hp} {a : Addr} (e : Ex B B') (p : α <+: α') (h : ∀ o, H a = some o → H' a = some o) : ∀ {c : Cell}, CellAt K B α H a c → CellAt K B' α' H' a c
  | .lst ds, ⟨vs, h1, h2⟩ => ⟨vs, h _ h1, h2.mono e p⟩
  | .dic ks ds, ⟨vs, h1, h2, h3⟩ => ⟨vs, h _ h1, h2.mono e p, h3⟩
  | .ins C ns ds, ⟨dx, vs, h1, h2, h3⟩ => ⟨dx, vs, h _ h1, h2.mono e p, h3⟩
  | .gone, _ => trivial

/-- the frame of a def's run: the heap and the view at its entry, the addresses of the cells that it was handed -/
structure Fm where
  H0 : Hp
  B0 : Hp
  α0 : List Addr

abbrev Env := List (Option D)
abbrev Cells := List Cell

structure Sat (K : PySem.W.Frag) (F : Fm) (B : Hp) (α : List Addr) (Γ : Env) (Λ : Cells) (σ : L2.St) (H : Hp) : Prop where
  bb : Ex F.B0 B
  bh : Ex B H
  fr : ∀ (a : Addr) (o : HO), B a = some o → F.B0 a = some o ∨ F.H0 a = none
  kp : ∀ (a : Addr) (o : HO), F.H0 a = some o → a ∉ F.α0 → H a = some o
  dm : ∀ a : Addr, H a = none → F.H0 a = none
  pf : F.α0 <+: α
  nd : α.Nodup
  al : α.length = Λ.length
  ce : ∀ (n : Nat) (c : Cell), Λ[n]? = some c → c ≠ .gone → ∃ a, α[n]? = some a ∧ B a = none ∧ (F.H0 a = none ∨ a ∈ F.α0) ∧ CellAt K B α H a c
  ah : ∀ a ∈ α, H a ≠ none ∧ (F.H0 a = none ∨ a ∈ F.α0)
  sl : ∀ (i : Nat) (d : D), Γ[i]? = some (some d) → ∃ v, σ[i]? = some (some v) ∧ Rep K B α d v
  ln : Γ.length = σ.length

section
variable {K : PySem.W.Frag} {F : Fm} {B B' : Hp} {α α' : List Addr} {Γ : Env} {Λ : Cells} {σ : L2.St} {H H' : Hp}

/-- a slot is stored -/
theorem Sat.set {i : Nat} {d : D} {v : V} (S : Sat K F B α Γ Λ σ H) (r : Rep K B α d v) : Sat K F B α (Γ.set i (some d)) Λ (σ.set i (some v)) H := by
  refine { S with sl := fun j e hj => ?_, ln := by simpa using S.ln }
  by_cases hij : i = j
  · subst hij
    have hi : i < Γ.length := by
      have := (List.getElem?_eq_some_iff.mp hj).1
      simpa using this
    rw [List.getElem?_set_self hi] at hj
    cases hj
    exact ⟨v, List.getElem?_set_self (by rw [← S.ln]; exact hi), r⟩
  · rw [List.getElem?_set_ne hij] at hj
    obtain ⟨w, h1, h2⟩ := S.sl j e hj
    exact ⟨w, by rw [List.getElem?_set_ne hij]; exact h1, h2⟩
/-- slots forgotten -/
theorem Sat.env {Γ' : Env} {σ' : L2.St} (S : Sat K F B α Γ Λ σ H) (hl : Γ'.length = σ'.length) (h : ∀ (i : Nat) (d : D), Γ'[i]? = some (some d) → ∃ v, σ'[i]? = some (some v) ∧ Rep K B α d v) : Sat K F B α Γ' Λ σ' H :=
  { S with sl := h, ln := hl }
theorem Sat.noEnv (S : Sat K F B α Γ Λ σ H) : Sat K F B α [] Λ [] H := S.env rfl fun i d h => by simp at h

theorem CellAt.some {H : Hp} {a : Addr} {c : Cell} (h : CellAt K B α H a c) (hg : c ≠ .gone) : H a ≠ none := by
  cases c with
  | lst ds => obtain ⟨vs, q, _⟩ := h; rw [q]; simp
  | dic ks ds => obtain ⟨vs, q, _⟩ := h; rw [q]; simp
  | ins C ns ds => obtain ⟨dx, vs, q, _⟩ := h; rw [q]; simp
  | gone => exact absurd rfl hg

/-- the heap has grown by things that the view does not see -/
theorem Sat.grow (S : Sat K F B α Γ Λ σ H) (e : Ex H H') : Sat K F B α Γ Λ σ H' :=
  { S with bh := S.bh.trans e, kp := fun a o h ha => e _ _ (S.kp a o h ha), dm := fun a h => S.dm a (e.back h)
           ce := fun n c h hg => by
            obtain ⟨a, h1, h2, h3, h4⟩ := S.ce n c h hg
            exact ⟨a, h1, h2, h3, h4.mono (Ex.refl B) (List.prefix_refl _) (e a)⟩
           ah := fun a ha => ⟨fun h => (S.ah a ha).1 (e.back h), (S.ah a ha).2⟩ }
/-- the view grows by a thing of the heap that is new and no cell -/
theorem Sat.see {p : Addr} {o : HO} (S : Sat K F B α Γ Λ σ H) (hp : H p = some o) (hB : B p = none) (h0 : F.H0 p = none) (hα : p ∉ α) : Sat K F (upd B p o) α Γ Λ σ H := by
  refine ⟨S.bb.mut ?_, fun a u h => ?_, fun a u h => ?_, S.kp, S.dm, S.pf, S.nd, S.al, fun n c h hg => ?_, S.ah, fun i d h => ?_, S.ln⟩
  · exact S.bb.back hB
  · by_cases e : a = p
    · subst e; rw [upd_same] at h; rw [← h]; exact hp
    · rw [upd_ne e] at h; exact S.bh a u h
  · by_cases e : a = p
    · subst e; exact .inr h0
    · rw [upd_ne e] at h; exact S.fr a u h
  · obtain ⟨a, h1, h2, h3, h4⟩ := S.ce n c h hg
    have hap : a ≠ p := fun e => hα (e ▸ List.mem_of_getElem? h1)
    exact ⟨a, h1, by rw [upd_ne hap]; exact h2, h3, h4.mono (Ex.new hB) (List.prefix_refl _) fun u q => q⟩
  · obtain ⟨v, h1, h2⟩ := S.sl i d h
    exact ⟨v, h1, h2.mono (Ex.new hB) (List.prefix_refl _)⟩
/-- a new object that is seen by the view -/
theorem Sat.lay {p : Addr} {o : HO} (S : Sat K F B α Γ Λ σ H) (hp : H p = none) : Sat K F (upd B p o) α Γ Λ σ (upd H p o) :=
  (S.grow (Ex.new hp)).see upd_same (S.bh.back hp) (S.dm p hp) fun ha => (S.ah p ha).1 hp
/-- a new object that is a cell -/
theorem Sat.own {p : Addr} {c : Cell} (S : Sat K F B α Γ Λ σ H) (hp : H p = none) (e : Ex H H') (hc : H' p ≠ none) (hh : ∀ α', α <+: α' → CellAt K B α' H' p c) : Sat K F B (α ++ [p]) Γ (Λ ++ [c]) σ H' := by
  have S' := S.grow e
  have hpa : p ∉ α := fun ha => (S.ah p ha).1 hp
  refine { S' with pf := S.pf.trans (List.prefix_append _ _), nd := ?_, al := by simp [S.al], ce := fun n c' h hg => ?_, ah := fun a ha => ?_, sl := fun i d h => ?_ }
  · rw [List.nodup_append]
    refine ⟨S.nd, List.nodup_cons.mpr ⟨by simp, List.nodup_nil⟩, fun a ha b hb e => ?_⟩
    simp at hb; subst hb; subst e; exact hpa ha
  · by_cases hn : n < Λ.length
    · rw [List.getElem?_append_left hn] at h
      obtain ⟨a, h1, h2, h3, h4⟩ := S'.ce n c' h hg
      exact ⟨a, pre_get (List.prefix_append _ _) h1, h2, h3, h4.mono (Ex.refl B) (List.prefix_append _ _) fun u q => q⟩
    · have hlt : n < (Λ ++ [c]).length := (List.getElem?_eq_some_iff.mp h).1
      have hn' : n = Λ.length := by simp at hlt; omega
      subst hn'
      rw [List.getElem?_append_right (Nat.le_refl _)] at h
      simp at h; subst h
      refine ⟨p, by rw [← S.al, List.getElem?_append_right (Nat.le_refl _)]; simp, S.bh.back hp, .inl (S.dm p hp), hh _ (List.prefix_append _ _)⟩
  · rcases List.mem_append.mp ha with h | h
    · exact S'.ah a h
    · simp at h; subst h; exact ⟨hc, .inl (S.dm _ hp)⟩
  · obtain ⟨v, h1, h2⟩ := S.sl i d h
    exact ⟨v, h1, h2.mono (Ex.refl B) (List.prefix_append _ _)⟩
/-- a cell is written -/
theorem Sat.put {n : Nat} {a : Addr} {o : HO} {c : Cell} (S : Sat K F B α Γ Λ σ H) (hn : α[n]? = some a) (hB : B a = none) (hc : CellAt K B α (upd H a o) a c) : Sat K F B α Γ (Λ.set n c) σ (upd H a o) := by
  have ha := List.mem_of_getElem? hn
  have nl : n < Λ.length := by rw [← S.al]; exact (List.getElem?_eq_some_iff.mp hn).1
  refine { S with bh := S.bh.mut hB, kp := fun b u h hb => ?_, dm := fun b h => ?_, al := by simp [S.al], ce := fun m c' h hg => ?_, ah := fun b hb => ?_ }
  · have hab : b ≠ a := fun e => by
      subst e
      rcases (S.ah b ha).2 with q | q
      · rw [h] at q; cases q
      · exact hb q
    rw [upd_ne hab]; exact S.kp b u h hb
  · by_cases e : b = a
    · subst e; rw [upd_same] at h; cases h
    · rw [upd_ne e] at h; exact S.dm b h
  · by_cases e : n = m
    · subst e
      rw [List.getElem?_set_self nl] at h
      cases h
      exact ⟨a, hn, hB, (S.ah a ha).2, hc⟩
    · rw [List.getElem?_set_ne e] at h
      obtain ⟨b, h1, h2, h3, h4⟩ := S.ce m c' h hg
      have hba : b ≠ a := fun q => by
        subst q
        exact e ((List.getElem?_inj (by rw [S.al]; exact nl) S.nd).mp (hn.trans h1.symm))
      exact ⟨b, h1, h2, h3, h4.mono (Ex.refl B) (List.prefix_refl _) fun u q => by rw [upd_ne hba]; exact q⟩
  · by_cases e : b = a
    · subst e; exact ⟨by rw [upd_same]; simp, (S.ah b hb).2⟩
    · rw [upd_ne e]; exact S.ah b hb
end
end Pl

namespace Pl
open PySem L2 PyProof.Rows

/-! ### contexts -/
/-- what is known of the code that runs: the program's facts, the names by slot, which of them may be read and stored here, the global names -/
structure Ctx where
  P : Program
  w : World
  K : PySem.W.Frag
  mg : Str → Option Value
  base : Heap
  N : List Str
  sc : Scope
  vs : List Bool
  ls : List Bool
  gl : List Str
  k : Nat
  m : Nat := 0
  /-- a def's own body, no comprehension's block -/
  tp : Bool := true

/-- the scope is as told -/
structure Ctx.Good (C : Ctx) : Prop where
  nd : C.N.Nodup
  vis : ∀ (i : Nat) (x : Str), C.N[i]? = some x → C.vs[i]? = some true → Vis C.sc x
  sto : ∀ (i : Nat) (x : Str), C.N[i]? = some x → C.ls[i]? = some true → Loc C.sc x
  glo : ∀ (j : Nat) (x : Str), C.gl[j]? = some x → C.sc.names.lookup x = some .globalImplicit

structure Ctx.Is (C : Ctx) (X : Cx) : Prop where
  prog : X.prog = C.P
  w : X.w = C.w
  K : X.K = C.K
  mg : X.mg = C.mg
  base : X.base = C.base
  N : X.N = C.N
  sc : X.env.scope = C.sc
  calm : X.calm = true
  room : Room C.k X.A
  fn : ∀ (i : Nat) (x : Str), C.N[i]? = some x → C.ls[i]? = some true → X.fn x = true ∨ X.env.scope.names.lookup x = some .local
  good : C.Good
  po : PassesOwn (model X.prog X.w) X.A X.env X.xe
  tp : C.tp = true → X.stack = X.env :: X.outer ∧ X.env.frame = some X.env.locals ∧ X.ex = []

section
variable {C : Ctx} {X : Cx}
theorem Ctx.Is.vis (h : C.Is X) {i : Nat} {x : Str} (hi : C.N[i]? = some x) (hv : C.vs[i]? = some true) : Vis X.env.scope x := by rw [h.sc]; exact h.good.vis i x hi hv
theorem Ctx.Is.loc (h : C.Is X) {i : Nat} {x : Str} (hi : C.N[i]? = some x) (hv : C.ls[i]? = some true) : Loc X.env.scope x := by rw [h.sc]; exact h.good.sto i x hi hv
/-- a global name of this code -/
def GlAt (C : Ctx) (x : Str) : Prop := ∃ j : Nat, C.gl[j]? = some x
theorem Ctx.Is.gl (h : C.Is X) {x : Str} (hj : GlAt C x) : Gl X x := by
  obtain ⟨j, hj⟩ := hj
  show X.env.scope.names.lookup x = _
  rw [h.sc]; exact h.good.glo j x hj
theorem Ctx.Is.ni (h : C.Is X) {i : Nat} {x : Str} (hi : C.N[i]? = some x) : X.N[i]? = some x := by rw [h.N]; exact hi
theorem Ctx.Is.nd (h : C.Is X) : X.N.Nodup := by rw [h.N]; exact h.good.nd
theorem Ctx.Is.u (h : C.Is X) : X.A.units + 64 < cLine := h.room.units
end

/-! ### errors -/
/-- an exception: its class, its fields -/
structure Err where
  cls : Value
  fs : Option (List Str × List D)
def ErrAt (K : PySem.W.Frag) (F : Fm) (B : Hp) (α : List Addr) (H : Hp) (e : Err) (c : Value) (dx : Option Addr) : Prop :=
  c = e.cls ∧ match e.fs with
    | none => dx = none
    | some (ns, ds) => ∃ a vs, dx = some a ∧ H a = some (.xd (ns.zip vs)) ∧ Reps K B α ds vs ∧ ns.length = ds.length ∧ (B a = none → F.H0 a = none ∧ a ∉ α)
abbrev ER := Err → Env → Cells → Prop
abbrev ER.none : ER := fun _ _ _ => False

/-! ### judgements -/
section
variable (K : PySem.W.Frag) (F : Fm) (W : WX)
/-- what is wanted of an error -/
def ErOk (B : Hp) (σ : L2.St) (Γ : Env) (E : ER) : Prop :=
  ∀ err Λ' B' α' H' c dx, E err Γ Λ' → Sat K F B' α' Γ Λ' σ H' → Ex B B' → ErrAt K F B' α' H' err c dx → W c dx σ H'
def rdE (E : ER) (Γ : Env) (Λ : Cells) (P : D → Cells → Prop) : TE := fun σ H Q => ∃ B α, Sat K F B α Γ Λ σ H ∧
  (∀ d Λ' v B' α' H', P d Λ' → Sat K F B' α' Γ Λ' σ H' → Ex B B' → α <+: α' → Rep K B' α' d v → Q v H') ∧ ErOk K F W B σ Γ E
/-- a new list -/
def rdN (E : ER) (Γ : Env) (Λ : Cells) (P : List D → Cells → Prop) : TE := fun σ H Q => ∃ B α, Sat K F B α Γ Λ σ H ∧
  (∀ ds Λ' p vs B' α' H', P ds Λ' → Sat K F B' α' Γ Λ' σ H' → Ex B B' → α <+: α' → H' p = some (.lst vs) → B' p = none → F.H0 p = none → p ∉ α' → Reps K B' α' ds vs → Q (.ref p) H') ∧ ErOk K F W B σ Γ E
def rdA (E : ER) (Γ : Env) (Λ : Cells) (P : List D → Cells → Prop) : TA := fun σ H Q => ∃ B α, Sat K F B α Γ Λ σ H ∧
  (∀ ds Λ' vs B' α' H', P ds Λ' → Sat K F B' α' Γ Λ' σ H' → Ex B B' → α <+: α' → Reps K B' α' ds vs → Q vs H') ∧ ErOk K F W B σ Γ E
def rdT (E : ER) (Γ : Env) (Λ : Cells) (P : Bool → Cells → Prop) : TT := fun σ H Q => ∃ B α, Sat K F B α Γ Λ σ H ∧
  (∀ b Λ' B' α' H', P b Λ' → Sat K F B' α' Γ Λ' σ H' → Ex B B' → α <+: α' → Q b H') ∧ ErOk K F W B σ Γ E
end
/-- what a def hands back: a datum; a new list -/
inductive Res where
  | val (d : D)
  | new (ds : List D)
def ResAt (K : PySem.W.Frag) (F : Fm) (B : Hp) (α : List Addr) (H : Hp) (v : V) : Res → Prop
  | .val d => Rep K B α d v
  | .new ds => ∃ p vs, v = .ref p ∧ H p = some (.lst vs) ∧ B p = none ∧ F.H0 p = none ∧ p ∉ α ∧ Reps K B α ds vs
/-- the wishes of a statement -/
structure Rs where
  nx : Env → Cells → Prop
  rt : Res → Cells → Prop
  bk : Env → Cells → Prop := fun _ _ => False
  ct : Env → Cells → Prop := fun _ _ => False
  er : ER := ER.none
section
variable (K : PySem.W.Frag) (F : Fm) (W : WX)
def nxOk (B : Hp) (R : Env → Cells → Prop) (q : L2.St → Hp → Prop) : Prop := ∀ Γ' Λ' B' α' σ' H', R Γ' Λ' → Sat K F B' α' Γ' Λ' σ' H' → Ex B B' → q σ' H'
def rtOk (B : Hp) (R : Res → Cells → Prop) (q : VK) : Prop := ∀ d Λ' v Γ' B' α' σ' H', R d Λ' → Sat K F B' α' Γ' Λ' σ' H' → Ex B B' → ResAt K F B' α' H' v d → q v H'
def erOk (B : Hp) (E : ER) : Prop := ∀ err Γ' Λ' B' α' σ' H' c dx, E err Γ' Λ' → Sat K F B' α' Γ' Λ' σ' H' → Ex B B' → ErrAt K F B' α' H' err c dx → W c dx σ' H'
structure EndsOk (B : Hp) (R : Rs) (D : Ends) : Prop where
  nx : nxOk K F B R.nx D.nx
  rt : rtOk K F B R.rt D.rt
  bk : nxOk K F B R.bk D.bk
  ct : nxOk K F B R.ct D.ct
  er : erOk K F W B R.er
def rdS (Γ : Env) (Λ : Cells) (R : Rs) : TS := fun D σ H => ∃ B α, Sat K F B α Γ Λ σ H ∧ EndsOk K F W B R D
end
section
variable {K : PySem.W.Frag} {F : Fm} {W : WX} {B B' : Hp} {σ : L2.St} {Γ : Env} {E : ER} {R : Rs} {D' : Ends}
theorem erOk.at (h : erOk K F W B E) : ErOk K F W B σ Γ E := fun err Λ' B' α' H' c dx e S x q => h err Γ Λ' B' α' σ H' c dx e S x q
theorem ErOk.mono (h : ErOk K F W B σ Γ E) (e : Ex B B') : ErOk K F W B' σ Γ E := fun err Λ' B1 α' H' c dx q S x r => h err Λ' B1 α' H' c dx q S (e.trans x) r
theorem nxOk.mono {R : Env → Cells → Prop} {q : L2.St → Hp → Prop} (h : nxOk K F B R q) (e : Ex B B') : nxOk K F B' R q := fun Γ' Λ' B1 α' σ' H' r S x => h Γ' Λ' B1 α' σ' H' r S (e.trans x)
theorem rtOk.mono {R : Res → Cells → Prop} {q : VK} (h : rtOk K F B R q) (e : Ex B B') : rtOk K F B' R q := fun d Λ' v Γ' B1 α' σ' H' r S x p => h d Λ' v Γ' B1 α' σ' H' r S (e.trans x) p
theorem erOk.mono (h : erOk K F W B E) (e : Ex B B') : erOk K F W B' E := fun err Γ' Λ' B1 α' σ' H' c dx q S x r => h err Γ' Λ' B1 α' σ' H' c dx q S (e.trans x) r
theorem EndsOk.mono (h : EndsOk K F W B R D') (e : Ex B B') : EndsOk K F W B' R D' := ⟨h.nx.mono e, h.rt.mono e, h.bk.mono e, h.ct.mono e, h.er.mono e⟩
end

def WE (C : Ctx) (E : ER) (Γ : Env) (Λ : Cells) (e : Expr) (P : D → Cells → Prop) : Prop := ∀ X F W, C.Is X → Takes X W → PE X e (rdE C.K F W E Γ Λ P)
def WN (C : Ctx) (E : ER) (Γ : Env) (Λ : Cells) (e : Expr) (P : List D → Cells → Prop) : Prop := ∀ X F W, C.Is X → Takes X W → PE X e (rdN C.K F W E Γ Λ P)
def WA (C : Ctx) (E : ER) (Γ : Env) (Λ : Cells) (es : List Expr) (P : List D → Cells → Prop) : Prop := ∀ X F W, C.Is X → Takes X W → PA X es (rdA C.K F W E Γ Λ P)
def WT (C : Ctx) (E : ER) (Γ : Env) (Λ : Cells) (e : Expr) (P : Bool → Cells → Prop) : Prop := ∀ X F W, C.Is X → Takes X W → PT X e (rdT C.K F W E Γ Λ P)
def WS (C : Ctx) (Γ : Env) (Λ : Cells) (s : Stmt) (R : Rs) : Prop := ∀ X F W, C.Is X → F.α0.length ≤ C.m → Takes X W → PS X s (rdS C.K F W Γ Λ R)
def WSs (C : Ctx) (Γ : Env) (Λ : Cells) (s : List Stmt) (R : Rs) : Prop := ∀ X F W, C.Is X → F.α0.length ≤ C.m → Takes X W → PSs X s (rdS C.K F W Γ Λ R)

/-! ### the union of all readings -/
section
variable {X : Cx}
def UE (X : Cx) (e : Expr) : TE := fun σ H Q => ∃ t, PE X e t ∧ t σ H Q
def UA (X : Cx) (e : List Expr) : TA := fun σ H Q => ∃ t, PA X e t ∧ t σ H Q
def UT (X : Cx) (e : Expr) : TT := fun σ H Q => ∃ t, PT X e t ∧ t σ H Q
def UW (X : Cx) (e : Expr) : TT := fun σ H Q => ∃ t, PW X e t ∧ t σ H Q
def US (X : Cx) (s : Stmt) : TS := fun D σ H => ∃ t, PS X s t ∧ t D σ H
def USs (X : Cx) (s : List Stmt) : TS := fun D σ H => ∃ t, PSs X s t ∧ t D σ H
theorem pe_U {e : Expr} : PE X e (UE X e) := ⟨fun pins s σ H Q I ⟨_, h, q⟩ => h.run pins s σ H Q I q⟩
theorem pa_U {e : List Expr} : PA X e (UA X e) := ⟨fun pos pins s σ H Q I ⟨_, h, q⟩ => h.run pos pins s σ H Q I q⟩
theorem pt_U {e : Expr} : PT X e (UT X e) := ⟨fun pins s σ H Q I ⟨_, h, q⟩ => h.run pins s σ H Q I q⟩
theorem pw_U {e : Expr} : PW X e (UW X e) := ⟨fun wh pins s σ H Q I ⟨_, h, q⟩ => h.run wh pins s σ H Q I q⟩
theorem ps_U {s : Stmt} : PS X s (US X s) := ⟨fun pins s σ H D I ⟨_, h, q⟩ => h.run pins s σ H D I q⟩
theorem pss_U {s : List Stmt} : PSs X s (USs X s) := ⟨fun pins s σ H D I ⟨_, h, q⟩ => h.run pins s σ H D I q⟩
theorem pe_imp {e : Expr} {t t' : TE} (h : PE X e t) (i : ∀ σ H Q, t' σ H Q → t σ H Q) : PE X e t' := ⟨fun pins s σ H Q I q => h.run pins s σ H Q I (i σ H Q q)⟩
theorem pa_imp {e : List Expr} {t t' : TA} (h : PA X e t) (i : ∀ σ H Q, t' σ H Q → t σ H Q) : PA X e t' := ⟨fun pos pins s σ H Q I q => h.run pos pins s σ H Q I (i σ H Q q)⟩
theorem pt_imp {e : Expr} {t t' : TT} (h : PT X e t) (i : ∀ σ H Q, t' σ H Q → t σ H Q) : PT X e t' := ⟨fun pins s σ H Q I q => h.run pins s σ H Q I (i σ H Q q)⟩
theorem pw_imp {e : Expr} {t t' : TT} (h : PW X e t) (i : ∀ σ H Q, t' σ H Q → t σ H Q) : PW X e t' := ⟨fun wh pins s σ H Q I q => h.run wh pins s σ H Q I (i σ H Q q)⟩
theorem ps_imp {s : Stmt} {t t' : TS} (h : PS X s t) (i : ∀ D σ H, t' D σ H → t D σ H) : PS X s t' := ⟨fun pins s σ H D I q => h.run pins s σ H D I (i D σ H q)⟩
theorem pss_imp {s : List Stmt} {t t' : TS} (h : PSs X s t) (i : ∀ D σ H, t' D σ H → t D σ H) : PSs X s t' := ⟨fun pins s σ H D I q => h.run pins s σ H D I (i D σ H q)⟩
end

section
variable {C : Ctx} {E : ER} {Γ : Env} {Λ : Cells} {X : Cx} {F : Fm} {W : WX} {B : Hp} {α : List Addr} {σ : L2.St} {H : Hp}
theorem WE.use {e : Expr} {P : D → Cells → Prop} {Q : VK} (h : WE C E Γ Λ e P) (is : C.Is X) (tk : Takes X W) (S : Sat C.K F B α Γ Λ σ H) (er : ErOk C.K F W B σ Γ E)
    (q : ∀ d Λ' v B' α' H', P d Λ' → Sat C.K F B' α' Γ Λ' σ H' → Ex B B' → α <+: α' → Rep C.K B' α' d v → Q v H') : UE X e σ H Q := ⟨_, h X F W is tk, B, α, S, q, er⟩
theorem WN.use {e : Expr} {P : List D → Cells → Prop} {Q : VK} (h : WN C E Γ Λ e P) (is : C.Is X) (tk : Takes X W) (S : Sat C.K F B α Γ Λ σ H) (er : ErOk C.K F W B σ Γ E)
    (q : ∀ ds Λ' p vs B' α' H', P ds Λ' → Sat C.K F B' α' Γ Λ' σ H' → Ex B B' → α <+: α' → H' p = some (.lst vs) → B' p = none → F.H0 p = none → p ∉ α' → Reps C.K B' α' ds vs → Q (.ref p) H') : UE X e σ H Q := ⟨_, h X F W is tk, B, α, S, q, er⟩
theorem WA.use {e : List Expr} {P : List D → Cells → Prop} {Q : List V → Hp → Prop} (h : WA C E Γ Λ e P) (is : C.Is X) (tk : Takes X W) (S : Sat C.K F B α Γ Λ σ H) (er : ErOk C.K F W B σ Γ E)
    (q : ∀ ds Λ' vs B' α' H', P ds Λ' → Sat C.K F B' α' Γ Λ' σ H' → Ex B B' → α <+: α' → Reps C.K B' α' ds vs → Q vs H') : UA X e σ H Q := ⟨_, h X F W is tk, B, α, S, q, er⟩
theorem WT.use {e : Expr} {P : Bool → Cells → Prop} {Q : Bool → Hp → Prop} (h : WT C E Γ Λ e P) (is : C.Is X) (tk : Takes X W) (S : Sat C.K F B α Γ Λ σ H) (er : ErOk C.K F W B σ Γ E)
    (q : ∀ b Λ' B' α' H', P b Λ' → Sat C.K F B' α' Γ Λ' σ H' → Ex B B' → α <+: α' → Q b H') : UT X e σ H Q := ⟨_, h X F W is tk, B, α, S, q, er⟩
theorem WS.use {s : Stmt} {R : Rs} {D : Ends} (h : WS C Γ Λ s R) (is : C.Is X) (hm : F.α0.length ≤ C.m) (tk : Takes X W) (S : Sat C.K F B α Γ Λ σ H) (q : EndsOk C.K F W B R D) : US X s D σ H := ⟨_, h X F W is hm tk, B, α, S, q⟩
theorem WSs.use {s : List Stmt} {R : Rs} {D : Ends} (h : WSs C Γ Λ s R) (is : C.Is X) (hm : F.α0.length ≤ C.m) (tk : Takes X W) (S : Sat C.K F B α Γ Λ σ H) (q : EndsOk C.K F W B R D) : USs X s D σ H := ⟨_, h X F W is hm tk, B, α, S, q⟩
end

/-! ### weaker wishes -/
section
variable {C : Ctx} {E : ER} {Γ : Env} {Λ : Cells}
theorem we_mono {e : Expr} {P P' : D → Cells → Prop} (h : WE C E Γ Λ e P) (i : ∀ d Λ', P d Λ' → P' d Λ') : WE C E Γ Λ e P' := fun X F W is tk =>
  pe_imp (h X F W is tk) fun σ H Q ⟨B, α, S, q, er⟩ => ⟨B, α, S, fun d Λ' v B' α' H' p => q d Λ' v B' α' H' (i d Λ' p), er⟩
theorem wn_mono {e : Expr} {P P' : List D → Cells → Prop} (h : WN C E Γ Λ e P) (i : ∀ d Λ', P d Λ' → P' d Λ') : WN C E Γ Λ e P' := fun X F W is tk =>
  pe_imp (h X F W is tk) fun σ H Q ⟨B, α, S, q, er⟩ => ⟨B, α, S, fun ds Λ' p vs B' α' H' hp => q ds Λ' p vs B' α' H' (i ds Λ' hp), er⟩
theorem wa_mono {e : List Expr} {P P' : List D → Cells → Prop} (h : WA C E Γ Λ e P) (i : ∀ d Λ', P d Λ' → P' d Λ') : WA C E Γ Λ e P' := fun X F W is tk =>
  pa_imp (h X F W is tk) fun σ H Q ⟨B, α, S, q, er⟩ => ⟨B, α, S, fun ds Λ' vs B' α' H' hp => q ds Λ' vs B' α' H' (i ds Λ' hp), er⟩
theorem wt_mono {e : Expr} {P P' : Bool → Cells → Prop} (h : WT C E Γ Λ e P) (i : ∀ d Λ', P d Λ' → P' d Λ') : WT C E Γ Λ e P' := fun X F W is tk =>
  pt_imp (h X F W is tk) fun σ H Q ⟨B, α, S, q, er⟩ => ⟨B, α, S, fun b Λ' B' α' H' hp => q b Λ' B' α' H' (i b Λ' hp), er⟩
structure Rs.Le (R R' : Rs) : Prop where
  nx : ∀ Γ Λ, R.nx Γ Λ → R'.nx Γ Λ := by intros; assumption
  rt : ∀ d Λ, R.rt d Λ → R'.rt d Λ := by intros; assumption
  bk : ∀ Γ Λ, R.bk Γ Λ → R'.bk Γ Λ := by intros; assumption
  ct : ∀ Γ Λ, R.ct Γ Λ → R'.ct Γ Λ := by intros; assumption
  er : ∀ e Γ Λ, R.er e Γ Λ → R'.er e Γ Λ := by intros; assumption
theorem EndsOk.le {K : PySem.W.Frag} {F : Fm} {W : WX} {B : Hp} {R R' : Rs} {D : Ends} (h : EndsOk K F W B R' D) (i : R.Le R') : EndsOk K F W B R D :=
  ⟨fun Γ' Λ' B' α' σ' H' r => h.nx Γ' Λ' B' α' σ' H' (i.nx _ _ r), fun d Λ' v Γ' B' α' σ' H' r => h.rt d Λ' v Γ' B' α' σ' H' (i.rt _ _ r), fun Γ' Λ' B' α' σ' H' r => h.bk Γ' Λ' B' α' σ' H' (i.bk _ _ r), fun Γ' Λ' B' α' σ' H' r => h.ct Γ' Λ' B' α' σ' H' (i.ct _ _ r),
   fun err Γ' Λ' B' α' σ' H' c dx r => h.er err Γ' Λ' B' α' σ' H' c dx (i.er _ _ _ r)⟩
theorem ws_mono {s : Stmt} {R R' : Rs} (h : WS C Γ Λ s R) (i : R.Le R') : WS C Γ Λ s R' := fun X F W is hm tk =>
  ps_imp (h X F W is hm tk) fun D σ H ⟨B, α, S, q⟩ => ⟨B, α, S, q.le i⟩
theorem wss_mono {s : List Stmt} {R R' : Rs} (h : WSs C Γ Λ s R) (i : R.Le R') : WSs C Γ Λ s R' := fun X F W is hm tk =>
  pss_imp (h X F W is hm tk) fun D σ H ⟨B, α, S, q⟩ => ⟨B, α, S, q.le i⟩
end

/-! ### names, constants -/
section
variable {C : Ctx} {E : ER} {Γ : Env} {Λ : Cells} {P : D → Cells → Prop} {pos : Pos}
theorem we_name {i : Nat} {x : Str} {d : D} (hi : C.N[i]? = some x) (hv : C.vs[i]? = some true) (hg : Γ[i]? = some (some d)) (p : P d Λ)
    (hd : (x == ("__debug__" : Str)) = false := by decide) (hcd : (x == ("__classdict__" : Str)) = false := by decide) : WE C E Γ Λ (.Name x pos) P := fun X F W is tk => by
  refine pe_imp (pe_var (is.ni hi) (is.vis hi hv) hd hcd) fun σ H Q ⟨B, α, S, q, er⟩ => ?_
  obtain ⟨v, h1, h2⟩ := S.sl i d hg
  exact ⟨v, h1, q d Λ v B α H p S (Ex.refl B) (List.prefix_refl _) h2⟩
theorem we_int {i : Int} {j : Nat} (p : P (.int i) Λ) : WE C E Γ Λ (.Constant (.int i) j pos) P := fun X F W is tk =>
  pe_imp pe_int fun σ H Q ⟨B, α, S, q, er⟩ => q _ Λ _ B α H p S (Ex.refl B) (List.prefix_refl _) rfl
theorem we_bl {b : Bool} {j : Nat} (p : P (.bl b) Λ) : WE C E Γ Λ (.Constant (.bool b) j pos) P := fun X F W is tk =>
  pe_imp pe_bl fun σ H Q ⟨B, α, S, q, er⟩ => q _ Λ _ B α H p S (Ex.refl B) (List.prefix_refl _) rfl
theorem we_non {j : Nat} (p : P .non Λ) : WE C E Γ Λ (.Constant .none j pos) P := fun X F W is tk =>
  pe_imp pe_non fun σ H Q ⟨B, α, S, q, er⟩ => q _ Λ _ B α H p S (Ex.refl B) (List.prefix_refl _) rfl
theorem we_str {s : Str} {j : Nat} (p : P (.str s) Λ) : WE C E Γ Λ (.Constant (.str s) j pos) P := fun X F W is tk =>
  pe_imp pe_str fun σ H Q ⟨B, α, S, q, er⟩ => q _ Λ _ B α H p S (Ex.refl B) (List.prefix_refl _) rfl
/-- a module's constant, class, def; a built-in type as a value -/
theorem we_glob {x : Str} {v : V} {u : Value} (hj : GlAt C x) (hm : C.mg x = some u) (r : RelV v u) {d : D} (hr : ∀ B α, Rep C.K B α d v) (p : P d Λ) (hd : (x == ("__debug__" : Str)) = false := by decide) : WE C E Γ Λ (.Name x pos) P := fun X F W is tk =>
  pe_imp (pe_glob (is.gl hj) (by rw [is.mg]; exact hm) r hd) fun σ H Q ⟨B, α, S, q, er⟩ => q _ Λ _ B α H p S (Ex.refl B) (List.prefix_refl _) (hr B α)
theorem we_blt {x : Str} {v : V} {u : Value} (hj : GlAt C x) (hm : C.mg x = none) (hv : bootBuiltins x = some u) (r : RelV v u) (p : P (.raw v) Λ) (hn : x ≠ "__name__" := by decide) (hd : (x == ("__debug__" : Str)) = false := by decide) : WE C E Γ Λ (.Name x pos) P := fun X F W is tk =>
  pe_imp (pe_bltn (is.gl hj) (by rw [is.mg]; exact hm) hv r hn hd) fun σ H Q ⟨B, α, S, q, er⟩ => q _ Λ _ B α H p S (Ex.refl B) (List.prefix_refl _) rfl

/-- a new list: seen from now on by the view; or owned -/
theorem we_f {e : Expr} (h : WN C E Γ Λ e fun ds Λ' => P (.lst ds) Λ') : WE C E Γ Λ e P := fun X F W is tk => by
  refine pe_imp (h X F W is tk) fun σ H Q ⟨B, α, S, q, er⟩ => ⟨B, α, S, fun ds Λ' p vs B' α' H' hp S' e pf h1 h2 h3 h4 h5 => ?_, er⟩
  have hx : Ex B' (upd B' p (.lst vs)) := Ex.new h2
  refine q _ Λ' _ (upd B' p (.lst vs)) α' H' hp (S'.see h1 h2 h3 h4) (e.trans hx) pf ?_
  show Rep C.K _ α' (.lst ds) (.ref p)
  unfold Rep
  exact ⟨p, vs, rfl, upd_same, h5.mono hx (List.prefix_refl _)⟩
end
/-- a thing of the heap that is new is owned from now on -/
theorem Sat.adopt {K : PySem.W.Frag} {F : Fm} {B : Hp} {α : List Addr} {Γ : Env} {Λ : Cells} {σ : L2.St} {H : Hp} {p : Addr} {c : Cell} (S : Sat K F B α Γ Λ σ H) (hB : B p = none) (h0 : F.H0 p = none) (hα : p ∉ α) (hH : H p ≠ none)
    (hc : CellAt K B (α ++ [p]) H p c) : Sat K F B (α ++ [p]) Γ (Λ ++ [c]) σ H := by
  refine { S with pf := S.pf.trans (List.prefix_append _ _), nd := ?_, al := by simp [S.al], ce := fun n c' h hg => ?_, ah := fun a ha => ?_, sl := fun i d h => ?_ }
  · rw [List.nodup_append]
    refine ⟨S.nd, List.nodup_cons.mpr ⟨by simp, List.nodup_nil⟩, fun a ha b hb e => ?_⟩
    simp at hb; subst hb; subst e; exact hα ha
  · by_cases hn : n < Λ.length
    · rw [List.getElem?_append_left hn] at h
      obtain ⟨a, h1, h2, h3, h4⟩ := S.ce n c' h hg
      exact ⟨a, pre_get (List.prefix_append _ _) h1, h2, h3, h4.mono (Ex.refl B) (List.prefix_append _ _) fun u q => q⟩
    · have hlt : n < (Λ ++ [c]).length := (List.getElem?_eq_some_iff.mp h).1
      have hn' : n = Λ.length := by simp at hlt; omega
      subst hn'
      rw [List.getElem?_append_right (Nat.le_refl _)] at h
      simp at h; subst h
      refine ⟨p, by rw [← S.al, List.getElem?_append_right (Nat.le_refl _)]; simp, hB, .inl h0, hc⟩
  · rcases List.mem_append.mp ha with h | h
    · exact S.ah a h
    · simp at h; subst h; exact ⟨hH, .inl h0⟩
  · obtain ⟨v, h1, h2⟩ := S.sl i d h
    exact ⟨v, h1, h2.mono (Ex.refl B) (List.prefix_append _ _)⟩
section
variable {C : Ctx} {E : ER} {Γ : Env} {Λ : Cells} {P : D → Cells → Prop} {pos : Pos}
theorem we_o {e : Expr} (h : WN C E Γ Λ e fun ds Λ' => P (.loc Λ'.length) (Λ' ++ [.lst ds])) : WE C E Γ Λ e P := fun X F W is tk => by
  refine pe_imp (h X F W is tk) fun σ H Q ⟨B, α, S, q, er⟩ => ⟨B, α, S, fun ds Λ' p vs B' α' H' hp S' e pf h1 h2 h3 h4 h5 => ?_, er⟩
  refine q _ _ _ B' (α' ++ [p]) H' hp (S'.adopt h2 h3 h4 (by rw [h1]; simp) ⟨vs, h1, h5.mono (Ex.refl _) (List.prefix_append _ _)⟩) e (pf.trans (List.prefix_append _ _)) ?_
  show Rep C.K _ _ (.loc _) (.ref p)
  unfold Rep
  exact ⟨p, rfl, by rw [← S'.al, List.getElem?_append_right (Nat.le_refl _)]; simp⟩
end

/-! ### argument lists -/
section
variable {C : Ctx} {E : ER} {Γ : Env} {Λ : Cells}
/-- no star stands there -/
def plainE : Expr → Bool
  | .Starred _ _ => false
  | _ => true
theorem star_plain {e : Expr} {es : List Expr} {env : PySem.Env} (h : plainE e = true) : starEach (e :: es) env = (false, eval e env) :: starEach es env := by
  cases e <;> first | rfl | cases h
theorem wa_nil {P : List D → Cells → Prop} (p : P [] Λ) : WA C E Γ Λ [] P := fun X F W is tk =>
  pa_imp pa_nil fun σ H Q ⟨B, α, S, q, er⟩ => q [] Λ [] B α H p S (Ex.refl B) (List.prefix_refl _) .nil
theorem wa_cons {e : Expr} {es : List Expr} {P : List D → Cells → Prop} (h : WE C E Γ Λ e fun d Λ1 => WA C E Γ Λ1 es fun ds Λ2 => P (d :: ds) Λ2) (he : plainE e = true := by rfl) : WA C E Γ Λ (e :: es) P := fun X F W is tk => by
  refine pa_imp (pa_cons pe_U pa_U (star_plain he)) fun σ H Q ⟨B, α, S, q, er⟩ => ?_
  refine WE.use h is tk S er fun d Λ1 v B1 α1 H1 p1 S1 e1 f1 r1 => ?_
  refine WA.use p1 is tk S1 (er.mono e1) fun ds Λ2 vs B2 α2 H2 p2 S2 e2 f2 r2 => ?_
  exact q _ Λ2 _ B2 α2 H2 p2 S2 (e1.trans e2) (f1.trans f2) (.cons (r1.mono e2 f2) r2)
/-- a list of written items -/
theorem wn_lst {es : List Expr} {pos : Pos} {P : List D → Cells → Prop} (h : WA C E Γ Λ es fun ds Λ' => ds.length ≤ sizeLine ∧ P ds Λ') : WN C E Γ Λ (.List es pos) P := fun X F W is tk => by
  refine pe_imp (pe_lst pa_U) fun σ H Q ⟨B, α, S, q, er⟩ => ?_
  refine WA.use h is tk S er fun ds Λ1 vs B1 α1 H1 p1 S1 e1 f1 r1 => ⟨by rw [r1.length]; exact p1.1, fun p hp => ?_⟩
  exact q ds Λ1 p vs B1 α1 _ p1.2 (S1.grow (Ex.new hp)) e1 f1 upd_same (S1.bh.back hp) (S1.dm p hp) (fun ha => (S1.ah p ha).1 hp) r1
theorem we_tup {es : List Expr} {x1} {pos : Pos} {P : D → Cells → Prop} (h : WA C E Γ Λ es fun ds Λ' => ds.length ≤ sizeLine ∧ P (.tup ds) Λ') : WE C E Γ Λ (.Tuple es x1 pos) P := fun X F W is tk => by
  refine pe_imp (pe_tup pa_U) fun σ H Q ⟨B, α, S, q, er⟩ => ?_
  refine WA.use h is tk S er fun ds Λ1 vs B1 α1 H1 p1 S1 e1 f1 r1 => ⟨by rw [r1.length]; exact p1.1, fun p hp => ?_⟩
  have hx : Ex B1 (upd B1 p (.tup vs)) := Ex.new (S1.bh.back hp)
  refine q _ Λ1 _ (upd B1 p (.tup vs)) α1 _ p1.2 (S1.lay hp) (e1.trans hx) f1 ?_
  show Rep C.K _ α1 (.tup ds) (.ref p)
  unfold Rep
  exact ⟨p, vs, rfl, SqT.of upd_same, r1.mono hx (List.prefix_refl _)⟩
end

/-! ### two-place operations by data -/
/-- what a two-place operation by values does to data -/
def OpK (K : PySem.W.Frag) (r : R2) (x y : D) (Γ : Env) (Λ : Cells) (P : D → Cells → Prop) : Prop := ∀ F B α σ H vx vy (Q : VK), Sat K F B α Γ Λ σ H → Rep K B α x vx → Rep K B α y vy →
  (∀ d Λ' v B' α' H', P d Λ' → Sat K F B' α' Γ Λ' σ H' → Ex B B' → α <+: α' → Rep K B' α' d v → Q v H') → r vx vy H Q
/-- .. to a value that is no new thing -/
theorem OpK.val {K : PySem.W.Frag} {r : R2} {x y z : D} {Γ : Env} {Λ : Cells} {P : D → Cells → Prop} (p : P z Λ) (h : ∀ F B α σ H vx vy (Q : VK), Sat K F B α Γ Λ σ H → Rep K B α x vx → Rep K B α y vy → (∀ v, Rep K B α z v → Q v H) → r vx vy H Q) : OpK K r x y Γ Λ P :=
  fun F B α σ H vx vy Q S rx ry q => h F B α σ H vx vy Q S rx ry fun v rv => q z Λ v B α H p S (Ex.refl B) (List.prefix_refl _) rv
section
variable {C : Ctx} {E : ER} {Γ : Env} {Λ : Cells} {P : D → Cells → Prop} {pos : Pos} {a b : Expr}
theorem we_opK {op : Operator} {r : R2} (ho : ∀ X, C.Is X → OpR X (binaryOp op) r) (h : WE C E Γ Λ a fun x Λ1 => WE C E Γ Λ1 b fun y Λ2 => OpK C.K r x y Γ Λ2 P) : WE C E Γ Λ (.BinOp a op b pos) P := fun X F W is tk => by
  refine pe_imp (pe_op (ho X is) pe_U pe_U) fun σ H Q ⟨B, α, S, q, er⟩ => ?_
  refine WE.use h is tk S er fun x Λ1 vx B1 α1 H1 p1 S1 e1 f1 r1 => ?_
  refine WE.use p1 is tk S1 (er.mono e1) fun y Λ2 vy B2 α2 H2 p2 S2 e2 f2 r2 => ?_
  exact p2 F B2 α2 σ H2 vx vy Q S2 (r1.mono e2 f2) r2 fun d Λ' v B' α' H' p' S' e' f' r' => q d Λ' v B' α' H' p' S' ((e1.trans e2).trans e') ((f1.trans f2).trans f') r'
theorem we_cmpK {op : CmpOp} {r : R2} (ho : ∀ X, C.Is X → OpR X (compareOp op) r) (h : WE C E Γ Λ a fun x Λ1 => WE C E Γ Λ1 b fun y Λ2 => OpK C.K r x y Γ Λ2 P) (hm : behindInMarks op b = false) : WE C E Γ Λ (.Compare a [op] [b] pos) P := fun X F W is tk => by
  refine pe_imp (pe_cmpR (ho X is) pe_U pe_U hm) fun σ H Q ⟨B, α, S, q, er⟩ => ?_
  refine WE.use h is tk S er fun x Λ1 vx B1 α1 H1 p1 S1 e1 f1 r1 => ?_
  refine WE.use p1 is tk S1 (er.mono e1) fun y Λ2 vy B2 α2 H2 p2 S2 e2 f2 r2 => ?_
  exact p2 F B2 α2 σ H2 vx vy Q S2 (r1.mono e2 f2) r2 fun d Λ' v B' α' H' p' S' e' f' r' => q d Λ' v B' α' H' p' S' ((e1.trans e2).trans e') ((f1.trans f2).trans f') r'
/-- a test that is a comparison -/
theorem wt_cmpK {op : CmpOp} {r : R2} {P : Bool → Cells → Prop} (ho : ∀ X, C.Is X → OpR X (compareOp op) r) (h : WE C E Γ Λ a fun x Λ1 => WE C E Γ Λ1 b fun y Λ2 => OpK C.K r x y Γ Λ2 fun d Λ3 => ∃ c, d = .bl c ∧ P c Λ3) (hm : behindInMarks op b = false) : WT C E Γ Λ (.Compare a [op] [b] pos) P := fun X F W is tk => by
  refine pt_imp (pt_cmpR (ho X is) pe_U pe_U hm) fun σ H Q ⟨B, α, S, q, er⟩ => ?_
  refine WE.use h is tk S er fun x Λ1 vx B1 α1 H1 p1 S1 e1 f1 r1 => ?_
  refine WE.use p1 is tk S1 (er.mono e1) fun y Λ2 vy B2 α2 H2 p2 S2 e2 f2 r2 => ?_
  refine p2 F B2 α2 σ H2 vx vy _ S2 (r1.mono e2 f2) r2 fun d Λ' v B' α' H' p' S' e' f' r' => ?_
  obtain ⟨c, rfl, p'⟩ := p'
  exact ⟨c, r', q c Λ' B' α' H' p' S' ((e1.trans e2).trans e') ((f1.trans f2).trans f')⟩
end
end Pl

namespace Pl
open PySem L2 PyProof.Rows

/-! ### looking through a cell -/
/-- a cell's number is read as what stands in the cell -/
def vw (Λ : Cells) : D → D
  | .loc n => match Λ[n]? with
    | some (.lst ds) => .lst ds
    | some (.dic ks ds) => .dic ks ds
    | some (.ins C ns ds) => .ins C ns ds
    | _ => .loc n
  | d => d
section
variable {K : PySem.W.Frag} {F : Fm} {B : Hp} {α : List Addr} {Γ : Env} {Λ : Cells} {σ : L2.St} {H : Hp}
/-- a list, wherever it stands -/
theorem Sat.lst (S : Sat K F B α Γ Λ σ H) {x : D} {v : V} {ds : List D} (r : Rep K B α x v) (e : vw Λ x = .lst ds) : ∃ a vs, v = .ref a ∧ H a = some (.lst vs) ∧ Reps K B α ds vs := by
  cases x with
  | lst es =>
    cases e
    unfold Rep at r
    obtain ⟨a, vs, h1, h2, h3⟩ := r
    exact ⟨a, vs, h1, S.bh _ _ h2, h3⟩
  | loc n =>
    unfold Rep at r
    obtain ⟨a, h1, h2⟩ := r
    simp only [vw] at e
    cases hc : Λ[n]? with
    | none => rw [hc] at e; cases e
    | some c =>
      rw [hc] at e
      cases c <;> simp at e
      subst e
      obtain ⟨a', q1, q2, q3, q4⟩ := S.ce n _ hc (by simp)
      rw [h2] at q1; cases q1
      obtain ⟨vs, q5, q6⟩ := q4
      exact ⟨a, vs, h1, q5, q6⟩
  | _ => cases e
/-- a sequence: a list, a locked list, a tuple -/
def seqD (Λ : Cells) (x : D) : Option (List D) := match vw Λ x with
  | .lst ds => some ds
  | .fzl ds => some ds
  | .tup ds => some ds
  | _ => none
theorem Sat.seq (S : Sat K F B α Γ Λ σ H) {x : D} {v : V} {ds : List D} (r : Rep K B α x v) (e : seqD Λ x = some ds) : ∃ a vs, v = .ref a ∧ (SqL K H a vs ∨ SqT K H a vs) ∧ Reps K B α ds vs := by
  unfold seqD at e
  split at e
  · rename_i es he
    cases e
    obtain ⟨a, vs, h1, h2, h3⟩ := S.lst r he
    exact ⟨a, vs, h1, .inl (SqL.of h2), h3⟩
  · rename_i es he
    cases e
    cases x with
    | fzl es' =>
      cases he
      unfold Rep at r
      obtain ⟨a, vs, h1, h2, h3⟩ := r
      exact ⟨a, vs, h1, .inl (S.bh.sqL h2), h3⟩
    | loc n =>
      simp only [vw] at he
      cases hc : Λ[n]? with
      | none => rw [hc] at he; cases he
      | some c => rw [hc] at he; cases c <;> simp at he
    | _ => cases he
  · rename_i es he
    cases e
    cases x with
    | tup es' =>
      cases he
      unfold Rep at r
      obtain ⟨a, vs, h1, h2, h3⟩ := r
      exact ⟨a, vs, h1, .inr (S.bh.sqT h2), h3⟩
    | loc n =>
      simp only [vw] at he
      cases hc : Λ[n]? with
      | none => rw [hc] at he; cases he
      | some c => rw [hc] at he; cases c <;> simp at he
    | _ => cases he
  · cases e
/-- .. a list alone -/
def lstD (Λ : Cells) (x : D) : Option (List D) := match vw Λ x with
  | .lst ds => some ds
  | .fzl ds => some ds
  | _ => none
theorem Sat.seqL (S : Sat K F B α Γ Λ σ H) {x : D} {v : V} {ds : List D} (r : Rep K B α x v) (e : lstD Λ x = some ds) : ∃ a vs, v = .ref a ∧ SqL K H a vs ∧ Reps K B α ds vs := by
  unfold lstD at e
  split at e
  · rename_i es he
    cases e
    obtain ⟨a, vs, h1, h2, h3⟩ := S.lst r he
    exact ⟨a, vs, h1, SqL.of h2, h3⟩
  · rename_i es he
    cases e
    cases x with
    | fzl es' =>
      cases he
      unfold Rep at r
      obtain ⟨a, vs, h1, h2, h3⟩ := r
      exact ⟨a, vs, h1, S.bh.sqL h2, h3⟩
    | loc n =>
      simp only [vw] at he
      cases hc : Λ[n]? with
      | none => rw [hc] at he; cases he
      | some c => rw [hc] at he; cases c <;> simp at he
    | _ => cases he
  · cases e
end

/-! ### arithmetic -/
section
variable {C : Ctx} {E : ER} {Γ : Env} {Λ : Cells} {P : D → Cells → Prop} {pos : Pos} {a b : Expr}
/-- what + does -/
def addP (Λ : Cells) (x y : D) (P : D → Prop) : Prop := match vw Λ x, vw Λ y with
  | .int i, .int j => P (.int (i + j))
  | .str s, .str t => s.length + t.length ≤ sizeLine ∧ P (.str (s ++ t))
  | .tup xs, .tup ys => xs ≠ [] ∧ xs.length + ys.length ≤ sizeLine ∧ P (.tup (xs ++ ys))
  | .lst xs, .lst ys => xs.length + ys.length ≤ sizeLine ∧ P (.lst (xs ++ ys))
  | _, _ => False
def rAdd (K : PySem.W.Frag) : R2 := fun x y H Q => (rI0 (fun i j => .int (i + j)) x y H Q) ∨ ((∃ i j, x = .str i ∧ y = .str j ∧ i.length + j.length ≤ sizeLine ∧ Q (.str (i ++ j)) H) ∨ (rCatT K x y H Q ∨ rCat x y H Q))
theorem op_addA {X : Cx} : OpR X (binaryOp .Add) (rAdd X.K) := op_add.or (op_add_str.or (op_catT.or op_cat))
theorem add_K {K : PySem.W.Frag} {x y : D} (h : addP Λ x y fun d => P d Λ) : OpK K (rAdd K) x y Γ Λ P := by
  intro F B α σ H vx vy Q S rx ry q
  have keep : ∀ {z : D} {v : V}, P z Λ → Rep K B α z v → Q v H := fun {z v} p r => q z Λ v B α H p S (Ex.refl B) (List.prefix_refl _) r
  have noc : ∀ {z w : D}, vw Λ z = w → (∀ n, w ≠ .loc n) → (∀ ds, w ≠ .lst ds) → (∀ ks ds, w ≠ .dic ks ds) → (∀ c ns ds, w ≠ .ins c ns ds) → z = w := fun {z w} e h1 h2 h3 h4 => by
    cases z with
    | loc n =>
      simp only [vw] at e
      cases hc : Λ[n]? with
      | none => rw [hc] at e; exact absurd e.symm (h1 n)
      | some c =>
        rw [hc] at e
        cases c with
        | lst ds => exact absurd e.symm (h2 ds)
        | dic ks ds => exact absurd e.symm (h3 ks ds)
        | ins c ns ds => exact absurd e.symm (h4 c ns ds)
        | gone => exact absurd e.symm (h1 n)
    | _ => exact e
  unfold addP at h
  split at h
  · rename_i i j hx hy
    have ex := noc hx (by simp) (by simp) (by simp) (by simp)
    have ey := noc hy (by simp) (by simp) (by simp) (by simp)
    subst ex; subst ey
    unfold Rep at rx ry
    exact .inl ⟨i, j, rx, ry, keep h rfl⟩
  · rename_i s t hx hy
    have ex := noc hx (by simp) (by simp) (by simp) (by simp)
    have ey := noc hy (by simp) (by simp) (by simp) (by simp)
    subst ex; subst ey
    unfold Rep at rx ry
    exact .inr (.inl ⟨s, t, rx, ry, h.1, keep h.2 rfl⟩)
  · rename_i xs ys hx hy
    have ex := noc hx (by simp) (by simp) (by simp) (by simp)
    have ey := noc hy (by simp) (by simp) (by simp) (by simp)
    subst ex; subst ey
    unfold Rep at rx ry
    obtain ⟨p1, v1, rfl, q1, r1⟩ := rx
    obtain ⟨p2, v2, rfl, q2, r2⟩ := ry
    refine .inr (.inr (.inl ⟨p1, p2, v1, v2, rfl, rfl, S.bh.sqT q1, S.bh.sqT q2, fun e => ?_, by rw [r1.length, r2.length]; exact h.2.1, fun e => ?_, fun _ t ht => ?_⟩))
    · have := r1.length
      rw [e] at this
      exact h.1 (List.length_eq_zero_iff.mp this.symm)
    · have ey : ys = [] := by
        have := r2.length
        rw [e] at this
        exact List.length_eq_zero_iff.mp this.symm
      subst ey
      refine keep h.2.2 ?_
      rw [List.append_nil]
      unfold Rep
      exact ⟨p1, v1, rfl, q1, r1⟩
    · exact q _ Λ _ (upd B t (.tup (v1 ++ v2))) α _ h.2.2 (S.lay ht) (Ex.new (S.bh.back ht)) (List.prefix_refl _) (by
            show Rep K _ α (.tup (xs ++ ys)) (.ref t)
            unfold Rep
            exact ⟨t, v1 ++ v2, rfl, SqT.of upd_same, (r1.append r2).mono (Ex.new (S.bh.back ht)) (List.prefix_refl _)⟩)
  · rename_i xs ys hx hy
    obtain ⟨p1, v1, rfl, q1, r1⟩ := S.lst rx hx
    obtain ⟨p2, v2, rfl, q2, r2⟩ := S.lst ry hy
    refine .inr (.inr (.inr ⟨p1, p2, v1, v2, rfl, rfl, q1, q2, by rw [r1.length, r2.length]; exact h.1, fun t ht => ?_⟩))
    exact q _ Λ _ (upd B t (.lst (v1 ++ v2))) α _ h.2 (S.lay ht) (Ex.new (S.bh.back ht)) (List.prefix_refl _) (by
            show Rep K _ α (.lst (xs ++ ys)) (.ref t)
            unfold Rep
            exact ⟨t, v1 ++ v2, rfl, upd_same, (r1.append r2).mono (Ex.new (S.bh.back ht)) (List.prefix_refl _)⟩)
  · exact h.elim
theorem we_add (h : WE C E Γ Λ a fun x Λ1 => WE C E Γ Λ1 b fun y Λ2 => addP Λ2 x y fun d => P d Λ2) : WE C E Γ Λ (.BinOp a .Add b pos) P :=
  we_opK (r := rAdd C.K) (fun X is => by rw [← is.K]; exact op_addA) (we_mono h fun x Λ1 p => we_mono p fun y Λ2 q => add_K q)

/-- what an operation on two ints does -/
def intP (g : Int → Int → Prop) (f : Int → Int → D) (x y : D) (P : D → Prop) : Prop := match x, y with
  | .int i, .int j => g i j ∧ P (f i j)
  | _, _ => False
theorem int_K {K : PySem.W.Frag} {g : Int → Int → Prop} {f : Int → Int → V} {f' : Int → Int → D} (hf : ∀ i j B α, Rep K B α (f' i j) (f i j)) {x y : D} (h : intP g f' x y fun d => P d Λ) : OpK K (rI g f) x y Γ Λ P := by
  intro F B α σ H vx vy Q S rx ry q
  unfold intP at h
  split at h
  · rename_i i j
    unfold Rep at rx ry
    exact ⟨i, j, rx, ry, h.1, q _ Λ _ B α H h.2 S (Ex.refl B) (List.prefix_refl _) (hf i j B α)⟩
  · exact h.elim
theorem we_intK {op : Operator} {g : Int → Int → Prop} {f : Int → Int → Int} (ho : ∀ X, C.Is X → OpR X (binaryOp op) (rI g fun i j => .int (f i j))) (h : WE C E Γ Λ a fun x Λ1 => WE C E Γ Λ1 b fun y Λ2 => intP g (fun i j => .int (f i j)) x y fun d => P d Λ2) : WE C E Γ Λ (.BinOp a op b pos) P :=
  we_opK ho (we_mono h fun x Λ1 p => we_mono p fun y Λ2 q => int_K (fun i j B α => by unfold Rep; rfl) q)
theorem we_sub (h : WE C E Γ Λ a fun x Λ1 => WE C E Γ Λ1 b fun y Λ2 => intP (fun _ _ => True) (fun i j => .int (i - j)) x y fun d => P d Λ2) : WE C E Γ Λ (.BinOp a .Sub b pos) P :=
  we_intK (fun X is => opI fun _ _ _ _ _ _ _ _ q => sub_int q) h
theorem we_mul (h : WE C E Γ Λ a fun x Λ1 => WE C E Γ Λ1 b fun y Λ2 => intP CMul (fun i j => .int (i * j)) x y fun d => P d Λ2) : WE C E Γ Λ (.BinOp a .Mult b pos) P :=
  we_intK (fun X is => op_mul) h
theorem we_fdiv (h : WE C E Γ Λ a fun x Λ1 => WE C E Γ Λ1 b fun y Λ2 => intP CDivW (fun i j => .int (i / j)) x y fun d => P d Λ2) : WE C E Γ Λ (.BinOp a .FloorDiv b pos) P :=
  we_intK (fun X is => op_fdivW) h
theorem we_mod (h : WE C E Γ Λ a fun x Λ1 => WE C E Γ Λ1 b fun y Λ2 => intP (fun _ j => 0 < j) (fun i j => .int (i % j)) x y fun d => P d Λ2) : WE C E Γ Λ (.BinOp a .Mod b pos) P :=
  we_intK (fun X is => op_mod) h
theorem we_pow (h : WE C E Γ Λ a fun x Λ1 => WE C E Γ Λ1 b fun y Λ2 => intP CPow (fun i j => .int (i ^ j.toNat)) x y fun d => P d Λ2) : WE C E Γ Λ (.BinOp a .Pow b pos) P :=
  we_intK (fun X is => op_pow) h
end

/-! ### data as the library's -/
mutual
def py : D → PyData
  | .non => .none
  | .bl b => .bool b
  | .int i => .int i
  | .str s => .str s
  | .tup ds => .tuple (pys ds)
  | .lst ds => .list (pys ds)
  | .fzl ds => .list (pys ds)
  | .loc _ => .dict []
  | .raw _ => .dict []
  | .ins _ _ _ => .dict []
  | .dic _ _ => .dict []
  | .exc _ _ _ => .dict []
def pys : List D → List PyData
  | [] => []
  | d :: ds => py d :: pys ds
end
theorem pys_map : ∀ ds : List D, pys ds = ds.map py
  | [] => rfl
  | d :: ds => by rw [List.map_cons, ← pys_map ds]; rfl
mutual
theorem Rep.dp {K : PySem.W.Frag} {B H : Hp} {α : List Addr} (e : Ex B H) : ∀ (d : D) (v : V), (py d).plain = true → Rep K B α d v → Dp K H v (py d)
  | .non, _, _, h => by unfold Rep at h; subst h; exact .non
  | .bl b, _, _, h => by unfold Rep at h; subst h; exact .bl b
  | .int i, _, _, h => by unfold Rep at h; subst h; exact .int i
  | .str s, _, _, h => by unfold Rep at h; subst h; exact .str s
  | .tup ds, _, p, h => by
    unfold Rep at h
    obtain ⟨a, vs, rfl, h1, h2⟩ := h
    exact .tup (e.sqT h1) (Reps.dp e ds vs p h2)
  | .lst ds, _, p, h => by
    unfold Rep at h
    obtain ⟨a, vs, rfl, h1, h2⟩ := h
    exact .lst (SqL.of (e _ _ h1)) (Reps.dp e ds vs p h2)
  | .fzl ds, _, p, h => by
    unfold Rep at h
    obtain ⟨a, vs, rfl, h1, h2⟩ := h
    exact .lst (e.sqL h1) (Reps.dp e ds vs p h2)
  | .loc _, _, p, _ => nomatch p
  | .raw _, _, p, _ => nomatch p
  | .ins _ _ _, _, p, _ => nomatch p
  | .dic _ _, _, p, _ => nomatch p
  | .exc _ _ _, _, p, _ => nomatch p
theorem Reps.dp {K : PySem.W.Frag} {B H : Hp} {α : List Addr} (e : Ex B H) : ∀ (ds : List D) (vs : List V), PyData.plainAll (pys ds) = true → Reps K B α ds vs → DpAll K H vs (pys ds)
  | [], _, _, h => by unfold Reps at h; subst h; exact .nil
  | d :: ds, _, p, h => by
    unfold Reps at h
    obtain ⟨v, r, rfl, h1, h2⟩ := h
    have p' : ((py d).plain && PyData.plainAll (pys ds)) = true := p
    rw [Bool.and_eq_true] at p'
    exact .cons (Rep.dp e d v p'.1 h1) (Reps.dp e ds r p'.2 h2)
end
theorem Sat.dp {K : PySem.W.Frag} {F : Fm} {B : Hp} {α : List Addr} {Γ : Env} {Λ : Cells} {σ : L2.St} {H : Hp} (S : Sat K F B α Γ Λ σ H) {x : D} {v : V} (r : Rep K B α x v) (p : (py (vw Λ x)).plain = true) : Dp K H v (py (vw Λ x)) := by
  cases x with
  | loc n =>
    simp only [vw] at p ⊢
    cases hc : Λ[n]? with
    | none => rw [hc] at p; cases p
    | some c =>
      rw [hc] at p
      cases c with
      | lst ds =>
        simp only at p ⊢
        obtain ⟨a, vs, rfl, h1, h2⟩ := S.lst r (ds := ds) (by simp [vw, hc])
        exact .lst (SqL.of h1) (Reps.dp S.bh ds vs p h2)
      | _ => cases p
  | _ => exact Rep.dp S.bh _ v p r

/-! ### comparisons -/
section
variable {C : Ctx} {E : ER} {Γ : Env} {Λ : Cells} {P : D → Cells → Prop} {pos : Pos} {a b : Expr}
/-- what == needs of two data, and what it says -/
def eqP (Λ : Cells) (x y : D) (P : Bool → Prop) : Prop := match x, y with
  | .int i, .int j => P (decide (i = j))
  | .str s, .str t => P (decide (s = t))
  | .bl c, .bl d => P (decide (c = d))
  | x, y => (py (vw Λ x)).plain = true ∧ (py (vw Λ y)).plain = true ∧ min (py (vw Λ x)).depth (py (vw Λ y)).depth ≤ 190 ∧ P (PyData.eqv (py (vw Λ x)) (py (vw Λ y)))
def rEqP (K : PySem.W.Frag) (neg : Bool → Bool) : R2 := fun x y H Q => ∃ d e, Dp K H x d ∧ Dp K H y e ∧ d.plain = true ∧ e.plain = true ∧ min d.depth e.depth ≤ 190 ∧ Q (.bl (neg (PyData.eqv d e))) H
theorem Ctx.Is.u200 {X : Cx} (h : C.Is X) : X.A.units + 200 < cLine := by have := h.room.un; omega
theorem op_eqP {X : Cx} (is : C.Is X) : OpR X (compareOp .Eq) (rEqP X.K id) := by
  intro pins s σ H x y v u Q I rx ry h
  obtain ⟨d, e, hd, he, sd, se, hu, q⟩ := h
  obtain ⟨as, r1⟩ := Dp.reads I d x v hd rx
  obtain ⟨bs, r2⟩ := Dp.reads I e y u he ry
  have := is.u200
  refine SeqAt.eq_plain r1 r2 sd se (by omega) ⟨.bl _, H, I, rfl, q⟩
theorem op_neP {X : Cx} (is : C.Is X) : OpR X (compareOp .NotEq) (rEqP X.K not) := by
  intro pins s σ H x y v u Q I rx ry h
  obtain ⟨d, e, hd, he, sd, se, hu, q⟩ := h
  obtain ⟨as, r1⟩ := Dp.reads I d x v hd rx
  obtain ⟨bs, r2⟩ := Dp.reads I e y u he ry
  have := is.u200
  refine SeqAt.ne_plain r1 r2 sd se (by omega) ⟨.bl _, H, I, rfl, q⟩
theorem eq_K {K : PySem.W.Frag} {neg : Bool → Bool} {x y : D} (h : eqP Λ x y fun c => P (.bl (neg c)) Λ) : OpK K (rEqP K neg) x y Γ Λ P := by
  intro F B α σ H vx vy Q S rx ry q
  have fin : ∀ {c : Bool}, P (.bl (neg c)) Λ → Q (.bl (neg c)) H := fun {c} p => q _ Λ _ B α H p S (Ex.refl B) (List.prefix_refl _) (by unfold Rep; rfl)
  have gen : ∀ {x y : D}, Rep K B α x vx → Rep K B α y vy → ((py (vw Λ x)).plain = true ∧ (py (vw Λ y)).plain = true ∧ min (py (vw Λ x)).depth (py (vw Λ y)).depth ≤ 190 ∧ P (.bl (neg (PyData.eqv (py (vw Λ x)) (py (vw Λ y))))) Λ) → rEqP K neg vx vy H Q := fun {x y} rx ry ⟨h1, h2, h3, h4⟩ =>
    ⟨_, _, S.dp rx h1, S.dp ry h2, h1, h2, h3, fin h4⟩
  unfold eqP at h
  split at h
  · refine gen rx ry ⟨rfl, rfl, (by show min 0 0 ≤ 190; decide), ?_⟩
    show P (.bl (neg (PyData.eqv (.int _) (.int _)))) Λ
    rw [PyData.eqv, Bool.beq_eq_decide_eq]; exact h
  · refine gen rx ry ⟨rfl, rfl, (by show min 0 0 ≤ 190; decide), ?_⟩
    show P (.bl (neg (PyData.eqv (.str _) (.str _)))) Λ
    rw [PyData.eqv, Bool.beq_eq_decide_eq]; exact h
  · refine gen rx ry ⟨rfl, rfl, (by show min 0 0 ≤ 190; decide), ?_⟩
    show P (.bl (neg (PyData.eqv (.bool _) (.bool _)))) Λ
    rw [PyData.eqv, Bool.beq_eq_decide_eq]; exact h
  · exact gen rx ry h
theorem we_eq (h : WE C E Γ Λ a fun x Λ1 => WE C E Γ Λ1 b fun y Λ2 => eqP Λ2 x y fun c => P (.bl c) Λ2) : WE C E Γ Λ (.Compare a [.Eq] [b] pos) P :=
  we_cmpK (r := rEqP C.K id) (fun X is => by rw [← is.K]; exact op_eqP is) (we_mono h fun x Λ1 p => we_mono p fun y Λ2 q => eq_K (neg := id) q) (nomark _)
theorem we_ne (h : WE C E Γ Λ a fun x Λ1 => WE C E Γ Λ1 b fun y Λ2 => eqP Λ2 x y fun c => P (.bl (!c)) Λ2) : WE C E Γ Λ (.Compare a [.NotEq] [b] pos) P :=
  we_cmpK (r := rEqP C.K not) (fun X is => by rw [← is.K]; exact op_neP is) (we_mono h fun x Λ1 p => we_mono p fun y Λ2 q => eq_K (neg := not) q) (nomark _)
theorem eqP_mono {x y : D} {P P' : Bool → Prop} (h : eqP Λ x y P) (i : ∀ c, P c → P' c) : eqP Λ x y P' := by
  unfold eqP at h ⊢
  split at h
  · exact i _ h
  · exact i _ h
  · exact i _ h
  · exact ⟨h.1, h.2.1, h.2.2.1, i _ h.2.2.2⟩
theorem wt_eq {P : Bool → Cells → Prop} (h : WE C E Γ Λ a fun x Λ1 => WE C E Γ Λ1 b fun y Λ2 => eqP Λ2 x y fun c => P c Λ2) : WT C E Γ Λ (.Compare a [.Eq] [b] pos) P :=
  wt_cmpK (r := rEqP C.K id) (fun X is => by rw [← is.K]; exact op_eqP is) (we_mono h fun x Λ1 p => we_mono p fun y Λ2 q => eq_K (neg := id) (eqP_mono q fun c p => ⟨_, rfl, p⟩)) (nomark _)
theorem wt_ne {P : Bool → Cells → Prop} (h : WE C E Γ Λ a fun x Λ1 => WE C E Γ Λ1 b fun y Λ2 => eqP Λ2 x y fun c => P (!c) Λ2) : WT C E Γ Λ (.Compare a [.NotEq] [b] pos) P :=
  wt_cmpK (r := rEqP C.K not) (fun X is => by rw [← is.K]; exact op_neP is) (we_mono h fun x Λ1 p => we_mono p fun y Λ2 q => eq_K (neg := not) (eqP_mono q fun c p => ⟨_, rfl, p⟩)) (nomark _)

/-- <, <=, >, >= of ints, < of texts -/
def ordP (f : Int → Int → Bool) (g : Str → Str → Bool) (ok : Bool) (x y : D) (P : Bool → Prop) : Prop := match x, y with
  | .int i, .int j => P (f i j)
  | .str s, .str t => ok = true ∧ P (g s t)
  | _, _ => False
def ltP := ordP (fun i j => decide (i < j)) (fun s t => decide (s.cps.toList < t.cps.toList)) true
def leP := ordP (fun i j => decide (i ≤ j)) (fun _ _ => false) false
def gtP := ordP (fun i j => decide (j < i)) (fun _ _ => false) false
def geP := ordP (fun i j => decide (j ≤ i)) (fun _ _ => false) false
def rOrd (f : Int → Int → Bool) (g : Str → Str → Bool) (ok : Bool) : R2 := fun x y H Q => (rI0 (fun i j => .bl (f i j)) x y H Q) ∨ (ok = true ∧ ∃ i j, x = .str i ∧ y = .str j ∧ Q (.bl (g i j)) H)
theorem ord_K {K : PySem.W.Frag} {f : Int → Int → Bool} {g : Str → Str → Bool} {ok : Bool} {x y : D} (h : ordP f g ok x y fun c => P (.bl c) Λ) : OpK K (rOrd f g ok) x y Γ Λ P := by
  intro F B α σ H vx vy Q S rx ry q
  have fin : ∀ {c : Bool}, P (.bl c) Λ → Q (.bl c) H := fun {c} p => q _ Λ _ B α H p S (Ex.refl B) (List.prefix_refl _) (by unfold Rep; rfl)
  unfold ordP at h
  split at h
  · unfold Rep at rx ry
    exact .inl ⟨_, _, rx, ry, fin h⟩
  · unfold Rep at rx ry
    exact .inr ⟨h.1, _, _, rx, ry, fin h.2⟩
  · exact h.elim
theorem OpR.ff {X : Cx} {f : Value → Value → Sem Value} {r : R2} (h : OpR X f r) {g : Str → Str → Bool} : OpR X f (fun x y H Q => r x y H Q ∨ (false = true ∧ ∃ i j, x = .str i ∧ y = .str j ∧ Q (.bl (g i j)) H)) := by
  intro pins s σ H x y v u Q I rx ry q
  rcases q with q | q
  · exact h pins s σ H x y v u Q I rx ry q
  · exact absurd q.1 (by decide)
theorem op_ltA {X : Cx} : OpR X (compareOp .Lt) (rOrd (fun i j => decide (i < j)) (fun s t => decide (s.cps.toList < t.cps.toList)) true) := by
  intro pins s σ H x y v u Q I rx ry q
  rcases q with q | q
  · exact op_lt pins s σ H x y v u Q I rx ry q
  · exact op_lt_str pins s σ H x y v u Q I rx ry q.2
theorem op_leA {X : Cx} : OpR X (compareOp .LtE) (rOrd (fun i j => decide (i ≤ j)) (fun _ _ => false) false) := OpR.ff op_le
theorem op_gtA {X : Cx} : OpR X (compareOp .Gt) (rOrd (fun i j => decide (j < i)) (fun _ _ => false) false) := OpR.ff op_gt
theorem op_geA {X : Cx} : OpR X (compareOp .GtE) (rOrd (fun i j => decide (j ≤ i)) (fun _ _ => false) false) := OpR.ff op_ge
theorem we_ltK {op : CmpOp} {f : Int → Int → Bool} {g : Str → Str → Bool} {ok : Bool} (ho : ∀ X, OpR X (compareOp op) (rOrd f g ok)) (hm : ∀ b, behindInMarks op b = false)
    (h : WE C E Γ Λ a fun x Λ1 => WE C E Γ Λ1 b fun y Λ2 => ordP f g ok x y fun c => P (.bl c) Λ2) : WE C E Γ Λ (.Compare a [op] [b] pos) P :=
  we_cmpK (fun X is => ho X) (we_mono h fun x Λ1 p => we_mono p fun y Λ2 q => ord_K q) (hm b)
theorem wt_ltK {op : CmpOp} {f : Int → Int → Bool} {g : Str → Str → Bool} {ok : Bool} {P : Bool → Cells → Prop} (ho : ∀ X, OpR X (compareOp op) (rOrd f g ok)) (hm : ∀ b, behindInMarks op b = false)
    (h : WE C E Γ Λ a fun x Λ1 => WE C E Γ Λ1 b fun y Λ2 => ordP f g ok x y fun c => P c Λ2) : WT C E Γ Λ (.Compare a [op] [b] pos) P :=
  wt_cmpK (fun X is => ho X) (we_mono h fun x Λ1 p => we_mono p fun y Λ2 q => ord_K (by
    unfold ordP at q ⊢
    split at q
    · exact ⟨_, rfl, q⟩
    · exact ⟨q.1, _, rfl, q.2⟩
    · exact q)) (hm b)
theorem we_lt (h : WE C E Γ Λ a fun x Λ1 => WE C E Γ Λ1 b fun y Λ2 => ltP x y fun c => P (.bl c) Λ2) : WE C E Γ Λ (.Compare a [.Lt] [b] pos) P := we_ltK (fun _ => op_ltA) (fun b => nomark b) h
theorem we_le (h : WE C E Γ Λ a fun x Λ1 => WE C E Γ Λ1 b fun y Λ2 => leP x y fun c => P (.bl c) Λ2) : WE C E Γ Λ (.Compare a [.LtE] [b] pos) P := we_ltK (fun _ => op_leA) (fun b => nomark b) h
theorem we_gt (h : WE C E Γ Λ a fun x Λ1 => WE C E Γ Λ1 b fun y Λ2 => gtP x y fun c => P (.bl c) Λ2) : WE C E Γ Λ (.Compare a [.Gt] [b] pos) P := we_ltK (fun _ => op_gtA) (fun b => nomark b) h
theorem we_ge (h : WE C E Γ Λ a fun x Λ1 => WE C E Γ Λ1 b fun y Λ2 => geP x y fun c => P (.bl c) Λ2) : WE C E Γ Λ (.Compare a [.GtE] [b] pos) P := we_ltK (fun _ => op_geA) (fun b => nomark b) h
theorem wt_lt {P : Bool → Cells → Prop} (h : WE C E Γ Λ a fun x Λ1 => WE C E Γ Λ1 b fun y Λ2 => ltP x y fun c => P c Λ2) : WT C E Γ Λ (.Compare a [.Lt] [b] pos) P := wt_ltK (fun _ => op_ltA) (fun b => nomark b) h
theorem wt_le {P : Bool → Cells → Prop} (h : WE C E Γ Λ a fun x Λ1 => WE C E Γ Λ1 b fun y Λ2 => leP x y fun c => P c Λ2) : WT C E Γ Λ (.Compare a [.LtE] [b] pos) P := wt_ltK (fun _ => op_leA) (fun b => nomark b) h
theorem wt_gt {P : Bool → Cells → Prop} (h : WE C E Γ Λ a fun x Λ1 => WE C E Γ Λ1 b fun y Λ2 => gtP x y fun c => P c Λ2) : WT C E Γ Λ (.Compare a [.Gt] [b] pos) P := wt_ltK (fun _ => op_gtA) (fun b => nomark b) h
theorem wt_ge {P : Bool → Cells → Prop} (h : WE C E Γ Λ a fun x Λ1 => WE C E Γ Λ1 b fun y Λ2 => geP x y fun c => P c Λ2) : WT C E Γ Λ (.Compare a [.GtE] [b] pos) P := wt_ltK (fun _ => op_geA) (fun b => nomark b) h

/-- is None, is not None -/
def isN : D → Option Bool
  | .non => some true
  | .loc _ => some false
  | .raw _ => none
  | _ => some false
theorem isN_rep {K : PySem.W.Frag} {B : Hp} {α : List Addr} {x : D} {v : V} {c : Bool} (r : Rep K B α x v) (e : isN x = some c) : decide (v = .non) = c := by
  cases x <;> simp only [isN] at e <;> (try cases e) <;> unfold Rep at r
  · subst r; rfl
  all_goals first
    | (subst r; rfl)
    | (obtain ⟨_, _, rfl, _⟩ := r; rfl)
    | (obtain ⟨_, rfl, _⟩ := r; rfl)
    | (obtain ⟨_, _, _, rfl, _⟩ := r; rfl)
theorem we_isK {op : CmpOp} {f : Bool → Bool} (ho : ∀ X, OpR X (compareOp op) (fun x y H Q => y = .non ∧ Q (.bl (f (decide (x = .non)))) H)) (hm : ∀ b, behindInMarks op b = false)
    (h : WE C E Γ Λ a fun x Λ1 => WE C E Γ Λ1 b fun y Λ2 => y = .non ∧ ∃ c, isN x = some c ∧ P (.bl (f c)) Λ2) : WE C E Γ Λ (.Compare a [op] [b] pos) P :=
  we_cmpK (fun X is => ho X) (we_mono h fun x Λ1 p => we_mono p fun y Λ2 q => by
    intro F B α σ H vx vy Q S rx ry k
    obtain ⟨rfl, c, hc, p⟩ := q
    unfold Rep at ry
    refine ⟨ry, ?_⟩
    rw [isN_rep rx hc]
    exact k _ Λ2 _ B α H p S (Ex.refl B) (List.prefix_refl _) (by unfold Rep; rfl)) (hm b)
theorem wt_isK {op : CmpOp} {f : Bool → Bool} {P : Bool → Cells → Prop} (ho : ∀ X, OpR X (compareOp op) (fun x y H Q => y = .non ∧ Q (.bl (f (decide (x = .non)))) H)) (hm : ∀ b, behindInMarks op b = false)
    (h : WE C E Γ Λ a fun x Λ1 => WE C E Γ Λ1 b fun y Λ2 => y = .non ∧ ∃ c, isN x = some c ∧ P (f c) Λ2) : WT C E Γ Λ (.Compare a [op] [b] pos) P :=
  wt_cmpK (fun X is => ho X) (we_mono h fun x Λ1 p => we_mono p fun y Λ2 q => by
    intro F B α σ H vx vy Q S rx ry k
    obtain ⟨rfl, c, hc, p⟩ := q
    unfold Rep at ry
    refine ⟨ry, ?_⟩
    rw [isN_rep rx hc]
    exact k _ Λ2 _ B α H ⟨_, rfl, p⟩ S (Ex.refl B) (List.prefix_refl _) (by unfold Rep; rfl)) (hm b)
theorem we_is (h : WE C E Γ Λ a fun x Λ1 => WE C E Γ Λ1 b fun y Λ2 => y = .non ∧ ∃ c, isN x = some c ∧ P (.bl c) Λ2) : WE C E Γ Λ (.Compare a [.Is] [b] pos) P := we_isK (f := id) (fun _ => op_isN) (fun b => nomark b) h
theorem we_isnt (h : WE C E Γ Λ a fun x Λ1 => WE C E Γ Λ1 b fun y Λ2 => y = .non ∧ ∃ c, isN x = some c ∧ P (.bl (!c)) Λ2) : WE C E Γ Λ (.Compare a [.IsNot] [b] pos) P := we_isK (f := not) (fun _ => op_notN) (fun b => nomark b) h
theorem wt_is {P : Bool → Cells → Prop} (h : WE C E Γ Λ a fun x Λ1 => WE C E Γ Λ1 b fun y Λ2 => y = .non ∧ ∃ c, isN x = some c ∧ P c Λ2) : WT C E Γ Λ (.Compare a [.Is] [b] pos) P := wt_isK (f := id) (fun _ => op_isN) (fun b => nomark b) h
theorem wt_isnt {P : Bool → Cells → Prop} (h : WE C E Γ Λ a fun x Λ1 => WE C E Γ Λ1 b fun y Λ2 => y = .non ∧ ∃ c, isN x = some c ∧ P (!c) Λ2) : WT C E Γ Λ (.Compare a [.IsNot] [b] pos) P := wt_isK (f := not) (fun _ => op_notN) (fun b => nomark b) h
end
end Pl

namespace Pl
open PySem L2 PyProof.Rows

/-! ### in, not in -/
section
variable {C : Ctx} {E : ER} {Γ : Env} {Λ : Cells} {P : D → Cells → Prop} {pos : Pos} {a b : Expr}
/-- a text in a text -/
def strIn (x y : Str) : Bool := !(Builtin.Str.occurrences y x 0 y.length 1).isEmpty
def dLook (ks : List Key) (ds : List D) (k : Key) : Option D := ((ks.zip ds).find? fun kv => decide (kv.1 = k)).map (·.2)
def keyD : D → Option Key
  | .int i => some (.inl i)
  | .str s => some (.inr s)
  | _ => none
theorem keyD_rep {K : PySem.W.Frag} {B : Hp} {α : List Addr} {x : D} {v : V} {k : Key} (r : Rep K B α x v) (e : keyD x = some k) : v = kV k := by
  cases x <;> simp only [keyD] at e <;> cases e <;> (unfold Rep at r; subst r; rfl)
theorem dLook_rep {K : PySem.W.Frag} {B : Hp} {α : List Addr} : ∀ {ks : List Key} {ds : List D} {vs : List V} (k : Key), Reps K B α ds vs → 
    (∀ d, dLook ks ds k = some d → ∃ v, valV (ks.zip vs) k = some v ∧ Rep K B α d v) ∧ (dLook ks ds k = none → valV (ks.zip vs) k = none)
  | [], _, _, _, _ => by simp [dLook, valV]
  | _ :: _, [], vs, k, r => by unfold Reps at r; subst r; simp [dLook, valV]
  | q :: ks, d :: ds, vs, k, r => by
    unfold Reps at r
    obtain ⟨v, r', rfl, h1, h2⟩ := r
    have ih := dLook_rep (ks := ks) k h2
    simp only [dLook, valV, List.zip_cons_cons, List.find?_cons] at ih ⊢
    by_cases e : q = k
    · simp only [e, decide_true, Option.map_some]
      exact ⟨fun d' q => by cases q; exact ⟨v, rfl, h1⟩, fun q => by cases q⟩
    · simp only [e, decide_false]
      exact ih
def inP (Λ : Cells) (x y : D) (P : Bool → Prop) : Prop := match vw Λ y with
  | .str t => ∃ s, x = .str s ∧ P (strIn s t)
  | .dic ks ds => ∃ k, keyD x = some k ∧ P (dLook ks ds k).isSome
  | .tup ds => PyData.plainAll (pys ds) = true ∧ (py (vw Λ x)).plain = true ∧ min (PyData.depthAll (pys ds)) (py (vw Λ x)).depth ≤ 190 ∧ P ((pys ds).any fun e => PyData.eqv e (py (vw Λ x)))
  | .lst ds => PyData.plainAll (pys ds) = true ∧ (py (vw Λ x)).plain = true ∧ min (PyData.depthAll (pys ds)) (py (vw Λ x)).depth ≤ 190 ∧ P ((pys ds).any fun e => PyData.eqv e (py (vw Λ x)))
  | .fzl ds => PyData.plainAll (pys ds) = true ∧ (py (vw Λ x)).plain = true ∧ min (PyData.depthAll (pys ds)) (py (vw Λ x)).depth ≤ 190 ∧ P ((pys ds).any fun e => PyData.eqv e (py (vw Λ x)))
  | _ => False
theorem inP_mono {x y : D} {P P' : Bool → Prop} (h : inP Λ x y P) (i : ∀ c, P c → P' c) : inP Λ x y P' := by
  unfold inP at h ⊢
  split at h
  · obtain ⟨s, e, p⟩ := h; exact ⟨s, e, i _ p⟩
  · obtain ⟨s, e, p⟩ := h; exact ⟨s, e, i _ p⟩
  · exact ⟨h.1, h.2.1, h.2.2.1, i _ h.2.2.2⟩
  · exact ⟨h.1, h.2.1, h.2.2.1, i _ h.2.2.2⟩
  · exact ⟨h.1, h.2.1, h.2.2.1, i _ h.2.2.2⟩
  · exact h
def rInP (K : PySem.W.Frag) (f : Bool → Bool) : R2 := fun x y H Q => (∃ s t, x = .str s ∧ y = .str t ∧ Q (.bl (f (strIn s t))) H) ∨ (∃ p o, y = .ref p ∧ DGet H p x o ∧ Q (.bl (f o.isSome)) H) ∨
  (∃ d ds, Dp K H x d ∧ (Dp K H y (.list ds) ∨ Dp K H y (.tuple ds)) ∧ d.plain = true ∧ PyData.plainAll ds = true ∧ min (PyData.depthAll ds) d.depth ≤ 190 ∧ Q (.bl (f (ds.any fun e => PyData.eqv e d))) H)
theorem op_inP {X : Cx} (is : C.Is X) : OpR X (compareOp .In) (rInP X.K id) := by
  intro pins s σ H x y v u Q I rx ry h
  have hu := is.u200
  rcases h with ⟨s', t, rfl, rfl, q⟩ | ⟨p, o, rfl, g, q⟩ | ⟨d, ds, hd, hl, sd, se, hm, q⟩
  · exact op_in_str pins s σ H _ _ v u Q I rx ry ⟨s', t, rfl, rfl, q⟩
  · cases ry
    exact d_in (by omega) I g rx fun s' I' => ⟨.bl _, H, I', rfl, q⟩
  · obtain ⟨as, r1⟩ := Dp.reads I d x v hd rx
    rcases hl with hl | hl
    · obtain ⟨bs, r2⟩ := Dp.reads I _ y u hl ry
      exact SeqAt.in_list_data r2 r1 se sd (by omega) ⟨.bl _, H, I, rfl, q⟩
    · obtain ⟨bs, r2⟩ := Dp.reads I _ y u hl ry
      exact SeqAt.in_tuple_data r2 r1 se sd (by omega) ⟨.bl _, H, I, rfl, q⟩
theorem op_ninP {X : Cx} (is : C.Is X) : OpR X (compareOp .NotIn) (rInP X.K not) := by
  intro pins s σ H x y v u Q I rx ry h
  have hu := is.u200
  rcases h with ⟨s', t, rfl, rfl, q⟩ | ⟨p, o, rfl, g, q⟩ | ⟨d, ds, hd, hl, sd, se, hm, q⟩
  · exact op_notIn_str pins s σ H _ _ v u Q I rx ry ⟨s', t, rfl, rfl, q⟩
  · cases ry
    exact d_notIn (by omega) I g rx fun s' I' => ⟨.bl _, H, I', rfl, q⟩
  · obtain ⟨as, r1⟩ := Dp.reads I d x v hd rx
    rcases hl with hl | hl
    · obtain ⟨bs, r2⟩ := Dp.reads I _ y u hl ry
      exact SeqAt.notIn_list_data r2 r1 se sd (by omega) ⟨.bl _, H, I, rfl, q⟩
    · obtain ⟨bs, r2⟩ := Dp.reads I _ y u hl ry
      exact SeqAt.notIn_tuple_data r2 r1 se sd (by omega) ⟨.bl _, H, I, rfl, q⟩
theorem vw_noc {z w : D} (e : vw Λ z = w) (h1 : ∀ n, w ≠ .loc n) (h2 : ∀ ds, w ≠ .lst ds) (h3 : ∀ ks ds, w ≠ .dic ks ds) (h4 : ∀ c ns ds, w ≠ .ins c ns ds) : z = w := by
  cases z with
  | loc n =>
    simp only [vw] at e
    cases hc : Λ[n]? with
    | none => rw [hc] at e; exact absurd e.symm (h1 n)
    | some c =>
      rw [hc] at e
      cases c with
      | lst ds => exact absurd e.symm (h2 ds)
      | dic ks ds => exact absurd e.symm (h3 ks ds)
      | ins c ns ds => exact absurd e.symm (h4 c ns ds)
      | gone => exact absurd e.symm (h1 n)
  | _ => exact e
/-- a dict, wherever it stands -/
theorem Sat.dic {K : PySem.W.Frag} {F : Fm} {B : Hp} {α : List Addr} {Γ : Env} {Λ : Cells} {σ : L2.St} {H : Hp} (S : Sat K F B α Γ Λ σ H) {x : D} {v : V} {ks : List Key} {ds : List D} (r : Rep K B α x v) (e : vw Λ x = .dic ks ds) : ∃ a vs, v = .ref a ∧ Rd H a (.dK (ks.zip vs)) ∧ Reps K B α ds vs := by
  cases x with
  | dic ks' es =>
    cases e
    unfold Rep at r
    obtain ⟨a, vs, h1, h2, h3, _⟩ := r
    exact ⟨a, vs, h1, S.bh.rd h2, h3⟩
  | loc n =>
    unfold Rep at r
    obtain ⟨a, h1, h2⟩ := r
    simp only [vw] at e
    cases hc : Λ[n]? with
    | none => rw [hc] at e; cases e
    | some c =>
      rw [hc] at e
      cases c <;> simp at e
      obtain ⟨rfl, rfl⟩ := e
      obtain ⟨a', q1, q2, q3, q4⟩ := S.ce n _ hc (by simp)
      rw [h2] at q1; cases q1
      obtain ⟨vs, q5, q6, _⟩ := q4
      exact ⟨a, vs, h1, .inl q5, q6⟩
  | _ => cases e
theorem in_K {K : PySem.W.Frag} {f : Bool → Bool} {x y : D} (h : inP Λ x y fun c => P (.bl (f c)) Λ) : OpK K (rInP K f) x y Γ Λ P := by
  intro F B α σ H vx vy Q S rx ry q
  have fin : ∀ {c : Bool}, P (.bl (f c)) Λ → Q (.bl (f c)) H := fun {c} p => q _ Λ _ B α H p S (Ex.refl B) (List.prefix_refl _) (by unfold Rep; rfl)
  unfold inP at h
  split at h
  · rename_i t hy
    have ey := vw_noc hy (by simp) (by simp) (by simp) (by simp)
    subst ey
    obtain ⟨s, rfl, p⟩ := h
    unfold Rep at rx ry
    exact .inl ⟨s, t, rx, ry, fin p⟩
  · rename_i ks ds hy
    obtain ⟨k, hk, p⟩ := h
    obtain ⟨a, vs, rfl, h1, h2⟩ := S.dic ry hy
    have hl := dLook_rep (ks := ks) k h2
    refine .inr (.inl ⟨a, valV (ks.zip vs) k, rfl, .inl ⟨_, k, h1, keyD_rep rx hk, rfl⟩, ?_⟩)
    have e : (valV (ks.zip vs) k).isSome = (dLook ks ds k).isSome := by
      cases hd : dLook ks ds k with
      | none => rw [hl.2 hd]; rfl
      | some d =>
        obtain ⟨v, e, _⟩ := hl.1 d hd
        rw [e]; rfl
    rw [e]
    exact fin p
  · rename_i ds hy
    have e := S.dp ry (by rw [hy]; exact h.1)
    rw [hy] at e
    exact .inr (.inr ⟨_, _, S.dp rx h.2.1, .inr e, h.2.1, h.1, h.2.2.1, fin h.2.2.2⟩)
  · rename_i ds hy
    have e := S.dp ry (by rw [hy]; exact h.1)
    rw [hy] at e
    exact .inr (.inr ⟨_, _, S.dp rx h.2.1, .inl e, h.2.1, h.1, h.2.2.1, fin h.2.2.2⟩)
  · rename_i ds hy
    have e := S.dp ry (by rw [hy]; exact h.1)
    rw [hy] at e
    exact .inr (.inr ⟨_, _, S.dp rx h.2.1, .inl e, h.2.1, h.1, h.2.2.1, fin h.2.2.2⟩)
  · exact h.elim
theorem we_in (h : WE C E Γ Λ a fun x Λ1 => WE C E Γ Λ1 b fun y Λ2 => inP Λ2 x y fun c => P (.bl c) Λ2) (hm : behindInMarks .In b = false := by rfl) : WE C E Γ Λ (.Compare a [.In] [b] pos) P :=
  we_cmpK (r := rInP C.K id) (fun X is => by rw [← is.K]; exact op_inP is) (we_mono h fun x Λ1 p => we_mono p fun y Λ2 q => in_K (f := id) q) hm
theorem we_nin (h : WE C E Γ Λ a fun x Λ1 => WE C E Γ Λ1 b fun y Λ2 => inP Λ2 x y fun c => P (.bl (!c)) Λ2) (hm : behindInMarks .NotIn b = false := by rfl) : WE C E Γ Λ (.Compare a [.NotIn] [b] pos) P :=
  we_cmpK (r := rInP C.K not) (fun X is => by rw [← is.K]; exact op_ninP is) (we_mono h fun x Λ1 p => we_mono p fun y Λ2 q => in_K (f := not) q) hm
theorem wt_in {P : Bool → Cells → Prop} (h : WE C E Γ Λ a fun x Λ1 => WE C E Γ Λ1 b fun y Λ2 => inP Λ2 x y fun c => P c Λ2) (hm : behindInMarks .In b = false := by rfl) : WT C E Γ Λ (.Compare a [.In] [b] pos) P :=
  wt_cmpK (r := rInP C.K id) (fun X is => by rw [← is.K]; exact op_inP is) (we_mono h fun x Λ1 p => we_mono p fun y Λ2 q => in_K (f := id) (inP_mono q fun c p => ⟨_, rfl, p⟩)) hm
theorem wt_nin {P : Bool → Cells → Prop} (h : WE C E Γ Λ a fun x Λ1 => WE C E Γ Λ1 b fun y Λ2 => inP Λ2 x y fun c => P (!c) Λ2) (hm : behindInMarks .NotIn b = false := by rfl) : WT C E Γ Λ (.Compare a [.NotIn] [b] pos) P :=
  wt_cmpK (r := rInP C.K not) (fun X is => by rw [← is.K]; exact op_ninP is) (we_mono h fun x Λ1 p => we_mono p fun y Λ2 q => in_K (f := not) (inP_mono q fun c p => ⟨_, rfl, p⟩)) hm

/-! ### a <= b < c over ints -/
theorem chain_K {f f' : Int → Int → Bool} {g g' : Str → Str → Bool} {ok ok' : Bool} {c : Expr} {X : Cx} {F : Fm} {W : WX} {Q : VK} {B : Hp} {α : List Addr} {σ : L2.St} {H : Hp} (is : C.Is X) (tk : Takes X W) (S : Sat C.K F B α Γ Λ σ H) (er : ErOk C.K F W B σ Γ E)
    (h : WE C E Γ Λ a fun x Λ1 => WE C E Γ Λ1 b fun y Λ2 => ordP f g ok x y fun c1 => if c1 = true then WE C E Γ Λ2 c fun z Λ3 => ordP f' g' ok' y z fun c2 => P (.bl c2) Λ3 else P (.bl false) Λ2)
    (q : ∀ d Λ' v B' α' H', P d Λ' → Sat C.K F B' α' Γ Λ' σ H' → Ex B B' → α <+: α' → Rep C.K B' α' d v → Q v H') :
    tChain (rOrd f g ok) (rOrd f' g' ok') (UE X a) (UE X b) (UE X c) σ H Q := by
  refine WE.use h is tk S er fun x Λ1 vx B1 α1 H1 p1 S1 e1 f1 r1 => ?_
  refine WE.use p1 is tk S1 (er.mono e1) fun y Λ2 vy B2 α2 H2 p2 S2 e2 f2 r2 => ?_
  have sec : ∀ c1 : Bool, (if c1 = true then WE C E Γ Λ2 c fun z Λ3 => ordP f' g' ok' y z fun c2 => P (.bl c2) Λ3 else P (.bl false) Λ2) → ∃ k, V.bl c1 = .bl k ∧ (if k = true then UE X c σ H2 fun w' H4 => rOrd f' g' ok' vy w' H4 Q else Q (.bl false) H2) := fun c1 p => by
    refine ⟨c1, rfl, ?_⟩
    cases c1 with
    | true =>
      rw [if_pos rfl] at p ⊢
      refine WE.use p is tk S2 (er.mono (e1.trans e2)) fun z Λ3 vz B3 α3 H3 p3 S3 e3 f3 r3 => ?_
      exact ord_K (K := C.K) (P := P) p3 F B3 α3 σ H3 vy vz Q S3 (r2.mono e3 f3) r3 fun d Λ' v B' α' H' p' S' e' f' r' => q d Λ' v B' α' H' p' S' (((e1.trans e2).trans e3).trans e') (((f1.trans f2).trans f3).trans f') r'
    | false =>
      rw [if_neg (by simp)] at p ⊢
      exact q _ Λ2 _ B2 α2 H2 p S2 (e1.trans e2) (f1.trans f2) (by unfold Rep; rfl)
  have r1' := r1.mono e2 f2
  unfold ordP at p2
  split at p2
  · unfold Rep at r1' r2
    exact .inl ⟨_, _, r1', r2, sec _ p2⟩
  · unfold Rep at r1' r2
    exact .inr ⟨p2.1, _, _, r1', r2, sec _ p2.2⟩
  · exact p2.elim
theorem we_lelt {c : Expr} (h : WE C E Γ Λ a fun x Λ1 => WE C E Γ Λ1 b fun y Λ2 => leP x y fun c1 => if c1 = true then WE C E Γ Λ2 c fun z Λ3 => ltP y z fun c2 => P (.bl c2) Λ3 else P (.bl false) Λ2) : WE C E Γ Λ (.Compare a [.LtE, .Lt] [b, c] pos) P := fun X F W is tk =>
  pe_imp (pe_chain op_leA op_ltA pe_U pe_U pe_U (by show behindInMarks .Lt c = false; exact nomark c)) fun σ H Q ⟨B, α, S, q, er⟩ => chain_K is tk S er h q
theorem wt_lelt {P : Bool → Cells → Prop} {c : Expr} (h : WE C E Γ Λ a fun x Λ1 => WE C E Γ Λ1 b fun y Λ2 => leP x y fun c1 => if c1 = true then WE C E Γ Λ2 c fun z Λ3 => ltP y z fun c2 => P c2 Λ3 else P false Λ2) : WT C E Γ Λ (.Compare a [.LtE, .Lt] [b, c] pos) P := fun X F W is tk =>
  pt_imp (pt_chain op_leA op_ltA pe_U pe_U pe_U (by show behindInMarks .Lt c = false; exact nomark c)) fun σ H Q ⟨B, α, S, q, er⟩ => by
    have om : ∀ {f : Int → Int → Bool} {g : Str → Str → Bool} {ok : Bool} {x y : D} {P P' : Bool → Prop}, ordP f g ok x y P → (∀ c, P c → P' c) → ordP f g ok x y P' := fun {f g ok x y P P'} h i => by
      unfold ordP at h ⊢
      split at h
      · exact i _ h
      · exact ⟨h.1, i _ h.2⟩
      · exact h
    refine chain_K (P := fun d Λ' => ∃ k, d = .bl k ∧ P k Λ') is tk S er (we_mono h fun x Λ1 p => we_mono p fun y Λ2 p => om p fun c1 p => ?_) fun d Λ' v B' α' H' p S' e f r => ?_
    · cases c1 with
      | true =>
        rw [if_pos rfl] at p ⊢
        exact we_mono p fun z Λ3 p => om p fun c2 p => ⟨_, rfl, p⟩
      | false =>
        rw [if_neg (by simp)] at p ⊢
        exact ⟨_, rfl, p⟩
    · obtain ⟨k, rfl, p⟩ := p
      unfold Rep at r
      exact ⟨k, r, q k Λ' B' α' H' p S' e f⟩

/-! ### and, or, not, if .. else -/
def boolP (x : D) (P : Bool → Prop) : Prop := match x with
  | .bl c => P c
  | _ => False
theorem we_one {op} (h : WE C E Γ Λ a P) : WE C E Γ Λ (.BoolOp op [a] pos) P := fun X F W is tk => pe_one (h X F W is tk)
theorem we_and {rest : List Expr} (h : WE C E Γ Λ a fun x Λ1 => boolP x fun c => if c = true then WE C E Γ Λ1 (.BoolOp .And (b :: rest) pos) P else P (.bl false) Λ1) : WE C E Γ Λ (.BoolOp .And (a :: b :: rest) pos) P := fun X F W is tk => by
  refine pe_imp (pe_and pe_U pe_U) fun σ H Q ⟨B, α, S, q, er⟩ => ?_
  refine WE.use h is tk S er fun x Λ1 vx B1 α1 H1 p1 S1 e1 f1 r1 => ?_
  unfold boolP at p1
  split at p1
  · rename_i c
    unfold Rep at r1
    refine ⟨c, r1, ?_⟩
    cases c with
    | true =>
      rw [if_pos rfl] at p1 ⊢
      exact WE.use p1 is tk S1 (er.mono e1) fun y Λ2 vy B2 α2 H2 p2 S2 e2 f2 r2 => q _ _ _ _ _ _ p2 S2 (e1.trans e2) (f1.trans f2) r2
    | false =>
      rw [if_neg (by simp)] at p1 ⊢
      exact q _ _ _ _ _ _ p1 S1 e1 f1 (by unfold Rep; rfl)
  · exact p1.elim
theorem we_or {rest : List Expr} (h : WE C E Γ Λ a fun x Λ1 => boolP x fun c => if c = true then P (.bl true) Λ1 else WE C E Γ Λ1 (.BoolOp .Or (b :: rest) pos) P) : WE C E Γ Λ (.BoolOp .Or (a :: b :: rest) pos) P := fun X F W is tk => by
  refine pe_imp (pe_or pe_U pe_U) fun σ H Q ⟨B, α, S, q, er⟩ => ?_
  refine WE.use h is tk S er fun x Λ1 vx B1 α1 H1 p1 S1 e1 f1 r1 => ?_
  unfold boolP at p1
  split at p1
  · rename_i c
    unfold Rep at r1
    refine ⟨c, r1, ?_⟩
    cases c with
    | false =>
      rw [if_neg (by simp)] at p1 ⊢
      exact WE.use p1 is tk S1 (er.mono e1) fun y Λ2 vy B2 α2 H2 p2 S2 e2 f2 r2 => q _ _ _ _ _ _ p2 S2 (e1.trans e2) (f1.trans f2) r2
    | true =>
      rw [if_pos rfl] at p1 ⊢
      exact q _ _ _ _ _ _ p1 S1 e1 f1 (by unfold Rep; rfl)
  · exact p1.elim
theorem we_not (h : WE C E Γ Λ a fun x Λ1 => boolP x fun c => P (.bl (!c)) Λ1) : WE C E Γ Λ (.UnaryOp .Not a pos) P := fun X F W is tk => by
  refine pe_imp (pe_not pe_U) fun σ H Q ⟨B, α, S, q, er⟩ => ?_
  refine WE.use h is tk S er fun x Λ1 vx B1 α1 H1 p1 S1 e1 f1 r1 => ?_
  unfold boolP at p1
  split at p1
  · rename_i c
    unfold Rep at r1
    exact ⟨c, r1, q _ _ _ _ _ _ p1 S1 e1 f1 (by unfold Rep; rfl)⟩
  · exact p1.elim
theorem we_neg (h : WE C E Γ Λ a fun x Λ1 => ∃ i, x = .int i ∧ P (.int (-i)) Λ1) : WE C E Γ Λ (.UnaryOp .USub a pos) P := fun X F W is tk => by
  refine pe_imp (pe_un un_neg pe_U) fun σ H Q ⟨B, α, S, q, er⟩ => ?_
  refine WE.use h is tk S er fun x Λ1 vx B1 α1 H1 p1 S1 e1 f1 r1 => ?_
  obtain ⟨i, rfl, p⟩ := p1
  unfold Rep at r1
  exact ⟨i, r1, q _ _ _ _ _ _ p S1 e1 f1 (by unfold Rep; rfl)⟩
/-! tests -/
theorem wt_val {P : Bool → Cells → Prop} (h : WE C E Γ Λ a fun x Λ1 => boolP x fun c => P c Λ1) (he : ∀ (env : PySem.Env) whole, isTrue a env whole = (do let v ← whole; standAt a.pos; holding [v] (truthy v)) := by intro _ _; rfl) : WT C E Γ Λ a P := fun X F W is tk => by
  refine pt_imp (pt_val pe_U (he X.env)) fun σ H Q ⟨B, α, S, q, er⟩ => ?_
  refine WE.use h is tk S er fun x Λ1 vx B1 α1 H1 p1 S1 e1 f1 r1 => ?_
  unfold boolP at p1
  split at p1
  · rename_i c
    unfold Rep at r1
    exact ⟨c, r1, q _ _ _ _ _ p1 S1 e1 f1⟩
  · exact p1.elim
theorem wt_not {P : Bool → Cells → Prop} (h : WT C E Γ Λ a fun c Λ1 => P (!c) Λ1) : WT C E Γ Λ (.UnaryOp .Not a pos) P := fun X F W is tk => by
  refine pt_imp (pt_not pt_U) fun σ H Q ⟨B, α, S, q, er⟩ => ?_
  exact WT.use h is tk S er fun c Λ1 B1 α1 H1 p1 S1 e1 f1 => q _ _ _ _ _ p1 S1 e1 f1
/-- a chain of and, or as a test -/
def WW (C : Ctx) (E : ER) (Γ : Env) (Λ : Cells) (e : Expr) (P : Bool → Cells → Prop) : Prop := ∀ X F W, C.Is X → Takes X W → PW X e (rdT C.K F W E Γ Λ P)
theorem wt_ww {P : Bool → Cells → Prop} (h : WW C E Γ Λ a P) : WT C E Γ Λ a P := fun X F W is tk => (h X F W is tk).pt
theorem WW.use {X : Cx} {F : Fm} {W : WX} {B : Hp} {α : List Addr} {σ : L2.St} {H : Hp} {e : Expr} {P : Bool → Cells → Prop} {Q : Bool → Hp → Prop} (h : WW C E Γ Λ e P) (is : C.Is X) (tk : Takes X W) (S : Sat C.K F B α Γ Λ σ H) (er : ErOk C.K F W B σ Γ E)
    (q : ∀ b Λ' B' α' H', P b Λ' → Sat C.K F B' α' Γ Λ' σ H' → Ex B B' → α <+: α' → Q b H') : UW X e σ H Q := ⟨_, h X F W is tk, B, α, S, q, er⟩
theorem ww_and1 {P : Bool → Cells → Prop} (h : WT C E Γ Λ a P) : WW C E Γ Λ (.BoolOp .And [a] pos) P := fun X F W is tk => pw_and1 (h X F W is tk)
theorem ww_or1 {P : Bool → Cells → Prop} (h : WT C E Γ Λ a P) : WW C E Γ Λ (.BoolOp .Or [a] pos) P := fun X F W is tk => pw_or1 (h X F W is tk)
theorem ww_and {P : Bool → Cells → Prop} {rest : List Expr} (h : WT C E Γ Λ a fun c Λ1 => if c = true then WW C E Γ Λ1 (.BoolOp .And (b :: rest) pos) P else P false Λ1) : WW C E Γ Λ (.BoolOp .And (a :: b :: rest) pos) P := fun X F W is tk => by
  refine pw_imp (pw_and pt_U pw_U) fun σ H Q ⟨B, α, S, q, er⟩ => ?_
  refine WT.use h is tk S er fun c Λ1 B1 α1 H1 p1 S1 e1 f1 => ?_
  cases c with
  | true =>
    rw [if_pos rfl] at p1 ⊢
    exact WW.use p1 is tk S1 (er.mono e1) fun y Λ2 B2 α2 H2 p2 S2 e2 f2 => q _ _ _ _ _ p2 S2 (e1.trans e2) (f1.trans f2)
  | false =>
    rw [if_neg (by simp)] at p1 ⊢
    exact q _ _ _ _ _ p1 S1 e1 f1
theorem ww_or {P : Bool → Cells → Prop} {rest : List Expr} (h : WT C E Γ Λ a fun c Λ1 => if c = true then P true Λ1 else WW C E Γ Λ1 (.BoolOp .Or (b :: rest) pos) P) : WW C E Γ Λ (.BoolOp .Or (a :: b :: rest) pos) P := fun X F W is tk => by
  refine pw_imp (pw_or pt_U pw_U) fun σ H Q ⟨B, α, S, q, er⟩ => ?_
  refine WT.use h is tk S er fun c Λ1 B1 α1 H1 p1 S1 e1 f1 => ?_
  cases c with
  | false =>
    rw [if_neg (by simp)] at p1 ⊢
    exact WW.use p1 is tk S1 (er.mono e1) fun y Λ2 B2 α2 H2 p2 S2 e2 f2 => q _ _ _ _ _ p2 S2 (e1.trans e2) (f1.trans f2)
  | true =>
    rw [if_pos rfl] at p1 ⊢
    exact q _ _ _ _ _ p1 S1 e1 f1
theorem we_ifx {c : Expr} (h : WT C E Γ Λ c fun k Λ1 => if k = true then WE C E Γ Λ1 a P else WE C E Γ Λ1 b P) : WE C E Γ Λ (.IfExp c a b pos) P := fun X F W is tk => by
  refine pe_imp (pe_ifExp pt_U pe_U pe_U) fun σ H Q ⟨B, α, S, q, er⟩ => ?_
  refine WT.use h is tk S er fun c Λ1 B1 α1 H1 p1 S1 e1 f1 => ?_
  cases c with
  | true =>
    rw [if_pos rfl] at p1 ⊢
    exact WE.use p1 is tk S1 (er.mono e1) fun y Λ2 vy B2 α2 H2 p2 S2 e2 f2 r2 => q _ _ _ _ _ _ p2 S2 (e1.trans e2) (f1.trans f2) r2
  | false =>
    rw [if_neg (by simp)] at p1 ⊢
    exact WE.use p1 is tk S1 (er.mono e1) fun y Λ2 vy B2 α2 H2 p2 S2 e2 f2 r2 => q _ _ _ _ _ _ p2 S2 (e1.trans e2) (f1.trans f2) r2

/-! ### subscripts, slices -/
def ixP (Λ : Cells) (x y : D) (P : D → Prop) : Prop := match y with
  | .int i => match x with
    | .str s => s.length ≤ sizeLine ∧ ∃ c, atI s.cps.toList i = some c ∧ P (.str ⟨#[c]⟩)
    | x => ∃ ds, seqD Λ x = some ds ∧ ∃ d, atI ds i = some d ∧ P d
  | _ => False
theorem Reps.atI {K : PySem.W.Frag} {B : Hp} {α : List Addr} {ds : List D} {vs : List V} {i : Int} {d : D} (r : Reps K B α ds vs) (h : atI ds i = some d) : ∃ v, L2.atI vs i = some v ∧ Rep K B α d v := by
  unfold L2.atI at h ⊢
  rw [r.length]
  cases e : ixN ds.length i with
  | none => rw [e] at h; cases h
  | some j =>
    rw [e] at h
    exact r.get h
theorem ix_K {K : PySem.W.Frag} {x y : D} (h : ixP Λ x y fun d => P d Λ) : OpK K (rIx K) x y Γ Λ P := by
  intro F B α σ H vx vy Q S rx ry q
  unfold ixP at h
  split at h
  · rename_i i
    unfold Rep at ry
    split at h
    · rename_i s
      unfold Rep at rx
      obtain ⟨hl, c, hc, p⟩ := h
      exact .inr (.inr ⟨s, i, c, rx, ry, hl, hc, q _ _ _ _ _ _ p S (Ex.refl B) (List.prefix_refl _) (by unfold Rep; rfl)⟩)
    · obtain ⟨ds, hs, d, hd, p⟩ := h
      obtain ⟨a, vs, rfl, h1, h2⟩ := S.seq rx hs
      obtain ⟨v, hv, rv⟩ := h2.atI hd
      have fin := q _ _ _ _ _ _ p S (Ex.refl B) (List.prefix_refl _) rv
      rcases h1 with h1 | h1
      · exact .inl ⟨a, vs, i, v, rfl, ry, h1, hv, fin⟩
      · exact .inr (.inl ⟨a, vs, i, v, rfl, ry, h1, hv, fin⟩)
  · exact h.elim
theorem we_ix (h : WE C E Γ Λ a fun x Λ1 => WE C E Γ Λ1 b fun y Λ2 => ixP Λ2 x y fun d => P d Λ2) (hs : PlainIx b := by intro _ _; rfl) : WE C E Γ Λ (.Subscript a b pos) P := fun X F W is tk => by
  refine pe_imp (pe_ix ix_seq pe_U pe_U hs) fun σ H Q ⟨B, α, S, q, er⟩ => ?_
  refine WE.use h is tk S er fun x Λ1 vx B1 α1 H1 p1 S1 e1 f1 r1 => ?_
  refine WE.use p1 is tk S1 (er.mono e1) fun y Λ2 vy B2 α2 H2 p2 S2 e2 f2 r2 => ?_
  rw [is.K]
  exact ix_K (K := C.K) p2 F B2 α2 σ H2 vx vy Q S2 (r1.mono e2 f2) r2 fun d Λ' v B' α' H' p' S' e' f' r' => q d Λ' v B' α' H' p' S' ((e1.trans e2).trans e') ((f1.trans f2).trans f') r'
/-- d[k] -/
theorem we_ixd (h : WE C E Γ Λ a fun x Λ1 => WE C E Γ Λ1 b fun y Λ2 => ∃ ks ds k d, vw Λ2 x = .dic ks ds ∧ keyD y = some k ∧ dLook ks ds k = some d ∧ P d Λ2) (hs : NoSl b := by intro _ _; rfl) : WE C E Γ Λ (.Subscript a b pos) P := fun X F W is tk => by
  have hu := is.u200
  refine pe_imp (pe_dget (by omega) pe_U pe_U hs) fun σ H Q ⟨B, α, S, q, er⟩ => ?_
  refine WE.use h is tk S er fun x Λ1 vx B1 α1 H1 p1 S1 e1 f1 r1 => ?_
  refine WE.use p1 is tk S1 (er.mono e1) fun y Λ2 vy B2 α2 H2 p2 S2 e2 f2 r2 => ?_
  obtain ⟨ks, ds, k, d, hx, hk, hd, p⟩ := p2
  obtain ⟨p', vs, rfl, h1, h2⟩ := S2.dic (r1.mono e2 f2) hx
  obtain ⟨v, hv, rv⟩ := (dLook_rep (ks := ks) k h2).1 d hd
  exact ⟨p', v, rfl, .inl ⟨_, k, h1, keyD_rep r2 hk, hv.symm⟩, q _ _ _ _ _ _ p S2 (e1.trans e2) (f1.trans f2) rv⟩
/-- what stands at a slice's end -/
def WO (C : Ctx) (E : ER) (Γ : Env) (Λ : Cells) : Option Expr → (Option Int → Cells → Prop) → Prop
  | none, P => P none Λ
  | some e, P => WE C E Γ Λ e fun d Λ' => ∃ i, d = .int i ∧ P (some i) Λ'
def cutD (xs : List D) (lo hi : Option Int) : List D := (xs.drop (HT.sIx xs.length 0 lo)).take (HT.sIx xs.length xs.length hi - HT.sIx xs.length 0 lo)
theorem Reps.cut {K : PySem.W.Frag} {B : Hp} {α : List Addr} {ds : List D} {vs : List V} (r : Reps K B α ds vs) (lo hi : Option Int) : Reps K B α (cutD ds lo hi) (cutV vs lo hi) := by
  unfold cutD cutV
  rw [r.length]
  exact (r.drop _).take _
def rSl (K : PySem.W.Frag) : V → Option Int → Option Int → Hp → VK → Prop := fun x lo hi H Q => rSlL K x lo hi H Q ∨ rSlT K x lo hi H Q
def UO (X : Cx) (o : Option Expr) : TO := match o with
  | none => tNoPart
  | some e => tPart (UE X e)
theorem po_U {X : Cx} {o : Option Expr} : PO X o (UO X o) := by
  cases o with
  | none => exact po_none
  | some e => exact po_some pe_U
theorem WO.use {X : Cx} {F : Fm} {W : WX} {B : Hp} {α : List Addr} {σ : L2.St} {H : Hp} {o : Option Expr} {P : Option Int → Cells → Prop} {Q : Option Int → Hp → Prop} (h : WO C E Γ Λ o P) (is : C.Is X) (tk : Takes X W) (S : Sat C.K F B α Γ Λ σ H) (er : ErOk C.K F W B σ Γ E)
    (q : ∀ i Λ' B' α' H', P i Λ' → Sat C.K F B' α' Γ Λ' σ H' → Ex B B' → α <+: α' → Q i H') : UO X o σ H Q := by
  cases o with
  | none => exact q none Λ B α H h S (Ex.refl B) (List.prefix_refl _)
  | some e =>
    refine WE.use (C := C) (E := E) (Γ := Γ) (Λ := Λ) h is tk S er fun d Λ' v B' α' H' p S' e f r => ?_
    obtain ⟨i, rfl, p⟩ := p
    unfold Rep at r
    exact ⟨i, r, q _ _ _ _ _ p S' e f⟩
/-- xs[lo:hi] of a list, a new list -/
theorem wn_slice {lo hi : Option Expr} {p2 : Pos} {P : List D → Cells → Prop} (h : WE C E Γ Λ a fun x Λ1 => WO C E Γ Λ1 lo fun l Λ2 => WO C E Γ Λ2 hi fun u Λ3 => ∃ ds, lstD Λ3 x = some ds ∧ P (cutD ds l u) Λ3) : WN C E Γ Λ (.Subscript a (.Slice lo hi none p2) pos) P := fun X F W is tk => by
  refine pe_imp (pe_slice sl_list pe_U po_U po_U) fun σ H Q ⟨B, α, S, q, er⟩ => ?_
  refine WE.use h is tk S er fun x Λ1 vx B1 α1 H1 p1 S1 e1 f1 r1 => ?_
  refine WO.use p1 is tk S1 (er.mono e1) fun l Λ2 B2 α2 H2 p2 S2 e2 f2 => ?_
  refine WO.use p2 is tk S2 (er.mono (e1.trans e2)) fun u Λ3 B3 α3 H3 p3 S3 e3 f3 => ?_
  obtain ⟨ds, hs, p⟩ := p3
  obtain ⟨p', vs, rfl, h1, h2⟩ := S3.seqL (r1.mono (e2.trans e3) (f2.trans f3)) hs
  refine ⟨p', vs, rfl, by rw [is.K]; exact h1, fun t ht => ?_⟩
  exact q _ Λ3 t _ B3 α3 _ p (S3.grow (Ex.new ht)) ((e1.trans e2).trans e3) ((f1.trans f2).trans f3) upd_same (S3.bh.back ht) (S3.dm t ht) (fun ha => (S3.ah t ha).1 ht) (h2.cut l u)
/-- t[lo:hi] of a tuple, not the whole -/
theorem we_slice {lo hi : Option Expr} {p2 : Pos} (h : WE C E Γ Λ a fun x Λ1 => WO C E Γ Λ1 lo fun l Λ2 => WO C E Γ Λ2 hi fun u Λ3 => ∃ ds, x = .tup ds ∧ ¬ (HT.sIx ds.length 0 l = 0 ∧ HT.sIx ds.length ds.length u = ds.length) ∧ P (.tup (cutD ds l u)) Λ3) : WE C E Γ Λ (.Subscript a (.Slice lo hi none p2) pos) P := fun X F W is tk => by
  refine pe_imp (pe_slice sl_tup pe_U po_U po_U) fun σ H Q ⟨B, α, S, q, er⟩ => ?_
  refine WE.use h is tk S er fun x Λ1 vx B1 α1 H1 p1 S1 e1 f1 r1 => ?_
  refine WO.use p1 is tk S1 (er.mono e1) fun l Λ2 B2 α2 H2 p2 S2 e2 f2 => ?_
  refine WO.use p2 is tk S2 (er.mono (e1.trans e2)) fun u Λ3 B3 α3 H3 p3 S3 e3 f3 => ?_
  obtain ⟨ds, rfl, hw, p⟩ := p3
  have r3 := r1.mono (e2.trans e3) (f2.trans f3)
  unfold Rep at r3
  obtain ⟨p', vs, rfl, h1, h2⟩ := r3
  refine ⟨p', vs, rfl, by rw [is.K]; exact S3.bh.sqT h1, by rw [h2.length]; exact hw, fun t ht => ?_⟩
  have hx : Ex B3 (upd B3 t (.tup (cutV vs l u))) := Ex.new (S3.bh.back ht)
  refine q _ Λ3 _ (upd B3 t (.tup (cutV vs l u))) α3 _ p (S3.lay ht) (((e1.trans e2).trans e3).trans hx) ((f1.trans f2).trans f3) ?_
  show Rep C.K _ α3 (.tup _) (.ref t)
  unfold Rep
  exact ⟨t, _, rfl, SqT.of upd_same, (h2.cut l u).mono hx (List.prefix_refl _)⟩
end
end Pl

namespace Pl
open PySem L2 PyProof.Rows

/-! ### data without cells -/
mutual
def nl : D → Bool
  | .tup ds => nls ds
  | .lst ds => nls ds
  | .fzl ds => nls ds
  | .loc _ => false
  | .ins _ _ ds => nls ds
  | .dic _ ds => nls ds
  | .exc _ _ ds => nls ds
  | _ => true
def nls : List D → Bool
  | [] => true
  | d :: ds => nl d && nls ds
end
theorem nls_all : ∀ ds : List D, nls ds = ds.all nl
  | [] => rfl
  | d :: ds => by rw [List.all_cons, ← nls_all ds]; rfl
theorem nls_map {β : Type} (f : β → D) (xs : List β) : nls (xs.map f) = xs.all fun x => nl (f x) := by rw [nls_all, List.all_map]; rfl
section
variable {K : PySem.W.Frag} {B : Hp} {α α' : List Addr}
mutual
theorem Rep.nl : ∀ (d : D) (v : V), Pl.nl d = true → Rep K B α d v → Rep K B α' d v
  | .non, _, _, h => h
  | .bl _, _, _, h => h
  | .int _, _, _, h => h
  | .str _, _, _, h => h
  | .tup ds, v, n, h => by
    unfold Rep at h ⊢
    obtain ⟨a, vs, rfl, h1, h2⟩ := h
    exact ⟨a, vs, rfl, h1, Reps.nl ds vs n h2⟩
  | .lst ds, v, n, h => by
    unfold Rep at h ⊢
    obtain ⟨a, vs, rfl, h1, h2⟩ := h
    exact ⟨a, vs, rfl, h1, Reps.nl ds vs n h2⟩
  | .fzl ds, v, n, h => by
    unfold Rep at h ⊢
    obtain ⟨a, vs, rfl, h1, h2⟩ := h
    exact ⟨a, vs, rfl, h1, Reps.nl ds vs n h2⟩
  | .loc _, _, n, _ => nomatch n
  | .raw _, _, _, h => h
  | .ins C ns ds, v, n, h => by
    unfold Rep at h ⊢
    obtain ⟨a, dx, vs, rfl, h1, h2, h3⟩ := h
    exact ⟨a, dx, vs, rfl, h1, Reps.nl ds vs n h2, h3⟩
  | .dic ks ds, v, n, h => by
    unfold Rep at h ⊢
    obtain ⟨a, vs, rfl, h1, h2, h3⟩ := h
    exact ⟨a, vs, rfl, h1, Reps.nl ds vs n h2, h3⟩
  | .exc C ns ds, v, n, h => by
    unfold Rep at h ⊢
    obtain ⟨a, d, vs, rfl, h1, h2, h3, h4⟩ := h
    exact ⟨a, d, vs, rfl, h1, Reps.nl ds vs n h2, h3, h4⟩
theorem Reps.nl : ∀ (ds : List D) (vs : List V), nls ds = true → Reps K B α ds vs → Reps K B α' ds vs
  | [], _, _, h => h
  | d :: ds, vs, n, h => by
    have n' : (Pl.nl d && nls ds) = true := n
    rw [Bool.and_eq_true] at n'
    unfold Reps at h ⊢
    obtain ⟨v, r, rfl, h1, h2⟩ := h
    exact ⟨v, r, rfl, Rep.nl d v n'.1 h1, Reps.nl ds r n'.2 h2⟩
end
end

/-! ### what a def promises -/
abbrev Spec := List D → Cells → (Res → Cells → Prop) → (Err → Cells → Prop) → Prop
def spOf (K : PySem.W.Frag) (n : Nat) (S : Spec) : Sp := fun vs H Q E => ∃ F ds Λ, vs.length = n ∧ F.H0 = H ∧ Sat K F F.B0 F.α0 [] Λ [] H ∧ Reps K F.B0 F.α0 ds vs ∧
  S ds Λ (fun r Λ' => ∀ v H' B' α', Sat K F B' α' [] Λ' [] H' → ResAt K F B' α' H' v r → Q v H')
    (fun err Λ' => ∀ B' α' H' c dx, Sat K F B' α' [] Λ' [] H' → ErrAt K F B' α' H' err c dx → E c dx H')

/-- a def of the module, by its name: n arguments, at most level k -/
structure Fn (P : Program) (w : World) (K : PySem.W.Frag) (mg : Str → Option Value) (base : Heap) (k : Nat) (x : Str) (n : Nat) (S : Spec) : Prop where
  ex : ∃ f fd ps, FnOk P w K mg base (L2.CX P w) k f fd ps (spOf K n S) ∧ mg x = some (.ref f) ∧ PySem.W.keepIn K (.ref f) = true ∧ Binds K fd ps [] ∧ ps.length = n
theorem Fn.mono {P : Program} {w : World} {K : PySem.W.Frag} {mg : Str → Option Value} {base : Heap} {k k' : Nat} {x : Str} {n : Nat} {S : Spec} (h : Fn P w K mg base k x n S) (hk : k ≤ k') : Fn P w K mg base k' x n S := by
  obtain ⟨f, fd, ps, h1, h2⟩ := h.ex
  exact ⟨f, fd, ps, h1.mono hk, h2⟩
theorem Fn.imp {P : Program} {w : World} {K : PySem.W.Frag} {mg : Str → Option Value} {base : Heap} {k : Nat} {x : Str} {n : Nat} {S S' : Spec} (h : Fn P w K mg base k x n S) (i : ∀ ds Λ Q E, S' ds Λ Q E → S ds Λ Q E) : Fn P w K mg base k x n S' := by
  obtain ⟨f, fd, ps, h1, h2⟩ := h.ex
  exact ⟨f, fd, ps, h1.imp fun vs H Q E ⟨F, ds, Λ, a, b, c, d, e⟩ => ⟨F, ds, Λ, a, b, c, d, i _ _ _ _ e⟩, h2⟩
abbrev Ctx.fn (C : Ctx) (k : Nat) (x : Str) (n : Nat) (S : Spec) : Prop := Fn C.P C.w C.K C.mg C.base k x n S

/-! ### a call: the callee's state behind it, told for the caller -/
section
variable {K : PySem.W.Frag} {F : Fm} {B B' : Hp} {α : List Addr} {Γ : Env} {Λ : Cells} {σ : L2.St} {H H' : Hp}
/-- the callee's entry -/
theorem Sat.enter (S : Sat K F B α Γ Λ σ H) : Sat K ⟨H, B, []⟩ B [] [] [] [] H :=
  ⟨Ex.refl B, S.bh, fun a o h => .inl h, fun a o h _ => h, fun a h => h, List.prefix_refl _, List.nodup_nil, rfl, fun n c h => by simp at h, fun a h => by simp at h, fun i d h => by simp at h, rfl⟩
/-- behind a call that leaves no cells -/
theorem Sat.back (S : Sat K F B α Γ Λ σ H) (T : Sat K ⟨H, B, []⟩ B' [] [] [] [] H') : Sat K F B' α Γ Λ σ H' := by
  have hB : ∀ a, H a ≠ none → B a = none → B' a = none := fun a h1 h2 => by
    cases q : B' a with
    | none => rfl
    | some o =>
      rcases T.fr a o q with z | z
      · have : B a = some o := z
        rw [h2] at this; cases this
      · exact absurd z h1
  refine ⟨S.bb.trans T.bb, T.bh, fun a o h => ?_, fun a o h ha => T.kp a o (S.kp a o h ha) (by simp), fun a h => S.dm a (T.dm a h), S.pf, S.nd, S.al, fun n c h hg => ?_, fun a ha => ⟨fun z => (S.ah a ha).1 (T.dm a z), (S.ah a ha).2⟩, fun i d h => ?_, S.ln⟩
  · rcases T.fr a o h with z | z
    · exact S.fr a o z
    · exact .inr (S.dm a z)
  · obtain ⟨a, h1, h2, h3, h4⟩ := S.ce n c h hg
    exact ⟨a, h1, hB a (S.ah a (List.mem_of_getElem? h1)).1 h2, h3, h4.mono T.bb (List.prefix_refl _) fun o q => T.kp a o q (by simp)⟩
  · obtain ⟨v, h1, h2⟩ := S.sl i d h
    exact ⟨v, h1, h2.mono T.bb (List.prefix_refl _)⟩
theorem Sat.nil_al (S : Sat K F B α Γ [] σ H) : α = [] := List.length_eq_zero_iff.mp S.al
end

section
variable {C : Ctx} {E : ER} {Γ : Env} {Λ : Cells} {pos p : Pos}
theorem back_plain : ∀ {es : List Expr} {env : PySem.Env}, es.all plainE = true → (backTo pos (starEach es env)).any (·.1) = false
  | [], _, _ => rfl
  | e :: es, env, h => by
    rw [List.all_cons, Bool.and_eq_true] at h
    rw [star_plain h.1]
    show (false || (backTo pos (starEach es env)).any (·.1)) = false
    rw [back_plain h.2]; rfl
/-- what the callee wants of the caller -/
theorem call_sp {F : Fm} {W : WX} {B : Hp} {α : List Addr} {σ : L2.St} {H : Hp} {ds : List D} {vs : List V} {n : Nat} {S : Spec} {Q : VK} {Pr : Res → Prop} {E' : ER} (T : Sat C.K F B α Γ Λ σ H) (r : Reps C.K B α ds vs) (hn : nls ds = true) (hl : ds.length = n)
    (h : S ds [] (fun r Λ' => Λ' = [] ∧ Pr r) fun err Λ' => Λ' = [] ∧ E' err Γ Λ)
    (mono : ∀ Q Q' E E', S ds [] Q E → (∀ r Λ', Q r Λ' → Q' r Λ') → (∀ e Λ', E e Λ' → E' e Λ') → S ds [] Q' E')
    (er : ErOk C.K F W B σ Γ E')
    (q : ∀ r v B' H', Pr r → Sat C.K F B' α Γ Λ σ H' → Ex B B' → ResAt C.K ⟨H, B, []⟩ B' [] H' v r → Q v H') : spOf C.K n S (vs ++ []) H Q fun c dx H' => W c dx σ H' := by
  refine ⟨⟨H, B, []⟩, ds, [], by rw [List.append_nil, r.length, hl], rfl, T.enter, by rw [List.append_nil]; exact Reps.nl ds vs hn r, mono _ _ _ _ h (fun r Λ' p v H' B' α' T' ra => ?_) fun err Λ' p B' α' H' c dx T' ea => ?_⟩
  · obtain ⟨rfl, p⟩ := p
    have e := T'.nil_al
    subst e
    exact q r v B' H' p (T.back T') T'.bb ra
  · obtain ⟨rfl, p⟩ := p
    have e := T'.nil_al
    subst e
    refine er err Λ B' α H' c dx p (T.back T') T'.bb ?_
    obtain ⟨e1, e2⟩ := ea
    refine ⟨e1, ?_⟩
    cases hf : err.fs with
    | none => rw [hf] at e2; exact e2
    | some z =>
      rw [hf] at e2
      obtain ⟨a, vs, q1, q2, q3, q4, q5⟩ := e2
      exact ⟨a, vs, q1, q2, q3.mono (Ex.refl _) List.nil_prefix, q4, fun z => have h : H a = none := (q5 z).1; ⟨T.dm a h, fun hm => (T.ah a hm).1 h⟩⟩
/-- a promise that asks less where less is wished -/
def Mono (S : Spec) : Prop := ∀ ds Λ Q Q' E E', S ds Λ Q E → (∀ r Λ', Q r Λ' → Q' r Λ') → (∀ e Λ', E e Λ' → E' e Λ') → S ds Λ Q' E'

/-- f(e, ..) of a def of the module that takes and leaves no cells: a value -/
theorem we_call {k n : Nat} {x : Str} {S : Spec} {e : Expr} {es : List Expr} {P : D → Cells → Prop} (G : C.fn k x n S) (hk : k ≤ C.k) (hj : GlAt C x) (m : Mono S)
    (h : WA C E Γ Λ (e :: es) fun ds Λ1 => nls ds = true ∧ ds.length = n ∧ S ds [] (fun r Λ' => Λ' = [] ∧ ∃ d, r = .val d ∧ P d Λ1) fun err Λ' => Λ' = [] ∧ E err Γ Λ1)
    (he : plainE e = true := by rfl) (hes : es.all plainE = true := by rfl) (hdb : (x == ("__debug__" : Str)) = false := by decide) : WE C E Γ Λ (.Call (.Name x p) (e :: es) [] pos) P := fun X F W is tk => by
  obtain ⟨f, fd, ps, h1, h2, h3, h4, h5⟩ := G.ex
  have e1 := is.prog; have e2 := is.w; have e3 := is.K; have e4 := is.mg; have e5 := is.base
  refine pe_imp (pe_callSD (E := fun σ c dx H' => W c dx σ H') (dvs := []) (ds := []) (by rw [e1, e2, e3, e4, e5]; exact h1) (is.room.mono hk) (is.gl hj) (by rw [e4]; exact h2) (by rw [e3]; exact h3) (by rw [e3]; exact h4) .nil
    (fun σ => by rw [← e1, ← e2]; exact passAt tk σ) pa_U hdb (star_plain he) (back_plain hes)) fun σ H Q ⟨B, α, T, q, er⟩ => ?_
  refine WA.use h is tk T er fun ds Λ1 vs B1 α1 H1 p1 T1 x1 f1 r1 => ?_
  obtain ⟨n1, n2, s1⟩ := p1
  refine call_sp T1 r1 n1 n2 s1 (m ds []) (er.mono x1) fun r v B' H' p' T' x' ra => ?_
  obtain ⟨d, rfl, p'⟩ := p'
  exact q d Λ1 v B' α1 H' p' T' (x1.trans x') f1 (Rep.mono (Ex.refl _) List.nil_prefix d v ra)
/-- .. a new list -/
theorem wn_call {k n : Nat} {x : Str} {S : Spec} {e : Expr} {es : List Expr} {P : List D → Cells → Prop} (G : C.fn k x n S) (hk : k ≤ C.k) (hj : GlAt C x) (m : Mono S)
    (h : WA C E Γ Λ (e :: es) fun ds Λ1 => nls ds = true ∧ ds.length = n ∧ S ds [] (fun r Λ' => Λ' = [] ∧ ∃ ds', r = .new ds' ∧ P ds' Λ1) fun err Λ' => Λ' = [] ∧ E err Γ Λ1)
    (he : plainE e = true := by rfl) (hes : es.all plainE = true := by rfl) (hdb : (x == ("__debug__" : Str)) = false := by decide) : WN C E Γ Λ (.Call (.Name x p) (e :: es) [] pos) P := fun X F W is tk => by
  obtain ⟨f, fd, ps, h1, h2, h3, h4, h5⟩ := G.ex
  have e1 := is.prog; have e2 := is.w; have e3 := is.K; have e4 := is.mg; have e5 := is.base
  refine pe_imp (pe_callSD (E := fun σ c dx H' => W c dx σ H') (dvs := []) (ds := []) (by rw [e1, e2, e3, e4, e5]; exact h1) (is.room.mono hk) (is.gl hj) (by rw [e4]; exact h2) (by rw [e3]; exact h3) (by rw [e3]; exact h4) .nil
    (fun σ => by rw [← e1, ← e2]; exact passAt tk σ) pa_U hdb (star_plain he) (back_plain hes)) fun σ H Q ⟨B, α, T, q, er⟩ => ?_
  refine WA.use h is tk T er fun ds Λ1 vs B1 α1 H1 p1 T1 x1 f1 r1 => ?_
  obtain ⟨n1, n2, s1⟩ := p1
  refine call_sp T1 r1 n1 n2 s1 (m ds []) (er.mono x1) fun r v B' H' p' T' x' ra => ?_
  obtain ⟨ds', rfl, p'⟩ := p'
  obtain ⟨pa, ws, rfl, q1, q2, q3, q4, q5⟩ := ra
  have q3 : H1 pa = none := q3
  exact q ds' Λ1 pa ws B' α1 H' p' T' (x1.trans x') f1 q1 q2 (T1.dm pa q3) (fun hm => (T1.ah pa hm).1 q3) (q5.mono (Ex.refl _) List.nil_prefix)
end

/-! ### statements -/
section
variable {C : Ctx} {Γ : Env} {Λ : Cells} {R : Rs} {pos : Pos}
theorem wss_nil (h : R.nx Γ Λ) : WSs C Γ Λ [] R := fun X F W is hm tk => pss_imp pss_nil fun D σ H ⟨B, α, S, q⟩ => q.nx Γ Λ B α σ H h S (Ex.refl B)
theorem wss_cons {s : Stmt} {rest : List Stmt} (h : WS C Γ Λ s { R with nx := fun Γ' Λ' => WSs C Γ' Λ' rest R }) : WSs C Γ Λ (s :: rest) R := fun X F W is hm tk => by
  refine pss_imp (pss_cons ps_U pss_U) fun D σ H ⟨B, α, S, q⟩ => ?_
  refine WS.use h is hm tk S ⟨fun Γ' Λ' B' α' σ' H' r S' e => ?_, q.rt, q.bk, q.ct, q.er⟩
  exact WSs.use r is hm tk S' (q.mono e)
theorem wss_one {s : Stmt} (h : WS C Γ Λ s R) : WSs C Γ Λ [s] R := fun X F W is hm tk => pss_one (h X F W is hm tk)
theorem ws_pass (h : R.nx Γ Λ) : WS C Γ Λ (.Pass pos) R := fun X F W is hm tk => ps_imp ps_pass fun D σ H ⟨B, α, S, q⟩ => q.nx Γ Λ B α σ H h S (Ex.refl B)
theorem ws_break (h : R.bk Γ Λ) : WS C Γ Λ (.Break pos) R := fun X F W is hm tk => ps_imp ps_break fun D σ H ⟨B, α, S, q⟩ => q.bk Γ Λ B α σ H h S (Ex.refl B)
theorem ws_continue (h : R.ct Γ Λ) : WS C Γ Λ (.Continue pos) R := fun X F W is hm tk => ps_imp ps_continue fun D σ H ⟨B, α, S, q⟩ => q.ct Γ Λ B α σ H h S (Ex.refl B)
theorem ws_if {c : Expr} {a b : List Stmt} (h : WT C R.er Γ Λ c fun k Λ1 => if k = true then WSs C Γ Λ1 a R else WSs C Γ Λ1 b R) : WS C Γ Λ (.If c a b pos) R := fun X F W is hm tk => by
  refine ps_imp (ps_if pt_U pss_U pss_U) fun D σ H ⟨B, α, S, q⟩ => ?_
  refine WT.use h is tk S q.er.at fun k Λ1 B1 α1 H1 p1 S1 e1 f1 => ?_
  cases k with
  | true =>
    rw [if_pos rfl] at p1 ⊢
    exact WSs.use p1 is hm tk S1 (q.mono e1)
  | false =>
    rw [if_neg (by simp)] at p1 ⊢
    exact WSs.use p1 is hm tk S1 (q.mono e1)
/-- no comprehension stands there -/
def noComp : Expr → Bool
  | .ListComp _ _ _ _ => false
  | .SetComp _ _ _ _ => false
  | .DictComp _ _ _ _ _ => false
  | _ => true
theorem noSwap {e : Expr} {t : Option Expr} {l : Nat} {env : PySem.Env} (h : noComp e = true) : swapsWith e t l env = pure false := by
  cases e <;> first | rfl | cases h
theorem ws_expr {e : Expr} (h : WE C R.er Γ Λ e fun _ Λ' => R.nx Γ Λ') (hc : noComp e = true := by rfl) : WS C Γ Λ (.Expr e pos) R := fun X F W is hm tk => by
  refine ps_imp (ps_expr pe_U (noSwap hc)) fun D σ H ⟨B, α, S, q⟩ => ?_
  exact WE.use h is tk S q.er.at fun d Λ' v B' α' H' p S' e f r => q.nx Γ Λ' B' α' σ H' p S' e
/-- a docstring -/
theorem ws_doc {x : Str} {j : Nat} {pos' : Pos} (h : R.nx Γ Λ) : WS C Γ Λ (.Expr (.Constant (.str x) j pos) pos') R := fun X F W is hm tk => ps_imp ps_doc fun D σ H ⟨B, α, S, q⟩ => q.nx Γ Λ B α σ H h S (Ex.refl B)
theorem ws_set {i : Nat} {x : Str} {e : Expr} {pos' : Pos} (hi : C.N[i]? = some x) (hl : C.ls[i]? = some true) (h : WE C R.er Γ Λ e fun d Λ' => R.nx (Γ.set i (some d)) Λ') (hc : noComp e = true := by rfl) : WS C Γ Λ (.Assign [.Name x pos'] e pos) R := fun X F W is hm tk => by
  refine ps_imp (ps_set is.nd (is.ni hi) (is.loc hi hl) pe_U (noSwap hc) (is.fn i x hi hl)) fun D σ H ⟨B, α, S, q⟩ => ?_
  exact WE.use h is tk S q.er.at fun d Λ' v B' α' H' p S' e f r => q.nx _ Λ' B' α' _ H' p (S'.set r) e
theorem ws_ret {e : Expr} (h : WE C R.er Γ Λ e fun d Λ' => R.rt (.val d) Λ') : WS C Γ Λ (.Return (some e) pos) R := fun X F W is hm tk => by
  refine ps_imp (ps_ret pe_U) fun D σ H ⟨B, α, S, q⟩ => ?_
  exact WE.use h is tk S q.er.at fun d Λ' v B' α' H' p S' e f r => q.rt _ Λ' v Γ B' α' σ H' p S' e r
theorem ws_retn {e : Expr} (h : WN C R.er Γ Λ e fun ds Λ' => R.rt (.new ds) Λ') : WS C Γ Λ (.Return (some e) pos) R := fun X F W is hm tk => by
  refine ps_imp (ps_ret pe_U) fun D σ H ⟨B, α, S, q⟩ => ?_
  exact WN.use h is tk S q.er.at fun ds Λ' p vs B' α' H' hp S' e f h1 h2 h3 h4 h5 => q.rt _ Λ' _ Γ B' α' σ H' hp S' e ⟨p, vs, rfl, h1, h2, h3, h4, h5⟩
theorem ws_ret0 (h : R.rt (.val .non) Λ) : WS C Γ Λ (.Return none pos) R := fun X F W is hm tk =>
  ps_imp ps_retN fun D σ H ⟨B, α, S, q⟩ => q.rt _ Λ _ Γ B α σ H h S (Ex.refl B) (by show Rep C.K B α .non .non; unfold Rep; rfl)
end

/-! ### cells thrown away -/
/-- the last cells are dropped, the slots that told them forgotten -/
theorem Sat.cut {K : PySem.W.Frag} {F : Fm} {B : Hp} {α : List Addr} {Γ Γ' : Env} {Λ : Cells} {σ σ' : L2.St} {H : Hp} {m : Nat} (S : Sat K F B α Γ Λ σ H) (hm : F.α0.length ≤ m) 
    (hc : ∀ c ∈ Λ.take m, match c with | .lst ds => nls ds = true | .dic _ ds => nls ds = true | .ins _ _ ds => nls ds = true | .gone => True) (hl : Γ'.length = σ'.length)
    (hs : ∀ (i : Nat) (d : D), Γ'[i]? = some (some d) → ∃ v, σ'[i]? = some (some v) ∧ Rep K B (α.take m) d v) : Sat K F B (α.take m) Γ' (Λ.take m) σ' H := by
  refine { S with pf := ?_, nd := S.nd.sublist (List.take_sublist _ _), al := by simp [S.al], ce := fun n c h hg => ?_, ah := fun a ha => S.ah a (List.mem_of_mem_take ha), sl := hs, ln := hl }
  · obtain ⟨t, ht⟩ := S.pf
    rw [← ht, List.take_append]
    rw [List.take_of_length_le hm]
    exact List.prefix_append _ _
  · have hn : n < m := by
      by_cases z : n < m
      · exact z
      · have := (List.getElem?_eq_some_iff.mp h).1
        rw [List.length_take] at this; omega
    rw [List.getElem?_take_of_lt hn] at h
    obtain ⟨a, h1, h2, h3, h4⟩ := S.ce n c h hg
    refine ⟨a, by rw [List.getElem?_take_of_lt hn]; exact h1, h2, h3, ?_⟩
    have hm' := hc c (by rw [← List.getElem?_take_of_lt hn] at h; exact List.mem_of_getElem? h)
    cases c with
    | lst ds => obtain ⟨vs, q1, q2⟩ := h4; exact ⟨vs, q1, Reps.nl ds vs hm' q2⟩
    | dic ks ds => obtain ⟨vs, q1, q2, q3⟩ := h4; exact ⟨vs, q1, Reps.nl ds vs hm' q2, q3⟩
    | ins C ns ds => obtain ⟨dx, vs, q1, q2, q3⟩ := h4; exact ⟨dx, vs, q1, Reps.nl ds vs hm' q2, q3⟩
    | gone => trivial

def nlC : Cell → Bool
  | .lst ds => nls ds
  | .dic _ ds => nls ds
  | .ins _ _ ds => nls ds
  | .gone => true
def nlR : Res → Bool
  | .val d => nl d
  | .new ds => nls ds
def nlE (e : Err) : Bool := match e.fs with
  | none => true
  | some (_, ds) => nls ds
/-- what a def's body is to reach: the wish at the cells that it was handed -/
def rtX (Λ0 : Cells) (Q : Res → Cells → Prop) (r : Res) (Λ' : Cells) : Prop := nlR r = true ∧ (Λ'.take Λ0.length).all nlC = true ∧ Q r (Λ'.take Λ0.length)
def erX (Λ0 : Cells) (Q : Err → Cells → Prop) (e : Err) (_ : Env) (Λ' : Cells) : Prop := nlE e = true ∧ (Λ'.take Λ0.length).all nlC = true ∧ Q e (Λ'.take Λ0.length)
theorem all_nlC {Λ : Cells} (h : Λ.all nlC = true) : ∀ c ∈ Λ, match c with | .lst ds => nls ds = true | .dic _ ds => nls ds = true | .ins _ _ ds => nls ds = true | .gone => True := fun c hc => by
  have := List.all_eq_true.mp h c hc
  cases c <;> first | exact this | trivial
/-- a def's slots at its entry -/
def Γ0 (N : List Str) (ds : List D) : Env := ds.map some ++ List.replicate (N.length - ds.length) none

/-- THE RULE: a def of the module keeps its promise, by its body -/
theorem fn_ok {P : Program} {w : World} {K : PySem.W.Frag} {mg : Str → Option Value} {base : Heap} {x qual : Str} {st : Stmt} {f : Addr} {fd : FuncData} {N ps : List Str} {k : Nat} {S : Spec} (F : Fun K x qual st f fd) (sc : FnScope N ps (defScope st)) (C : Ctx)
    (hC : C.P = P ∧ C.w = w ∧ C.K = K ∧ C.mg = mg ∧ C.base = base ∧ C.N = N ∧ C.sc = defScope st ∧ C.k = k) (good : C.Good) (hm : ∀ ds Λ Q E, S ds Λ Q E → Λ.length ≤ C.m)
    (hb : ∀ ds Λ Q E, ds.length = ps.length → S ds Λ Q E → WSs C (Γ0 N ds) Λ (defBody st) ⟨fun _ Λ' => rtX Λ Q (.val .non) Λ', rtX Λ Q, fun _ _ => False, fun _ _ => False, erX Λ E⟩) : FnOk P w K mg base (L2.CX P w) (k + 1) f fd ps (spOf K ps.length S) := by
  obtain ⟨rfl, rfl, rfl, rfl, rfl, rfl, hsc, rfl⟩ := hC
  refine F.okX sc (fun vs H Q E h => by obtain ⟨_, _, _, h, _⟩ := h; exact h) fun cdv A outer s H vs Q E hr h => ?_
  obtain ⟨Fm', ds, Λ, hl, hH, T, r, sp⟩ := h
  have hds : ds.length = ps.length := by rw [← r.length]; exact hl
  have hN : ps.length ≤ C.N.length := by have := congrArg List.length sc.pre; rw [List.length_take] at this; omega
  let X := cxOf (L2.CX C.P C.w) C.P C.w C.K C.mg C.base C.N qual (defScope st) f cdv A outer s H E
  have is : C.Is X := ⟨rfl, rfl, rfl, rfl, rfl, rfl, hsc.symm, rfl, hr, fun _ _ _ _ => .inl rfl, good, passes_of rfl, fun _ => ⟨rfl, rfl, rfl⟩⟩
  have tk : Takes X (fun c d _ H => E c d H) := takes_of rfl rfl rfl rfl
  have T' : Sat C.K Fm' Fm'.B0 Fm'.α0 (Γ0 C.N ds) Λ (L2.start C.N vs) H := by
    refine T.env ?_ fun i d hi => ?_
    · unfold Γ0 L2.start
      simp only [List.length_append, List.length_map, List.length_replicate]
      omega
    · unfold Γ0 at hi
      by_cases hlt : i < ds.length
      · rw [List.getElem?_append_left (by simpa using hlt), List.getElem?_map] at hi
        cases q : ds[i]? with
        | none => rw [q] at hi; cases hi
        | some e =>
          rw [q] at hi
          cases hi
          obtain ⟨v, h1, h2⟩ := r.get q
          refine ⟨v, ?_, h2⟩
          unfold L2.start
          rw [List.getElem?_append_left (by have := (List.getElem?_eq_some_iff.mp h1).1; simpa using this), List.getElem?_map, h1]
          rfl
      · rw [List.getElem?_append_right (by simpa using hlt), List.getElem?_replicate] at hi
        split at hi <;> cases hi
  have hlen : Fm'.α0.length = Λ.length := T.al
  have cut : ∀ {Γ' : Env} {Λ' : Cells} {B' : Hp} {α' : List Addr} {σ' : L2.St} {H' : Hp}, Sat C.K Fm' B' α' Γ' Λ' σ' H' → (Λ'.take Λ.length).all nlC = true → Sat C.K Fm' B' (α'.take Λ.length) [] (Λ'.take Λ.length) [] H' := fun S' h =>
    S'.cut (by omega) (all_nlC h) rfl fun i d h => by simp at h
  refine ⟨_, hb ds Λ _ _ hds sp X Fm' _ is (by rw [T.al]; exact hm _ _ _ _ sp) tk, Fm'.B0, Fm'.α0, T', ⟨fun Γ' Λ' B' α' σ' H' h S' e => ?_, fun r Λ' v Γ' B' α' σ' H' h S' e ra => ?_, fun Γ' Λ' B' α' σ' H' h => h.elim, fun Γ' Λ' B' α' σ' H' h => h.elim, fun err Γ' Λ' B' α' σ' H' c dx h S' e ea => ?_⟩⟩
  · obtain ⟨h1, h2, h3⟩ := h
    exact h3 .non H' B' _ (cut S' h2) (by unfold ResAt Rep; rfl)
  · obtain ⟨h1, h2, h3⟩ := h
    refine h3 v H' B' _ (cut S' h2) ?_
    cases r with
    | val d => exact Rep.nl d v h1 ra
    | new ds =>
      obtain ⟨p, vs, q1, q2, q3, q4, q5, q6⟩ := ra
      exact ⟨p, vs, q1, q2, q3, q4, fun hm => q5 (List.mem_of_mem_take hm), Reps.nl ds vs h1 q6⟩
  · obtain ⟨h1, h2, h3⟩ := h
    refine h3 B' _ H' c dx (cut S' h2) ?_
    obtain ⟨e1, e2⟩ := ea
    refine ⟨e1, ?_⟩
    unfold nlE at h1
    cases hf : err.fs with
    | none => rw [hf] at e2; exact e2
    | some z =>
      obtain ⟨ns, ds⟩ := z
      rw [hf] at e2 h1
      obtain ⟨a, vs, q1, q2, q3, q4, q5⟩ := e2
      exact ⟨a, vs, q1, q2, Reps.nl ds vs h1 q3, q4, fun z => ⟨(q5 z).1, fun hm => (q5 z).2 (List.mem_of_mem_take hm)⟩⟩
theorem fn_mk {P : Program} {w : World} {K : PySem.W.Frag} {mg : Str → Option Value} {base : Heap} {k : Nat} {x : Str} {f : Addr} {fd : FuncData} {ps : List Str} {S : Spec} (h : FnOk P w K mg base (L2.CX P w) k f fd ps (spOf K ps.length S)) (hm : mg x = some (.ref f)) (hk : PySem.W.keepIn K (.ref f) = true) (hb : Binds K fd ps []) :
    Fn P w K mg base k x ps.length S := ⟨f, fd, ps, h, hm, hk, hb, rfl⟩
end Pl

namespace Pl
open PySem L2 PyProof.Rows

/-! ### the frame told anew -/
section
variable {K : PySem.W.Frag} {F : Fm} {B B' : Hp} {α α' : List Addr} {Γ Γ' : Env} {Λ Λ' : Cells} {σ σ' : L2.St} {H H' : Hp}
theorem Sat.rebase (S : Sat K F B α Γ Λ σ H) : Sat K ⟨H, B, α⟩ B α Γ Λ σ H :=
  ⟨Ex.refl B, S.bh, fun a o h => .inl h, fun a o h _ => h, fun a h => h, List.prefix_refl _, S.nd, S.al, fun n c h hg => by
    obtain ⟨a, h1, h2, _, h4⟩ := S.ce n c h hg
    exact ⟨a, h1, h2, .inr (List.mem_of_getElem? h1), h4⟩, fun a ha => ⟨(S.ah a ha).1, .inr ha⟩, S.sl, S.ln⟩
theorem Sat.unbase (S : Sat K F B α Γ Λ σ H) (T : Sat K ⟨H, B, α⟩ B' α' Γ' Λ' σ' H') : Sat K F B' α' Γ' Λ' σ' H' := by
  have al : ∀ a ∈ α, F.H0 a = none ∨ a ∈ F.α0 := fun a ha => (S.ah a ha).2
  have al' : ∀ a ∈ α', F.H0 a = none ∨ a ∈ F.α0 := fun a ha => by
    rcases (T.ah a ha).2 with z | z
    · exact .inl (S.dm a z)
    · exact al a z
  refine ⟨S.bb.trans T.bb, T.bh, fun a o h => ?_, fun a o h ha => ?_, fun a h => S.dm a (T.dm a h), S.pf.trans T.pf, T.nd, T.al, fun n c h hg => ?_, fun a ha => ⟨(T.ah a ha).1, al' a ha⟩, T.sl, T.ln⟩
  · rcases T.fr a o h with z | z
    · exact S.fr a o z
    · exact .inr (S.dm a z)
  · refine T.kp a o (S.kp a o h ha) fun z => ?_
    rcases al a z with q | q
    · rw [h] at q; cases q
    · exact ha q
  · obtain ⟨a, h1, h2, h3, h4⟩ := T.ce n c h hg
    exact ⟨a, h1, h2, al' a (List.mem_of_getElem? h1), h4⟩
end

/-! ### targets -/
/-- all slots but those told are as they were -/
def Agree (vs : List Nat) (σ σ' : L2.St) : Prop := σ'.length = σ.length ∧ ∀ j : Nat, j ∉ vs → σ'[j]? = σ[j]?
theorem Agree.refl (vs : List Nat) (σ : L2.St) : Agree vs σ σ := ⟨rfl, fun _ _ => rfl⟩
theorem Agree.trans {vs ws : List Nat} {σ σ' σ'' : L2.St} (h : Agree vs σ σ') (k : Agree ws σ' σ'') : Agree (vs ++ ws) σ σ'' := ⟨k.1.trans h.1, fun j hj => by
  rw [k.2 j (fun z => hj (List.mem_append_right _ z)), h.2 j (fun z => hj (List.mem_append_left _ z))]⟩
def WG (C : Ctx) (Γ : Env) (Λ : Cells) (tg : Expr) (d : D) (vs : List Nat) (P : Env → Prop) : Prop := ∀ X F, C.Is X → PG X tg fun v σ H Q => ∃ B α, Sat C.K F B α Γ Λ σ H ∧ Rep C.K B α d v ∧
  ∀ Γ' σ', P Γ' → Sat C.K F B α Γ' Λ σ' H → Agree vs σ σ' → Q σ' H
def WGs (C : Ctx) (Γ : Env) (Λ : Cells) (tg : List Expr) (ds : List D) (vs : List Nat) (P : Env → Prop) : Prop := ∀ X F, C.Is X → PGs X tg fun us σ H Q => ∃ B α, Sat C.K F B α Γ Λ σ H ∧ Reps C.K B α ds us ∧
  ∀ Γ' σ', P Γ' → Sat C.K F B α Γ' Λ σ' H → Agree vs σ σ' → Q σ' H
def UG (X : Cx) (e : Expr) : TG := fun v σ H Q => ∃ t, PG X e t ∧ t v σ H Q
def UGs (X : Cx) (e : List Expr) : TGs := fun v σ H Q => ∃ t, PGs X e t ∧ t v σ H Q
theorem pg_U {X : Cx} {e : Expr} : PG X e (UG X e) := ⟨fun pins s σ H v u Q I r ⟨_, h, q⟩ => h.run pins s σ H v u Q I r q⟩
theorem pgs_U {X : Cx} {e : List Expr} : PGs X e (UGs X e) := ⟨fun pins s σ H v u Q I r ⟨_, h, q⟩ => h.run pins s σ H v u Q I r q⟩
theorem pg_imp {X : Cx} {e : Expr} {t t' : TG} (h : PG X e t) (i : ∀ v σ H Q, t' v σ H Q → t v σ H Q) : PG X e t' := ⟨fun pins s σ H v u Q I r q => h.run pins s σ H v u Q I r (i v σ H Q q)⟩
theorem pgs_imp {X : Cx} {e : List Expr} {t t' : TGs} (h : PGs X e t) (i : ∀ v σ H Q, t' v σ H Q → t v σ H Q) : PGs X e t' := ⟨fun pins s σ H v u Q I r q => h.run pins s σ H v u Q I r (i v σ H Q q)⟩
section
variable {C : Ctx} {Γ : Env} {Λ : Cells} {P : Env → Prop} {pos : Pos}
theorem wg_name {i : Nat} {x : Str} {d : D} (hi : C.N[i]? = some x) (hl : C.ls[i]? = some true) (p : P (Γ.set i (some d))) : WG C Γ Λ (.Name x pos) d [i] P := fun X F is =>
  pg_imp (pg_name is.nd (is.ni hi) (is.loc hi hl) (is.fn i x hi hl)) fun v σ H Q ⟨B, α, S, r, q⟩ => q _ _ p (S.set r) ⟨by simp, fun j hj => by rw [List.getElem?_set_ne (fun e => hj (by simp [e]))]⟩
theorem wgs_nil (p : P Γ) : WGs C Γ Λ [] [] [] P := fun X F is => pgs_imp pgs_nil fun v σ H Q ⟨B, α, S, r, q⟩ => ⟨by unfold Reps at r; exact r, q _ _ p S (Agree.refl _ _)⟩
/-- no star, no attribute .. : stored by itself -/
def plainT : Expr → Bool
  | .Starred _ _ => false
  | _ => true
theorem each_plain {e : Expr} {es : List Expr} {env : PySem.Env} (h : plainT e = true) : (assignEach (e :: es) env).map (·.2) = assign e env :: (assignEach es env).map (·.2) := by
  cases e <;> first | rfl | cases h
theorem wgs_cons {e : Expr} {es : List Expr} {d : D} {ds : List D} {vs ws : List Nat} (h : WG C Γ Λ e d vs fun Γ' => WGs C Γ' Λ es ds ws P) (he : plainT e = true := by rfl) : WGs C Γ Λ (e :: es) (d :: ds) (vs ++ ws) P := fun X F is => by
  refine pgs_imp (pgs_cons pg_U pgs_U (each_plain he)) fun us σ H Q ⟨B, α, S, r, q⟩ => ?_
  unfold Reps at r
  obtain ⟨v, r', rfl, h1, h2⟩ := r
  refine ⟨v, r', rfl, _, h X F is, B, α, S, h1, fun Γ' σ' p S' ag => ?_⟩
  exact ⟨_, p X F is, B, α, S', h2, fun Γ'' σ'' p' S'' ag' => q Γ'' σ'' p' S'' (ag.trans ag')⟩
theorem each_len {es : List Expr} {env : PySem.Env} : (assignEach es env).length = es.length := by
  induction es with
  | nil => rfl
  | cons e es ih => cases e <;> (show (assignEach es env).length + 1 = es.length + 1; rw [ih])
theorem each_star {es : List Expr} {env : PySem.Env} (h : es.all plainT = true) : (assignEach es env).findIdx? (·.1) = none := by
  induction es with
  | nil => rfl
  | cons e es ih =>
    rw [List.all_cons, Bool.and_eq_true] at h
    have q := ih h.2
    cases e <;> first
      | (cases h.1; done)
      | (rw [List.findIdx?_eq_none_iff] at q ⊢
         intro y hy
         rcases List.mem_cons.mp hy with z | z
         · rw [z]
         · exact q y z)
/-- (a, b, ..): a tuple's items -/
theorem wg_tup {es : List Expr} {k : Nat} {ds : List D} {vs : List Nat} (h : WGs C Γ Λ es ds vs P) (hl : es.length = ds.length) (hp : es.all plainT = true := by rfl) : WG C Γ Λ (.Tuple es k pos) (.tup ds) vs P := fun X F is => by
  refine pg_imp (pg_tup is.calm pgs_U (n := ds.length) (by rw [each_len, hl]) (each_star hp)) fun v σ H Q ⟨B, α, S, r, q⟩ => ?_
  unfold Rep at r
  obtain ⟨a, us, rfl, h1, h2⟩ := r
  exact ⟨a, us, rfl, by rw [is.K]; exact S.bh.sqT h1, h2.length, _, h X F is, B, α, S, h2, q⟩
end

/-! ### what is walked -/
structure ItsOk (K : PySem.W.Frag) (B : Hp) (J : It) (ds : List D) : Prop where
  go : ∀ (i : Nat) (H : Hp), i < ds.length → Ex B H → J.go i H
  stop : ∀ H : Hp, Ex B H → J.stop ds.length H
  yld : ∀ (i : Nat) (H : Hp) (x : V) (H' : Hp) (d : D), ds[i]? = some d → Ex B H → J.yld i H x H' →
    (H' = H ∧ Rep K B [] d x) ∨ (∃ p vs es, x = .ref p ∧ H p = none ∧ H' = upd H p (.tup vs) ∧ d = .tup es ∧ Reps K B [] es vs)
def WI (C : Ctx) (E : ER) (Γ : Env) (Λ : Cells) (tg iter : Expr) (P : List D → Cells → Prop) : Prop := ∀ X F W, C.Is X → Takes X W → PI X tg iter fun σ H R => ∃ B α, Sat C.K F B α Γ Λ σ H ∧
  (∀ ds Λ' J B' α' H', P ds Λ' → Sat C.K F B' α' Γ Λ' σ H' → Ex B B' → α <+: α' → ItsOk C.K B' J ds → R J H') ∧ ErOk C.K F W B σ Γ E
def UI (X : Cx) (tg e : Expr) : TI := fun σ H R => ∃ t, PI X tg e t ∧ t σ H R
theorem pi_U {X : Cx} {tg e : Expr} : PI X tg e (UI X tg e) := ⟨fun pins s σ H R I ⟨_, h, q⟩ => h.run pins s σ H R I q⟩
theorem pi_imp {X : Cx} {tg e : Expr} {t t' : TI} (h : PI X tg e t) (i : ∀ σ H R, t' σ H R → t σ H R) : PI X tg e t' := ⟨fun pins s σ H R I q => h.run pins s σ H R I (i σ H R q)⟩
theorem Ex.upd_tup {B H : Hp} {p : Addr} {o : HO} (e : Ex B H) (h : H p = none) : Ex B (upd H p o) := e.mut (e.back h)
/-- what a turn's item is, for the body -/
theorem ItsOk.take {K : PySem.W.Frag} {F : Fm} {B B0 : Hp} {α : List Addr} {Γ : Env} {Λ : Cells} {σ : L2.St} {H H' : Hp} {J : It} {ds : List D} {i : Nat} {d : D} {x : V} (I : ItsOk K B0 J ds) (S : Sat K F B α Γ Λ σ H) (e : Ex B0 B) (hd : ds[i]? = some d) (y : J.yld i H x H') :
    ∃ B', Sat K F B' α Γ Λ σ H' ∧ Ex B B' ∧ Rep K B' α d x := by
  rcases I.yld i H x H' d hd (e.trans S.bh) y with ⟨rfl, r⟩ | ⟨p, vs, es, rfl, hp, rfl, rfl, r⟩
  · exact ⟨B, S, Ex.refl B, r.mono e List.nil_prefix⟩
  · have hB := S.bh.back hp
    refine ⟨upd B p (.tup vs), S.lay hp, Ex.new hB, ?_⟩
    unfold Rep
    exact ⟨p, vs, rfl, SqT.of upd_same, r.mono (e.trans (Ex.new hB)) List.nil_prefix⟩
section
variable {C : Ctx} {E : ER} {Γ : Env} {Λ : Cells} {tg : Expr} {P : List D → Cells → Prop} {pos p : Pos}
/-- a list that is seen, a locked list -/
theorem itl_ok {K : PySem.W.Frag} {B : Hp} {a : Addr} {vs : List V} {ds : List D} (h : SqL K B a vs) (inj : ∀ H, Ex B H → ∀ ys, SqL K H a ys → ys = vs) (r : Reps K B [] ds vs) : ItsOk K B (Itl K a) ds where
  go := fun i H hi e => by
    obtain ⟨v, hv, _⟩ := r.get (List.getElem?_eq_getElem hi)
    exact ⟨vs, v, e.sqL h, hv⟩
  stop := fun H e => ⟨vs, e.sqL h, by rw [r.length]; exact Nat.le_refl _⟩
  yld := fun i H x H' d hd e y => by
    obtain ⟨rfl, y⟩ := y
    obtain ⟨v, hv, rv⟩ := r.get hd
    have q := y vs (e.sqL h)
    rw [hv] at q; cases q
    exact .inl ⟨rfl, rv⟩
theorem itl_ok' {K : PySem.W.Frag} {B : Hp} {a : Addr} {vs : List V} {ds : List D} (h : SqL K B a vs) (r : Reps K B [] ds vs) : ItsOk K B (Itl K a) ds where
  go := fun i H hi e => by
    obtain ⟨v, hv, _⟩ := r.get (List.getElem?_eq_getElem hi)
    exact ⟨vs, v, e.sqL h, hv⟩
  stop := fun H e => ⟨vs, e.sqL h, by rw [r.length]; exact Nat.le_refl _⟩
  yld := fun i H x H' d hd e y => by
    obtain ⟨rfl, y⟩ := y
    obtain ⟨v, hv, rv⟩ := r.get hd
    have q := y vs (e.sqL h)
    rw [hv] at q; cases q
    exact .inl ⟨rfl, rv⟩
theorem itt_ok {K : PySem.W.Frag} {B : Hp} {a : Addr} {vs : List V} {ds : List D} (h : SqT K B a vs) (r : Reps K B [] ds vs) : ItsOk K B (Itt K a) ds where
  go := fun i H hi e => by
    obtain ⟨v, hv, _⟩ := r.get (List.getElem?_eq_getElem hi)
    exact ⟨vs, v, e.sqT h, hv⟩
  stop := fun H e => ⟨vs, e.sqT h, by rw [r.length]; exact Nat.le_refl _⟩
  yld := fun i H x H' d hd e y => by
    obtain ⟨rfl, y⟩ := y
    obtain ⟨v, hv, rv⟩ := r.get hd
    have q := y vs (e.sqT h)
    rw [hv] at q; cases q
    exact .inl ⟨rfl, rv⟩
/-- over a list's value -/
theorem wi_list {e : Expr} (h : WE C E Γ Λ e fun d Λ' => ∃ ds, (d = .lst ds ∨ d = .fzl ds) ∧ nls ds = true ∧ P ds Λ') : WI C E Γ Λ tg e P := fun X F W is tk => by
  refine pi_imp (pi_list pe_U) fun σ H R ⟨B, α, S, q, er⟩ => ?_
  refine WE.use h is tk S er fun d Λ' v B' α' H' p S' e f r => ?_
  obtain ⟨ds, hd, hn, p⟩ := p
  have key : ∃ a vs, v = .ref a ∧ SqL C.K B' a vs ∧ Reps C.K B' α' ds vs := by
    rcases hd with rfl | rfl
    · unfold Rep at r
      obtain ⟨a, vs, h1, h2, h3⟩ := r
      exact ⟨a, vs, h1, SqL.of h2, h3⟩
    · unfold Rep at r
      exact r
  obtain ⟨a, vs, rfl, h1, h2⟩ := key
  refine ⟨a, rfl, ⟨vs, by rw [is.K]; exact S'.bh.sqL h1⟩, ?_⟩
  rw [is.K]
  exact q ds Λ' _ B' α' H' p S' e f (itl_ok' h1 (Reps.nl ds vs hn h2))
theorem wi_tup {e : Expr} (h : WE C E Γ Λ e fun d Λ' => ∃ ds, d = .tup ds ∧ nls ds = true ∧ P ds Λ') : WI C E Γ Λ tg e P := fun X F W is tk => by
  refine pi_imp (pi_tup pe_U) fun σ H R ⟨B, α, S, q, er⟩ => ?_
  refine WE.use h is tk S er fun d Λ' v B' α' H' p S' e f r => ?_
  obtain ⟨ds, rfl, hn, p⟩ := p
  unfold Rep at r
  obtain ⟨a, vs, rfl, h1, h2⟩ := r
  refine ⟨a, rfl, ⟨vs, by rw [is.K]; exact S'.bh.sqT h1⟩, ?_⟩
  rw [is.K]
  exact q ds Λ' _ B' α' H' p S' e f (itt_ok h1 (Reps.nl ds vs hn h2))
/-- over a text: its signs -/
def signsD (s : Str) : List D := s.cps.toList.map fun c => .str ⟨#[c]⟩
theorem wi_str {e : Expr} (h : WE C E Γ Λ e fun d Λ' => ∃ s, d = .str s ∧ P (signsD s) Λ') : WI C E Γ Λ tg e P := fun X F W is tk => by
  refine pi_imp (pi_str pe_U) fun σ H R ⟨B, α, S, q, er⟩ => ?_
  refine WE.use h is tk S er fun d Λ' v B' α' H' p S' e f r => ?_
  obtain ⟨s, rfl, p⟩ := p
  unfold Rep at r
  refine ⟨s, r, q _ Λ' _ B' α' H' p S' e f ⟨fun i H hi e => ?_, fun H e => ?_, fun i H x H' d hd e y => ?_⟩⟩
  · show i < s.cps.size
    unfold signsD at hi
    simpa using hi
  · show s.cps.size ≤ _
    unfold signsD
    simp
  · obtain ⟨rfl, c, hc, rfl⟩ := y
    refine .inl ⟨rfl, ?_⟩
    unfold signsD at hd
    rw [List.getElem?_map, Array.getElem?_toList, hc] at hd
    cases hd
    unfold Rep; rfl
/-- lo, lo + 1, .. n of them -/
def rangeD (lo : Int) (n : Nat) : List D := (List.range n).map fun i => .int (lo + (i : Nat))
theorem itr_ok {K : PySem.W.Frag} {B : Hp} {lo : Int} {n : Nat} : ItsOk K B (Itr lo n) (rangeD lo n) where
  go := fun i H hi _ => by show i < n; unfold rangeD at hi; simpa using hi
  stop := fun H _ => by show n ≤ _; unfold rangeD; simp
  yld := fun i H x H' d hd _ y => by
    obtain ⟨rfl, rfl⟩ := y
    unfold rangeD at hd
    rw [List.getElem?_map] at hd
    have hi : i < n := by
      by_cases z : i < n
      · exact z
      · rw [List.getElem?_eq_none (by simpa using z)] at hd; cases hd
    rw [List.getElem?_range hi] at hd
    cases hd
    exact .inl ⟨rfl, by unfold Rep; rfl⟩
theorem wi_range1 {a : Expr} (hj : GlAt C "range") (hm : C.mg "range" = none) (h : WE C E Γ Λ a fun d Λ' => ∃ n : Int, d = .int n ∧ -(2 ^ 62) ≤ n ∧ n < 2 ^ 62 ∧ P (rangeD 0 n.toNat) Λ') (ha : plainE a = true := by rfl) : WI C E Γ Λ tg (.Call (.Name "range" p) [a] [] pos) P := fun X F W is tk => by
  refine pi_imp (pi_range1 (is.gl hj) (by rw [is.mg]; exact hm) (pa_cons pe_U pa_nil (star_plain ha)) (star_plain ha)) fun σ H R ⟨B, α, S, q, er⟩ => ?_
  refine WE.use h is tk S er fun d Λ' v B' α' H' p S' e f r => ?_
  obtain ⟨n, rfl, h1, h2, p⟩ := p
  unfold Rep at r
  subst r
  exact ⟨n, rfl, h1, h2, q _ Λ' _ B' α' H' p S' e f itr_ok⟩
theorem wi_range2 {a b : Expr} (hj : GlAt C "range") (hm : C.mg "range" = none) (h : WE C E Γ Λ a fun x Λ1 => WE C E Γ Λ1 b fun y Λ' => ∃ l n : Int, x = .int l ∧ y = .int n ∧ (-(2 ^ 62) ≤ l ∧ l < 2 ^ 62 ∧ -(2 ^ 62) ≤ n ∧ n < 2 ^ 62) ∧ P (rangeD l (n - l).toNat) Λ') (ha : plainE a = true := by rfl) (hb : plainE b = true := by rfl) : WI C E Γ Λ tg (.Call (.Name "range" p) [a, b] [] pos) P := fun X F W is tk => by
  refine pi_imp (pi_range2 (is.gl hj) (by rw [is.mg]; exact hm) (pa_cons pe_U (pa_cons pe_U pa_nil (star_plain hb)) (star_plain ha)) (by rw [star_plain ha, star_plain hb]; rfl) (star_plain hb)) fun σ H R ⟨B, α, S, q, er⟩ => ?_
  refine WE.use h is tk S er fun x Λ1 v B1 α1 H1 p1 S1 e1 f1 r1 => ?_
  refine WE.use p1 is tk S1 (er.mono e1) fun y Λ' u B' α' H' p S' e f r => ?_
  obtain ⟨l, n, rfl, rfl, hz, p⟩ := p
  unfold Rep at r1 r
  subst r1; subst r
  exact ⟨l, n, rfl, hz, q _ Λ' _ B' α' H' p S' (e1.trans e) (f1.trans f) itr_ok⟩
end

/-! ### for -/
section
variable {C : Ctx} {Γ : Env} {Λ : Cells} {R : Rs} {pos : Pos}
/-- what a loop's body has to do at each item that is left -/
def LoopP (C : Ctx) (tg : Expr) (vs : List Nat) (body : List Stmt) (R : Rs) : List D → Env → Cells → Prop
  | [], Γ, Λ => R.nx Γ Λ
  | d :: ds, Γ, Λ => WG C Γ Λ tg d vs fun Γ' => WSs C Γ' Λ body { R with nx := LoopP C tg vs body R ds, ct := LoopP C tg vs body R ds, bk := R.nx }
theorem ws_for {tg iter : Expr} {body : List Stmt} (vs : List Nat) (h : WI C R.er Γ Λ tg iter fun ds Λ' => LoopP C tg vs body R ds Γ Λ') (hs : ∀ (env : PySem.Env) x, foldedSetIterable iter env x = pure x := by intro _ _; rfl) : WS C Γ Λ (.For tg iter body [] pos) R := fun X F W is hm tk => by
  refine ps_imp (ps_for is.po is.calm pi_U pg_U pss_U (hs X.env)) fun Dn σ H ⟨B, α, S, q⟩ => ?_
  refine ⟨_, h X F W is tk, B, α, S, fun ds Λ' J B' α' H' p S' e f it => ?_, q.er.at⟩
  refine ⟨fun i m σ1 H1 => m = ds.length - i ∧ i ≤ ds.length ∧ ∃ B1 α1 Γ1 Λ1, Sat C.K F B1 α1 Γ1 Λ1 σ1 H1 ∧ Ex B' B1 ∧ LoopP C tg vs body R (ds.drop i) Γ1 Λ1, ⟨_, rfl, Nat.zero_le _, B', α', Γ, Λ', S', Ex.refl _, p⟩, ?_⟩
  rintro i m σ1 H1 ⟨rfl, hi, B1, α1, Γ1, Λ1, S1, e1, lp⟩
  by_cases hlt : i < ds.length
  · refine .inr ⟨it.go i H1 hlt (e1.trans S1.bh), fun σ2 H2 => i + 1 ≤ ds.length ∧ ∃ B2 α2 Γ2 Λ2, Sat C.K F B2 α2 Γ2 Λ2 σ2 H2 ∧ Ex B' B2 ∧ LoopP C tg vs body R (ds.drop (i + 1)) Γ2 Λ2, fun σ2 H2 ⟨h1, h2⟩ => ⟨ds.length - (i + 1), by omega, rfl, h1, h2⟩, fun x H2 y => ?_⟩
    obtain ⟨B2, S2, e2, r2⟩ := it.take S1 e1 (List.getElem?_eq_getElem hlt) y
    rw [List.drop_eq_getElem_cons hlt] at lp
    refine ⟨_, lp X F is, B2, α1, S2, r2, fun Γ3 σ3 p3 S3 ag => ?_⟩
    refine WSs.use p3 is hm tk S3 ⟨fun Γ' Λ' B4 α4 σ4 H4 hr S4 e4 => ?_, (q.rt.mono e).mono (e1.trans e2), fun Γ' Λ' B4 α4 σ4 H4 hr S4 e4 => q.nx Γ' Λ' B4 α4 σ4 H4 hr S4 (((e.trans e1).trans e2).trans e4), fun Γ' Λ' B4 α4 σ4 H4 hr S4 e4 => ?_, (q.er.mono e).mono (e1.trans e2)⟩
    · exact ⟨hlt, B4, α4, Γ', Λ', S4, (e1.trans e2).trans e4, hr⟩
    · exact ⟨hlt, B4, α4, Γ', Λ', S4, (e1.trans e2).trans e4, hr⟩
  · have e' : i = ds.length := by omega
    subst e'
    rw [List.drop_length] at lp
    exact .inl ⟨it.stop H1 (e1.trans S1.bh), q.nx Γ1 Λ1 B1 α1 σ1 H1 lp S1 (e.trans e1)⟩
/-- while, by a word that falls -/
theorem ws_while {c : Expr} {body : List Stmt} (V : Nat → Env → Cells → Prop) (h0 : ∃ m, V m Γ Λ)
    (hs : ∀ m Γ Λ, V m Γ Λ → WT C R.er Γ Λ c fun b Λ' => if b = true then WSs C Γ Λ' body { R with nx := fun Γ' Λ'' => ∃ m', m' < m ∧ V m' Γ' Λ'', ct := fun Γ' Λ'' => ∃ m', m' < m ∧ V m' Γ' Λ'', bk := R.nx } else R.nx Γ Λ') : WS C Γ Λ (.While c body [] pos) R := fun X F W is hm tk => by
  refine ps_imp (ps_while is.po pt_U pss_U) fun Dn σ H ⟨B, α, S, q⟩ => ?_
  obtain ⟨m0, h0⟩ := h0
  refine ⟨fun m σ1 H1 => ∃ B1 α1 Γ1 Λ1, Sat C.K F B1 α1 Γ1 Λ1 σ1 H1 ∧ Ex B B1 ∧ V m Γ1 Λ1, ⟨m0, B, α, Γ, Λ, S, Ex.refl _, h0⟩, ?_⟩
  rintro m σ1 H1 ⟨B1, α1, Γ1, Λ1, S1, e1, v1⟩
  refine WT.use (hs m Γ1 Λ1 v1) is tk S1 (q.er.mono e1).at fun b Λ2 B2 α2 H2 p2 S2 e2 f2 => ?_
  cases b with
  | true =>
    rw [if_pos rfl] at p2 ⊢
    refine ⟨fun σ3 H3 => ∃ m', m' < m ∧ ∃ B3 α3 Γ3 Λ3, Sat C.K F B3 α3 Γ3 Λ3 σ3 H3 ∧ Ex B B3 ∧ V m' Γ3 Λ3, fun σ3 H3 h => h, ?_⟩
    refine WSs.use p2 is hm tk S2 ⟨fun Γ' Λ' B4 α4 σ4 H4 hr S4 e4 => ?_, q.rt.mono (e1.trans e2), fun Γ' Λ' B4 α4 σ4 H4 hr S4 e4 => q.nx Γ' Λ' B4 α4 σ4 H4 hr S4 ((e1.trans e2).trans e4), fun Γ' Λ' B4 α4 σ4 H4 hr S4 e4 => ?_, q.er.mono (e1.trans e2)⟩
    · obtain ⟨m', h1, h2⟩ := hr
      exact ⟨m', h1, B4, α4, Γ', Λ', S4, (e1.trans e2).trans e4, h2⟩
    · obtain ⟨m', h1, h2⟩ := hr
      exact ⟨m', h1, B4, α4, Γ', Λ', S4, (e1.trans e2).trans e4, h2⟩
  | false =>
    rw [if_neg (by simp)] at p2 ⊢
    exact q.nx Γ1 Λ2 B2 α2 σ1 H2 p2 S2 (e1.trans e2)
end

/-! ### list comprehensions -/
def wipeΓ (Γ : Env) : List Nat → Env
  | [] => Γ
  | v :: vs => (wipeΓ Γ vs).set v none
theorem wipeΓ_len (Γ : Env) : ∀ vs : List Nat, (wipeΓ Γ vs).length = Γ.length
  | [] => rfl
  | v :: vs => by unfold wipeΓ; rw [List.length_set, wipeΓ_len Γ vs]
theorem wipeΓ_some {Γ : Env} {i : Nat} {x : D} : ∀ {vs : List Nat}, (wipeΓ Γ vs)[i]? = some (some x) → Γ[i]? = some (some x) ∧ i ∉ vs
  | [], h => ⟨h, by simp⟩
  | v :: vs, h => by
    unfold wipeΓ at h
    by_cases hi : v = i
    · subst hi
      by_cases hv : v < (wipeΓ Γ vs).length
      · rw [List.getElem?_set_self hv] at h; cases h
      · rw [List.getElem?_eq_none (by simpa using hv)] at h; cases h
    · rw [List.getElem?_set_ne hi] at h
      obtain ⟨h1, h2⟩ := wipeΓ_some h
      exact ⟨h1, by simp only [List.mem_cons, not_or]; exact ⟨fun e => hi e.symm, h2⟩⟩
theorem wipe_at {σ : L2.St} {i : Nat} : ∀ {vs : List Nat}, i ∉ vs → (wipe σ vs)[i]? = σ[i]?
  | [], _ => rfl
  | v :: vs, h => by
    unfold wipe
    simp only [List.mem_cons, not_or] at h
    rw [List.getElem?_set_ne (fun e => h.1 e.symm), wipe_at h.2]
theorem wipe_in {σ : L2.St} {i : Nat} : ∀ {vs : List Nat}, i ∈ vs → i < σ.length → (wipe σ vs)[i]? = some none
  | v :: vs, h, hl => by
    unfold wipe
    by_cases e : v = i
    · subst e; rw [List.getElem?_set_self (by rw [wipe_length]; exact hl)]
    · rw [List.getElem?_set_ne e]
      rcases List.mem_cons.mp h with q | q
      · exact absurd q.symm e
      · exact wipe_in q hl
theorem wipe_agree {σ σ' : L2.St} {vs ws : List Nat} (hs : ∀ v ∈ ws, v ∈ vs) (h : Agree ws (wipe σ vs) σ') : wipe σ' vs = wipe σ vs := by
  apply List.ext_getElem?
  intro i
  have hl : σ'.length = σ.length := by rw [h.1, wipe_length]
  by_cases hi : i ∈ vs
  · by_cases hlt : i < σ.length
    · rw [wipe_in hi hlt, wipe_in hi (by omega)]
    · rw [List.getElem?_eq_none (by rw [wipe_length]; omega), List.getElem?_eq_none (by rw [wipe_length]; omega)]
  · rw [wipe_at hi, h.2 i (fun z => hi (hs i z)), wipe_at hi]
theorem Sat.wipe {K : PySem.W.Frag} {F : Fm} {B : Hp} {α : List Addr} {Γ : Env} {Λ : Cells} {σ : L2.St} {H : Hp} (S : Sat K F B α Γ Λ σ H) (vs : List Nat) : Sat K F B α (wipeΓ Γ vs) Λ (wipe σ vs) H :=
  S.env (by rw [wipeΓ_len, wipe_length, S.ln]) fun i d h => by
    obtain ⟨h1, h2⟩ := wipeΓ_some h
    obtain ⟨v, q1, q2⟩ := S.sl i d h1
    exact ⟨v, by rw [wipe_at h2]; exact q1, q2⟩

/-- the context of a comprehension's block -/
@[reducible] def Ctx.blk (C : Ctx) (scope : Scope) (vs ls : List Bool) (gl : List Str) : Ctx := { C with sc := relS scope C.sc, vs := vs, ls := ls, gl := gl, tp := false }
/-- what a comprehension has to do at each item that is left; acc: what is made so far -/
def CompP (C : Ctx) (Γ : Env) (Λ : Cells) (tg : Expr) (ws : List Nat) (ifs : List Expr) (elt : Expr) (P : List D → Prop) : List D → List D → Prop
  | [], acc => P acc
  | d :: ds, acc => acc.length < 10000000 ∧ WG C Γ Λ tg d ws fun Γ' => match ifs with
    | [] => WE C ER.none Γ' Λ elt fun y Λ' => Λ' = Λ ∧ CompP C Γ Λ tg ws ifs elt P ds (acc ++ [y])
    | [c] => WT C ER.none Γ' Λ c fun b Λ' => Λ' = Λ ∧ if b = true then WE C ER.none Γ' Λ elt fun y Λ' => Λ' = Λ ∧ CompP C Γ Λ tg ws ifs elt P ds (acc ++ [y]) else CompP C Γ Λ tg ws ifs elt P ds acc
    | _ => False
def UTs (X : Cx) (e : List Expr) : TT := fun σ H Q => ∃ t, PTs X e t ∧ t σ H Q
theorem pts_U {X : Cx} {e : List Expr} : PTs X e (UTs X e) := ⟨fun pins s σ H Q I ⟨_, h, q⟩ => h.run pins s σ H Q I q⟩

/-- a thing of the heap that nobody tells is written -/
theorem Sat.poke {K : PySem.W.Frag} {F : Fm} {B : Hp} {α : List Addr} {Γ : Env} {Λ : Cells} {σ : L2.St} {H : Hp} {p : Addr} {o : HO} (S : Sat K F B α Γ Λ σ H) (hB : B p = none) (h0 : F.H0 p = none) (hα : p ∉ α) : Sat K F B α Γ Λ σ (upd H p o) := by
  refine { S with bh := S.bh.mut hB, kp := fun a u h ha => ?_, dm := fun a h => ?_, ce := fun n c h hg => ?_, ah := fun a ha => ?_ }
  · rw [upd_ne (fun e => by subst e; rw [h0] at h; cases h)]; exact S.kp a u h ha
  · by_cases e : a = p
    · subst e; exact h0
    · rw [upd_ne e] at h; exact S.dm a h
  · obtain ⟨a, h1, h2, h3, h4⟩ := S.ce n c h hg
    have hap : a ≠ p := fun e => hα (e ▸ List.mem_of_getElem? h1)
    exact ⟨a, h1, h2, h3, h4.mono (Ex.refl B) (List.prefix_refl _) fun u q => by rw [upd_ne hap]; exact q⟩
  · have hap : a ≠ p := fun e => hα (e ▸ ha)
    rw [upd_ne hap]; exact S.ah a ha
theorem pre_len {α α' : List Addr} (h : α <+: α') (e : α'.length = α.length) : α' = α := by
  obtain ⟨t, rfl⟩ := h
  have : t = [] := by
    rw [List.length_append] at e
    exact List.length_eq_zero_iff.mp (by omega)
  rw [this, List.append_nil]
section
variable {C : Ctx} {E : ER} {Γ : Env} {Λ : Cells}
theorem blk_is {X : Cx} {scope : Scope} {vs ls : List Bool} {gl : List Str} (is : C.Is X) (good : (C.blk scope vs ls gl).Good) (hst : ∀ (i : Nat) (x : Str), C.N[i]? = some x → ls[i]? = some true → scope.names.lookup x = some .local ∨ scope.names.lookup x = some .cell)
    (s : Shared) (H : Hp) (c : Addr) (cl : List (Str × Addr)) (fp : List Addr) : (C.blk scope vs ls gl).Is (X.blk s H scope (compEnvC scope cl c X.env) fp) where
  prog := is.prog
  w := is.w
  K := is.K
  mg := is.mg
  base := is.base
  N := is.N
  sc := by
    show relS scope X.env.scope = relS scope C.sc
    rw [is.sc]
  calm := is.calm
  tp := fun h => Bool.noConfusion (h : false = true)
  room := is.room
  fn := fun i x hi hl => by
    rcases hst i x hi hl with h | h
    · exact .inr (lookup_relS_keep (by simp) h)
    · refine .inl ?_
      show (scope.names.lookup x == some .cell) = true
      rw [h]; rfl
  good := good
  po := PassesOwn.never
def UEb (X : Cx) (scope : Scope) (e : Expr) : TE := fun σ H Q => ∃ t, (∀ s H c cl fp, PE (X.blk s H scope (compEnvC scope cl c X.env) fp) e t) ∧ t σ H Q
def UGb (X : Cx) (scope : Scope) (e : Expr) : TG := fun v σ H Q => ∃ t, (∀ s H c cl fp, PG (X.blk s H scope (compEnvC scope cl c X.env) fp) e t) ∧ t v σ H Q
def UTb (X : Cx) (scope : Scope) (e : List Expr) : TT := fun σ H Q => ∃ t, (∀ s H c cl fp, PTs (X.blk s H scope (compEnvC scope cl c X.env) fp) e t) ∧ t σ H Q
theorem pgb {X : Cx} {scope : Scope} {e : Expr} (s : Shared) (H : Hp) (c : Addr) (cl : List (Str × Addr)) (fp : List Addr) : PG (X.blk s H scope (compEnvC scope cl c X.env) fp) e (UGb X scope e) := ⟨fun pins s' σ' H' v u Q I r ⟨t, ht, q⟩ => (ht s H c cl fp).run pins s' σ' H' v u Q I r q⟩
theorem ptb {X : Cx} {scope : Scope} {e : List Expr} (s : Shared) (H : Hp) (c : Addr) (cl : List (Str × Addr)) (fp : List Addr) : PTs (X.blk s H scope (compEnvC scope cl c X.env) fp) e (UTb X scope e) := ⟨fun pins s' σ' H' Q I ⟨t, ht, q⟩ => (ht s H c cl fp).run pins s' σ' H' Q I q⟩
theorem peb {X : Cx} {scope : Scope} {e : Expr} (s : Shared) (H : Hp) (c : Addr) (cl : List (Str × Addr)) (fp : List Addr) : PE (X.blk s H scope (compEnvC scope cl c X.env) fp) e (UEb X scope e) := ⟨fun pins s' σ' H' Q I ⟨t, ht, q⟩ => (ht s H c cl fp).run pins s' σ' H' Q I q⟩
/-- [elt for tg in iter if ..] -/
theorem lc_core' {X : Cx} {F : Fm} {W : WX} {Q : VK} {σ : L2.St} {H : Hp} {elt tg iter : Expr} {ifs : List Expr} {scope : Scope} {own : List (Str × Nat)} {vs ls : List Bool} {gl : List Str} {ws : List Nat} {P : List D → Cells → Prop} {B : Hp} {α : List Addr}
    (good : (C.blk scope vs ls gl).Good) (hst : ∀ (i : Nat) (x : Str), C.N[i]? = some x → ls[i]? = some true → scope.names.lookup x = some .local ∨ scope.names.lookup x = some .cell) (hws : ∀ v ∈ ws, v ∈ own.map (·.2))
    (is : C.Is X) (tk : Takes X W) (S : Sat C.K F B α Γ Λ σ H) (er : ErOk C.K F W B σ Γ E)
    (h : WI C E Γ Λ tg iter fun ds Λ' => CompP (C.blk scope vs ls gl) (wipeΓ Γ (own.map (·.2))) Λ' tg ws ifs elt (fun ys => P ys Λ') ds [])
    (q : ∀ ds Λ' p vs B' α' H', P ds Λ' → Sat C.K F B' α' Γ Λ' σ H' → Ex B B' → α <+: α' → H' p = some (.lst vs) → B' p = none → F.H0 p = none → p ∉ α' → Reps C.K B' α' ds vs → Q (.ref p) H') :
    tLc (UI X tg iter) (UGb X scope tg) (UTb X scope ifs) (UEb X scope elt) (own.map (·.2)) σ H Q := by
  refine ⟨_, h X F W is tk, B, α, S, fun ds Λ' J B' α' H1 p S' e f it D hD => ?_, er⟩
  have h0 : F.H0 D = none := S'.dm D hD
  have hα : D ∉ α' := fun ha => (S'.ah D ha).1 hD
  have S0 := (S'.grow (Ex.new hD (o := .lst []))).wipe (own.map (·.2))
  refine ⟨fun i m H2 => m = ds.length - i ∧ i ≤ ds.length ∧ ∃ B2 acc av, Sat C.K F B2 α' (wipeΓ Γ (own.map (·.2))) Λ' (wipe σ (own.map (·.2))) H2 ∧ Ex B' B2 ∧ H2 D = some (.lst av) ∧ B2 D = none ∧ Reps C.K B2 α' acc av ∧
      CompP (C.blk scope vs ls gl) (wipeΓ Γ (own.map (·.2))) Λ' tg ws ifs elt (fun ys => P ys Λ') (ds.drop i) acc,
    ⟨_, rfl, Nat.zero_le _, B', [], [], S0, Ex.refl _, upd_same, S'.bh.back hD, .nil, p⟩, ?_⟩
  rintro i m H2 ⟨rfl, hi, B2, acc, av, S2, e2, hD2, hB2, ra, cp⟩
  by_cases hlt : i < ds.length
  · refine .inr ⟨it.go i H2 hlt (e2.trans S2.bh), fun H3 => i + 1 ≤ ds.length ∧ ∃ B3 acc av, Sat C.K F B3 α' (wipeΓ Γ (own.map (·.2))) Λ' (wipe σ (own.map (·.2))) H3 ∧ Ex B' B3 ∧ H3 D = some (.lst av) ∧ B3 D = none ∧ Reps C.K B3 α' acc av ∧
      CompP (C.blk scope vs ls gl) (wipeΓ Γ (own.map (·.2))) Λ' tg ws ifs elt (fun ys => P ys Λ') (ds.drop (i + 1)) acc, fun H3 ⟨k1, k2⟩ => ⟨ds.length - (i + 1), by omega, rfl, k1, k2⟩, fun x H3 y => ?_⟩
    have tk3 : ∃ B3, Sat C.K F B3 α' (wipeΓ Γ (own.map (·.2))) Λ' (wipe σ (own.map (·.2))) H3 ∧ Ex B2 B3 ∧ Rep C.K B3 α' ds[i] x ∧ H3 D = some (.lst av) ∧ B3 D = none := by
      rcases it.yld i H2 x H3 ds[i] (List.getElem?_eq_getElem hlt) (e2.trans S2.bh) y with ⟨rfl, r⟩ | ⟨p', vs', es, rfl, hp, rfl, he, r⟩
      · exact ⟨B2, S2, Ex.refl _, r.mono e2 List.nil_prefix, hD2, hB2⟩
      · have hb := S2.bh.back hp
        have hne : D ≠ p' := fun z => by rw [← z, hD2] at hp; cases hp
        refine ⟨upd B2 p' (.tup vs'), S2.lay hp, Ex.new hb, ?_, by rw [upd_ne hne]; exact hD2, by rw [upd_ne hne]; exact hB2⟩
        rw [he]
        unfold Rep
        exact ⟨p', vs', rfl, SqT.of upd_same, r.mono (e2.trans (Ex.new hb)) List.nil_prefix⟩
    obtain ⟨B3, S3, e3, r3, hD3, hB3⟩ := tk3
    rw [List.drop_eq_getElem_cons hlt] at cp
    obtain ⟨hl, cp⟩ := cp
    have T3 := S3.rebase
    refine ⟨_, fun s H c cl fp => cp _ ⟨H3, B3, α'⟩ (blk_is is good hst s H c cl fp), B3, α', T3, r3, fun Γ4 σ4 p4 T4 ag => ?_⟩
    refine ⟨wipe_agree hws ag, ?_⟩
    -- behind the element
    have fin : ∀ (y : Pl.D) (B5 : Hp) (α5 : List Addr) (H5 : Hp) (v : V), CompP (C.blk scope vs ls gl) (wipeΓ Γ (own.map (·.2))) Λ' tg ws ifs elt (fun ys => P ys Λ') (ds.drop (i + 1)) (acc ++ [y]) → Sat C.K ⟨H3, B3, α'⟩ B5 α5 Γ4 Λ' σ4 H5 → Ex B3 B5 → Rep C.K B5 α5 y v →
        ∃ acc', H5 D = some (.lst acc') ∧ acc'.length < sizeLine ∧ i + 1 ≤ ds.length ∧ ∃ B3 acc av, Sat C.K F B3 α' (wipeΓ Γ (own.map (·.2))) Λ' (wipe σ (own.map (·.2))) (upd H5 D (.lst (acc' ++ [v]))) ∧ Ex B' B3 ∧ (upd H5 D (.lst (acc' ++ [v]))) D = some (.lst av) ∧ B3 D = none ∧ Reps C.K B3 α' acc av ∧
          CompP (C.blk scope vs ls gl) (wipeΓ Γ (own.map (·.2))) Λ' tg ws ifs elt (fun ys => P ys Λ') (ds.drop (i + 1)) acc := fun y B5 α5 H5 v cp5 T5 e5 r5 => by
      have hα5 : α5 = α' := pre_len T5.pf (by rw [T5.al, S3.al])
      subst hα5
      have hD5 : H5 D = some (.lst av) := T5.kp D _ hD3 hα
      have hB5 : B5 D = none := by
        cases z : B5 D with
        | none => rfl
        | some o =>
          rcases T5.fr D o z with k | k
          · have : B3 D = some o := k
            rw [hB3] at this; cases this
          · have : H3 D = none := k
            rw [hD3] at this; cases this
      have S5 := S3.unbase T5
      have S5' : Sat C.K F B5 α5 (wipeΓ Γ (own.map (·.2))) Λ' (wipe σ (own.map (·.2))) H5 := S5.env S3.ln fun j d hj => by
        obtain ⟨u, q1, q2⟩ := S3.sl j d hj
        exact ⟨u, q1, q2.mono e5 (List.prefix_refl _)⟩
      refine ⟨av, hD5, by rw [ra.length]; exact Nat.lt_of_lt_of_le hl (by rw [sizeLine_eq]; decide), hlt, B5, acc ++ [y], av ++ [v], S5'.poke hB5 h0 hα, (e2.trans e3).trans e5, upd_same, hB5, (ra.mono (e3.trans e5) (List.prefix_refl _)).append (.one r5), cp5⟩
    cases ifs with
    | nil =>
      refine ⟨tYes, fun _ _ _ _ _ => pts_nil, ?_⟩
      dsimp only [tYes]
      rw [if_pos rfl]
      refine ⟨_, fun s H c cl fp => p4 _ ⟨H3, B3, α'⟩ _ (blk_is is good hst s H c cl fp) takes0, B3, α', T4, fun y Λ5 v B5 α5 H5 p5 T5 e5 f5 r5 => ?_, fun _ _ _ _ _ _ _ z => z.elim⟩
      obtain ⟨rfl, cp5⟩ := p5
      exact fin y B5 α5 H5 v cp5 T5 e5 r5
    | cons c r =>
      cases r with
      | nil =>
        refine ⟨_, fun s H c' cl fp => pts_one (p4 _ ⟨H3, B3, α'⟩ _ (blk_is is good hst s H c' cl fp) takes0), B3, α', T4, fun b Λ5 B5 α5 H5 p5 T5 e5 f5 => ?_, fun _ _ _ _ _ _ _ z => z.elim⟩
        obtain ⟨rfl, p5⟩ := p5
        cases b with
        | true =>
          rw [if_pos rfl] at p5 ⊢
          refine ⟨_, fun s H c cl fp => p5 _ ⟨H3, B3, α'⟩ _ (blk_is is good hst s H c cl fp) takes0, B5, α5, T5, fun y Λ6 v B6 α6 H6 p6 T6 e6 f6 r6 => ?_, fun _ _ _ _ _ _ _ z => z.elim⟩
          obtain ⟨rfl, cp6⟩ := p6
          exact fin y B6 α6 H6 v cp6 T6 (e5.trans e6) r6
        | false =>
          rw [if_neg (by simp)] at p5 ⊢
          have hα5 : α5 = α' := pre_len T5.pf (by rw [T5.al, S3.al])
          subst hα5
          have hD5 : H5 D = some (.lst av) := T5.kp D _ hD3 hα
          have hB5 : B5 D = none := by
            cases z : B5 D with
            | none => rfl
            | some o =>
              rcases T5.fr D o z with k | k
              · have : B3 D = some o := k
                rw [hB3] at this; cases this
              · have : H3 D = none := k
                rw [hD3] at this; cases this
          have S5 := S3.unbase T5
          refine ⟨hlt, B5, acc, av, S5.env S3.ln fun j d hj => ?_, (e2.trans e3).trans e5, hD5, hB5, ra.mono (e3.trans e5) (List.prefix_refl _), p5⟩
          obtain ⟨u, q1, q2⟩ := S3.sl j d hj
          exact ⟨u, q1, q2.mono e5 (List.prefix_refl _)⟩
      | cons _ _ => exact p4.elim
  · have e' : i = ds.length := by omega
    subst e'
    rw [List.drop_length] at cp
    refine .inl ⟨it.stop H2 (e2.trans S2.bh), ?_⟩
    exact q acc Λ' D av B2 α' H2 cp (S2.env S'.ln fun j d hj => by
      obtain ⟨u, q1, q2⟩ := S'.sl j d hj
      exact ⟨u, q1, q2.mono e2 (List.prefix_refl _)⟩) (e.trans e2) f hD2 hB2 h0 hα ra
theorem wn_lc {elt tg iter : Expr} {ifs : List Expr} {scope : Scope} {pos : Pos} {P : List D → Cells → Prop} (own : List (Str × Nat)) (vs ls : List Bool) (gl : List Str) (ws : List Nat)
    (ok : BlkOk C.N C.sc scope own) (good : (C.blk scope vs ls gl).Good) (hst : ∀ (i : Nat) (x : Str), C.N[i]? = some x → ls[i]? = some true → scope.names.lookup x = some .local ∨ scope.names.lookup x = some .cell) (hws : ∀ v ∈ ws, v ∈ own.map (·.2))
    (h : WI C E Γ Λ tg iter fun ds Λ' => CompP (C.blk scope vs ls gl) (wipeΓ Γ (own.map (·.2))) Λ' tg ws ifs elt (fun ys => P ys Λ') ds [])
    (hs : ∀ (env : PySem.Env) x, foldedSetIterable iter env x = pure x := by intro _ _; rfl) : WN C E Γ Λ (.ListComp elt [⟨tg, iter, ifs, 0⟩] scope pos) P := fun X F W is tk =>
  pe_imp (pe_lc (own := own) is.calm is.nd pi_U (by rw [is.N, is.sc]; exact ok) pgb ptb peb (hs X.env))
    fun σ H Q ⟨B, α, S, q, er⟩ => lc_core' good hst hws is tk S er h q
/-- y = [elt for ..], y a local, on one line -/
theorem ws_setlc {R : Rs} {i : Nat} {y : Str} {py : Pos} {elt tg iter : Expr} {ifs : List Expr} {scope : Scope} {pos spos : Pos} (own : List (Str × Nat)) (vs ls : List Bool) (gl : List Str) (ws : List Nat)
    (hi : C.N[i]? = some y) (hy : C.sc.names.lookup y = some .local) (hk : C.sc.kind = .function) (hline : (py.line == pos.line) = true) (hown : (scope.names.any fun (n, k) => n == y && (k == .local || k == .cell)) = false)
    (ok : BlkOk C.N C.sc scope own) (good : (C.blk scope vs ls gl).Good) (hst : ∀ (i : Nat) (x : Str), C.N[i]? = some x → ls[i]? = some true → scope.names.lookup x = some .local ∨ scope.names.lookup x = some .cell) (hws : ∀ v ∈ ws, v ∈ own.map (·.2))
    (h : WI C R.er Γ Λ tg iter fun ds Λ' => CompP (C.blk scope vs ls gl) (wipeΓ Γ (own.map (·.2))) Λ' tg ws ifs elt (fun ys => R.nx (Γ.set i (some (.lst ys))) Λ') ds [])
    (hs : ∀ (env : PySem.Env) x, foldedSetIterable iter env x = pure x := by intro _ _; rfl) : WS C Γ Λ (.Assign [.Name y py] (.ListComp elt [⟨tg, iter, ifs, 0⟩] scope pos) spos) R := fun X F W is hm tk =>
  ps_imp (ps_setLc (own := own) is.calm is.nd (is.ni hi) (by rw [is.sc]; exact hy) (sw_true (by rw [is.sc]; exact hk) (by rw [is.sc]; exact hy) hline hown) pi_U (by rw [is.N, is.sc]; exact ok) pgb ptb peb (hs X.env))
    fun Dn σ H ⟨B, α, S, q⟩ => by
      refine lc_core' (P := fun ys Λ' => R.nx (Γ.set i (some (.lst ys))) Λ') good hst hws is tk S q.er.at h fun ds Λ' p vs B' α' H' hp S' e f h1 h2 h3 h4 h5 => ?_
      have hx : Ex B' (upd B' p (.lst vs)) := Ex.new h2
      refine q.nx _ Λ' (upd B' p (.lst vs)) α' _ H' hp ((S'.see h1 h2 h3 h4).set ?_) (e.trans hx)
      unfold Rep
      exact ⟨p, vs, rfl, upd_same, h5.mono hx (List.prefix_refl _)⟩
/-- .. owned -/
theorem ws_setlco {R : Rs} {i : Nat} {y : Str} {py : Pos} {elt tg iter : Expr} {ifs : List Expr} {scope : Scope} {pos spos : Pos} (own : List (Str × Nat)) (vs ls : List Bool) (gl : List Str) (ws : List Nat)
    (hi : C.N[i]? = some y) (hy : C.sc.names.lookup y = some .local) (hk : C.sc.kind = .function) (hline : (py.line == pos.line) = true) (hown : (scope.names.any fun (n, k) => n == y && (k == .local || k == .cell)) = false)
    (ok : BlkOk C.N C.sc scope own) (good : (C.blk scope vs ls gl).Good) (hst : ∀ (i : Nat) (x : Str), C.N[i]? = some x → ls[i]? = some true → scope.names.lookup x = some .local ∨ scope.names.lookup x = some .cell) (hws : ∀ v ∈ ws, v ∈ own.map (·.2))
    (h : WI C R.er Γ Λ tg iter fun ds Λ' => CompP (C.blk scope vs ls gl) (wipeΓ Γ (own.map (·.2))) Λ' tg ws ifs elt (fun ys => R.nx (Γ.set i (some (.loc Λ'.length))) (Λ' ++ [.lst ys])) ds [])
    (hs : ∀ (env : PySem.Env) x, foldedSetIterable iter env x = pure x := by intro _ _; rfl) : WS C Γ Λ (.Assign [.Name y py] (.ListComp elt [⟨tg, iter, ifs, 0⟩] scope pos) spos) R := fun X F W is hm tk =>
  ps_imp (ps_setLc (own := own) is.calm is.nd (is.ni hi) (by rw [is.sc]; exact hy) (sw_true (by rw [is.sc]; exact hk) (by rw [is.sc]; exact hy) hline hown) pi_U (by rw [is.N, is.sc]; exact ok) pgb ptb peb (hs X.env))
    fun Dn σ H ⟨B, α, S, q⟩ => by
      refine lc_core' (P := fun ys Λ' => R.nx (Γ.set i (some (.loc Λ'.length))) (Λ' ++ [.lst ys])) good hst hws is tk S q.er.at h fun ds Λ' p vs B' α' H' hp S' e f h1 h2 h3 h4 h5 => ?_
      refine q.nx _ _ B' (α' ++ [p]) _ H' hp ((S'.adopt (c := .lst ds) h2 h3 h4 (by rw [h1]; simp) ⟨vs, h1, h5.mono (Ex.refl _) (List.prefix_append _ _)⟩).set ?_) e
      unfold Rep
      exact ⟨p, rfl, by rw [← S'.al, List.getElem?_append_right (Nat.le_refl _)]; simp⟩
end
end Pl

namespace Pl
open PySem L2 PyProof.Rows

/-! ### calls of built-ins -/
/-- what a call by values does to data -/
def CK (K : PySem.W.Frag) (r : List V → Hp → VK → Prop) (ds : List D) (Γ : Env) (Λ : Cells) (P : D → Cells → Prop) : Prop := ∀ F B α σ H vs (Q : VK), Sat K F B α Γ Λ σ H → Reps K B α ds vs →
  (∀ d Λ' v B' α' H', P d Λ' → Sat K F B' α' Γ Λ' σ H' → Ex B B' → α <+: α' → Rep K B' α' d v → Q v H') → r vs H Q
def CKn (K : PySem.W.Frag) (r : List V → Hp → VK → Prop) (ds : List D) (Γ : Env) (Λ : Cells) (P : List D → Cells → Prop) : Prop := ∀ F B α σ H vs (Q : VK), Sat K F B α Γ Λ σ H → Reps K B α ds vs →
  (∀ ds Λ' p ws B' α' H', P ds Λ' → Sat K F B' α' Γ Λ' σ H' → Ex B B' → α <+: α' → H' p = some (.lst ws) → B' p = none → F.H0 p = none → p ∉ α' → Reps K B' α' ds ws → Q (.ref p) H') → r vs H Q
section
variable {C : Ctx} {E : ER} {Γ : Env} {Λ : Cells} {P : D → Cells → Prop} {pos p : Pos} {e : Expr} {es : List Expr} {x : Str} {id T : String} {r : List V → Hp → VK → Prop}
theorem we_callB (hc : ∀ X, C.Is X → CallR X (.builtin id) r) (hj : GlAt C x) (hm : C.mg x = none) (hv : bootBuiltins x = some (.builtin id)) (h : WA C E Γ Λ (e :: es) fun ds Λ1 => CK C.K r ds Γ Λ1 P)
    (hn : x ≠ "__name__" := by decide) (hdb : (x == ("__debug__" : Str)) = false := by decide) (he : plainE e = true := by rfl) (hes : es.all plainE = true := by rfl) : WE C E Γ Λ (.Call (.Name x p) (e :: es) [] pos) P := fun X F W is tk => by
  refine pe_imp (pe_callB (hc X is) (is.gl hj) (by rw [is.mg]; exact hm) hv pa_U hn hdb (star_plain he) (back_plain hes)) fun σ H Q ⟨B, α, S, q, er⟩ => ?_
  refine WA.use h is tk S er fun ds Λ1 vs B1 α1 H1 p1 S1 e1 f1 r1 => ?_
  exact p1 F B1 α1 σ H1 vs Q S1 r1 fun d Λ' v B' α' H' p' S' e' f' r' => q d Λ' v B' α' H' p' S' (e1.trans e') (f1.trans f') r'
theorem we_callTy (hc : ∀ X, C.Is X → CallR X (.type T) r) (hj : GlAt C x) (hm : C.mg x = none) (hv : bootBuiltins x = some (.type T)) (h : WA C E Γ Λ (e :: es) fun ds Λ1 => CK C.K r ds Γ Λ1 P)
    (hn : x ≠ "__name__" := by decide) (hdb : (x == ("__debug__" : Str)) = false := by decide) (he : plainE e = true := by rfl) (hes : es.all plainE = true := by rfl) : WE C E Γ Λ (.Call (.Name x p) (e :: es) [] pos) P := fun X F W is tk => by
  refine pe_imp (pe_callTy (hc X is) (is.gl hj) (by rw [is.mg]; exact hm) hv pa_U hn hdb (star_plain he) (back_plain hes)) fun σ H Q ⟨B, α, S, q, er⟩ => ?_
  refine WA.use h is tk S er fun ds Λ1 vs B1 α1 H1 p1 S1 e1 f1 r1 => ?_
  exact p1 F B1 α1 σ H1 vs Q S1 r1 fun d Λ' v B' α' H' p' S' e' f' r' => q d Λ' v B' α' H' p' S' (e1.trans e') (f1.trans f') r'
theorem wn_callB {P : List D → Cells → Prop} (hc : ∀ X, C.Is X → CallR X (.builtin id) r) (hj : GlAt C x) (hm : C.mg x = none) (hv : bootBuiltins x = some (.builtin id)) (h : WA C E Γ Λ (e :: es) fun ds Λ1 => CKn C.K r ds Γ Λ1 P)
    (hn : x ≠ "__name__" := by decide) (hdb : (x == ("__debug__" : Str)) = false := by decide) (he : plainE e = true := by rfl) (hes : es.all plainE = true := by rfl) : WN C E Γ Λ (.Call (.Name x p) (e :: es) [] pos) P := fun X F W is tk => by
  refine pe_imp (pe_callB (hc X is) (is.gl hj) (by rw [is.mg]; exact hm) hv pa_U hn hdb (star_plain he) (back_plain hes)) fun σ H Q ⟨B, α, S, q, er⟩ => ?_
  refine WA.use h is tk S er fun ds Λ1 vs B1 α1 H1 p1 S1 e1 f1 r1 => ?_
  exact p1 F B1 α1 σ H1 vs Q S1 r1 fun ds Λ' p ws B' α' H' p' S' e' f' => q ds Λ' p ws B' α' H' p' S' (e1.trans e') (f1.trans f')
theorem wn_callTy {P : List D → Cells → Prop} (hc : ∀ X, C.Is X → CallR X (.type T) r) (hj : GlAt C x) (hm : C.mg x = none) (hv : bootBuiltins x = some (.type T)) (h : WA C E Γ Λ (e :: es) fun ds Λ1 => CKn C.K r ds Γ Λ1 P)
    (hn : x ≠ "__name__" := by decide) (hdb : (x == ("__debug__" : Str)) = false := by decide) (he : plainE e = true := by rfl) (hes : es.all plainE = true := by rfl) : WN C E Γ Λ (.Call (.Name x p) (e :: es) [] pos) P := fun X F W is tk => by
  refine pe_imp (pe_callTy (hc X is) (is.gl hj) (by rw [is.mg]; exact hm) hv pa_U hn hdb (star_plain he) (back_plain hes)) fun σ H Q ⟨B, α, S, q, er⟩ => ?_
  refine WA.use h is tk S er fun ds Λ1 vs B1 α1 H1 p1 S1 e1 f1 r1 => ?_
  exact p1 F B1 α1 σ H1 vs Q S1 r1 fun ds Λ' p ws B' α' H' p' S' e' f' => q ds Λ' p ws B' α' H' p' S' (e1.trans e') (f1.trans f')
/-- .. to a value, the heap as it is -/
theorem ck_val {K : PySem.W.Frag} {ds : List D} {z : D} (p : P z Λ) (h : ∀ F B α σ H vs (Q : VK), Sat K F B α Γ Λ σ H → Reps K B α ds vs → (∀ v, Rep K B α z v → Q v H) → r vs H Q) : CK K r ds Γ Λ P :=
  fun F B α σ H vs Q S rs q => h F B α σ H vs Q S rs fun v rv => q z Λ v B α H p S (Ex.refl B) (List.prefix_refl _) rv
theorem reps1 {K : PySem.W.Frag} {B : Hp} {α : List Addr} {d : D} {vs : List V} (h : Reps K B α [d] vs) : ∃ v, vs = [v] ∧ Rep K B α d v := by
  unfold Reps Reps at h
  obtain ⟨v, r, rfl, h1, rfl⟩ := h
  exact ⟨v, rfl, h1⟩
theorem reps2 {K : PySem.W.Frag} {B : Hp} {α : List Addr} {d e : D} {vs : List V} (h : Reps K B α [d, e] vs) : ∃ v w, vs = [v, w] ∧ Rep K B α d v ∧ Rep K B α e w := by
  unfold Reps at h
  obtain ⟨v, r, rfl, h1, h2⟩ := h
  obtain ⟨w, rfl, h3⟩ := reps1 h2
  exact ⟨v, w, rfl, h1, h3⟩

/-! #### len -/
def lenP (Λ : Cells) (x : D) (P : Int → Prop) : Prop := match x with
  | .str s => s.length ≤ sizeLine ∧ P s.length
  | x => ∃ ds, seqD Λ x = some ds ∧ P ds.length
theorem len_K {K : PySem.W.Frag} {ds : List D} (h : ∃ x, ds = [x] ∧ lenP Λ x fun n => P (.int n) Λ) : CK K (fun xs H Q => (∃ p ys, xs = [.ref p] ∧ (SqL K H p ys ∨ SqT K H p ys) ∧ Q (.int ys.length) H) ∨ (∃ z, xs = [.str z] ∧ z.length ≤ sizeLine ∧ Q (.int z.length) H)) ds Γ Λ P := by
  intro F B α σ H vs Q S rs q
  obtain ⟨x, rfl, h⟩ := h
  obtain ⟨v, rfl, rv⟩ := reps1 rs
  have keep : ∀ {i : Int}, P (.int i) Λ → Q (.int i) H := fun {i} p => q _ Λ _ B α H p S (Ex.refl B) (List.prefix_refl _) (by unfold Rep; rfl)
  unfold lenP at h
  split at h
  · rename_i s
    unfold Rep at rv
    subst rv
    exact .inr ⟨s, rfl, h.1, keep h.2⟩
  · obtain ⟨ds, hs, p⟩ := h
    obtain ⟨a, vs, rfl, h1, h2⟩ := S.seq rv hs
    refine .inl ⟨a, vs, rfl, h1, ?_⟩
    rw [h2.length]
    exact keep p
theorem crK {X : Cx} {f : Value} (r : PySem.W.Frag → List V → Hp → VK → Prop) (is : C.Is X) (h : CallR X f (r X.K)) : CallR X f (r C.K) := by rw [← is.K]; exact h
theorem we_len (hj : GlAt C "len") (hm : C.mg "len" = none) (h : WE C E Γ Λ e fun x Λ1 => lenP Λ1 x fun n => P (.int n) Λ1) (he : plainE e = true := by rfl) : WE C E Γ Λ (.Call (.Name "len" p) [e] [] pos) P :=
  we_callB (r := fun xs H Q => (∃ p ys, xs = [.ref p] ∧ (SqL C.K H p ys ∨ SqT C.K H p ys) ∧ Q (.int ys.length) H) ∨ (∃ z, xs = [.str z] ∧ z.length ≤ sizeLine ∧ Q (.int z.length) H))
    (fun X is => crK (fun K xs H Q => (∃ p ys, xs = [.ref p] ∧ (SqL K H p ys ∨ SqT K H p ys) ∧ Q (.int ys.length) H) ∨ (∃ z, xs = [.str z] ∧ z.length ≤ sizeLine ∧ Q (.int z.length) H)) is (call_len_seq.or call_len_str)) hj hm PySem.boot_len
    (wa_cons (we_mono h fun x Λ1 q => wa_nil (len_K ⟨x, rfl, q⟩)) he) (he := he)

/-! #### list(x), tuple(x) -/
theorem boot_list' : bootBuiltins "list" = some (.type "list") := by decide +kernel
theorem boot_tuple' : bootBuiltins "tuple" = some (.type "tuple") := by decide +kernel
theorem boot_int' : bootBuiltins "int" = some (.type "int") := by decide +kernel
theorem boot_str' : bootBuiltins "str" = some (.type "str") := by decide +kernel
theorem boot_bool' : bootBuiltins "bool" = some (.type "bool") := by decide +kernel
theorem boot_sum' : bootBuiltins "sum" = some (.builtin "sum") := by decide +kernel
theorem boot_max' : bootBuiltins "max" = some (.builtin "max") := by decide +kernel
theorem boot_min' : bootBuiltins "min" = some (.builtin "min") := by decide +kernel
theorem boot_all' : bootBuiltins "all" = some (.builtin "all") := by decide +kernel
theorem boot_any' : bootBuiltins "any" = some (.builtin "any") := by decide +kernel
theorem boot_isi' : bootBuiltins "isinstance" = some (.builtin "isinstance") := by decide +kernel
theorem list_K {K : PySem.W.Frag} {ds : List D} {P : List D → Cells → Prop} (h : ∃ x zs, ds = [x] ∧ seqD Λ x = some zs ∧ P zs Λ) : CKn K (fun xs H Q => ∃ p ys, xs = [.ref p] ∧ (SqL K H p ys ∨ SqT K H p ys) ∧ ∀ l, H l = none → Q (.ref l) (upd H l (.lst ys))) ds Γ Λ P := by
  intro F B α σ H vs Q S rs q
  obtain ⟨x, zs, rfl, hz, p⟩ := h
  obtain ⟨v, rfl, rv⟩ := reps1 rs
  obtain ⟨a, ws, rfl, h1, h2⟩ := S.seq rv hz
  refine ⟨a, ws, rfl, h1, fun l hl => ?_⟩
  exact q zs Λ l ws B α _ p (S.grow (Ex.new hl)) (Ex.refl B) (List.prefix_refl _) upd_same (S.bh.back hl) (S.dm l hl) (fun ha => (S.ah l ha).1 hl) h2
theorem wn_list {P : List D → Cells → Prop} (hj : GlAt C "list") (hm : C.mg "list" = none) (h : WE C E Γ Λ e fun x Λ1 => ∃ zs, seqD Λ1 x = some zs ∧ P zs Λ1) (he : plainE e = true := by rfl) : WN C E Γ Λ (.Call (.Name "list" p) [e] [] pos) P :=
  wn_callTy (fun X is => crK (fun K xs H Q => ∃ p ys, xs = [.ref p] ∧ (SqL K H p ys ∨ SqT K H p ys) ∧ ∀ l, H l = none → Q (.ref l) (upd H l (.lst ys))) is call_list_of) hj hm boot_list'
    (wa_cons (we_mono h fun x Λ1 ⟨zs, h1, h2⟩ => wa_nil (list_K ⟨x, zs, rfl, h1, h2⟩)) he) (he := he)
theorem tuple_K {K : PySem.W.Frag} {ds : List D} (h : ∃ x zs, ds = [x] ∧ seqD Λ x = some zs ∧ P (.tup zs) Λ) : CK K (fun xs H Q => ∃ p ys, xs = [.ref p] ∧ ((SqL K H p ys ∧ ∀ l, H l = none → Q (.ref l) (upd H l (.tup ys))) ∨ (SqT K H p ys ∧ Q (.ref p) H))) ds Γ Λ P := by
  intro F B α σ H vs Q S rs q
  obtain ⟨x, zs, rfl, hz, p⟩ := h
  obtain ⟨v, rfl, rv⟩ := reps1 rs
  have lay : ∀ {ws : List V}, Reps K B α zs ws → ∀ l, H l = none → Q (.ref l) (upd H l (.tup ws)) := fun {ws} h2 l hl => by
    have hx : Ex B (upd B l (.tup ws)) := Ex.new (S.bh.back hl)
    refine q _ Λ _ (upd B l (.tup ws)) α _ p (S.lay hl) hx (List.prefix_refl _) ?_
    unfold Rep
    exact ⟨l, ws, rfl, SqT.of upd_same, h2.mono hx (List.prefix_refl _)⟩
  unfold seqD at hz
  split at hz
  · rename_i es he
    cases hz
    obtain ⟨a, ws, rfl, h1, h2⟩ := S.lst rv he
    exact ⟨a, ws, rfl, .inl ⟨SqL.of h1, lay h2⟩⟩
  · rename_i es he
    cases hz
    have ex := vw_noc he (by simp) (by simp) (by simp) (by simp)
    subst ex
    unfold Rep at rv
    obtain ⟨a, ws, rfl, h1, h2⟩ := rv
    exact ⟨a, ws, rfl, .inl ⟨S.bh.sqL h1, lay h2⟩⟩
  · rename_i es he
    cases hz
    have ex := vw_noc he (by simp) (by simp) (by simp) (by simp)
    subst ex
    have rv' := rv
    unfold Rep at rv'
    obtain ⟨a, ws, rfl, h1, h2⟩ := rv'
    exact ⟨a, ws, rfl, .inr ⟨S.bh.sqT h1, q _ Λ _ B α H p S (Ex.refl B) (List.prefix_refl _) rv⟩⟩
  · cases hz
theorem we_tuple (hj : GlAt C "tuple") (hm : C.mg "tuple" = none) (h : WE C E Γ Λ e fun x Λ1 => ∃ zs, seqD Λ1 x = some zs ∧ P (.tup zs) Λ1) (he : plainE e = true := by rfl) : WE C E Γ Λ (.Call (.Name "tuple" p) [e] [] pos) P :=
  we_callTy (fun X is => crK (fun K xs H Q => ∃ p ys, xs = [.ref p] ∧ ((SqL K H p ys ∧ ∀ l, H l = none → Q (.ref l) (upd H l (.tup ys))) ∨ (SqT K H p ys ∧ Q (.ref p) H))) is call_tuple_of) hj hm boot_tuple'
    (wa_cons (we_mono h fun x Λ1 ⟨zs, h1, h2⟩ => wa_nil (tuple_K ⟨x, zs, rfl, h1, h2⟩)) he) (he := he)

/-! #### sum, max, min, all, any -/
theorem reps_int {K : PySem.W.Frag} {B : Hp} {α : List Addr} : ∀ {ns : List Int} {vs : List V}, Reps K B α (ns.map D.int) vs → vs = ns.map V.int
  | [], _, h => by unfold List.map Reps at h; exact h
  | n :: ns, _, h => by
    rw [List.map_cons] at h
    unfold Reps at h
    obtain ⟨v, r, rfl, h1, h2⟩ := h
    unfold Rep at h1
    rw [h1, reps_int h2, List.map_cons]
theorem reps_bl {K : PySem.W.Frag} {B : Hp} {α : List Addr} : ∀ {ns : List Bool} {vs : List V}, Reps K B α (ns.map D.bl) vs → vs = ns.map V.bl
  | [], _, h => by unfold List.map Reps at h; exact h
  | n :: ns, _, h => by
    rw [List.map_cons] at h
    unfold Reps at h
    obtain ⟨v, r, rfl, h1, h2⟩ := h
    unfold Rep at h1
    rw [h1, reps_bl h2, List.map_cons]
theorem reps_str {K : PySem.W.Frag} {B : Hp} {α : List Addr} : ∀ {ns : List Str} {vs : List V}, Reps K B α (ns.map D.str) vs → vs = ns.map V.str
  | [], _, h => by unfold List.map Reps at h; exact h
  | n :: ns, _, h => by
    rw [List.map_cons] at h
    unfold Reps at h
    obtain ⟨v, r, rfl, h1, h2⟩ := h
    unfold Rep at h1
    rw [h1, reps_str h2, List.map_cons]
theorem we_sum (hj : GlAt C "sum") (hm : C.mg "sum" = none) (h : WE C E Γ Λ e fun x Λ1 => ∃ ns : List Int, lstD Λ1 x = some (ns.map .int) ∧ P (.int ns.sum) Λ1) (he : plainE e = true := by rfl) : WE C E Γ Λ (.Call (.Name "sum" p) [e] [] pos) P :=
  we_callB (fun X is => crK rSum is (cr_sum is.calm)) hj hm boot_sum' (wa_cons (we_mono h fun x Λ1 ⟨ns, h1, h2⟩ => wa_nil (ck_val h2 fun F B α σ H vs Q S rs q => by
    obtain ⟨v, rfl, rv⟩ := reps1 rs
    obtain ⟨a, ws, rfl, g1, g2⟩ := S.seqL rv h1
    have e := reps_int g2
    subst e
    exact ⟨a, ns, rfl, g1, q _ (by unfold Rep; rfl)⟩)) he) (he := he)
theorem we_all (hj : GlAt C "all") (hm : C.mg "all" = none) (h : WE C E Γ Λ e fun x Λ1 => ∃ ns : List Bool, lstD Λ1 x = some (ns.map .bl) ∧ P (.bl (ns.all _root_.id)) Λ1) (he : plainE e = true := by rfl) : WE C E Γ Λ (.Call (.Name "all" p) [e] [] pos) P :=
  we_callB (fun X is => crK rAll is (cr_all is.calm)) hj hm boot_all' (wa_cons (we_mono h fun x Λ1 ⟨ns, h1, h2⟩ => wa_nil (ck_val h2 fun F B α σ H vs Q S rs q => by
    obtain ⟨v, rfl, rv⟩ := reps1 rs
    obtain ⟨a, ws, rfl, g1, g2⟩ := S.seqL rv h1
    have e := reps_bl g2
    subst e
    exact ⟨a, ns, rfl, g1, q _ (by unfold Rep; rfl)⟩)) he) (he := he)
theorem we_any (hj : GlAt C "any") (hm : C.mg "any" = none) (h : WE C E Γ Λ e fun x Λ1 => ∃ ns : List Bool, lstD Λ1 x = some (ns.map .bl) ∧ P (.bl (ns.any _root_.id)) Λ1) (he : plainE e = true := by rfl) : WE C E Γ Λ (.Call (.Name "any" p) [e] [] pos) P :=
  we_callB (fun X is => crK rAny is (cr_any is.calm)) hj hm boot_any' (wa_cons (we_mono h fun x Λ1 ⟨ns, h1, h2⟩ => wa_nil (ck_val h2 fun F B α σ H vs Q S rs q => by
    obtain ⟨v, rfl, rv⟩ := reps1 rs
    obtain ⟨a, ws, rfl, g1, g2⟩ := S.seqL rv h1
    have e := reps_bl g2
    subst e
    exact ⟨a, ns, rfl, g1, q _ (by unfold Rep; rfl)⟩)) he) (he := he)
theorem we_maxl (hj : GlAt C "max") (hm : C.mg "max" = none) (h : WE C E Γ Λ e fun x Λ1 => ∃ ns : List Int, lstD Λ1 x = some (ns.map .int) ∧ 0 < ns.length ∧ ∀ m, m ∈ ns → (∀ y ∈ ns, y ≤ m) → P (.int m) Λ1) (he : plainE e = true := by rfl) : WE C E Γ Λ (.Call (.Name "max" p) [e] [] pos) P :=
  we_callB (fun X is => crK rMax is (cr_max is.calm)) hj hm boot_max' (wa_cons (we_mono h fun x Λ1 ⟨ns, h1, h0, h2⟩ => wa_nil (by
    intro F B α σ H vs Q S rs q
    obtain ⟨v, rfl, rv⟩ := reps1 rs
    obtain ⟨a, ws, rfl, g1, g2⟩ := S.seqL rv h1
    have e := reps_int g2
    subst e
    exact ⟨a, ns, rfl, g1, h0, fun m m1 m2 => q _ Λ1 _ B α H (h2 m m1 m2) S (Ex.refl B) (List.prefix_refl _) (by unfold Rep; rfl)⟩)) he) (he := he)
variable {e2 : Expr}
theorem we_max2 (hj : GlAt C "max") (hm : C.mg "max" = none) (h : WE C E Γ Λ e fun x Λ1 => WE C E Γ Λ1 e2 fun y Λ2 => ∃ a b, x = .int a ∧ y = .int b ∧ P (.int (max a b)) Λ2) (he : plainE e = true := by rfl) (he2 : plainE e2 = true := by rfl) : WE C E Γ Λ (.Call (.Name "max" p) [e, e2] [] pos) P :=
  we_callB (fun X is => call_max2 is.calm) hj hm boot_max' (wa_cons (we_mono h fun x Λ1 h => wa_cons (we_mono h fun y Λ2 ⟨a, b, hx, hy, h2⟩ => wa_nil (ck_val h2 fun F B α σ H vs Q S rs q => by
    subst hx; subst hy
    obtain ⟨v, w, rfl, r1, r2⟩ := reps2 rs
    unfold Rep at r1 r2
    refine ⟨a, b, by rw [r1, r2], q _ ?_⟩
    unfold Rep
    congr 1
    split <;> omega)) he2) he) (he := he) (hes := by simp [he2])
theorem we_min2 (hj : GlAt C "min") (hm : C.mg "min" = none) (h : WE C E Γ Λ e fun x Λ1 => WE C E Γ Λ1 e2 fun y Λ2 => ∃ a b, x = .int a ∧ y = .int b ∧ P (.int (min a b)) Λ2) (he : plainE e = true := by rfl) (he2 : plainE e2 = true := by rfl) : WE C E Γ Λ (.Call (.Name "min" p) [e, e2] [] pos) P :=
  we_callB (fun X is => call_min2 is.calm) hj hm boot_min' (wa_cons (we_mono h fun x Λ1 h => wa_cons (we_mono h fun y Λ2 ⟨a, b, hx, hy, h2⟩ => wa_nil (ck_val h2 fun F B α σ H vs Q S rs q => by
    subst hx; subst hy
    obtain ⟨v, w, rfl, r1, r2⟩ := reps2 rs
    unfold Rep at r1 r2
    refine ⟨a, b, by rw [r1, r2], q _ ?_⟩
    unfold Rep
    congr 1
    split <;> omega)) he2) he) (he := he) (hes := by simp [he2])
/-! #### int(x), isinstance -/
def intOf (x : D) (P : Int → Prop) : Prop := match x with
  | .int i => P i
  | .bl b => P (if b then 1 else 0)
  | _ => False
theorem we_toInt (hj : GlAt C "int") (hm : C.mg "int" = none) (h : WE C E Γ Λ e fun x Λ1 => intOf x fun i => P (.int i) Λ1) (he : plainE e = true := by rfl) : WE C E Γ Λ (.Call (.Name "int" p) [e] [] pos) P :=
  we_callTy (fun X is => call_int1) hj hm boot_int' (wa_cons (we_mono h fun x Λ1 h => wa_nil (by
    intro F B α σ H vs Q S rs q
    obtain ⟨v, rfl, rv⟩ := reps1 rs
    unfold intOf at h
    split at h
    · unfold Rep at rv
      exact .inl ⟨_, by rw [rv], q _ Λ1 _ B α H h S (Ex.refl B) (List.prefix_refl _) (by unfold Rep; rfl)⟩
    · unfold Rep at rv
      exact .inr ⟨_, by rw [rv], q _ Λ1 _ B α H h S (Ex.refl B) (List.prefix_refl _) (by unfold Rep; rfl)⟩
    · exact h.elim)) he) (he := he)
/-- a datum's type, by name -/
def tyD (Λ : Cells) (x : D) : Option String := match vw Λ x with
  | .non => some "NoneType"
  | .bl _ => some "bool"
  | .int _ => some "int"
  | .str _ => some "str"
  | .tup _ => some "tuple"
  | .lst _ => some "list"
  | .fzl _ => some "list"
  | .dic _ _ => some "dict"
  | _ => none
theorem tyx_of {K : PySem.W.Frag} {H : Hp} {F : Fm} {B : Hp} {α : List Addr} {σ : L2.St} (S : Sat K F B α Γ Λ σ H) {x : D} {v : V} {t : String} (r : Rep K B α x v) (h : tyD Λ x = some t) : TyX K H v (.type t) := by
  unfold tyD at h
  split at h
  all_goals first | (cases h; done) | skip
  all_goals rename_i hx
  · have ex := vw_noc hx (by simp) (by simp) (by simp) (by simp); subst ex; cases h; unfold Rep at r; subst r; exact .base .non
  · have ex := vw_noc hx (by simp) (by simp) (by simp) (by simp); subst ex; cases h; unfold Rep at r; subst r; exact .base (.bl _)
  · have ex := vw_noc hx (by simp) (by simp) (by simp) (by simp); subst ex; cases h; unfold Rep at r; subst r; exact .base (.int _)
  · have ex := vw_noc hx (by simp) (by simp) (by simp) (by simp); subst ex; cases h; unfold Rep at r; subst r; exact .base (.str _)
  · have ex := vw_noc hx (by simp) (by simp) (by simp) (by simp); subst ex; cases h; unfold Rep at r
    obtain ⟨a, vs, rfl, h1, _⟩ := r
    rcases S.bh.sqT h1 with (h2 | ⟨o, h2⟩) | ⟨o, its, n, h2, h3, _⟩
    · exact .base (.tup h2)
    · exact .fTuple h2
    · exact .kTuple h2 h3
  · cases h
    obtain ⟨a, vs, rfl, h1, _⟩ := S.lst r hx
    exact .base (.lst h1)
  · have ex := vw_noc hx (by simp) (by simp) (by simp) (by simp); subst ex; cases h; unfold Rep at r
    obtain ⟨a, vs, rfl, h1, _⟩ := r
    rcases S.bh.sqL h1 with (h2 | ⟨o, h2⟩) | ⟨o, its, n, h2, h3, _⟩
    · exact .base (.lst h2)
    · exact .base (.frz h2)
    · exact .kList h2 h3
  · cases h
    obtain ⟨a, vs, rfl, h1, _⟩ := S.dic r hx
    rcases h1 with h2 | ⟨o, h2⟩
    · exact .base (.dK h2)
    · exact .fDict h2
def isiB (a b : String) : Option Bool :=
  if b = "int" then some (a == "int" || a == "bool") else if b = "bool" then some (a == "bool") else if b = "str" then some (a == "str") else if b = "list" then some (a == "list") else if b = "tuple" then some (a == "tuple") else none
theorem isi_ok {Λ : Cells} {x : D} {a b : String} {r : Bool} (ha : tyD Λ x = some a) (h : isiB a b = some r) : kitB a b = some r := by
  have fa : a = "NoneType" ∨ a = "bool" ∨ a = "int" ∨ a = "str" ∨ a = "tuple" ∨ a = "list" ∨ a = "dict" := by
    unfold tyD at ha
    split at ha <;> cases ha <;> simp
  unfold isiB at h
  have fb : b = "int" ∨ b = "bool" ∨ b = "str" ∨ b = "list" ∨ b = "tuple" := by
    by_cases h1 : b = "int"; · exact .inl h1
    by_cases h2 : b = "bool"; · exact .inr (.inl h2)
    by_cases h3 : b = "str"; · exact .inr (.inr (.inl h3))
    by_cases h4 : b = "list"; · exact .inr (.inr (.inr (.inl h4)))
    by_cases h5 : b = "tuple"; · exact .inr (.inr (.inr (.inr h5)))
    rw [if_neg h1, if_neg h2, if_neg h3, if_neg h4, if_neg h5] at h; cases h
  rcases fb with rfl | rfl | rfl | rfl | rfl <;> rcases fa with rfl | rfl | rfl | rfl | rfl | rfl | rfl <;> (cases h; decide +kernel)
theorem we_isi (hj : GlAt C "isinstance") (hm : C.mg "isinstance" = none) (h : WE C E Γ Λ e fun x Λ1 => WE C E Γ Λ1 e2 fun y Λ2 => ∃ t T b, y = .raw (.ty T) ∧ tyD Λ2 x = some t ∧ isiB t T = some b ∧ P (.bl b) Λ2) (he : plainE e = true := by rfl) (he2 : plainE e2 = true := by rfl) : WE C E Γ Λ (.Call (.Name "isinstance" p) [e, e2] [] pos) P :=
  we_callB (fun X is => crK rIsi is call_isi) hj hm boot_isi' (wa_cons (we_mono h fun x Λ1 h => wa_cons (we_mono h fun y Λ2 ⟨t, T, b, hy, ht, hb, h2⟩ => wa_nil (ck_val h2 fun F B α σ H vs Q S rs q => by
    subst hy
    obtain ⟨v, w, rfl, r1, r2⟩ := reps2 rs
    have r2' := r2
    unfold Rep at r2'
    exact ⟨v, w, .type t, .type T, b, rfl, by rw [r2']; exact .ty T, tyx_of S r1 ht, kit_ty (isi_ok ht hb), q _ (by unfold Rep; rfl)⟩)) he2) he) (he := he) (hes := by simp [he2])
end

/-! ### methods of lists -/
/-- no call of a bare name stands there -/
def plainO : Expr → Bool
  | .Call (.Name _ _) [] [] _ => false
  | _ => true
theorem base_plain {o : Expr} {x : Str} {env : PySem.Env} (h : plainO o = true) : attributeBase o x env (eval o env) = eval o env := by
  unfold attributeBase
  split
  · cases h
  · rfl
theorem few1 {e : Expr} {env : PySem.Env} {cpos : Pos} (h : plainE e = true) : ((backTo cpos (starEach [e] env)).all (fun x => !x.1) && (backToKw cpos (keywordEach [] env)).all (fun x => x.1.isSome)
      && decide ([e].length + ([] : List Keyword).length + (if ([] : List Keyword).isEmpty then 0 else 1) < 30)) = true := by
  rw [star_plain h]; rfl
section
variable {C : Ctx} {E : ER} {Γ : Env} {Λ : Cells} {P : D → Cells → Prop} {apos cpos : Pos} {o e : Expr}
theorem Sat.cellL {K : PySem.W.Frag} {F : Fm} {B : Hp} {α : List Addr} {σ : L2.St} {H : Hp} (S : Sat K F B α Γ Λ σ H) {n : Nat} {v : V} {ds : List D} (r : Rep K B α (.loc n) v) (h : Λ[n]? = some (.lst ds)) : ∃ a vs, v = .ref a ∧ α[n]? = some a ∧ B a = none ∧ H a = some (.lst vs) ∧ Reps K B α ds vs := by
  unfold Rep at r
  obtain ⟨a, rfl, h1⟩ := r
  obtain ⟨a', q1, q2, q3, vs, q4, q5⟩ := S.ce n _ h (by simp)
  rw [h1] at q1; cases q1
  exact ⟨a, vs, rfl, h1, q2, q4, q5⟩
/-- o.append(e) -/
theorem we_append (h : WE C E Γ Λ o fun x Λ1 => ∃ n ds0, x = .loc n ∧ Λ1[n]? = some (.lst ds0) ∧ WE C E Γ Λ1 e fun y Λ2 => ∃ ds, Λ2[n]? = some (.lst ds) ∧ ds.length < sizeLine ∧ P .non (Λ2.set n (.lst (ds ++ [y]))))
    (ho : plainO o = true := by rfl) (he : plainE e = true := by rfl) (hl : (apos.endLine == cpos.line) = true := by rfl) : WE C E Γ Λ (.Call (.Attribute o "append" apos) [e] [] cpos) P := fun X F W is tk => by
  refine pe_imp (pe_bm PySem.F.plainAttrs_list PySem.F.slot_list_append PySem.F.type_list_append mt_append pe_U (pa_cons pe_U pa_nil (star_plain he)) (base_plain ho) (few1 he) hl (star_plain he) rfl) fun σ H Q ⟨B, α, S, q, er⟩ => ?_
  refine WE.use h is tk S er fun x Λ1 vx B1 α1 H1 p1 S1 e1 f1 r1 => ?_
  obtain ⟨n, ds0, rfl, hn, p1⟩ := p1
  obtain ⟨a, vs, rfl, g1, g2, g3, g4⟩ := S1.cellL r1 hn
  refine ⟨.inl ⟨rfl, _, by exact SqL.of g3⟩, ?_⟩
  refine WE.use p1 is tk S1 (er.mono e1) fun y Λ2 vy B2 α2 H2 p2 S2 e2 f2 r2 => ?_
  obtain ⟨ds, hn2, hz, p⟩ := p2
  obtain ⟨a', vs2, ea, k1, k2, k3, k4⟩ := S2.cellL (Rep.mono e2 f2 _ _ r1) hn2
  cases ea
  refine ⟨a, vs2, vy, rfl, rfl, k3, by rw [k4.length]; exact hz, ?_⟩
  exact q _ _ _ B2 α2 _ p (S2.put k1 k2 ⟨vs2 ++ [vy], upd_same, k4.append (.one r2)⟩) (e1.trans e2) (f1.trans f2) (by unfold Rep; rfl)
/-- o.pop() -/
theorem we_pop (h : WE C E Γ Λ o fun x Λ1 => ∃ n ds d, x = .loc n ∧ Λ1[n]? = some (.lst ds) ∧ ds.getLast? = some d ∧ P d (Λ1.set n (.lst ds.dropLast)))
    (ho : plainO o = true := by rfl) (hl : (apos.endLine == cpos.line) = true := by rfl) : WE C E Γ Λ (.Call (.Attribute o "pop" apos) [] [] cpos) P := fun X F W is tk => by
  refine pe_imp (pe_bm0 PySem.F.plainAttrs_list PySem.F.slot_list_pop PySem.F.type_list_pop mt_pop pe_U (base_plain ho) hl) fun σ H Q ⟨B, α, S, q, er⟩ => ?_
  refine WE.use h is tk S er fun x Λ1 vx B1 α1 H1 p1 S1 e1 f1 r1 => ?_
  obtain ⟨n, ds, d, rfl, hn, hd, p⟩ := p1
  obtain ⟨a, vs, rfl, g1, g2, g3, g4⟩ := S1.cellL r1 hn
  rw [List.getLast?_eq_getElem?] at hd
  obtain ⟨v, hv, rv⟩ := g4.get hd
  refine ⟨.inl ⟨rfl, _, by exact SqL.of g3⟩, a, vs, v, rfl, rfl, g3, by rw [g4.length]; exact hv, ?_⟩
  refine q d _ v B1 α1 _ p (S1.put g1 g2 ⟨vs.dropLast, upd_same, ?_⟩) e1 f1 rv
  rw [List.dropLast_eq_take, List.dropLast_eq_take, g4.length]
  exact g4.take _
/-- o.extend(e), e a list that is seen -/
theorem we_extend (h : WE C E Γ Λ o fun x Λ1 => ∃ n ds0, x = .loc n ∧ Λ1[n]? = some (.lst ds0) ∧ WE C E Γ Λ1 e fun y Λ2 => ∃ ds zs, Λ2[n]? = some (.lst ds) ∧ vw Λ2 y = .lst zs ∧ ds.length + zs.length ≤ sizeLine ∧ P .non (Λ2.set n (.lst (ds ++ zs))))
    (ho : plainO o = true := by rfl) (he : plainE e = true := by rfl) (hl : (apos.endLine == cpos.line) = true := by rfl) : WE C E Γ Λ (.Call (.Attribute o "extend" apos) [e] [] cpos) P := fun X F W is tk => by
  refine pe_imp (pe_bm PySem.F.plainAttrs_list PySem.F.slot_list_extend PySem.F.type_list_extend mt_extend pe_U (pa_cons pe_U pa_nil (star_plain he)) (base_plain ho) (few1 he) hl (star_plain he) rfl) fun σ H Q ⟨B, α, S, q, er⟩ => ?_
  refine WE.use h is tk S er fun x Λ1 vx B1 α1 H1 p1 S1 e1 f1 r1 => ?_
  obtain ⟨n, ds0, rfl, hn, p1⟩ := p1
  obtain ⟨a, vs, rfl, g1, g2, g3, g4⟩ := S1.cellL r1 hn
  refine ⟨.inl ⟨rfl, _, by exact SqL.of g3⟩, ?_⟩
  refine WE.use p1 is tk S1 (er.mono e1) fun y Λ2 vy B2 α2 H2 p2 S2 e2 f2 r2 => ?_
  obtain ⟨ds, zs, hn2, hy, hz, p⟩ := p2
  obtain ⟨a', vs2, ea, k1, k2, k3, k4⟩ := S2.cellL (Rep.mono e2 f2 _ _ r1) hn2
  cases ea
  obtain ⟨b, ws, rfl, m1, m2⟩ := S2.lst r2 hy
  refine ⟨a, b, vs2, ws, rfl, rfl, k3, m1, by rw [k4.length, m2.length]; exact hz, ?_⟩
  exact q _ _ _ B2 α2 _ p (S2.put k1 k2 ⟨vs2 ++ ws, upd_same, k4.append m2⟩) (e1.trans e2) (f1.trans f2) (by unfold Rep; rfl)
end

/-! ### stores -/
section
variable {C : Ctx} {Γ : Env} {Λ : Cells} {R : Rs} {pos pos' : Pos} {o i e : Expr}
/-- no tuple display stands there -/
def noTup : Expr → Bool
  | .Tuple _ _ _ => false
  | _ => true
theorem swapped_none {t e : Expr} {env : PySem.Env} (h : noTup e = true) : swappedStores [t] e env = pure none := by
  cases t <;> cases e <;> first | rfl | cases h
theorem swapped_none' {o i e : Expr} {env : PySem.Env} : swappedStores [.Subscript o i pos'] e env = pure none := by
  cases e <;> rfl
/-- xs[i] = e of an owned list -/
theorem ws_setix (h : WE C R.er Γ Λ e fun d Λ1 => WE C R.er Γ Λ1 o fun x Λ2 => WE C R.er Γ Λ2 i fun y Λ3 => ∃ n ds k j, x = .loc n ∧ y = .int k ∧ Λ3[n]? = some (.lst ds) ∧ ixN ds.length k = some j ∧ R.nx Γ (Λ3.set n (.lst (ds.set j d))))
    (hc : noComp e = true := by rfl) (ha : ∀ (env : PySem.Env) v, assign (.Subscript o i pos') env v = (do
      let ov ← holding [v] (eval o env)
      let iv ← holding [v, ov] (eval i env)
      standAt pos'
      holding [v, ov, iv] (setItem ov iv v)
      release [v, ov, iv] []) := by intro _ _; rfl) : WS C Γ Λ (.Assign [.Subscript o i pos'] e pos) R := fun X F W is hm tk => by
  refine ps_imp (ps_asg pe_U (pg_sub pe_U pe_U set_list (ha X.env)) (by unfold swapsWithSole; exact noSwap hc) swapped_none' rfl) fun Dn σ H ⟨B, α, S, q⟩ => ?_
  refine WE.use h is tk S q.er.at fun d Λ1 vd B1 α1 H1 p1 S1 e1 f1 r1 => ?_
  refine WE.use p1 is tk S1 (q.er.mono e1).at fun x Λ2 vx B2 α2 H2 p2 S2 e2 f2 r2 => ?_
  refine WE.use p2 is tk S2 (q.er.mono (e1.trans e2)).at fun y Λ3 vy B3 α3 H3 p3 S3 e3 f3 r3 => ?_
  obtain ⟨n, ds, k, j, rfl, rfl, hn, hj, p⟩ := p3
  obtain ⟨a, vs, rfl, g1, g2, g3, g4⟩ := S3.cellL (Rep.mono e3 f3 _ _ r2) hn
  unfold Rep at r3
  refine ⟨a, vs, k, j, rfl, r3, g3, by rw [g4.length]; exact hj, ?_⟩
  exact q.nx _ _ B3 α3 σ _ p (S3.put g1 g2 ⟨vs.set j vd, upd_same, g4.set (Rep.mono (e2.trans e3) (f2.trans f3) _ _ r1)⟩) ((e1.trans e2).trans e3)
/-- a, b = e -/
theorem ws_sett {tgs : List Expr} {k : Nat} (vs : List Nat) (h : WE C R.er Γ Λ e fun d Λ' => WG C Γ Λ' (.Tuple tgs k pos') d vs fun Γ' => R.nx Γ' Λ') (hc : noComp e = true := by rfl) (ht : noTup e = true := by rfl) : WS C Γ Λ (.Assign [.Tuple tgs k pos'] e pos) R := fun X F W is hm tk => by
  refine ps_imp (ps_asg pe_U pg_U (by unfold swapsWithSole; exact noSwap hc) (swapped_none ht) rfl) fun Dn σ H ⟨B, α, S, q⟩ => ?_
  refine WE.use h is tk S q.er.at fun d Λ1 vd B1 α1 H1 p1 S1 e1 f1 r1 => ?_
  exact ⟨_, p1 X F is, B1, α1, S1, r1, fun Γ' σ' p' S' ag => q.nx Γ' Λ1 B1 α1 σ' H1 p' S' e1⟩
/-- a list that was owned is seen from now on -/
theorem wss_freeze {st : List Stmt} (n : Nat) (ds : List D) (hm0 : C.m ≤ n) (hn : Λ[n]? = some (.lst ds)) (Γ' : Env) (hl : Γ'.length = Γ.length) (hΓ : ∀ (i : Nat) (d : D), Γ'[i]? = some (some d) → Γ[i]? = some (some d) ∨ (Γ[i]? = some (some (.loc n)) ∧ d = .lst ds)) (h : WSs C Γ' (Λ.set n .gone) st R) : WSs C Γ Λ st R := fun X F W is hm tk => by
  refine pss_imp pss_U fun Dn σ H ⟨B, α, S, q⟩ => ?_
  obtain ⟨a, q1, q2, q3, vs, q4, q5⟩ := S.ce n _ hn (by simp)
  have h0 : F.H0 a = none := by
    rcases q3 with z | z
    · exact z
    · exfalso
      obtain ⟨i, hi⟩ := List.getElem?_of_mem z
      have hi' := pre_get S.pf hi
      have : i = n := (List.getElem?_inj (List.getElem?_eq_some_iff.mp hi').1 S.nd).mp (hi'.trans q1.symm)
      have := (List.getElem?_eq_some_iff.mp hi).1
      omega
  have hx : Ex B (upd B a (.lst vs)) := Ex.new q2
  have nl : n < Λ.length := (List.getElem?_eq_some_iff.mp hn).1
  refine WSs.use h is hm tk (B := upd B a (.lst vs)) (α := α) ⟨S.bb.trans hx, fun b u hb => ?_, fun b u hb => ?_, S.kp, S.dm, S.pf, S.nd, by simp [S.al], fun m c hc hg => ?_, S.ah, fun i d hi => ?_, by rw [hl]; exact S.ln⟩ (q.mono hx)
  · by_cases e : b = a
    · subst e; rw [upd_same] at hb; rw [← hb]; exact q4
    · rw [upd_ne e] at hb; exact S.bh b u hb
  · by_cases e : b = a
    · subst e; exact .inr h0
    · rw [upd_ne e] at hb; exact S.fr b u hb
  · by_cases e : n = m
    · subst e
      rw [List.getElem?_set_self nl] at hc
      cases hc
      exact absurd rfl hg
    · rw [List.getElem?_set_ne e] at hc
      obtain ⟨b, k1, k2, k3, k4⟩ := S.ce m c hc hg
      have hba : b ≠ a := fun z => by
        subst z
        exact e ((List.getElem?_inj (by rw [S.al]; exact nl) S.nd).mp (q1.trans k1.symm))
      exact ⟨b, k1, by rw [upd_ne hba]; exact k2, k3, k4.mono hx (List.prefix_refl _) fun u z => z⟩
  · rcases hΓ i d hi with z | ⟨z, rfl⟩
    · obtain ⟨v, k1, k2⟩ := S.sl i d z
      exact ⟨v, k1, k2.mono hx (List.prefix_refl _)⟩
    · obtain ⟨v, k1, k2⟩ := S.sl i _ z
      unfold Rep at k2
      obtain ⟨a', rfl, k3⟩ := k2
      rw [q1] at k3; cases k3
      exact ⟨_, k1, by unfold Rep; exact ⟨a, vs, rfl, upd_same, q5.mono hx (List.prefix_refl _)⟩⟩
/-- return of an owned list -/
theorem ws_retl {j : Nat} {x : Str} {n : Nat} {ds : List D} (hi : C.N[j]? = some x) (hv : C.vs[j]? = some true) (hg : Γ[j]? = some (some (.loc n))) (hm0 : C.m ≤ n) (hn : Λ[n]? = some (.lst ds)) (h : R.rt (.new ds) (Λ.take n))
    (hcl : (Λ.take n).all nlC = true) (hds : nls ds = true) (hd : (x == ("__debug__" : Str)) = false := by decide) (hcd : (x == ("__classdict__" : Str)) = false := by decide) : WS C Γ Λ (.Return (some (.Name x pos')) pos) R := fun X F W is hm tk => by
  refine ps_imp (ps_ret (pe_var (is.ni hi) (is.vis hi hv) hd hcd)) fun Dn σ H ⟨B, α, S, q⟩ => ?_
  obtain ⟨v, h1, h2⟩ := S.sl j _ hg
  refine ⟨v, h1, ?_⟩
  obtain ⟨a, vs, rfl, g1, g2, g3, g4⟩ := S.cellL h2 hn
  have h0 : F.H0 a = none := by
    obtain ⟨a', q1, q2, q3, _⟩ := S.ce n _ hn (by simp)
    rw [g1] at q1; cases q1
    rcases q3 with z | z
    · exact z
    · exfalso
      obtain ⟨i, hi⟩ := List.getElem?_of_mem z
      have hi' := pre_get S.pf hi
      have : i = n := (List.getElem?_inj (List.getElem?_eq_some_iff.mp hi').1 S.nd).mp (hi'.trans g1.symm)
      have := (List.getElem?_eq_some_iff.mp hi).1
      omega
  refine q.rt (.new ds) (Λ.take n) _ [] B (α.take n) [] H h (S.cut (by omega) (all_nlC hcl) rfl fun i d h => by simp at h) (Ex.refl B) ⟨a, vs, rfl, g3, g2, h0, fun hmem => ?_, Reps.nl ds vs hds g4⟩
  obtain ⟨i, hi⟩ := List.getElem?_of_mem hmem
  have hlt : i < n := by
    have := (List.getElem?_eq_some_iff.mp hi).1
    rw [List.length_take] at this; omega
  rw [List.getElem?_take_of_lt hlt] at hi
  have : i = n := (List.getElem?_inj (List.getElem?_eq_some_iff.mp hi).1 S.nd).mp (hi.trans g1.symm)
  omega
end
end Pl

namespace Pl
open PySem L2 PyProof.Rows

/-! ### the program's top -/
/-- a def of the module stands where its name says -/
structure DefAt (K : PySem.W.Frag) (mg : Str → Option Value) (x : Str) (st : Stmt) (ps : List Str) (q : Str := x) : Prop where
  ex : ∃ f fd, Fun K q q st f fd ∧ mg x = some (.ref f) ∧ ∀ us : List Value, us.length = ps.length → bindArgs fd ⟨us, []⟩ = pure (ps.zip us)
theorem defAt_mk {K : PySem.W.Frag} {mg : Str → Option Value} {h : Heap} {x : Str} {st : Stmt} {ps : List Str} {f : Addr} {oc : Value} {od an : Option Addr} {osl : Array (Option Value)} {kV doc pm cdv ct : Value} (X : K.In h) (G : h.Ns mainGlobals mg)
    (hb : ∀ (kV doc pm : Value) (an : Option Addr) (cdv ct : Value) (us : List Value), us.length = ps.length → bindArgs (PySem.W.fnOf x x (defArgs st) (defBody st) (defScope st) .none kV doc pm an cdv ct) ⟨us, []⟩ = pure (ps.zip us))
    (a : PySem.W.nsIn K mainGlobals x = some (some (.ref f))) (l : K.lookup f = some ⟨oc, od, .func (PySem.W.fnOf x x (defArgs st) (defBody st) (defScope st) .none kV doc pm an cdv ct), osl⟩) (c : PySem.W.codeIn K cdv x = true) (k : PySem.W.keepIn K (.ref f) = true) :
    DefAt K mg x st ps := ⟨f, _, fun_mk l c k, PySem.W.mg_of X G a, fun us hl => hb kV doc pm an cdv ct us hl⟩
theorem defAt_mk2 {K : PySem.W.Frag} {mg : Str → Option Value} {h : Heap} {x q : Str} {st : Stmt} {ps : List Str} {f : Addr} {oc : Value} {od an : Option Addr} {osl : Array (Option Value)} {kV doc pm cdv ct : Value} (X : K.In h) (G : h.Ns mainGlobals mg)
    (hb : ∀ (kV doc pm : Value) (an : Option Addr) (cdv ct : Value) (us : List Value), us.length = ps.length → bindArgs (PySem.W.fnOf q q (defArgs st) (defBody st) (defScope st) .none kV doc pm an cdv ct) ⟨us, []⟩ = pure (ps.zip us))
    (a : PySem.W.nsIn K mainGlobals x = some (some (.ref f))) (l : K.lookup f = some ⟨oc, od, .func (PySem.W.fnOf q q (defArgs st) (defBody st) (defScope st) .none kV doc pm an cdv ct), osl⟩) (c : PySem.W.codeIn K cdv q = true) (k : PySem.W.keepIn K (.ref f) = true) :
    DefAt K mg x st ps q := ⟨f, _, fun_mk l c k, PySem.W.mg_of X G a, fun us hl => hb kV doc pm an cdv ct us hl⟩
/-- a def of the module, by its body: the rule for a place of the text -/
theorem DefAt.fn {P : Program} {w : World} {K : PySem.W.Frag} {mg : Str → Option Value} {base : Heap} {x q : Str} {st : Stmt} {ps : List Str} (h : DefAt K mg x st ps q) {k : Nat} {S : Spec}
    (H : ∀ (f : Addr) (fd : FuncData), Fun K q q st f fd → FnOk P w K mg base (L2.CX P w) k f fd ps (spOf K ps.length S)) : Fn P w K mg base k x ps.length S := by
  obtain ⟨f, fd, h1, h2, h3⟩ := h.ex
  exact fn_mk (H f fd h1) h2 h1.kp (.all h3)

/-- what a law asks: True for every script -/
def lawSpec (n : Nat) : Spec := fun ds Λ Q _ => ∃ ns : List Int, ns.length ≤ n ∧ ds = [.fzl (ns.map .int)] ∧ Λ = [] ∧ Q (.val (.bl true)) []
theorem reps_ints {K : PySem.W.Frag} {B : Hp} {α : List Addr} : ∀ ns : List Int, Reps K B α (ns.map D.int) (ns.map V.int)
  | [] => .nil
  | n :: ns => .cons (by unfold Rep; rfl) (reps_ints ns)
theorem law_sp {K : PySem.W.Frag} {H : Hp} {a : Addr} {ns : List Int} {n : Nat} (h : ns.length ≤ n) (hS : SqL K H a (ns.map V.int)) : spOf K 1 (lawSpec n) [.ref a] H (fun v _ => v = V.bl true) fun _ _ _ => False := by
  refine ⟨⟨H, H, []⟩, [.fzl (ns.map .int)], [], rfl, rfl, ?_, ?_, ns, h, rfl, rfl, fun v H' B' α' S r => ?_⟩
  · exact ⟨Ex.refl H, Ex.refl H, fun a o h => .inl h, fun a o h _ => h, fun a h => h, List.prefix_refl _, List.nodup_nil, rfl, fun n c h => by simp at h, fun a h => by simp at h, fun i d h => by simp at h, rfl⟩
  · refine .one ?_
    unfold Rep
    exact ⟨a, _, rfl, hS, reps_ints ns⟩
  · unfold ResAt Rep at r
    exact r
theorem law_end {l : PySem.W.OpenLaw} {n k : Nat} {q : Program} {loose : List Str} {XP : (Str → Option Value) → Heap → Prop} {YP : World → Heap → Prop} {d : DefRec} {K : Params → PySem.W.Frag} {st : Stmt} {x : Str}
    (hn : l.most = some n) (hn2 : n ≤ sizeLine) (hdf : d.params.defaults = []) (hr : Room k callerA)
    (hY : ∀ (w : World) (h : Heap), YP w h → (K w.params).In h)
    (F : ∀ (w : World) (mg : Str → Option Value) (h : Heap), (K w.params).In h → h.Ns mainGlobals mg → DefAt (K w.params) mg d.name st [x] ∧ ∀ base : Heap, (K w.params).In base → base.Ns mainGlobals mg →
      ∀ (f : Addr) (fd : FuncData), Fun (K w.params) d.name d.name st f fd → FnOk l.prog w (K w.params) mg base (L2.CX l.prog w) k f fd [x] (spOf (K w.params) 1 (lawSpec n))) :
    PySem.W.WalkO q loose XP YP l.row.toRowW d [] (fun f vs => PySem.call f vs) := by
  refine L2.walk_of (n := n) (k := k) (x := x) (CX := fun w => L2.CX l.prog w) (sp := fun w => spOf (K w.params) 1 (lawSpec n)) hn hn2 hdf hr hY (fun w mg fa h KX G hfa => ?_) (fun w H a ns hl _ hS => law_sp hl hS) fun w H s e s' z => ?_
  · obtain ⟨D, B⟩ := F w mg h KX G
    obtain ⟨f, fd, h1, h2, h3⟩ := D.ex
    rw [hfa] at h2
    cases h2
    exact ⟨fd, fun s u => .of_eq (h3 [u] rfl), fun base KB GB => B base KB GB _ fd h1⟩
  · obtain ⟨_, _, _, _, _, _, _, _, _, _, _, _, z⟩ := z
    exact z.elim

/-! ### deciders of a context's lists -/
def goodC (N : List Str) (sc : Scope) (vs ls : List Bool) (gl : List Str) : Bool :=
  decide N.Nodup && ((List.range N.length).all fun i => match N[i]? with
    | none => true
    | some x => (vs[i]? != some true || (sc.names.lookup x == some .local || sc.names.lookup x == some .cell || sc.names.lookup x == some .free)) && (ls[i]? != some true || (sc.names.lookup x == some .local || sc.names.lookup x == some .cell)))
  && gl.all fun x => sc.names.lookup x == some .globalImplicit
theorem good_by {C : Ctx} (h : goodC C.N C.sc C.vs C.ls C.gl = true) : C.Good := by
  unfold goodC at h
  simp only [Bool.and_eq_true, List.all_eq_true, decide_eq_true_eq] at h
  obtain ⟨⟨h1, h2⟩, h3⟩ := h
  have at_ : ∀ (i : Nat) (x : Str), C.N[i]? = some x → ((C.vs[i]? != some true || (C.sc.names.lookup x == some .local || C.sc.names.lookup x == some .cell || C.sc.names.lookup x == some .free)) && (C.ls[i]? != some true || (C.sc.names.lookup x == some .local || C.sc.names.lookup x == some .cell))) = true := fun i x hi => by
    have := h2 i (List.mem_range.mpr (List.getElem?_eq_some_iff.mp hi).1)
    rw [hi] at this
    simpa using this
  refine ⟨h1, fun i x hi hv => ?_, fun i x hi hv => ?_, fun j x hj => ?_⟩
  · have := at_ i x hi
    rw [hv] at this
    simp only [Bool.and_eq_true, Bool.or_eq_true, bne_self_eq_false, Bool.false_eq_true, false_or, beq_iff_eq] at this
    rcases this.1 with (z | z) | z
    · exact .inl z
    · exact .inr (.inl z)
    · exact .inr (.inr z)
  · have := at_ i x hi
    rw [hv] at this
    simp only [Bool.and_eq_true, Bool.or_eq_true, bne_self_eq_false, Bool.false_eq_true, false_or, beq_iff_eq] at this
    rcases this.2 with z | z
    · exact .inl z
    · exact .inr z
  · have := h3 x (List.mem_of_getElem? hj)
    exact beq_iff_eq.mp this
def stoC (N : List Str) (scope : Scope) (ls : List Bool) : Bool :=
  (List.range N.length).all fun i => match N[i]? with
    | none => true
    | some x => ls[i]? != some true || (scope.names.lookup x == some .local || scope.names.lookup x == some .cell)
theorem sto_by {N : List Str} {scope : Scope} {ls : List Bool} (h : stoC N scope ls = true) (i : Nat) (x : Str) (hi : N[i]? = some x) (hl : ls[i]? = some true) : scope.names.lookup x = some .local ∨ scope.names.lookup x = some .cell := by
  unfold stoC at h
  rw [List.all_eq_true] at h
  have := h i (List.mem_range.mpr (List.getElem?_eq_some_iff.mp hi).1)
  rw [hi] at this
  simp only [hl] at this
  simp only [Bool.or_eq_true, bne_self_eq_false, Bool.false_eq_true, false_or, beq_iff_eq] at this
  exact this
/-- what stands fast while a law is walked -/
structure Gl where
  P : Program
  w : World
  K : PySem.W.Frag
  mg : Str → Option Value
  base : Heap
@[reducible] def Gl.cx (G : Gl) (N : List Str) (sc : Scope) (vs ls : List Bool) (gl : List Str) (k : Nat) (m : Nat := 0) : Ctx := ⟨G.P, G.w, G.K, G.mg, G.base, N, sc, vs, ls, gl, k, m, true⟩
abbrev Gl.fn (G : Gl) (k : Nat) (x : Str) (n : Nat) (S : Spec) : Prop := Fn G.P G.w G.K G.mg G.base k x n S
/-- a def's promise by its body, at a place of the text -/
theorem def_ok {G : Gl} {x : Str} {st : Stmt} {ps : List Str} {qn : Str} (h : DefAt G.K G.mg x st ps qn) {N : List Str} {vs ls : List Bool} {gl : List Str} {k m : Nat} {S : Spec} (sc : FnScope N ps (defScope st)) (good : goodC N (defScope st) vs ls gl = true)
    (hm : ∀ ds Λ Q E, S ds Λ Q E → Λ.length ≤ m)
    (hb : ∀ ds Λ Q E, ds.length = ps.length → S ds Λ Q E → WSs (G.cx N (defScope st) vs ls gl k m) (Γ0 N ds) Λ (defBody st) ⟨fun _ Λ' => rtX Λ Q (.val .non) Λ', rtX Λ Q, fun _ _ => False, fun _ _ => False, erX Λ E⟩) : G.fn (k + 1) x ps.length S :=
  h.fn fun f fd F => fn_ok F sc (G.cx N (defScope st) vs ls gl k m) ⟨rfl, rfl, rfl, rfl, rfl, rfl, rfl, rfl⟩ (good_by good) hm hb
end Pl

namespace Pl
open PySem L2 PyProof.Rows

/-! ### steps over data, for the driver -/
section
variable {Λ : Cells} {P : D → Prop} {Pb : Bool → Prop} {i j : Int} {s t : Str} {c d : Bool}
theorem addP_int (h : P (.int (i + j))) : addP Λ (.int i) (.int j) P := h
theorem addP_str (hl : s.length + t.length ≤ sizeLine) (h : P (.str (s ++ t))) : addP Λ (.str s) (.str t) P := ⟨hl, h⟩
theorem addP_tup {xs ys : List D} (h0 : xs ≠ []) (hl : xs.length + ys.length ≤ sizeLine) (h : P (.tup (xs ++ ys))) : addP Λ (.tup xs) (.tup ys) P := ⟨h0, hl, h⟩
theorem addP_lst {x y : D} {xs ys : List D} (hx : vw Λ x = .lst xs) (hy : vw Λ y = .lst ys) (hl : xs.length + ys.length ≤ sizeLine) (h : P (.lst (xs ++ ys))) : addP Λ x y P := by
  unfold addP; rw [hx, hy]; exact ⟨hl, h⟩
theorem intP_i {g : Int → Int → Prop} {f : Int → Int → D} (hg : g i j) (h : P (f i j)) : intP g f (.int i) (.int j) P := ⟨hg, h⟩
theorem eqP_int (h : Pb (decide (i = j))) : eqP Λ (.int i) (.int j) Pb := h
theorem eqP_str (h : Pb (decide (s = t))) : eqP Λ (.str s) (.str t) Pb := h
theorem eqP_bl (h : Pb (decide (c = d))) : eqP Λ (.bl c) (.bl d) Pb := h
theorem eqP_gen {x y : D} (hx : (py (vw Λ x)).plain = true) (hy : (py (vw Λ y)).plain = true) (hd : min (py (vw Λ x)).depth (py (vw Λ y)).depth ≤ 190) (h : Pb (PyData.eqv (py (vw Λ x)) (py (vw Λ y)))) : eqP Λ x y Pb := by
  unfold eqP
  split
  · rename_i i j
    rw [show PyData.eqv (py (vw Λ (.int i))) (py (vw Λ (.int j))) = decide (i = j) from by show PyData.eqv (.int _) (.int _) = _; rw [PyData.eqv, Bool.beq_eq_decide_eq]] at h; exact h
  · rename_i s t
    rw [show PyData.eqv (py (vw Λ (.str s))) (py (vw Λ (.str t))) = decide (s = t) from by show PyData.eqv (.str _) (.str _) = _; rw [PyData.eqv, Bool.beq_eq_decide_eq]] at h; exact h
  · rename_i s t
    rw [show PyData.eqv (py (vw Λ (.bl s))) (py (vw Λ (.bl t))) = decide (s = t) from by show PyData.eqv (.bool _) (.bool _) = _; rw [PyData.eqv, Bool.beq_eq_decide_eq]] at h; exact h
  · exact ⟨hx, hy, hd, h⟩
theorem ordP_int {f : Int → Int → Bool} {g : Str → Str → Bool} {ok : Bool} (h : Pb (f i j)) : ordP f g ok (.int i) (.int j) Pb := h
theorem ltP_int (h : Pb (decide (i < j))) : ltP (.int i) (.int j) Pb := h
theorem leP_int (h : Pb (decide (i ≤ j))) : leP (.int i) (.int j) Pb := h
theorem gtP_int (h : Pb (decide (j < i))) : gtP (.int i) (.int j) Pb := h
theorem geP_int (h : Pb (decide (j ≤ i))) : geP (.int i) (.int j) Pb := h
theorem ltP_str (h : Pb (decide (s.cps.toList < t.cps.toList))) : ltP (.str s) (.str t) Pb := ⟨rfl, h⟩
theorem boolP_bl (h : Pb c) : boolP (.bl c) Pb := h
theorem ixP_seq {x : D} {ds : List D} {e : D} (hs : seqD Λ x = some ds) (he : atI ds i = some e) (h : P e) : ixP Λ x (.int i) P := by
  unfold ixP
  split
  · rename_i i' heq
    cases heq
    split
    · simp only [seqD, vw] at hs; cases hs
    · exact ⟨ds, hs, e, he, h⟩
  · rename_i hne; exact absurd rfl (hne i)
theorem ixP_str {k : Nat} (hl : s.length ≤ sizeLine) (he : atI s.cps.toList i = some k) (h : P (.str ⟨#[k]⟩)) : ixP Λ (.str s) (.int i) P := ⟨hl, k, he, h⟩
theorem lenP_seq {x : D} {ds : List D} {Pi : Int → Prop} (hs : seqD Λ x = some ds) (h : Pi ds.length) : lenP Λ x Pi := by
  unfold lenP
  split
  · simp only [seqD, vw] at hs; cases hs
  · exact ⟨ds, hs, h⟩
theorem lenP_str {Pi : Int → Prop} (hl : s.length ≤ sizeLine) (h : Pi s.length) : lenP Λ (.str s) Pi := ⟨hl, h⟩
theorem inP_seq {x y : D} {ds : List D} (hs : seqD Λ y = some ds) (hp : PyData.plainAll (pys ds) = true) (hx : (py (vw Λ x)).plain = true) (hd : min (PyData.depthAll (pys ds)) (py (vw Λ x)).depth ≤ 190) (h : Pb ((pys ds).any fun e => PyData.eqv e (py (vw Λ x)))) : inP Λ x y Pb := by
  unfold seqD at hs
  unfold inP
  split at hs
  · rename_i e; cases hs; rw [e]; exact ⟨hp, hx, hd, h⟩
  · rename_i e; cases hs; rw [e]; exact ⟨hp, hx, hd, h⟩
  · rename_i e; cases hs; rw [e]; exact ⟨hp, hx, hd, h⟩
  · cases hs
theorem inP_str (h : Pb (strIn s t)) : inP Λ (.str s) (.str t) Pb := ⟨s, rfl, h⟩
theorem intOf_int {Pi : Int → Prop} (h : Pi i) : intOf (.int i) Pi := h
theorem intOf_bl {Pi : Int → Prop} (h : Pi (if c then 1 else 0)) : intOf (.bl c) Pi := h
theorem ite_t {A B : Prop} (hc : c = true) (h : A) : if c = true then A else B := by rw [if_pos hc]; exact h
theorem ite_f {A B : Prop} (hc : c = false) (h : B) : if c = true then A else B := by rw [if_neg (by rw [hc]; decide)]; exact h
theorem ite_c {A B : Prop} (h1 : c = true → A) (h2 : c = false → B) : if c = true then A else B := by
  cases c with
  | true => rw [if_pos rfl]; exact h1 rfl
  | false => rw [if_neg (by decide)]; exact h2 rfl
theorem ite_d {p : Prop} [Decidable p] {A B : Prop} (h1 : p → A) (h2 : ¬ p → B) : if decide p = true then A else B :=
  ite_c (fun h => h1 (of_decide_eq_true h)) fun h => h2 (of_decide_eq_false h)
theorem seqD_lst {ds : List D} : seqD Λ (.lst ds) = some ds := rfl
theorem seqD_fzl {ds : List D} : seqD Λ (.fzl ds) = some ds := rfl
theorem seqD_tup {ds : List D} : seqD Λ (.tup ds) = some ds := rfl
theorem seqD_loc {n : Nat} {ds : List D} (h : Λ[n]? = some (.lst ds)) : seqD Λ (.loc n) = some ds := by simp [seqD, vw, h]
theorem lstD_loc {n : Nat} {ds : List D} (h : Λ[n]? = some (.lst ds)) : lstD Λ (.loc n) = some ds := by simp [lstD, vw, h]
end

/-! ### comprehensions and loops over mapped items -/
section
variable {C : Ctx} {Γ : Env} {Λ : Cells} {tg elt : Expr} {ws : List Nat} {P : List D → Prop} {β : Type}
theorem compP_map (g f : β → D) : ∀ (xs : List β) (acc : List D), (∀ x ∈ xs, WG C Γ Λ tg (g x) ws fun Γ' => WE C ER.none Γ' Λ elt fun y Λ' => y = f x ∧ Λ' = Λ) → acc.length + xs.length < 10000000 → P (acc ++ xs.map f) →
    CompP C Γ Λ tg ws [] elt P (xs.map g) acc
  | [], acc, _, _, p => by
    rw [List.map_nil, CompP]
    simpa using p
  | x :: xs, acc, h, hl, p => by
    rw [List.length_cons] at hl
    rw [List.map_cons, CompP]
    refine ⟨by omega, ?_⟩
    have hx := h x List.mem_cons_self
    intro X F is
    refine pg_imp (hx X F is) fun v σ H Q ⟨B, α, S, r, q⟩ => ⟨B, α, S, r, fun Γ' σ' p' S' ag => q Γ' σ' ?_ S' ag⟩
    refine we_mono p' fun y Λ' e => ?_
    obtain ⟨e1, e2⟩ := e
    rw [e1]
    exact ⟨e2, compP_map g f xs (acc ++ [f x]) (fun z hz => h z (List.mem_cons_of_mem _ hz)) (by rw [List.length_append, List.length_singleton]; omega) (by simpa using p)⟩
theorem compP_filter {c : Expr} (g f : β → D) (b : β → Bool) : ∀ (xs : List β) (acc : List D), (∀ x ∈ xs, WG C Γ Λ tg (g x) ws fun Γ' => WT C ER.none Γ' Λ c fun t Λ' => t = b x ∧ Λ' = Λ ∧ (b x = true → WE C ER.none Γ' Λ elt fun y Λ' => y = f x ∧ Λ' = Λ)) → acc.length + xs.length < 10000000 → P (acc ++ (xs.filter b).map f) →
    CompP C Γ Λ tg ws [c] elt P (xs.map g) acc
  | [], acc, _, _, p => by
    rw [List.map_nil, CompP]
    simpa using p
  | x :: xs, acc, h, hl, p => by
    rw [List.length_cons] at hl
    rw [List.map_cons, CompP]
    refine ⟨by omega, ?_⟩
    have hx := h x List.mem_cons_self
    intro X F is
    refine pg_imp (hx X F is) fun v σ H Q ⟨B, α, S, r, q⟩ => ⟨B, α, S, r, fun Γ' σ' p' S' ag => q Γ' σ' ?_ S' ag⟩
    refine wt_mono p' fun t Λ' e => ?_
    obtain ⟨e1, e2, he⟩ := e
    rw [e1]
    refine ⟨e2, ?_⟩
    cases hb : b x with
    | true =>
      rw [if_pos rfl]
      refine we_mono (he hb) fun y Λ' e => ?_
      obtain ⟨e3, e4⟩ := e
      rw [e3]
      exact ⟨e4, compP_filter g f b xs (acc ++ [f x]) (fun z hz => h z (List.mem_cons_of_mem _ hz)) (by rw [List.length_append, List.length_singleton]; omega) (by simpa [List.filter_cons, hb] using p)⟩
    | false =>
      rw [if_neg (by simp)]
      exact compP_filter g f b xs acc (fun z hz => h z (List.mem_cons_of_mem _ hz)) (by omega) (by simpa [List.filter_cons, hb] using p)
/-- a loop that keeps a word of the items gone through -/
theorem loopP_inv {R : Rs} {body : List Stmt} (g : β → D) (I : List β → Env → Cells → Prop) : ∀ (xs pre : List β) (Γ : Env) (Λ : Cells), I pre Γ Λ →
    (∀ (pre : List β) (x : β) (post : List β) (Γ : Env) (Λ : Cells), I pre Γ Λ → (∃ all, all = pre ++ x :: post) → WG C Γ Λ tg (g x) ws fun Γ' => WSs C Γ' Λ body { R with nx := I (pre ++ [x]), ct := I (pre ++ [x]), bk := R.nx }) →
    (∀ Γ Λ, I (pre ++ xs) Γ Λ → R.nx Γ Λ) → LoopP C tg ws body R (xs.map g) Γ Λ
  | [], pre, Γ, Λ, h0, _, hd => hd Γ Λ (by simpa using h0)
  | x :: xs, pre, Γ, Λ, h0, hs, hd => by
    intro X F is
    refine pg_imp (hs pre x xs Γ Λ h0 ⟨_, rfl⟩ X F is) fun v σ H Q ⟨B, α, S, r, q⟩ => ⟨B, α, S, r, fun Γ' σ' p' S' ag => q Γ' σ' ?_ S' ag⟩
    have go : ∀ Γ1 Λ1, I (pre ++ [x]) Γ1 Λ1 → LoopP C tg ws body R (xs.map g) Γ1 Λ1 := fun Γ1 Λ1 h1 => loopP_inv g I xs (pre ++ [x]) Γ1 Λ1 h1 hs (fun Γ Λ h => hd Γ Λ (by simpa using h))
    exact wss_mono p' ⟨go, fun _ _ z => z, fun _ _ z => z, go, fun _ _ _ z => z⟩
theorem wg_mono {d : D} {P P' : Env → Prop} (h : WG C Γ Λ tg d ws P) (i : ∀ Γ', P Γ' → P' Γ') : WG C Γ Λ tg d ws P' := fun X F is =>
  pg_imp (h X F is) fun v σ H Q ⟨B, α, S, r, q⟩ => ⟨B, α, S, r, fun Γ' σ' p' S' ag => q Γ' σ' (i Γ' p') S' ag⟩
end
/-- no call can be asked for -/
theorem DefAt.none {G : Gl} {x : Str} {st : Stmt} {ps : List Str} {qn : Str} (h : DefAt G.K G.mg x st ps qn) {k : Nat} {S : Spec} (hS : ∀ ds Λ Q E, ¬ S ds Λ Q E) : G.fn k x ps.length S :=
  h.fn fun f fd F => ⟨fun vs H Q E ⟨_, _, _, _, _, _, _, z⟩ => absurd z (hS _ _ _ _), fun A outer s H args us vs Q E _ _ _ _ ⟨_, _, _, _, _, _, _, z⟩ => absurd z (hS _ _ _ _)⟩
theorem Gl.fn_rec {G : Gl} {x : Str} {n c : Nat} {S : Nat → Spec} (h0 : ∀ k, G.fn k x n (S 0)) (h : ∀ m, G.fn (m + c) x n (S m) → G.fn (m + c + 1) x n (S (m + 1))) : ∀ m, G.fn (m + c) x n (S m)
  | 0 => h0 _
  | m + 1 => by
    have := h m (Gl.fn_rec h0 h m)
    rw [show m + 1 + c = m + c + 1 by omega]
    exact this
end Pl

/-! max(xs, default=d) -/
namespace Mxd
open PySem PyProof.Rows
section
variable {prog : Program} {w : World} {A : Around} {R : Result → Shared → Prop} {it : Addr} {fp wr : List Addr} {n : Nat} {P : Nat → Value → Prop} {St : Nat → Heap → Prop} {dk : List (Str × Value)}
theorem hnm : (toString "max" ++ toString ".loop" : String) = "max.loop" := by decide
theorem turns (W : Walks prog w A.in1 it fp wr n P St) (bt : Nat → Nat → Bool) (cmp : CmpOf prog w A.in1 .Gt P bt) (b : Addr) (nb : b ∉ fp) : ∀ (k j : Nat) (s : Shared) (u : Value) (c : Nat), n - (j + 1) = k → j + 1 ≤ n → St (j + 1) s.heap → P (argBest bt j) u →
    s.heap.get? b = some { cls := .type "list", dict := none, data := .seq #[u, u] c, slots := #[] } →
    (∀ v h' tk, P (argBest bt (n - 1)) v → (∀ a o, a ∉ wr → a ≠ b → s.heap.get? a = some o → h'.get? a = some o) → R (.ok (.ret v)) { s with heap := h', toks := tk }) → codeAny (model prog w) A (.builtin "max.loop" ⟨[.ref it, .none, .ref b], dk⟩) R s := by
  have nbw : b ∉ wr := fun h => nb (W.sub _ h)
  intro k
  induction k with
  | zero =>
    intro j s u c e hj st pu hb q
    have ej : j + 1 = n := by omega
    refine codeAny_builtin F.entry_max_loop ?_
    rw [Around.under_plainId F.plain_max_loop _]
    show wpAny _ A.in1 (seqItems? (.ref b) >>= fun _ => _) _ _ s
    refine wpAny_bind (wpAny_seqItems hb rfl ?_)
    show wpAny _ A.in1 (tryCatch (pyNext (.ref it)) _ >>= fun _ => _) _ _ s
    refine wpAny_bind (wpAny_tryCatch (W.done s _ _ (ej ▸ st) fun h1 tk k1 => ?_))
    have hb1 := k1 b _ nbw hb
    show wpAny _ A.in1 (updateSeq b (fun _ => #[]) >>= fun _ => _) _ _ _
    refine wpAny_bind ?_
    refine wpAny_updateSeq hb1 rfl (wpAny_bind (wpAny_letGo (wpAny_pure ?_)))
    exact q u _ tk (by rw [← ej]; exact pu) fun a o ha hab e => (Heap.get?_update_other _ _ (Ne.symm hab)).trans (k1 a o ha e)
  | succ k ih =>
    intro j s u c e hj st pu hb q
    have lt : j + 1 < n := by omega
    refine codeAny_builtin F.entry_max_loop ?_
    rw [Around.under_plainId F.plain_max_loop _]
    show wpAny _ A.in1 (seqItems? (.ref b) >>= fun _ => _) _ _ s
    refine wpAny_bind (wpAny_seqItems hb rfl ?_)
    show wpAny _ A.in1 (tryCatch (pyNext (.ref it)) _ >>= fun _ => _) _ _ s
    refine wpAny_bind (wpAny_tryCatch (W.item (j + 1) s _ _ lt st fun v h1 tk pv st1 k1 => ?_))
    have hb1 := k1 b _ nbw hb
    show wpAny _ A.in1 (tryCatch (holding [v, v] (richCompare .Gt v u >>= fun _ => _)) _ >>= fun _ => _) _ _ _
    refine wpAny_bind (wpAny_tryCatch (wpAny_holding (wpAny_bind (cmp (j + 1) (argBest bt j) v u _ _ _ pv pu ?_))))
    refine wpAny_bind (wpAny_holding (wpAny_truthy_bool ?_))
    refine wpAny_bind (wpAny_letGo (wpAny_pure ?_))
    cases hc : bt (j + 1) (argBest bt j) with
    | true =>
      simp only [if_true]
      refine wpAny_bind ?_
      refine wpAny_updateSeq hb1 rfl (wpAny_bind (wpAny_letGo ?_))
      rw [hnm]
      refine wpAny_pure ⟨plainId_quiet F.plain_max_loop _, ih (j + 1) _ v _ (by omega) lt (W.frame _ _ _ st1 fun a ha o e => ?_) (by simp only [argBest, hc, if_true]; exact pv) (Heap.get?_update_self _ hb1 rfl) fun z h2 tk2 pz k2 => ?_⟩
      · exact (Heap.get?_update_other _ _ (fun h : b = a => nb (by rw [h]; exact ha))).trans e
      · exact q z h2 tk2 pz fun a o ha hab e => k2 a o ha hab ((Heap.get?_update_other _ _ (Ne.symm hab)).trans (k1 a o ha e))
    | false =>
      simp only [Bool.false_eq_true, if_false]
      refine wpAny_bind (wpAny_letGo ?_)
      rw [hnm]
      refine wpAny_pure ⟨plainId_quiet F.plain_max_loop _, ih (j + 1) _ u c (by omega) lt st1 (by simp only [argBest, hc, Bool.false_eq_true, if_false]; exact pu) hb1 fun z h2 tk2 pz k2 => ?_⟩
      exact q z h2 tk2 pz fun a o ha hab e => k2 a o ha hab (k1 a o ha e)
theorem first (W : Walks prog w A.in1 it fp wr n P St) (bt : Nat → Nat → Bool) (cmp : CmpOf prog w A.in1 .Gt P bt) (b : Addr) (nb : b ∉ fp) (h0 : 0 < n) {s : Shared} {c : Nat} (st : St 0 s.heap)
    (hb : s.heap.get? b = some { cls := .type "list", dict := none, data := .seq #[] c, slots := #[] })
    (q : ∀ v h' tk, P (argBest bt (n - 1)) v → (∀ a o, a ∉ wr → a ≠ b → s.heap.get? a = some o → h'.get? a = some o) → R (.ok (.ret v)) { s with heap := h', toks := tk }) : codeAny (model prog w) A (.builtin "max.loop" ⟨[.ref it, .none, .ref b], dk⟩) R s := by
  have nbw : b ∉ wr := fun h => nb (W.sub _ h)
  refine codeAny_builtin F.entry_max_loop ?_
  rw [Around.under_plainId F.plain_max_loop _]
  show wpAny _ A.in1 (seqItems? (.ref b) >>= fun _ => _) _ _ s
  refine wpAny_bind (wpAny_seqItems hb rfl ?_)
  show wpAny _ A.in1 (tryCatch (pyNext (.ref it)) _ >>= fun _ => _) _ _ s
  refine wpAny_bind (wpAny_tryCatch (W.item 0 s _ _ h0 st fun v h1 tk pv st1 k1 => ?_))
  have hb1 := k1 b _ nbw hb
  show wpAny _ A.in1 (updateSeq b (fun _ => #[v, v]) >>= fun _ => _) _ _ _
  refine wpAny_bind ?_
  refine wpAny_updateSeq hb1 rfl ?_
  rw [hnm]
  refine wpAny_pure ⟨plainId_quiet F.plain_max_loop _, turns W bt cmp b nb _ 0 _ v _ rfl h0 (W.frame _ _ _ st1 fun a ha o e => ?_) pv (Heap.get?_update_self _ hb1 rfl) fun z h2 tk2 pz k2 => ?_⟩
  · exact (Heap.get?_update_other _ _ (fun h : b = a => nb (by rw [h]; exact ha))).trans e
  · exact q z h2 tk2 pz fun a o ha hab e => k2 a o ha hab ((Heap.get?_update_other _ _ (Ne.symm hab)).trans (k1 a o ha e))
theorem dflt (W : Walks prog w A.in1 it fp wr 0 P St) (b : Addr) (nb : b ∉ fp) {s : Shared} {c : Nat} (st : St 0 s.heap) {d : Value} {kn : Str}
    (hb : s.heap.get? b = some { cls := .type "list", dict := none, data := .seq #[] c, slots := #[] })
    (q : ∀ h' tk, (∀ a o, a ∉ wr → a ≠ b → s.heap.get? a = some o → h'.get? a = some o) → R (.ok (.ret d)) { s with heap := h', toks := tk }) : codeAny (model prog w) A (.builtin "max.loop" ⟨[.ref it, .none, .ref b], [(kn, d)]⟩) R s := by
  refine codeAny_builtin F.entry_max_loop ?_
  rw [Around.under_plainId F.plain_max_loop _]
  show wpAny _ A.in1 (seqItems? (.ref b) >>= fun _ => _) _ _ s
  refine wpAny_bind (wpAny_seqItems hb rfl ?_)
  show wpAny _ A.in1 (tryCatch (pyNext (.ref it)) _ >>= fun _ => _) _ _ s
  refine wpAny_bind (wpAny_tryCatch (W.done s _ _ st fun h1 tk k1 => ?_))
  show wpAny _ A.in1 (rule _ >>= fun _ => _) _ _ _
  refine wpAny_bind (wpAny_rule (wpAny_pure ?_))
  exact q h1 tk fun a o ha _ e => k1 a o ha e
end
section
variable {prog : Program} {w : World} {A : Around} {E : Value → Shared → Prop} {s : Shared}
theorem ak (a d : Value) : argsOk "max" ⟨[a], [(Str.ofString "default", d)]⟩ := by unfold argsOk; kernel_rfl
theorem bk (d : Value) : Builtin.Builtins.bindParams "max" ["key", "default"] 0 ⟨[], [(Str.ofString "default", d)]⟩ = pure [none, some d] := by first | rfl | kernel_rfl
end
end Mxd
namespace Mxd
open PySem PyProof.Rows
section
variable {prog : Program} {w : World} {A : Around} {E : Value → Shared → Prop} {s : Shared}
theorem call_again_kw {id : String} {b : Builtin} {us : List Value} {kw : List (Str × Value)} {Q : Value → Shared → Prop} (hk : builtinKind id = none) (hp : plainId id = true) (hb : entryFor table id = some b) (ha : argsOk id ⟨us, kw⟩)
    (h : wpAny (model prog w) A.in1 (b ⟨us, kw⟩) (fun fin s' => ∃ c', fin = .again c' ∧ c'.quiet = true ∧ codeAny (model prog w) A c' (fun r s' => match r with | .ok (.ret v) => Q v s' | .ok _ => False | .error e => E e s') s') E s) : wpAny (model prog w) A (call (.builtin id) us kw) Q E s := by
  refine wpAny_call (codeAny_call_builtin hp hb ?_)
  have fin := wpAny_mono h (Q' := fun fin s' => match fin with
      | .done f => (match (Except.ok f : Result) with | .ok (.ret v) => Q v s' | .ok _ => False | .error e => E e s')
      | .again c' => c'.quiet = true ∧ codeAny (model prog w) A c' (fun r s' => match r with | .ok (.ret v) => Q v s' | .ok _ => False | .error e => E e s') s')
    (fun fin s' ⟨c', e, h1, h2⟩ => by subst e; exact ⟨h1, h2⟩) fun _ _ z => z
  simp only [checkBuiltinCall, hk]
  cases sg : Manifest.signature? id with
  | none => exact wpAny_pure fin
  | some sig =>
    have ha2 : Bind.checkArgs id sig ⟨us, kw⟩ = pure () := by simpa only [argsOk, sg] using ha
    simp only [ha2]
    exact wpAny_pure fin
theorem call_walk {x d : Value} {Q : Value → Shared → Prop}
    (h : wpAny (model prog w) A.in1 (pyIter x) (fun i s₂ => ∃ it fp wr n P St bt, i = .ref it ∧ Walks prog w A.in1 it fp wr n P St ∧ St 0 s₂.heap ∧ (∀ b ∈ fp, b < s₂.heap.objs.size) ∧ CmpOf prog w A.in1 .Gt P bt ∧
      (0 < n → ∀ v h' tk, P (argBest bt (n - 1)) v → (∀ b o, b ∉ wr → s₂.heap.get? b = some o → h'.get? b = some o) → Q v { s₂ with heap := h', toks := tk }) ∧
      (n = 0 → ∀ h' tk, (∀ b o, b ∉ wr → s₂.heap.get? b = some o → h'.get? b = some o) → Q d { s₂ with heap := h', toks := tk })) E s) :
    wpAny (model prog w) A (call (.builtin "max") [x] [(Str.ofString "default", d)]) Q E s := by
  refine call_again_kw F.kind_max F.plain_max F.entry_max (ak _ _) ?_
  show wpAny _ A.in1 (Builtin.Builtins.bindParams "max" ["key", "default"] 0 ⟨[], [(Str.ofString "default", d)]⟩ >>= fun _ => _) _ _ s
  refine wpAny_bind (wpAny_of_eq (bk d) ?_)
  refine wpAny_bind (wpAny_pure ?_)
  refine wpAny_bind (wpAny_mono h (fun i s₂ h₂ => ?_) fun _ _ e => e)
  obtain ⟨it, fp, wr, n, P, St, bt, rfl, W, st, hfp, cmp, q1, q0⟩ := h₂
  refine wpAny_bind (wpAny_newObj_type ?_)
  have nb : s₂.heap.objs.size ∉ fp := fun hm => Nat.lt_irrefl _ (hfp _ hm)
  rw [hnm]
  have st' : St 0 (s₂.heap.push { cls := .type "list", data := .seq #[] }) := W.frame _ _ _ st fun b _ o e => Heap.get?_push_of_some _ e
  have keep : ∀ {h' : Heap}, (∀ a o, a ∉ wr → a ≠ s₂.heap.objs.size → (s₂.heap.push { cls := .type "list", data := .seq #[] }).get? a = some o → h'.get? a = some o) → ∀ b o, b ∉ wr → s₂.heap.get? b = some o → h'.get? b = some o :=
    fun {h'} k b o hbw e => k b o hbw (Nat.ne_of_lt (Heap.lt_size e)) (Heap.get?_push_of_some _ e)
  refine wpAny_pure ⟨_, rfl, plainId_quiet F.plain_max_loop _, ?_⟩
  rcases Nat.eq_zero_or_pos n with z | z
  · subst z
    exact dflt W s₂.heap.objs.size nb st' (Heap.get?_push_size _ rfl) fun h' tk k => q0 rfl h' tk (keep k)
  · exact first W bt cmp s₂.heap.objs.size nb z st' (Heap.get?_push_size _ rfl) fun v h' tk hP k => q1 z v h' tk hP (keep k)
end
end Mxd

namespace Pl
open PySem L2 PyProof.Rows
theorem maxd_raw {prog : Program} {w : World} {A : Around} {E : Value → Shared → Prop} {s : Shared} {l : Addr} {its : List Value} {ns : List Int} {d : Value} {Q : Value → Shared → Prop} (hh : A.handled = none) (hl : s.heap.IsList l its.toArray) (hi : IntsAre its ns)
    (h1 : ∀ h' tk M t', (∀ b o, s.heap.get? b = some o → h'.get? b = some o) → M ∈ ns → (∀ a, a ∈ ns → a ≤ M) → Q (.int M t') { s with heap := h', toks := tk })
    (h0 : ns = [] → ∀ h' tk, (∀ b o, s.heap.get? b = some o → h'.get? b = some o) → Q d { s with heap := h', toks := tk }) : wpAny (model prog w) A (call (.builtin "max") [.ref l] [(Str.ofString "default", d)]) Q E s := by
  obtain ⟨xs, e⟩ := hi.allInts.items
  have hn : numsOf (intItems xs).toList = ns := by rw [← e]; exact hi.numsOf
  rw [nums_intItems] at hn
  subst hn
  rw [e] at hl
  refine Mxd.call_walk (iter_intList hl fun s₂ e st hfp hlI => ?_)
  subst e
  refine ⟨_, _, _, _, _, _, _, rfl, Walks.list (A := A.in1) hh _ l hlI (intItems xs), st, hfp, CmpOf.ints_gt (numAt xs) (fun _ _ => intItems_at), fun h0 v h' tk hP hk => ?_, fun hz h' tk hk => ?_⟩
  · have hsz : 0 < xs.size := by simpa [intItems] using h0
    have hv : (intItems xs)[argBest (fun i j => decide (numAt xs i > numAt xs j)) (xs.size - 1)]? = some v := by simpa [intItems] using hP
    obtain ⟨t, rfl⟩ := intItems_at hv
    obtain ⟨g1, g2⟩ := argBest_gt (numAt xs) (xs.size - 1)
    refine h1 h' tk _ t (old_kept hk) ?_ fun a ha => ?_
    · rw [numAt_eq]; exact PySem.getD_mem (by rw [List.length_map, Array.length_toList]; omega)
    · obtain ⟨j, hj, rfl⟩ := mem_getD ha
      rw [List.length_map, Array.length_toList] at hj
      rw [← numAt_eq]; exact g2 j (by omega)
  · refine h0 ?_ h' tk (old_kept hk)
    have : xs.size = 0 := by simpa [intItems] using hz
    have : xs = #[] := Array.eq_empty_of_size_eq_zero this
    subst this
    rfl
/-- the greatest, or what is told for none -/
def mxd (i : Int) : List Int → Int
  | [] => i
  | n :: ns => ns.foldl max n
theorem foldl_max (ns : List Int) : ∀ n : Int, (ns.foldl max n = n ∨ ns.foldl max n ∈ ns) ∧ n ≤ ns.foldl max n ∧ ∀ y ∈ ns, y ≤ ns.foldl max n := by
  induction ns with
  | nil => exact fun n => ⟨.inl rfl, Int.le_refl _, fun y h => nomatch h⟩
  | cons a ns ih =>
    intro n
    rw [List.foldl_cons]
    obtain ⟨h1, h2, h3⟩ := ih (max n a)
    refine ⟨?_, by omega, fun y hy => ?_⟩
    · rcases h1 with z | z
      · by_cases hna : n ≤ a
        · right; rw [z, Int.max_eq_right hna]; exact List.mem_cons_self
        · left; rw [z, Int.max_eq_left (by omega)]
      · exact .inr (List.mem_cons_of_mem _ z)
    · rcases List.mem_cons.mp hy with rfl | hy
      · omega
      · exact h3 y hy
theorem mxd_is {i m : Int} {ns : List Int} (h1 : m ∈ ns) (h2 : ∀ y ∈ ns, y ≤ m) : mxd i ns = m := by
  cases ns with
  | nil => cases h1
  | cons n ns =>
    obtain ⟨g1, g2, g3⟩ := foldl_max ns n
    show ns.foldl max n = m
    have a1 : m ≤ ns.foldl max n := by
      rcases List.mem_cons.mp h1 with rfl | h
      · exact g2
      · exact g3 m h
    have a2 : ns.foldl max n ≤ m := by
      rcases g1 with z | z
      · rw [z]; exact h2 n List.mem_cons_self
      · exact h2 _ (List.mem_cons_of_mem _ z)
    omega
def rMaxd (K : PySem.W.Frag) : List V → List V → Hp → VK → Prop := fun vs zs H Q => ∃ (a : Addr) (ns : List Int) (i : Int), vs = [V.ref a] ∧ zs = [.int i] ∧ SqL K H a (ns.map V.int) ∧ Q (.int (mxd i ns)) H
theorem cr_maxd {X : Cx} (hc : X.calm = true) : CallRK X (.builtin "max") [Str.ofString "default"] (rMaxd X.K) := by
  intro pins s σ H vs zs us ws Q I r rz h
  obtain ⟨a, ns, i, rfl, rfl, hs, q⟩ := h
  obtain ⟨its, rv, hl, _⟩ := I.list hs
  rw [Vals.ref1 r]
  obtain ⟨w1, rfl, t, e1⟩ := vals1 rz
  subst e1
  refine maxd_raw (I.ok.hd hc) hl.isList rv.ints (fun h' tk m t' hk h1 h2 => ⟨.int m, H, I.kept hk, ⟨_, rfl⟩, ?_⟩) fun e h' tk hk => ⟨.int i, H, I.kept hk, ⟨_, rfl⟩, ?_⟩
  · rw [mxd_is h1 h2] at q; exact q
  · subst e; exact q
section
variable {C : Ctx} {E : ER} {Γ : Env} {Λ : Cells} {P : D → Cells → Prop} {pos p : Pos} {e : Expr}
/-- max(xs, default=i) -/
theorem we_maxd {i : Int} {j : Nat} {p1 p2 : Pos} (hj : GlAt C "max") (hm : C.mg "max" = none) (h : WE C E Γ Λ e fun x Λ1 => ∃ ns : List Int, lstD Λ1 x = some (ns.map .int) ∧ P (.int (mxd i ns)) Λ1) (he : plainE e = true := by rfl) :
    WE C E Γ Λ (.Call (.Name "max" p) [e] [⟨some "default", .Constant (.int i) j p1, p2⟩] pos) P := fun X F W is tk => by
  refine pe_imp (pe_callBK (cr_maxd is.calm) (is.gl hj) (by rw [is.mg]; exact hm) boot_max' (pa_cons pe_U pa_nil (star_plain he)) (pk_cons pe_int pk_nil) (he := by rw [star_plain he]; rfl) (hpl := by rw [star_plain he]; rfl)) fun σ H Q ⟨B, α, S, q, er⟩ => ?_
  refine WE.use h is tk S er fun d Λ' v B' α' H' p S' e f r => ?_
  obtain ⟨ns, h1, h2⟩ := p
  obtain ⟨a, ws, rfl, g1, g2⟩ := S'.seqL r h1
  have e' := reps_int g2
  subst e'
  exact ⟨a, ns, i, rfl, rfl, by rw [is.K]; exact g1, q _ _ _ _ _ _ h2 S' e f (by unfold Rep; rfl)⟩
end
end Pl
namespace Pl
open PySem L2 PyProof.Rows
section
variable {C : Ctx} {E : ER} {Γ : Env} {Λ : Cells} {P : D → Cells → Prop} {pos p p2 : Pos} {e : Expr}
/-- isinstance(e, T) -/
theorem we_isiN {x : Str} {T : String} (hj : GlAt C "isinstance") (hm : C.mg "isinstance" = none) (hj2 : GlAt C x) (hm2 : C.mg x = none) (hv : bootBuiltins x = some (.type T)) (h : WE C E Γ Λ e fun x Λ1 => ∃ t b, tyD Λ1 x = some t ∧ isiB t T = some b ∧ P (.bl b) Λ1) (he : plainE e = true := by rfl)
    (hn : x ≠ "__name__" := by decide) (hd : (x == ("__debug__" : Str)) = false := by decide) : WE C E Γ Λ (.Call (.Name "isinstance" p) [e, .Name x p2] [] pos) P :=
  we_isi hj hm (we_mono h fun y Λ1 ⟨t, b, h1, h2, h3⟩ => we_blt hj2 hm2 hv (v := .ty T) (by exact rfl) ⟨t, T, b, rfl, h1, h2, h3⟩ hn hd) he
end
/-! ### for the driver -/
section
variable {C : Ctx} {E : ER} {Γ : Env} {Λ : Cells}
theorem wo_none {P : Option Int → Cells → Prop} (h : P none Λ) : WO C E Γ Λ none P := h
theorem wo_some {e : Expr} {P : Option Int → Cells → Prop} (h : WE C E Γ Λ e fun d Λ' => ∃ i, d = .int i ∧ P (some i) Λ') : WO C E Γ Λ (some e) P := h
theorem ex_int {i : Int} {P : Int → Prop} (h : P i) : ∃ j, D.int i = .int j ∧ P j := ⟨i, rfl, h⟩
theorem rtX_nil {Q : Res → Cells → Prop} {r : Res} {Λ' : Cells} (h1 : nlR r = true) (h2 : Q r []) : rtX [] Q r Λ' := ⟨h1, by rw [List.length_nil, List.take_zero]; exact ⟨rfl, h2⟩⟩
end
end Pl
namespace Pl
open PySem L2 PyProof.Rows
theorem sz_and {ds : List D} {p : Prop} (h : ds.length ≤ sizeLine) (q : p) : ds.length ≤ sizeLine ∧ p := ⟨h, q⟩
theorem sz_lt {n : Nat} (h : n < 10000000) : n ≤ sizeLine := by rw [sizeLine_eq]; omega
end Pl
namespace Pl
open PySem L2 PyProof.Rows
theorem sl_ok {x : D} {ds : List D} {l u : Option Int} {P : List D → Prop} (hx : x = .tup ds) (hne : decide (HT.sIx ds.length 0 l = 0 ∧ HT.sIx ds.length ds.length u = ds.length) = false) (h : P ds) :
    ∃ ds', x = .tup ds' ∧ ¬ (HT.sIx ds'.length 0 l = 0 ∧ HT.sIx ds'.length ds'.length u = ds'.length) ∧ P ds' := ⟨ds, hx, of_decide_eq_false hne, h⟩
end Pl

/-! Pl11: calls that are handed cells and that hand back new ones -/
namespace Pl
open PySem L2 PyProof.Rows

/-! ### cells under other numbers -/
mutual
def ren (f : Nat → Nat) : D → D
  | .loc n => .loc (f n)
  | .tup ds => .tup (rens f ds)
  | .lst ds => .lst (rens f ds)
  | .fzl ds => .fzl (rens f ds)
  | .ins C ns ds => .ins C ns (rens f ds)
  | .dic ks ds => .dic ks (rens f ds)
  | .exc C ns ds => .exc C ns (rens f ds)
  | .non => .non
  | .bl b => .bl b
  | .int i => .int i
  | .str s => .str s
  | .raw v => .raw v
def rens (f : Nat → Nat) : List D → List D
  | [] => []
  | d :: ds => ren f d :: rens f ds
end
theorem rens_length {f : Nat → Nat} : ∀ ds : List D, (rens f ds).length = ds.length
  | [] => rfl
  | d :: ds => by show (rens f ds).length + 1 = _; rw [rens_length ds]; rfl
mutual
theorem ren_nl {f : Nat → Nat} : ∀ d : D, nl d = true → ren f d = d
  | .loc n, h => by cases h
  | .tup ds, h => by show D.tup _ = _; rw [rens_nl ds h]
  | .lst ds, h => by show D.lst _ = _; rw [rens_nl ds h]
  | .fzl ds, h => by show D.fzl _ = _; rw [rens_nl ds h]
  | .ins C ns ds, h => by show D.ins _ _ _ = _; rw [rens_nl ds h]
  | .dic ks ds, h => by show D.dic _ _ = _; rw [rens_nl ds h]
  | .exc C ns ds, h => by show D.exc _ _ _ = _; rw [rens_nl ds h]
  | .non, _ => rfl
  | .bl _, _ => rfl
  | .int _, _ => rfl
  | .str _, _ => rfl
  | .raw _, _ => rfl
theorem rens_nl {f : Nat → Nat} : ∀ ds : List D, nls ds = true → rens f ds = ds
  | [], _ => rfl
  | d :: ds, h => by
    have h' : (nl d && nls ds) = true := h
    rw [Bool.and_eq_true] at h'
    show ren f d :: rens f ds = _
    rw [ren_nl d h'.1, rens_nl ds h'.2]
end
mutual
def ltD (m : Nat) : D → Bool
  | .loc n => decide (n < m)
  | .tup ds => ltDs m ds
  | .lst ds => ltDs m ds
  | .fzl ds => ltDs m ds
  | .ins _ _ ds => ltDs m ds
  | .dic _ ds => ltDs m ds
  | .exc _ _ ds => ltDs m ds
  | _ => true
def ltDs (m : Nat) : List D → Bool
  | [] => true
  | d :: ds => ltD m d && ltDs m ds
end
mutual
theorem ltD_nl {m : Nat} : ∀ d : D, nl d = true → ltD m d = true
  | .loc n, h => by cases h
  | .tup ds, h => ltDs_nl ds h
  | .lst ds, h => ltDs_nl ds h
  | .fzl ds, h => ltDs_nl ds h
  | .ins C ns ds, h => ltDs_nl ds h
  | .dic ks ds, h => ltDs_nl ds h
  | .exc C ns ds, h => ltDs_nl ds h
  | .non, _ => rfl
  | .bl _, _ => rfl
  | .int _, _ => rfl
  | .str _, _ => rfl
  | .raw _, _ => rfl
theorem ltDs_nl {m : Nat} : ∀ ds : List D, nls ds = true → ltDs m ds = true
  | [], _ => rfl
  | d :: ds, h => by
    have h' : (nl d && nls ds) = true := h
    rw [Bool.and_eq_true] at h'
    show (ltD m d && ltDs m ds) = true
    rw [ltD_nl d h'.1, ltDs_nl ds h'.2]; rfl
end
section
variable {K : PySem.W.Frag} {B : Hp} {α α' : List Addr} {f : Nat → Nat}
mutual
theorem Rep.ren {m : Nat} (hf : ∀ (n : Nat) (a : Addr), n < m → α[n]? = some a → α'[f n]? = some a) : ∀ (d : D) (v : V), ltD m d = true → Rep K B α d v → Rep K B α' (Pl.ren f d) v
  | .non, _, _, h => h
  | .bl _, _, _, h => h
  | .int _, _, _, h => h
  | .str _, _, _, h => h
  | .raw _, _, _, h => h
  | .loc n, v, l, h => by
    unfold Rep at h
    obtain ⟨a, rfl, h1⟩ := h
    show Rep K B α' (.loc (f n)) _
    unfold Rep
    exact ⟨a, rfl, hf n a (of_decide_eq_true l) h1⟩
  | .tup ds, v, l, h => by
    unfold Rep at h
    obtain ⟨a, vs, rfl, h1, h2⟩ := h
    show Rep K B α' (.tup (rens f ds)) _
    unfold Rep
    exact ⟨a, vs, rfl, h1, Reps.ren hf ds vs l h2⟩
  | .lst ds, v, l, h => by
    unfold Rep at h
    obtain ⟨a, vs, rfl, h1, h2⟩ := h
    show Rep K B α' (.lst (rens f ds)) _
    unfold Rep
    exact ⟨a, vs, rfl, h1, Reps.ren hf ds vs l h2⟩
  | .fzl ds, v, l, h => by
    unfold Rep at h
    obtain ⟨a, vs, rfl, h1, h2⟩ := h
    show Rep K B α' (.fzl (rens f ds)) _
    unfold Rep
    exact ⟨a, vs, rfl, h1, Reps.ren hf ds vs l h2⟩
  | .ins C ns ds, v, l, h => by
    unfold Rep at h
    obtain ⟨a, dx, vs, rfl, h1, h2, h3⟩ := h
    show Rep K B α' (.ins C ns (rens f ds)) _
    unfold Rep
    exact ⟨a, dx, vs, rfl, h1, Reps.ren hf ds vs l h2, by rw [rens_length]; exact h3⟩
  | .dic ks ds, v, l, h => by
    unfold Rep at h
    obtain ⟨a, vs, rfl, h1, h2, h3⟩ := h
    show Rep K B α' (.dic ks (rens f ds)) _
    unfold Rep
    exact ⟨a, vs, rfl, h1, Reps.ren hf ds vs l h2, by rw [rens_length]; exact h3⟩
  | .exc C ns ds, v, l, h => by
    unfold Rep at h
    obtain ⟨a, d, vs, rfl, h1, h2, h3, h4⟩ := h
    show Rep K B α' (.exc C ns (rens f ds)) _
    unfold Rep
    exact ⟨a, d, vs, rfl, h1, Reps.ren hf ds vs l h2, by rw [rens_length]; exact h3, h4⟩
theorem Reps.ren {m : Nat} (hf : ∀ (n : Nat) (a : Addr), n < m → α[n]? = some a → α'[f n]? = some a) : ∀ (ds : List D) (vs : List V), ltDs m ds = true → Reps K B α ds vs → Reps K B α' (rens f ds) vs
  | [], _, _, h => h
  | d :: ds, vs, l, h => by
    have l' : (ltD m d && ltDs m ds) = true := l
    rw [Bool.and_eq_true] at l'
    unfold Reps at h
    obtain ⟨v, r, rfl, h1, h2⟩ := h
    exact .cons (Rep.ren hf d v l'.1 h1) (Reps.ren hf ds r l'.2 h2)
end
mutual
theorem Rep.unren {m : Nat} (hf : ∀ (n : Nat) (a : Addr), n < m → α'[f n]? = some a → α[n]? = some a) : ∀ (d : D) (v : V), ltD m d = true → Rep K B α' (Pl.ren f d) v → Rep K B α d v
  | .non, _, _, h => h
  | .bl _, _, _, h => h
  | .int _, _, _, h => h
  | .str _, _, _, h => h
  | .raw _, _, _, h => h
  | .loc n, v, l, h => by
    have h : Rep K B α' (.loc (f n)) v := h
    unfold Rep at h ⊢
    obtain ⟨a, rfl, h1⟩ := h
    exact ⟨a, rfl, hf n a (of_decide_eq_true l) h1⟩
  | .tup ds, v, l, h => by
    have h : Rep K B α' (.tup (rens f ds)) v := h
    unfold Rep at h ⊢
    obtain ⟨a, vs, rfl, h1, h2⟩ := h
    exact ⟨a, vs, rfl, h1, Reps.unren hf ds vs l h2⟩
  | .lst ds, v, l, h => by
    have h : Rep K B α' (.lst (rens f ds)) v := h
    unfold Rep at h ⊢
    obtain ⟨a, vs, rfl, h1, h2⟩ := h
    exact ⟨a, vs, rfl, h1, Reps.unren hf ds vs l h2⟩
  | .fzl ds, v, l, h => by
    have h : Rep K B α' (.fzl (rens f ds)) v := h
    unfold Rep at h ⊢
    obtain ⟨a, vs, rfl, h1, h2⟩ := h
    exact ⟨a, vs, rfl, h1, Reps.unren hf ds vs l h2⟩
  | .ins C ns ds, v, l, h => by
    have h : Rep K B α' (.ins C ns (rens f ds)) v := h
    unfold Rep at h ⊢
    obtain ⟨a, dx, vs, rfl, h1, h2, h3⟩ := h
    exact ⟨a, dx, vs, rfl, h1, Reps.unren hf ds vs l h2, by rw [rens_length] at h3; exact h3⟩
  | .dic ks ds, v, l, h => by
    have h : Rep K B α' (.dic ks (rens f ds)) v := h
    unfold Rep at h ⊢
    obtain ⟨a, vs, rfl, h1, h2, h3⟩ := h
    exact ⟨a, vs, rfl, h1, Reps.unren hf ds vs l h2, by rw [rens_length] at h3; exact h3⟩
  | .exc C ns ds, v, l, h => by
    have h : Rep K B α' (.exc C ns (rens f ds)) v := h
    unfold Rep at h ⊢
    obtain ⟨a, d, vs, rfl, h1, h2, h3, h4⟩ := h
    exact ⟨a, d, vs, rfl, h1, Reps.unren hf ds vs l h2, by rw [rens_length] at h3; exact h3, h4⟩
theorem Reps.unren {m : Nat} (hf : ∀ (n : Nat) (a : Addr), n < m → α'[f n]? = some a → α[n]? = some a) : ∀ (ds : List D) (vs : List V), ltDs m ds = true → Reps K B α' (rens f ds) vs → Reps K B α ds vs
  | [], _, _, h => h
  | d :: ds, vs, l, h => by
    have l' : (ltD m d && ltDs m ds) = true := l
    rw [Bool.and_eq_true] at l'
    have h : Reps K B α' (Pl.ren f d :: rens f ds) vs := h
    unfold Reps at h
    obtain ⟨v, r, rfl, h1, h2⟩ := h
    exact .cons (Rep.unren hf d v l'.1 h1) (Reps.unren hf ds r l'.2 h2)
end
theorem id_ren : ∀ d : D, Pl.ren (fun n => n) d = d := by
  intro d
  refine D.rec (motive_1 := fun d => Pl.ren (fun n => n) d = d) (motive_2 := fun ds => rens (fun n => n) ds = ds) rfl (fun _ => rfl) (fun _ => rfl) (fun _ => rfl) (fun ds h => ?_) (fun ds h => ?_) (fun ds h => ?_) (fun _ => rfl) (fun _ => rfl) (fun _ _ ds h => ?_) (fun _ ds h => ?_) (fun _ _ ds h => ?_) rfl (fun d ds h1 h2 => ?_) d
  · show D.tup _ = _; rw [h]
  · show D.lst _ = _; rw [h]
  · show D.fzl _ = _; rw [h]
  · show D.ins _ _ _ = _; rw [h]
  · show D.dic _ _ = _; rw [h]
  · show D.exc _ _ _ = _; rw [h]
  · show _ :: _ = _; rw [h1, h2]
theorem ids_ren : ∀ ds : List D, rens (fun n => n) ds = ds
  | [] => rfl
  | d :: ds => by show _ :: _ = _; rw [id_ren, ids_ren ds]
end

/-! ### what is handed -/
/-- the callee's cell j is the caller's -/
def gI (ls : List Nat) (n : Nat) (j : Nat) : Nat := if h : j < ls.length then ls[j] else n + (j - ls.length)
def cellsAt (Λ : Cells) (ls : List Nat) : Cells := ls.map fun n => (Λ[n]?).getD .gone
def setAll (Λ : Cells) : List Nat → Cells → Cells
  | n :: ls, c :: cs => setAll (Λ.set n c) ls cs
  | _, _ => Λ
/-- the caller's cells behind the call -/
def putB (Λ : Cells) (ls : List Nat) (Λ' : Cells) : Cells := setAll Λ ls (Λ'.take ls.length) ++ Λ'.drop ls.length
theorem setAll_length : ∀ {Λ : Cells} {ls : List Nat} {cs : Cells}, (setAll Λ ls cs).length = Λ.length
  | _, [], _ => by unfold setAll; rfl
  | _, _ :: _, [] => by unfold setAll; rfl
  | Λ, n :: ls, c :: cs => by unfold setAll; rw [setAll_length, List.length_set]
theorem setAll_ne {n : Nat} : ∀ {Λ : Cells} {ls : List Nat} {cs : Cells}, n ∉ ls → (setAll Λ ls cs)[n]? = Λ[n]?
  | _, [], _, _ => by unfold setAll; rfl
  | _, _ :: _, [], _ => by unfold setAll; rfl
  | Λ, m :: ls, c :: cs, h => by
    simp only [List.mem_cons, not_or] at h
    unfold setAll; rw [setAll_ne h.2, List.getElem?_set_ne (fun e => h.1 e.symm)]
theorem setAll_at : ∀ {Λ : Cells} {ls : List Nat} {cs : Cells} {j n : Nat}, ls.Nodup → ls.length = cs.length → ls[j]? = some n → n < Λ.length → (setAll Λ ls cs)[n]? = cs[j]?
  | _, [], _, _, _, _, _, h, _ => by simp at h
  | _, _ :: _, [], _, _, _, e, _, _ => by simp at e
  | Λ, m :: ls, c :: cs, 0, n, nd, e, h, hl => by
    simp only [List.getElem?_cons_zero, Option.some.injEq] at h
    subst h
    unfold setAll
    rw [setAll_ne (List.nodup_cons.mp nd).1, List.getElem?_set_self hl]; rfl
  | Λ, m :: ls, c :: cs, j + 1, n, nd, e, h, hl => by
    simp only [List.getElem?_cons_succ] at h
    unfold setAll
    rw [setAll_at (List.nodup_cons.mp nd).2 (by simpa using e) h (by rw [List.length_set]; exact hl)]; rfl
structure Hand (Λ : Cells) (ls : List Nat) : Prop where
  nd : ls.Nodup
  lt : ∀ n ∈ ls, n < Λ.length
  pl : (cellsAt Λ ls).all nlC = true

section
variable {K : PySem.W.Frag} {F : Fm} {B B' : Hp} {α α' : List Addr} {Γ : Env} {Λ Λ' : Cells} {σ : L2.St} {H H' : Hp} {ls : List Nat}
def adsAt (α : List Addr) (ls : List Nat) : List Addr := ls.map fun n => (α[n]?).getD 0
theorem adsAt_get {j n : Nat} (h : ls[j]? = some n) (hn : n < α.length) : (adsAt α ls)[j]? = α[n]? := by
  unfold adsAt
  rw [List.getElem?_map, h]; simp [List.getElem?_eq_getElem hn]
theorem CellAt.nl {a : Addr} {c : Cell} (hp : nlC c = true) (h : CellAt K B α H a c) : CellAt K B α' H a c := by
  cases c with
  | lst ds => obtain ⟨vs, h1, h2⟩ := h; exact ⟨vs, h1, Reps.nl ds vs hp h2⟩
  | dic ks ds => obtain ⟨vs, h1, h2, h3⟩ := h; exact ⟨vs, h1, Reps.nl ds vs hp h2, h3⟩
  | ins C ns ds => obtain ⟨dx, vs, h1, h2, h3⟩ := h; exact ⟨dx, vs, h1, Reps.nl ds vs hp h2, h3⟩
  | gone => trivial
theorem Sat.ltα (S : Sat K F B α Γ Λ σ H) (hh : Hand Λ ls) : ∀ n ∈ ls, n < α.length := fun n hn => by rw [S.al]; exact hh.lt n hn
theorem adsAt_mem (hl : ∀ n ∈ ls, n < α.length) {a : Addr} (h : a ∈ adsAt α ls) : a ∈ α := by
  unfold adsAt at h
  obtain ⟨n, hn, e⟩ := List.mem_map.mp h
  rw [List.getElem?_eq_getElem (hl n hn)] at e
  have e : α[n]'(hl n hn) = a := e
  rw [← e]; exact List.getElem_mem _
theorem adsAt_nodup (nd : ls.Nodup) (nα : α.Nodup) (hl : ∀ n ∈ ls, n < α.length) : (adsAt α ls).Nodup := by
  unfold List.Nodup
  rw [List.pairwise_iff_getElem]
  intro i j hi hj hij e
  have hj' : j < ls.length := by unfold adsAt at hj; simpa using hj
  have hi' : i < ls.length := by omega
  have e1 : (adsAt α ls)[i]? = (adsAt α ls)[j]? := by rw [List.getElem?_eq_getElem hi, List.getElem?_eq_getElem hj, e]
  rw [adsAt_get (List.getElem?_eq_getElem hi') (hl _ (List.getElem_mem _)), adsAt_get (List.getElem?_eq_getElem hj') (hl _ (List.getElem_mem _))] at e1
  have e2 := (List.getElem?_inj (hl _ (List.getElem_mem hi')) nα).mp e1
  have e3 := (List.getElem_inj nd).mp e2
  omega
/-- the callee's entry -/
theorem Sat.enterC (S : Sat K F B α Γ Λ σ H) (hh : Hand Λ ls) : Sat K ⟨H, B, adsAt α ls⟩ B (adsAt α ls) [] (cellsAt Λ ls) [] H := by
  have hl := S.ltα hh
  refine ⟨Ex.refl B, S.bh, fun a o h => .inl h, fun a o h _ => h, fun a h => h, List.prefix_refl _, adsAt_nodup hh.nd S.nd hl, by simp [adsAt, cellsAt], fun j c h hg => ?_, fun a ha => ⟨(S.ah a (adsAt_mem hl ha)).1, .inr ha⟩, fun i d h => by simp at h, rfl⟩
  have hj : j < ls.length := by have := (List.getElem?_eq_some_iff.mp h).1; unfold cellsAt at this; simpa using this
  have hn := hl _ (List.getElem_mem hj)
  have hn' : ls[j] < Λ.length := by rw [← S.al]; exact hn
  have hc : Λ[ls[j]]? = some c := by
    unfold cellsAt at h
    rw [List.getElem?_map, List.getElem?_eq_getElem hj] at h
    simp only [Option.map_some, Option.some.injEq] at h
    rw [List.getElem?_eq_getElem hn'] at h ⊢
    exact congrArg some h
  have hp : nlC c = true := List.all_eq_true.mp hh.pl c (List.mem_of_getElem? h)
  obtain ⟨a, h1, h2, h3, h4⟩ := S.ce _ c hc hg
  have h5 : (adsAt α ls)[j]? = some a := by rw [adsAt_get (List.getElem?_eq_getElem hj) hn]; exact h1
  exact ⟨a, h5, h2, .inr (List.mem_of_getElem? h5), h4.nl hp⟩
/-- the addresses of the caller's cells behind the call -/
def adsB (α : List Addr) (ls : List Nat) (α' : List Addr) : List Addr := α ++ α'.drop ls.length
theorem Sat.backC (S : Sat K F B α Γ Λ σ H) (hh : Hand Λ ls) (T : Sat K ⟨H, B, adsAt α ls⟩ B' α' [] Λ' [] H') (hp : Λ'.all nlC = true) : Sat K F B' (adsB α ls α') Γ (putB Λ ls Λ') σ H' := by
  have hl := S.ltα hh
  obtain ⟨nw, hα'⟩ := T.pf
  have hla : (adsAt α ls).length = ls.length := by simp [adsAt]
  have hd : α'.drop ls.length = nw := by rw [← hα']; show (adsAt α ls ++ nw).drop _ = _; rw [List.drop_append, hla]; simp [List.drop_eq_nil_of_le, hla]
  have hα'' : α' = adsAt α ls ++ nw := hα'.symm
  have hlen : ls.length ≤ Λ'.length := by rw [← T.al, hα'']; simp [hla]
  have nwH : ∀ a ∈ nw, H a = none := fun a ha => by
    rcases (T.ah a (by rw [hα'']; exact List.mem_append_right _ ha)).2 with z | z
    · exact z
    · have nd := T.nd
      rw [hα'', List.nodup_append] at nd
      exact absurd rfl (nd.2.2 a z a ha)
  have hB : ∀ a, H a ≠ none → B a = none → B' a = none := fun a h1 h2 => by
    cases q : B' a with
    | none => rfl
    | some o =>
      rcases T.fr a o q with z | z
      · have : B a = some o := z
        rw [h2] at this; cases this
      · exact absurd z h1
  unfold adsB
  rw [hd]
  refine ⟨S.bb.trans T.bb, T.bh, fun a o h => ?_, fun a o h ha => T.kp a o (S.kp a o h ha) (fun hm => ?_), fun a h => S.dm a (T.dm a h), S.pf.trans (List.prefix_append _ _), ?_, ?_, fun n c h hg => ?_, fun a ha => ?_, fun i d h => ?_, S.ln⟩
  · rcases T.fr a o h with z | z
    · exact S.fr a o z
    · exact .inr (S.dm a z)
  · rcases (S.ah a (adsAt_mem hl hm)).2 with z | z
    · rw [h] at z; cases z
    · exact ha z
  · rw [List.nodup_append]
    refine ⟨S.nd, ?_, fun a ha b hb e => ?_⟩
    · have nd := T.nd
      rw [hα'', List.nodup_append] at nd
      exact nd.2.1
    · subst e; exact (S.ah a ha).1 (nwH a hb)
  · unfold putB
    rw [List.length_append, List.length_append, setAll_length, List.length_drop, S.al, ← T.al, hα'', List.length_append, hla]; omega
  · unfold putB at h
    by_cases hn : n < Λ.length
    · rw [List.getElem?_append_left (by rw [setAll_length]; exact hn)] at h
      by_cases hm : n ∈ ls
      · obtain ⟨j, hj, ej⟩ := List.getElem_of_mem hm
        have ej' : ls[j]? = some n := by rw [List.getElem?_eq_getElem hj, ej]
        rw [setAll_at hh.nd (by rw [List.length_take]; omega) ej' hn] at h
        have h' : Λ'[j]? = some c := by rw [List.getElem?_take] at h; rw [if_pos hj] at h; exact h
        have pc : nlC c = true := List.all_eq_true.mp hp c (List.mem_of_getElem? h')
        obtain ⟨a, h1, h2, h3, h4⟩ := T.ce j c h' hg
        rw [hα'', List.getElem?_append_left (by rw [hla]; exact hj), adsAt_get ej' (hl n hm)] at h1
        exact ⟨a, pre_get (List.prefix_append _ _) h1, h2, (S.ah a (List.mem_of_getElem? h1)).2, h4.nl pc⟩
      · rw [setAll_ne hm] at h
        obtain ⟨a, h1, h2, h3, h4⟩ := S.ce n c h hg
        have hna : a ∉ adsAt α ls := fun q => by
          unfold adsAt at q
          obtain ⟨m, hm', e⟩ := List.mem_map.mp q
          rw [List.getElem?_eq_getElem (hl m hm')] at e
          have e : α[m]'(hl m hm') = a := e
          have hna' : n < α.length := by rw [S.al]; exact hn
          have : α[n]'hna' = a := by rw [List.getElem?_eq_getElem hna'] at h1; exact Option.some.inj h1
          have := (List.getElem_inj S.nd).mp (e.trans this.symm)
          subst this; exact hm hm'
        exact ⟨a, pre_get (List.prefix_append _ _) h1, hB a (S.ah a (List.mem_of_getElem? h1)).1 h2, h3, h4.mono T.bb (List.prefix_append _ _) fun o q => T.kp a o q hna⟩
    · rw [List.getElem?_append_right (by rw [setAll_length]; omega), setAll_length, List.getElem?_drop] at h
      have pc : nlC c = true := List.all_eq_true.mp hp c (List.mem_of_getElem? h)
      obtain ⟨a, h1, h2, h3, h4⟩ := T.ce _ c h hg
      rw [hα'', List.getElem?_append_right (by rw [hla]; omega), hla, show ls.length + (n - Λ.length) - ls.length = n - Λ.length by omega] at h1
      have ha := nwH a (List.mem_of_getElem? h1)
      refine ⟨a, ?_, h2, .inl (S.dm a ha), h4.nl pc⟩
      rw [List.getElem?_append_right (by rw [S.al]; omega), S.al]; exact h1
  · rcases List.mem_append.mp ha with z | z
    · exact ⟨fun q => (S.ah a z).1 (T.dm a q), (S.ah a z).2⟩
    · exact ⟨(T.ah a (by rw [hα'']; exact List.mem_append_right _ z)).1, .inl (S.dm a (nwH a z))⟩
  · obtain ⟨v, h1, h2⟩ := S.sl i d h
    exact ⟨v, h1, h2.mono T.bb (List.prefix_append _ _)⟩
/-- the callee's numbers, told by the caller -/
theorem backI (S : Sat K F B α Γ Λ σ H) (hh : Hand Λ ls) (T : Sat K ⟨H, B, adsAt α ls⟩ B' α' [] Λ' [] H') (n : Nat) (a : Addr) (h : α'[n]? = some a) : (adsB α ls α')[gI ls Λ.length n]? = some a := by
  have hl := S.ltα hh
  obtain ⟨nw, hα'⟩ := T.pf
  have hla : (adsAt α ls).length = ls.length := by simp [adsAt]
  have hα'' : α' = adsAt α ls ++ nw := hα'.symm
  unfold gI adsB
  by_cases hn : n < ls.length
  · rw [dif_pos hn]
    rw [hα'', List.getElem?_append_left (by rw [hla]; exact hn), adsAt_get (List.getElem?_eq_getElem hn) (hl _ (List.getElem_mem _))] at h
    exact pre_get (List.prefix_append _ _) h
  · rw [dif_neg hn, List.getElem?_append_right (by rw [S.al]; omega), S.al, List.getElem?_drop]
    rw [show ls.length + (Λ.length + (n - ls.length) - Λ.length) = n by omega]; exact h
theorem enterI (S : Sat K F B α Γ Λ σ H) (hh : Hand Λ ls) (n : Nat) (a : Addr) (hn : n < ls.length) (h : α[gI ls Λ.length n]? = some a) : (adsAt α ls)[n]? = some a := by
  unfold gI at h
  rw [dif_pos hn] at h
  rw [adsAt_get (List.getElem?_eq_getElem hn) (S.ltα hh _ (List.getElem_mem _))]; exact h
end
mutual
theorem ltD_of {K : PySem.W.Frag} {B : Hp} {α : List Addr} : ∀ {d : D} {v : V}, Rep K B α d v → ltD α.length d = true
  | .non, _, _ => rfl
  | .bl _, _, _ => rfl
  | .int _, _, _ => rfl
  | .str _, _, _ => rfl
  | .raw _, _, _ => rfl
  | .loc n, v, h => by
    unfold Rep at h
    obtain ⟨a, _, h1⟩ := h
    exact decide_eq_true (List.getElem?_eq_some_iff.mp h1).1
  | .tup ds, v, h => by
    unfold Rep at h
    obtain ⟨a, vs, _, _, h2⟩ := h
    exact ltDs_of (ds := ds) h2
  | .lst ds, v, h => by
    unfold Rep at h
    obtain ⟨a, vs, _, _, h2⟩ := h
    exact ltDs_of (ds := ds) h2
  | .fzl ds, v, h => by
    unfold Rep at h
    obtain ⟨a, vs, _, _, h2⟩ := h
    exact ltDs_of (ds := ds) h2
  | .ins C ns ds, v, h => by
    unfold Rep at h
    obtain ⟨a, dx, vs, _, _, h2, _⟩ := h
    exact ltDs_of (ds := ds) h2
  | .dic ks ds, v, h => by
    unfold Rep at h
    obtain ⟨a, vs, _, _, h2, _⟩ := h
    exact ltDs_of (ds := ds) h2
  | .exc C ns ds, v, h => by
    unfold Rep at h
    obtain ⟨a, d, vs, _, _, h2, _⟩ := h
    exact ltDs_of (ds := ds) h2
theorem ltDs_of {K : PySem.W.Frag} {B : Hp} {α : List Addr} : ∀ {ds : List D} {vs : List V}, Reps K B α ds vs → ltDs α.length ds = true
  | [], _, _ => rfl
  | d :: ds, vs, h => by
    unfold Reps at h
    obtain ⟨v, r, rfl, h1, h2⟩ := h
    show (ltD _ d && ltDs _ ds) = true
    rw [ltD_of h1, ltDs_of h2]; rfl
end
section
variable {C : Ctx} {E : ER} {Γ : Env} {Λ : Cells} {pos p : Pos}
/-- what the callee wants of the caller -/
theorem call_spC {F : Fm} {W : WX} {B : Hp} {α : List Addr} {σ : L2.St} {H : Hp} {ds ds' : List D} {vs : List V} {n : Nat} {S : Spec} {Q : VK} {Pr : Res → Cells → Prop} {E' : ER} {ls : List Nat} (T : Sat C.K F B α Γ Λ σ H) (r : Reps C.K B α ds vs) (hh : Hand Λ ls)
    (he : ds = rens (gI ls Λ.length) ds') (hlt : ltDs ls.length ds' = true) (hl : ds'.length = n)
    (h : S ds' (cellsAt Λ ls) (fun r Λ' => Λ'.all nlC = true ∧ Pr r (putB Λ ls Λ')) fun err Λ' => Λ'.all nlC = true ∧ nlE err = true ∧ E' err Γ (putB Λ ls Λ'))
    (mono : ∀ Q Q' E E', S ds' (cellsAt Λ ls) Q E → (∀ r Λ', Q r Λ' → Q' r Λ') → (∀ e Λ', E e Λ' → E' e Λ') → S ds' (cellsAt Λ ls) Q' E')
    (er : ErOk C.K F W B σ Γ E')
    (q : ∀ r v Λ' B' α' α'' H', Pr r Λ' → Sat C.K F B' α' Γ Λ' σ H' → Ex B B' → α <+: α' → ResAt C.K ⟨H, B, adsAt α ls⟩ B' α'' H' v r → (∀ (n : Nat) (a : Addr), α''[n]? = some a → α'[gI ls Λ.length n]? = some a) → (∀ a ∈ α', a ∈ α'' ∨ H a ≠ none) → Q v H') : spOf C.K n S (vs ++ []) H Q fun c dx H' => W c dx σ H' := by
  refine ⟨⟨H, B, adsAt α ls⟩, ds', cellsAt Λ ls, by rw [List.append_nil, r.length, he, rens_length, hl], rfl, T.enterC hh, ?_, mono _ _ _ _ h (fun r Λ' p v H' B' α' T' ra => ?_) fun err Λ' p B' α' H' c dx T' ea => ?_⟩
  · rw [List.append_nil]; rw [he] at r
    exact Reps.unren (fun n a hn h => enterI T hh n a hn h) ds' vs hlt r
  · obtain ⟨p1, p2⟩ := p
    refine q r v _ B' _ α' H' p2 (T.backC hh T' p1) T'.bb (List.prefix_append _ _) ra (backI T hh T') fun a ha => ?_
    rcases List.mem_append.mp ha with z | z
    · exact .inr (T.ah a z).1
    · exact .inl (List.mem_of_mem_drop z)
  · obtain ⟨p1, p2, p3⟩ := p
    refine er err _ B' _ H' c dx p3 (T.backC hh T' p1) T'.bb ?_
    obtain ⟨e1, e2⟩ := ea
    refine ⟨e1, ?_⟩
    unfold nlE at p2
    cases hf : err.fs with
    | none => rw [hf] at e2; exact e2
    | some z =>
      obtain ⟨ns, es⟩ := z
      rw [hf] at e2 p2
      obtain ⟨a, vs, q1, q2, q3, q4, q5⟩ := e2
      exact ⟨a, vs, q1, q2, Reps.nl es vs p2 q3, q4, fun z => have h : H a = none := (q5 z).1; ⟨T.dm a h, fun hm => (List.mem_append.mp hm).elim (fun y => (T.ah a y).1 h) fun y => (q5 z).2 (List.mem_of_mem_drop y)⟩⟩
/-- how a call with cells is told: the cells handed, the callee's arguments -/
def CallC (n : Nat) (S : Spec) (E : ER) (Γ : Env) (Λ1 : Cells) (ds : List D) (Pr : Res → Cells → Prop) : Prop :=
  ∃ ls ds', Hand Λ1 ls ∧ ds = rens (gI ls Λ1.length) ds' ∧ ltDs ls.length ds' = true ∧ ds'.length = n ∧ S ds' (cellsAt Λ1 ls) (fun r Λ' => Λ'.all nlC = true ∧ (match r with | .val d => Pr (.val (ren (gI ls Λ1.length) d)) (putB Λ1 ls Λ') | .new ds => nls ds = true ∧ Pr (.new ds) (putB Λ1 ls Λ')))
    fun err Λ' => Λ'.all nlC = true ∧ nlE err = true ∧ E err Γ (putB Λ1 ls Λ')
theorem callC {k n : Nat} {x : Str} {S : Spec} {es : List Expr} {e : Expr} {Pr : Res → Cells → Prop} (G : C.fn k x n S) (hk : k ≤ C.k) (hj : GlAt C x) (m : Mono S)
    (h : WA C E Γ Λ (e :: es) fun ds Λ1 => CallC n S E Γ Λ1 ds Pr)
    (he : plainE e = true) (hes : es.all plainE = true) (hdb : (x == ("__debug__" : Str)) = false) : ∀ X F W, C.Is X → Takes X W → PE X (.Call (.Name x p) (e :: es) [] pos) fun σ H Q => ∃ B α, Sat C.K F B α Γ Λ σ H ∧
      (∀ r v Λ' B' α' H', Pr r Λ' → Sat C.K F B' α' Γ Λ' σ H' → Ex B B' → α <+: α' → (match r with | .val d => Rep C.K B' α' d v | .new ds => ∃ p vs, v = .ref p ∧ H' p = some (.lst vs) ∧ B' p = none ∧ F.H0 p = none ∧ p ∉ α' ∧ Reps C.K B' α' ds vs) → Q v H') ∧ ErOk C.K F W B σ Γ E := fun X F W is tk => by
  obtain ⟨f, fd, ps, h1, h2, h3, h4, h5⟩ := G.ex
  have e1 := is.prog; have e2 := is.w; have e3 := is.K; have e4 := is.mg; have e5 := is.base
  refine pe_imp (pe_callSD (E := fun σ c dx H' => W c dx σ H') (dvs := []) (ds := []) (by rw [e1, e2, e3, e4, e5]; exact h1) (is.room.mono hk) (is.gl hj) (by rw [e4]; exact h2) (by rw [e3]; exact h3) (by rw [e3]; exact h4) .nil
    (fun σ => by rw [← e1, ← e2]; exact passAt tk σ) pa_U hdb (star_plain he) (back_plain hes)) fun σ H Q ⟨B, α, T, q, er⟩ => ?_
  refine WA.use h is tk T er fun ds Λ1 vs B1 α1 H1 p1 T1 x1 f1 r1 => ?_
  obtain ⟨ls, ds', hh, he', hlt, hl, s1⟩ := p1
  refine call_spC (Pr := fun r Λ' => match r with | .val d => Pr (.val (ren (gI ls Λ1.length) d)) Λ' | .new ds => nls ds = true ∧ Pr (.new ds) Λ') T1 r1 hh he' hlt hl (m _ _ _ _ _ _ s1 (fun r Λ' p => ?_) fun e Λ' p => p) (m _ _) (er.mono x1) fun r v Λ' B' α' α'' H' p' T' x' f' ra gi gn => ?_
  · refine ⟨p.1, ?_⟩
    have p2 := p.2
    cases r with
    | val d => exact p2
    | new ds => exact p2
  · cases r with
    | val d =>
      refine q (.val (ren (gI ls Λ1.length) d)) v Λ' B' α' H' p' T' (x1.trans x') (f1.trans f') ?_
      exact Rep.ren (m := α''.length) (fun n a _ hn => gi n a hn) d v (ltD_of ra) ra
    | new ds =>
      obtain ⟨pa, ws, rfl, q1, q2, q3, q4, q5⟩ := ra
      have q3 : H1 pa = none := q3
      refine q (.new ds) _ Λ' B' α' H' p'.2 T' (x1.trans x') (f1.trans f') ⟨pa, ws, rfl, q1, q2, T1.dm pa q3, fun hm => ?_, Reps.nl ds ws p'.1 q5⟩
      rcases gn pa hm with z | z
      · exact q4 z
      · exact z q3
/-- f(e, ..) with cells: a value -/
theorem we_callc {k n : Nat} {x : Str} {S : Spec} {e : Expr} {es : List Expr} {P : D → Cells → Prop} (G : C.fn k x n S) (hk : k ≤ C.k) (hj : GlAt C x) (m : Mono S)
    (h : WA C E Γ Λ (e :: es) fun ds Λ1 => CallC n S E Γ Λ1 ds fun r Λ' => ∃ d, r = .val d ∧ P d Λ')
    (he : plainE e = true := by rfl) (hes : es.all plainE = true := by rfl) (hdb : (x == ("__debug__" : Str)) = false := by decide) : WE C E Γ Λ (.Call (.Name x p) (e :: es) [] pos) P := fun X F W is tk =>
  pe_imp (callC G hk hj m h he hes hdb X F W is tk) fun σ H Q ⟨B, α, T, q, er⟩ => ⟨B, α, T, fun r v Λ' B' α' H' ⟨d, hr, p⟩ T' x f ra => by subst hr; exact q d Λ' v B' α' H' p T' x f ra, er⟩
/-- .. a new list -/
theorem wn_callc {k n : Nat} {x : Str} {S : Spec} {e : Expr} {es : List Expr} {P : List D → Cells → Prop} (G : C.fn k x n S) (hk : k ≤ C.k) (hj : GlAt C x) (m : Mono S)
    (h : WA C E Γ Λ (e :: es) fun ds Λ1 => CallC n S E Γ Λ1 ds fun r Λ' => ∃ ds', r = .new ds' ∧ P ds' Λ')
    (he : plainE e = true := by rfl) (hes : es.all plainE = true := by rfl) (hdb : (x == ("__debug__" : Str)) = false := by decide) : WN C E Γ Λ (.Call (.Name x p) (e :: es) [] pos) P := fun X F W is tk =>
  pe_imp (callC G hk hj m h he hes hdb X F W is tk) fun σ H Q ⟨B, α, T, q, er⟩ => ⟨B, α, T, fun r v Λ' B' α' H' ⟨ds', hr, p⟩ T' x f ra => by
    subst hr
    obtain ⟨pa, vs, rfl, h1, h2, h3, h4, h5⟩ := ra
    exact q ds' Λ' pa vs B' α' H' p T' x f h1 h2 h3 h4 h5, er⟩
end

/-! ### a def that hands back new cells -/
/-- what a def's body is to reach: m cells are left, the rest is thrown away -/
def rtY (Λ0 : Cells) (Q : Res → Cells → Prop) (r : Res) (Λ' : Cells) : Prop := ∃ m, Λ0.length ≤ m ∧ (Λ'.take m).all nlC = true ∧ ((match r with | .val d => ltD m d = true | .new ds => nls ds = true) ∧ Q r (Λ'.take m) ∨ (∃ n ds, m ≤ n ∧ r = .val (.loc n) ∧ Λ'[n]? = some (.lst ds) ∧ nls ds = true ∧ Q (.new ds) (Λ'.take m)) ∨ ∃ n ks ds, m ≤ n ∧ r = .val (.loc n) ∧ Λ'[n]? = some (.dic ks ds) ∧ nls ds = true ∧ Q (.val (.dic ks ds)) (Λ'.take m))
end Pl
namespace Pl
open PySem L2 PyProof.Rows
theorem reps_take {K : PySem.W.Frag} {B : Hp} {α : List Addr} {m : Nat} {d : D} {v : V} (h : ltD m d = true) (r : Rep K B α d v) : Rep K B (α.take m) d v := by
  have := Rep.ren (α' := α.take m) (f := fun n => n) (m := m) (fun n a hn e => by rw [List.getElem?_take, if_pos hn]; exact e) d v h r
  rw [id_ren] at this; exact this
/-- THE RULE, with cells: a def of the module keeps its promise, by its body -/
theorem fn_okC {P : Program} {w : World} {K : PySem.W.Frag} {mg : Str → Option Value} {base : Heap} {x qual : Str} {st : Stmt} {f : Addr} {fd : FuncData} {N ps : List Str} {k : Nat} {S : Spec} (F : Fun K x qual st f fd) (sc : FnScope N ps (defScope st)) (C : Ctx)
    (hC : C.P = P ∧ C.w = w ∧ C.K = K ∧ C.mg = mg ∧ C.base = base ∧ C.N = N ∧ C.sc = defScope st ∧ C.k = k) (good : C.Good) (hm : ∀ ds Λ Q E, S ds Λ Q E → Λ.length ≤ C.m)
    (hb : ∀ ds Λ Q E, ds.length = ps.length → S ds Λ Q E → WSs C (Γ0 N ds) Λ (defBody st) ⟨fun _ Λ' => rtY Λ Q (.val .non) Λ', rtY Λ Q, fun _ _ => False, fun _ _ => False, erX Λ E⟩) : FnOk P w K mg base (L2.CX P w) (k + 1) f fd ps (spOf K ps.length S) := by
  obtain ⟨rfl, rfl, rfl, rfl, rfl, rfl, hsc, rfl⟩ := hC
  refine F.okX sc (fun vs H Q E h => by obtain ⟨_, _, _, h, _⟩ := h; exact h) fun cdv A outer s H vs Q E hr h => ?_
  obtain ⟨Fm', ds, Λ, hl, hH, T, r, sp⟩ := h
  have hds : ds.length = ps.length := by rw [← r.length]; exact hl
  have hN : ps.length ≤ C.N.length := by have := congrArg List.length sc.pre; rw [List.length_take] at this; omega
  let X := cxOf (L2.CX C.P C.w) C.P C.w C.K C.mg C.base C.N qual (defScope st) f cdv A outer s H E
  have is : C.Is X := ⟨rfl, rfl, rfl, rfl, rfl, rfl, hsc.symm, rfl, hr, fun _ _ _ _ => .inl rfl, good, passes_of rfl, fun _ => ⟨rfl, rfl, rfl⟩⟩
  have tk : Takes X (fun c d _ H => E c d H) := takes_of rfl rfl rfl rfl
  have T' : Sat C.K Fm' Fm'.B0 Fm'.α0 (Γ0 C.N ds) Λ (L2.start C.N vs) H := by
    refine T.env ?_ fun i d hi => ?_
    · unfold Γ0 L2.start
      simp only [List.length_append, List.length_map, List.length_replicate]
      omega
    · unfold Γ0 at hi
      by_cases hlt : i < ds.length
      · rw [List.getElem?_append_left (by simpa using hlt), List.getElem?_map] at hi
        cases q : ds[i]? with
        | none => rw [q] at hi; cases hi
        | some e =>
          rw [q] at hi
          cases hi
          obtain ⟨v, h1, h2⟩ := r.get q
          refine ⟨v, ?_, h2⟩
          unfold L2.start
          rw [List.getElem?_append_left (by have := (List.getElem?_eq_some_iff.mp h1).1; simpa using this), List.getElem?_map, h1]
          rfl
      · rw [List.getElem?_append_right (by simpa using hlt), List.getElem?_replicate] at hi
        split at hi <;> cases hi
  have hlen : Fm'.α0.length = Λ.length := T.al
  have cut : ∀ {m : Nat} {Γ' : Env} {Λ' : Cells} {B' : Hp} {α' : List Addr} {σ' : L2.St} {H' : Hp}, Λ.length ≤ m → Sat C.K Fm' B' α' Γ' Λ' σ' H' → (Λ'.take m).all nlC = true → Sat C.K Fm' B' (α'.take m) [] (Λ'.take m) [] H' := fun hm S' h =>
    S'.cut (by omega) (all_nlC h) rfl fun i d h => by simp at h
  refine ⟨_, hb ds Λ _ _ hds sp X Fm' _ is (by rw [T.al]; exact hm _ _ _ _ sp) tk, Fm'.B0, Fm'.α0, T', ⟨fun Γ' Λ' B' α' σ' H' h S' e => ?_, fun r Λ' v Γ' B' α' σ' H' h S' e ra => ?_, fun Γ' Λ' B' α' σ' H' h => h.elim, fun Γ' Λ' B' α' σ' H' h => h.elim, fun err Γ' Λ' B' α' σ' H' c dx h S' e ea => ?_⟩⟩
  · obtain ⟨m, hm1, h2, ⟨h1, h3⟩ | ⟨n, ds, _, e, _⟩ | ⟨n, ks, ds, _, e, _⟩⟩ := h
    · exact h3 .non H' B' _ (cut hm1 S' h2) (by unfold ResAt Rep; rfl)
    · cases e
    · cases e
  · have far : ∀ {m n : Nat} {a : Addr}, m ≤ n → α'[n]? = some a → a ∉ α'.take m := fun {m n a} hk ha hm => by
      have hna : n < α'.length := (List.getElem?_eq_some_iff.mp ha).1
      obtain ⟨j, hj, ej⟩ := List.getElem_of_mem hm
      rw [List.getElem_take] at ej
      rw [List.length_take] at hj
      have e1 : α'[j]? = some a := by rw [List.getElem?_eq_getElem (by omega), ej]
      have := (List.getElem?_inj (by omega) S'.nd).mp (e1.trans ha.symm)
      omega
    have fresh : ∀ {m n : Nat} {a : Addr}, Λ.length ≤ m → m ≤ n → α'[n]? = some a → (Fm'.H0 a = none ∨ a ∈ Fm'.α0) → Fm'.H0 a = none := fun {m n a} hm1 hn ha q3 => by
      rcases q3 with z | z
      · exact z
      · exfalso
        obtain ⟨t, ht⟩ := S'.pf
        apply far (m := Fm'.α0.length) (by omega) ha
        rw [← ht, List.take_append_of_le_length (Nat.le_refl _), List.take_length]
        exact z
    obtain ⟨m, hm1, h2, ⟨h1, h3⟩ | ⟨n, ds, hn, e, hc, hds, h3⟩ | ⟨n, ks, ds, hn, e, hc, hds, h3⟩⟩ := h
    · refine h3 v H' B' _ (cut hm1 S' h2) ?_
      cases r with
      | val d => exact reps_take h1 ra
      | new ds =>
        obtain ⟨p, vs, q1, q2, q3, q4, q5, q6⟩ := ra
        exact ⟨p, vs, q1, q2, q3, q4, fun hm => q5 (List.mem_of_mem_take hm), Reps.nl ds vs h1 q6⟩
    · subst e
      refine h3 v H' B' _ (cut hm1 S' h2) ?_
      unfold ResAt Rep at ra
      obtain ⟨a, rfl, ha⟩ := ra
      obtain ⟨a', q1, q2, q3, vs, q4, q5⟩ := S'.ce n _ hc (by simp)
      rw [ha] at q1; cases q1
      exact ⟨a, vs, rfl, q4, q2, fresh hm1 hn ha q3, far hn ha, Reps.nl ds vs hds q5⟩
    · subst e
      unfold ResAt Rep at ra
      obtain ⟨a, rfl, ha⟩ := ra
      obtain ⟨a', q1, q2, q3, vs, q4, q5, q6⟩ := S'.ce n _ hc (by simp)
      rw [ha] at q1; cases q1
      have S2 := (cut hm1 S' h2).see q4 q2 (fresh hm1 hn ha q3) (far hn ha)
      refine h3 (.ref a) H' _ _ S2 ?_
      have hx : Ex B' (upd B' a (.dK (ks.zip vs))) := Ex.new q2
      show Rep _ _ _ (.dic ks ds) _
      unfold Rep
      exact ⟨a, vs, rfl, .inl upd_same, (Reps.nl ds vs hds q5).mono hx (List.prefix_refl _), q6⟩
  · obtain ⟨h1, h2, h3⟩ := h
    refine h3 B' _ H' c dx (cut (Nat.le_refl _) S' h2) ?_
    obtain ⟨e1, e2⟩ := ea
    refine ⟨e1, ?_⟩
    unfold nlE at h1
    cases hf : err.fs with
    | none => rw [hf] at e2; exact e2
    | some z =>
      obtain ⟨ns, ds⟩ := z
      rw [hf] at e2 h1
      obtain ⟨a, vs, q1, q2, q3, q4, q5⟩ := e2
      exact ⟨a, vs, q1, q2, Reps.nl ds vs h1 q3, q4, fun z => ⟨(q5 z).1, fun hm => (q5 z).2 (List.mem_of_mem_take hm)⟩⟩
theorem def_okC {G : Gl} {x : Str} {st : Stmt} {ps : List Str} {qn : Str} (h : DefAt G.K G.mg x st ps qn) {N : List Str} {vs ls : List Bool} {gl : List Str} {k m : Nat} {S : Spec} (sc : FnScope N ps (defScope st)) (good : goodC N (defScope st) vs ls gl = true)
    (hm : ∀ ds Λ Q E, S ds Λ Q E → Λ.length ≤ m)
    (hb : ∀ ds Λ Q E, ds.length = ps.length → S ds Λ Q E → WSs (G.cx N (defScope st) vs ls gl k m) (Γ0 N ds) Λ (defBody st) ⟨fun _ Λ' => rtY Λ Q (.val .non) Λ', rtY Λ Q, fun _ _ => False, fun _ _ => False, erX Λ E⟩) : G.fn (k + 1) x ps.length S :=
  h.fn fun f fd F => fn_okC F sc (G.cx N (defScope st) vs ls gl k m) ⟨rfl, rfl, rfl, rfl, rfl, rfl, rfl, rfl⟩ (good_by good) hm hb
end Pl

/-! Pl12: the promises of defs in one form, and more steps of data -/
namespace Pl
open PySem L2 PyProof.Rows
/-- a pure def: arguments A b where ok b; it hands back some r of R b -/
def dS {β : Type} (A : β → List D) (ok : β → Prop) (R : β → Res → Prop) : Spec := fun ds Λ Q _ => ∃ b, ds = A b ∧ Λ = [] ∧ ok b ∧ ∀ r, R b r → Q r []
theorem dS_mono {β : Type} {A : β → List D} {ok : β → Prop} {R : β → Res → Prop} : Mono (dS A ok R) := fun ds Λ Q Q' E E' ⟨b, h1, h2, h3, h4⟩ i _ => ⟨b, h1, h2, h3, fun r hr => i _ _ (h4 r hr)⟩
theorem dS_len {β : Type} {A : β → List D} {ok : β → Prop} {R : β → Res → Prop} (ds : List D) (Λ : Cells) (Q : Res → Cells → Prop) (E : Err → Cells → Prop) (h : dS A ok R ds Λ Q E) : Λ.length ≤ 0 := by
  obtain ⟨b, _, rfl, _⟩ := h; exact Nat.le_refl _
section
variable {C : Ctx} {E : ER} {Γ : Env} {Λ : Cells} {pos p : Pos} {β : Type} {A : β → List D} {ok : β → Prop} {R : β → Res → Prop}
theorem we_callD {k n : Nat} {x : Str} {e : Expr} {es : List Expr} {P : D → Cells → Prop} (G : C.fn k x n (dS A ok R)) (hk : k ≤ C.k) (hj : GlAt C x)
    (h : WA C E Γ Λ (e :: es) fun ds Λ1 => ∃ b, ds = A b ∧ nls ds = true ∧ ds.length = n ∧ ok b ∧ ∀ r, R b r → ∃ d, r = .val d ∧ P d Λ1)
    (he : plainE e = true := by rfl) (hes : es.all plainE = true := by rfl) (hdb : (x == ("__debug__" : Str)) = false := by decide) : WE C E Γ Λ (.Call (.Name x p) (e :: es) [] pos) P :=
  we_call G hk hj dS_mono (wa_mono h fun ds Λ1 ⟨b, h1, h2, h3, h4, h5⟩ => ⟨h2, h3, b, h1, rfl, h4, fun r hr => ⟨rfl, h5 r hr⟩⟩) he hes hdb
theorem wn_callD {k n : Nat} {x : Str} {e : Expr} {es : List Expr} {P : List D → Cells → Prop} (G : C.fn k x n (dS A ok R)) (hk : k ≤ C.k) (hj : GlAt C x)
    (h : WA C E Γ Λ (e :: es) fun ds Λ1 => ∃ b, ds = A b ∧ nls ds = true ∧ ds.length = n ∧ ok b ∧ ∀ r, R b r → ∃ d, r = .new d ∧ P d Λ1)
    (he : plainE e = true := by rfl) (hes : es.all plainE = true := by rfl) (hdb : (x == ("__debug__" : Str)) = false := by decide) : WN C E Γ Λ (.Call (.Name x p) (e :: es) [] pos) P :=
  wn_call G hk hj dS_mono (wa_mono h fun ds Λ1 ⟨b, h1, h2, h3, h4, h5⟩ => ⟨h2, h3, b, h1, rfl, h4, fun r hr => ⟨rfl, h5 r hr⟩⟩) he hes hdb
end
/-- a def that keeps such a promise, by its body -/
theorem def_okD {G : Gl} {x : Str} {st : Stmt} {ps : List Str} {qn : Str} (h : DefAt G.K G.mg x st ps qn) {N : List Str} {vs ls : List Bool} {gl : List Str} {k : Nat} {β : Type} {A : β → List D} {ok : β → Prop} {R : β → Res → Prop} (sc : FnScope N ps (defScope st)) (good : goodC N (defScope st) vs ls gl = true)
    (hb : ∀ b, ok b → ∀ E : ER, WSs (G.cx N (defScope st) vs ls gl k 0) (Γ0 N (A b)) [] (defBody st) ⟨fun _ _ => R b (.val .non), fun r _ => nlR r = true ∧ R b r, fun _ _ => False, fun _ _ => False, E⟩) : G.fn (k + 1) x ps.length (dS A ok R) :=
  def_ok h sc good dS_len fun ds Λ Q E hl ⟨b, h1, h2, h3, h4⟩ => by
    subst h1; subst h2
    refine wss_mono (hb b h3 (erX [] E)) ⟨fun Γ Λ p => ?_, fun r Λ p => ?_, fun _ _ z => z, fun _ _ z => z, fun _ _ _ z => z⟩
    · exact ⟨rfl, by rw [List.length_nil, List.take_zero]; exact ⟨rfl, h4 _ p⟩⟩
    · exact ⟨p.1, by rw [List.length_nil, List.take_zero]; exact ⟨rfl, h4 _ p.2⟩⟩
theorem def_none {G : Gl} {x : Str} {st : Stmt} {ps : List Str} {qn : Str} (h : DefAt G.K G.mg x st ps qn) {k : Nat} {β : Type} {A : β → List D} {ok : β → Prop} {R : β → Res → Prop} (hn : ∀ b, ¬ ok b) : G.fn k x ps.length (dS A ok R) :=
  h.none fun ds Λ Q E ⟨b, _, _, h3, _⟩ => hn b h3

/-! ### lists of data -/
theorem atI_nat {α : Type} (xs : List α) {i : Int} (h0 : 0 ≤ i) (h : i < xs.length) : atI xs i = xs[i.toNat]? := by
  unfold atI ixN
  rw [if_pos h0, if_pos h]; rfl
theorem atI_neg {α : Type} (xs : List α) {i : Int} (h0 : i < 0) (h : -(xs.length : Int) ≤ i) : atI xs i = xs[(i + xs.length).toNat]? := by
  unfold atI ixN
  rw [if_neg (by omega), if_pos h]; rfl
theorem atI_map {β : Type} (f : β → D) (xs : List β) {i : Int} {x : β} (h0 : 0 ≤ i) (h : xs[i.toNat]? = some x) : atI (xs.map f) i = some (f x) := by
  have hl := (List.getElem?_eq_some_iff.mp h).1
  rw [atI_nat _ h0 (by rw [List.length_map]; omega), List.getElem?_map, h]; rfl
theorem atI_last {β : Type} (f : β → D) (xs : List β) {x : β} : atI ((xs ++ [x]).map f) (-1) = some (f x) := by
  rw [atI_neg _ (by omega) (by simp; omega)]
  simp only [List.map_append, List.map_cons, List.map_nil, List.length_append, List.length_map, List.length_cons, List.length_nil]
  rw [show ((-1 : Int) + ((xs.length + (0 + 1) : Nat) : Int)).toNat = xs.length by omega, List.getElem?_append_right (by simp)]
  simp
theorem ixP_any {Λ : Cells} {x : D} {ds : List D} {i : Int} {P : D → Prop} (hs : seqD Λ x = some ds) (h0 : 0 ≤ i) (h1 : i < ds.length) (h : ∀ e ∈ ds, P e) : ixP Λ x (.int i) P := by
  have hl : i.toNat < ds.length := by omega
  refine ixP_seq hs (e := ds[i.toNat]) ?_ (h _ (List.getElem_mem hl))
  rw [atI_nat _ h0 h1, List.getElem?_eq_getElem hl]
theorem ixN_last {n : Nat} (h : 0 < n) : ixN n (-1) = some (n - 1) := by
  unfold ixN
  rw [if_neg (by omega), if_pos (by omega)]; congr 1; omega
theorem set_last {α : Type} (xs : List α) (x y : α) : (xs ++ [x]).set (xs.length) y = xs ++ [y] := by simp
end Pl
namespace Pl
open PySem L2 PyProof.Rows
/-! ### what stands there: for the driver -/
section
variable {C : Ctx} {E : ER} {Γ : Env} {Λ : Cells}
theorem gWE {e : Expr} {P : D → Cells → Prop} (h : WE C E Γ Λ e P) : WE C E Γ Λ e P := h
theorem gWN {e : Expr} {P : List D → Cells → Prop} (h : WN C E Γ Λ e P) : WN C E Γ Λ e P := h
theorem gWA {e : List Expr} {P : List D → Cells → Prop} (h : WA C E Γ Λ e P) : WA C E Γ Λ e P := h
theorem gWT {e : Expr} {P : Bool → Cells → Prop} (h : WT C E Γ Λ e P) : WT C E Γ Λ e P := h
theorem gWS {s : Stmt} {R : Rs} (h : WS C Γ Λ s R) : WS C Γ Λ s R := h
theorem gWSs {s : List Stmt} {R : Rs} (h : WSs C Γ Λ s R) : WSs C Γ Λ s R := h
theorem gName {x : Str} {p : Pos} {P : D → Cells → Prop} (h : WE C E Γ Λ (.Name x p) P) : WE C E Γ Λ (.Name x p) P := h
theorem gConst {x : Const} {j : Nat} {p : Pos} {P : D → Cells → Prop} (h : WE C E Γ Λ (.Constant x j p) P) : WE C E Γ Λ (.Constant x j p) P := h
theorem gCall {f : Expr} {a : List Expr} {k : List Keyword} {p : Pos} {P : D → Cells → Prop} (h : WE C E Γ Λ (.Call f a k p) P) : WE C E Γ Λ (.Call f a k p) P := h
theorem gCallN {f : Expr} {a : List Expr} {k : List Keyword} {p : Pos} {P : List D → Cells → Prop} (h : WN C E Γ Λ (.Call f a k p) P) : WN C E Γ Λ (.Call f a k p) P := h
theorem gMeth {o : Expr} {x : Str} {ap : Pos} {a : List Expr} {k : List Keyword} {p : Pos} {P : D → Cells → Prop} (h : WE C E Γ Λ (.Call (.Attribute o x ap) a k p) P) : WE C E Γ Λ (.Call (.Attribute o x ap) a k p) P := h
theorem gSub {o i : Expr} {p : Pos} {P : D → Cells → Prop} (h : WE C E Γ Λ (.Subscript o i p) P) : WE C E Γ Λ (.Subscript o i p) P := h
theorem gBin {a b : Expr} {op : Operator} {p : Pos} {P : D → Cells → Prop} (h : WE C E Γ Λ (.BinOp a op b p) P) : WE C E Γ Λ (.BinOp a op b p) P := h
theorem gCmp {a : Expr} {o : List CmpOp} {b : List Expr} {p : Pos} {P : D → Cells → Prop} (h : WE C E Γ Λ (.Compare a o b p) P) : WE C E Γ Λ (.Compare a o b p) P := h
theorem gCmpT {a : Expr} {o : List CmpOp} {b : List Expr} {p : Pos} {P : Bool → Cells → Prop} (h : WT C E Γ Λ (.Compare a o b p) P) : WT C E Γ Λ (.Compare a o b p) P := h
end
end Pl
namespace Pl
open PySem L2 PyProof.Rows
/-! ### slices of any kind -/
def slP (Λ : Cells) (x : D) (l u : Option Int) (P : D → Prop) : Prop := match x with
  | .str s => s.length ≤ sizeLine ∧ P (.str (cutS s l u))
  | .tup ds => P (.tup (cutD ds l u))
  | x => ∃ ds, lstD Λ x = some ds ∧ P (.lst (cutD ds l u))
section
variable {C : Ctx} {E : ER} {Γ : Env} {Λ : Cells} {P : D → Cells → Prop} {a : Expr} {pos : Pos}
theorem cutD_whole {ds : List D} {l u : Option Int} (h : HT.sIx ds.length 0 l = 0 ∧ HT.sIx ds.length ds.length u = ds.length) : cutD ds l u = ds := by
  unfold cutD; rw [h.1, h.2]; simp
theorem we_sl {lo hi : Option Expr} {p2 : Pos} (h : WE C E Γ Λ a fun x Λ1 => WO C E Γ Λ1 lo fun l Λ2 => WO C E Γ Λ2 hi fun u Λ3 => slP Λ3 x l u fun d => P d Λ3) : WE C E Γ Λ (.Subscript a (.Slice lo hi none p2) pos) P := fun X F W is tk => by
  refine pe_imp (pe_slice (sl_list.or (sl_tupA.or sl_str)) pe_U po_U po_U) fun σ H Q ⟨B, α, S, q, er⟩ => ?_
  refine WE.use h is tk S er fun x Λ1 vx B1 α1 H1 p1 S1 e1 f1 r1 => ?_
  refine WO.use p1 is tk S1 (er.mono e1) fun l Λ2 B2 α2 H2 p2 S2 e2 f2 => ?_
  refine WO.use p2 is tk S2 (er.mono (e1.trans e2)) fun u Λ3 B3 α3 H3 p3 S3 e3 f3 => ?_
  have r3 := r1.mono (e2.trans e3) (f2.trans f3)
  unfold slP at p3
  split at p3
  · obtain ⟨hs, p⟩ := p3
    unfold Rep at r3
    exact .inr (.inr ⟨_, r3, hs, q _ Λ3 _ B3 α3 H3 p S3 ((e1.trans e2).trans e3) ((f1.trans f2).trans f3) (by unfold Rep; rfl)⟩)
  · rename_i ds
    unfold Rep at r3
    obtain ⟨p', vs, rfl, h1, h2⟩ := r3
    refine .inr (.inl ⟨p', vs, rfl, by rw [is.K]; exact S3.bh.sqT h1, fun hw => ?_, fun hw t ht => ?_⟩)
    · rw [h2.length] at hw
      rw [cutD_whole hw] at p3
      exact q _ Λ3 _ B3 α3 H3 p3 S3 ((e1.trans e2).trans e3) ((f1.trans f2).trans f3) (by unfold Rep; exact ⟨p', vs, rfl, h1, h2⟩)
    · have hx : Ex B3 (upd B3 t (.tup (cutV vs l u))) := Ex.new (S3.bh.back ht)
      refine q _ Λ3 _ (upd B3 t (.tup (cutV vs l u))) α3 _ p3 (S3.lay ht) (((e1.trans e2).trans e3).trans hx) ((f1.trans f2).trans f3) ?_
      show Rep C.K _ α3 (.tup _) (.ref t)
      unfold Rep
      exact ⟨t, _, rfl, SqT.of upd_same, (h2.cut l u).mono hx (List.prefix_refl _)⟩
  · obtain ⟨ds, hs, p⟩ := p3
    obtain ⟨p', vs, rfl, h1, h2⟩ := S3.seqL r3 hs
    refine .inl ⟨p', vs, rfl, by rw [is.K]; exact h1, fun t ht => ?_⟩
    have hx : Ex B3 (upd B3 t (.lst (cutV vs l u))) := Ex.new (S3.bh.back ht)
    refine q _ Λ3 _ (upd B3 t (.lst (cutV vs l u))) α3 _ p (S3.lay ht) (((e1.trans e2).trans e3).trans hx) ((f1.trans f2).trans f3) ?_
    show Rep C.K _ α3 (.lst _) (.ref t)
    unfold Rep
    exact ⟨t, _, rfl, upd_same, (h2.cut l u).mono hx (List.prefix_refl _)⟩
theorem slP_tup {x : D} {ds : List D} {l u : Option Int} {P : D → Prop} (hx : x = .tup ds) (h : P (.tup (cutD ds l u))) : slP Λ x l u P := by subst hx; exact h
theorem slP_str {s : Str} {l u : Option Int} {P : D → Prop} (hs : s.length ≤ sizeLine) (h : P (.str (cutS s l u))) : slP Λ (.str s) l u P := ⟨hs, h⟩
theorem slP_lst {x : D} {ds : List D} {l u : Option Int} {P : D → Prop} (hx : lstD Λ x = some ds) (h : P (.lst (cutD ds l u))) : slP Λ x l u P := by
  unfold slP
  split
  · simp only [lstD, vw] at hx; cases hx
  · simp only [lstD, vw] at hx; cases hx
  · exact ⟨ds, hx, h⟩
end
end Pl
namespace Pl
open PySem L2 PyProof.Rows
theorem good_blk {C : Ctx} {scope : Scope} {vs ls : List Bool} {gl : List Str} (h : goodC C.N (relS scope C.sc) vs ls gl = true) : (C.blk scope vs ls gl).Good := good_by h
theorem gWI {C : Ctx} {E : ER} {Γ : Env} {Λ : Cells} {tg e : Expr} {P : List D → Cells → Prop} (h : WI C E Γ Λ tg e P) : WI C E Γ Λ tg e P := h
theorem wil_l {ds : List D} {P : List D → Prop} (n : nls ds = true) (h : P ds) : ∃ ds', (D.lst ds = .lst ds' ∨ D.lst ds = .fzl ds') ∧ nls ds' = true ∧ P ds' := ⟨ds, .inl rfl, n, h⟩
theorem wil_f {ds : List D} {P : List D → Prop} (n : nls ds = true) (h : P ds) : ∃ ds', (D.fzl ds = .lst ds' ∨ D.fzl ds = .fzl ds') ∧ nls ds' = true ∧ P ds' := ⟨ds, .inr rfl, n, h⟩
theorem wil_t {ds : List D} {P : List D → Prop} (n : nls ds = true) (h : P ds) : ∃ ds', D.tup ds = .tup ds' ∧ nls ds' = true ∧ P ds' := ⟨ds, rfl, n, h⟩
/-- a call's outcome that is told -/
theorem dR {β : Type} {A : β → List D} {ok : β → Prop} {R : β → Res → Prop} {ds : List D} {n : Nat} {P : Res → Prop} (b : β) (h1 : ds = A b) (h2 : nls ds = true) (h3 : ds.length = n) (h4 : ok b) (h5 : ∀ r, R b r → P r) : ∃ b, ds = A b ∧ nls ds = true ∧ ds.length = n ∧ ok b ∧ ∀ r, R b r → P r := ⟨b, h1, h2, h3, h4, h5⟩
theorem dR1 {r0 : Res} {P : Res → Prop} (h : P r0) : ∀ r, r = r0 → P r := fun r e => e ▸ h
theorem rv {d : D} {P : D → Prop} (h : P d) : ∃ d', Res.val d = .val d' ∧ P d' := ⟨d, rfl, h⟩
theorem rn {ds : List D} {P : List D → Prop} (h : P ds) : ∃ d', Res.new ds = .new d' ∧ P d' := ⟨ds, rfl, h⟩
end Pl
namespace Pl
open PySem L2 PyProof.Rows
/-! ### loops by the turn's number -/
section
variable {C : Ctx} {Γ : Env} {Λ : Cells} {tg : Expr} {ws : List Nat} {R : Rs} {body : List Stmt}
theorem loopP_nil (h : R.nx Γ Λ) : LoopP C tg ws body R [] Γ Λ := h
theorem loopP_cons {d : D} {ds : List D} (h : WG C Γ Λ tg d ws fun Γ' => WSs C Γ' Λ body { R with nx := LoopP C tg ws body R ds, ct := LoopP C tg ws body R ds, bk := R.nx }) : LoopP C tg ws body R (d :: ds) Γ Λ := h
theorem loopP_idx (ds : List D) (I : Nat → Env → Cells → Prop) (h0 : I 0 Γ Λ)
    (hs : ∀ i d Γ Λ, ds[i]? = some d → I i Γ Λ → WG C Γ Λ tg d ws fun Γ' => WSs C Γ' Λ body { R with nx := I (i + 1), ct := I (i + 1), bk := R.nx })
    (hd : ∀ Γ Λ, I ds.length Γ Λ → R.nx Γ Λ) : LoopP C tg ws body R ds Γ Λ := by
  have go : ∀ n k Γ Λ, k + n = ds.length → I k Γ Λ → LoopP C tg ws body R (ds.drop k) Γ Λ := by
    intro n
    induction n with
    | zero =>
      intro k Γ Λ hk hI
      rw [List.drop_eq_nil_of_le (by omega)]
      have : k = ds.length := by omega
      subst this
      exact hd Γ Λ hI
    | succ n ih =>
      intro k Γ Λ hk hI
      have hlt : k < ds.length := by omega
      rw [List.drop_eq_getElem_cons hlt]
      intro X F is
      refine pg_imp (hs k _ Γ Λ (List.getElem?_eq_getElem hlt) hI X F is) fun v σ H Q ⟨B, α, S, r, q⟩ => ⟨B, α, S, r, fun Γ' σ' p' S' ag => q Γ' σ' ?_ S' ag⟩
      exact wss_mono p' ⟨fun Γ1 Λ1 h1 => ih (k + 1) Γ1 Λ1 (by omega) h1, fun _ _ z => z, fun _ _ z => z, fun Γ1 Λ1 h1 => ih (k + 1) Γ1 Λ1 (by omega) h1, fun _ _ _ z => z⟩
  exact go ds.length 0 Γ Λ (by omega) h0
theorem rangeD_len {lo : Int} {n : Nat} : (rangeD lo n).length = n := by unfold rangeD; simp
theorem rangeD_at {lo : Int} {n i : Nat} {d : D} (h : (rangeD lo n)[i]? = some d) : i < n ∧ d = .int (lo + i) := by
  have hl := (List.getElem?_eq_some_iff.mp h).1
  rw [rangeD_len] at hl
  refine ⟨hl, ?_⟩
  unfold rangeD at h
  rw [List.getElem?_map, List.getElem?_range hl] at h
  exact (Option.some.inj h).symm
theorem szl_and {ds : List D} {p : Prop} (h : ds.length < sizeLine) (q : p) : ds.length < sizeLine ∧ p := ⟨h, q⟩
theorem sz_ltt {n : Nat} (h : n < 10000000) : n < sizeLine := by rw [sizeLine_eq]; omega
theorem atI_ints {ns : List Int} {k : Int} (h0 : 0 ≤ k) (h : k < ns.length) : atI (ns.map D.int) k = some (.int (ns.getD k.toNat 0)) := by
  have hl : k.toNat < ns.length := by omega
  refine atI_map D.int ns h0 ?_
  rw [List.getElem?_eq_getElem hl, List.getD_eq_getElem?_getD, List.getElem?_eq_getElem hl]; rfl
end
/-! ### a cell that is a stack -/
section
variable {β : Type} {f : β → D} {st : List β} {y : β}
theorem top_ix {P : D → Prop} (h : P (f y)) : ixP [.lst ((st ++ [y]).map f)] (.loc 0) (.int (-1)) P := ixP_seq rfl (atI_last f st) h
theorem top_set {d : D} {s' : β} {P : Cells → Prop} (hd : d = f s') (h : P [.lst ((st ++ [s']).map f)]) : ∃ n ds k j, D.loc 0 = .loc n ∧ D.int (-1) = .int k ∧ [Cell.lst ((st ++ [y]).map f)][n]? = some (.lst ds) ∧ ixN ds.length k = some j ∧ P ([Cell.lst ((st ++ [y]).map f)].set n (.lst (ds.set j d))) := by
  subst hd
  refine ⟨0, _, -1, st.length, rfl, rfl, rfl, ?_, ?_⟩
  · rw [ixN_last (by simp)]; simp
  · have : ((st ++ [y]).map f).set st.length (f s') = (st ++ [s']).map f := by simp
    show P [.lst (((st ++ [y]).map f).set st.length (f s'))]
    rw [this]; exact h
theorem top_pop {P : D → Cells → Prop} (h : P (f y) [.lst (st.map f)]) : ∃ n ds d, D.loc 0 = .loc n ∧ [Cell.lst ((st ++ [y]).map f)][n]? = some (.lst ds) ∧ ds.getLast? = some d ∧ P d ([Cell.lst ((st ++ [y]).map f)].set n (.lst ds.dropLast)) := by
  refine ⟨0, _, f y, rfl, rfl, by simp, ?_⟩
  have : ((st ++ [y]).map f).dropLast = st.map f := by simp
  show P (f y) [.lst ((st ++ [y]).map f).dropLast]
  rw [this]; exact h
theorem top_push {P : Cells → Prop} {d : D} {s' : β} (hd : d = f s') (hl : st.length < 10000000) (h : P [.lst ((st ++ [s']).map f)]) : ∃ ds, [Cell.lst (st.map f)][0]? = some (.lst ds) ∧ ds.length < sizeLine ∧ P ([Cell.lst (st.map f)].set 0 (.lst (ds ++ [d]))) := by
  subst hd
  refine ⟨_, rfl, sz_ltt (by simpa using hl), ?_⟩
  have : st.map f ++ [f s'] = (st ++ [s']).map f := by simp
  show P [.lst (st.map f ++ [f s'])]
  rw [this]; exact h
theorem split_last (h : st ≠ []) : ∃ st' y, st = st' ++ [y] := ⟨st.dropLast, st.getLast h, (List.dropLast_concat_getLast h).symm⟩
end
end Pl
namespace Pl
open PySem L2 PyProof.Rows
section
variable {f : Int → Int → D} {i j : Int} {P : D → Prop}
theorem intP_tt (h : P (f i j)) : intP (fun _ _ => True) f (.int i) (.int j) P := ⟨trivial, h⟩
theorem intP_pos (hj : 0 < j) (h : P (f i j)) : intP (fun _ j => 0 < j) f (.int i) (.int j) P := ⟨hj, h⟩
theorem intP_mulr (h1 : -(2 ^ 64) < j) (h2 : j < 2 ^ 64) (h : P (f i j)) : intP CMul f (.int i) (.int j) P := ⟨.inr ⟨h1, h2⟩, h⟩
theorem intP_mull (h1 : -(2 ^ 64) < i) (h2 : i < 2 ^ 64) (h : P (f i j)) : intP CMul f (.int i) (.int j) P := ⟨.inl ⟨h1, h2⟩, h⟩
theorem intP_div (h1 : 0 < j) (h2 : j.natAbs.log2 < 9000) (h : P (f i j)) : intP CDivW f (.int i) (.int j) P := ⟨⟨h1, h2⟩, h⟩
theorem intP_pow (h1 : 0 ≤ j) (h2 : j ≤ 1000000) (h3 : i.natAbs < 2 ^ 64) (h : P (f i j)) : intP CPow f (.int i) (.int j) P := ⟨⟨h1, h2, h3⟩, h⟩
end
end Pl
namespace Pl
open PySem L2 PyProof.Rows
/-! ### guards of the driver's rows -/
section
variable {C : Ctx} {E : ER} {Γ : Env} {Λ : Cells}
theorem gFn (x : Str) {p : Pos} {es : List Expr} {k : List Keyword} {pos : Pos} {P : D → Cells → Prop} (h : WE C E Γ Λ (.Call (.Name x p) es k pos) P) : WE C E Γ Λ (.Call (.Name x p) es k pos) P := h
theorem gFnN (x : Str) {p : Pos} {es : List Expr} {k : List Keyword} {pos : Pos} {P : List D → Cells → Prop} (h : WN C E Γ Λ (.Call (.Name x p) es k pos) P) : WN C E Γ Λ (.Call (.Name x p) es k pos) P := h
theorem gFnI (x : Str) {tg : Expr} {p : Pos} {es : List Expr} {k : List Keyword} {pos : Pos} {P : List D → Cells → Prop} (h : WI C E Γ Λ tg (.Call (.Name x p) es k pos) P) : WI C E Γ Λ tg (.Call (.Name x p) es k pos) P := h
theorem gRet (x : Str) {p : Pos} {es : List Expr} {k : List Keyword} {pos pos' : Pos} {R : Rs} (h : WS C Γ Λ (.Return (some (.Call (.Name x p) es k pos)) pos') R) : WS C Γ Λ (.Return (some (.Call (.Name x p) es k pos)) pos') R := h
theorem gRetA {e : Expr} {pos : Pos} {R : Rs} (h : WS C Γ Λ (.Return (some e) pos) R) : WS C Γ Λ (.Return (some e) pos) R := h
theorem gMt (x : Str) {o : Expr} {p : Pos} {es : List Expr} {k : List Keyword} {pos : Pos} {P : D → Cells → Prop} (h : WE C E Γ Λ (.Call (.Attribute o x p) es k pos) P) : WE C E Γ Λ (.Call (.Attribute o x p) es k pos) P := h
theorem gNm (x : Str) {p : Pos} {P : D → Cells → Prop} (h : WE C E Γ Λ (.Name x p) P) : WE C E Γ Λ (.Name x p) P := h
theorem gTg (x : Str) {p : Pos} {d : D} {ws : List Nat} {P : Env → Prop} (h : WG C Γ Λ (.Name x p) d ws P) : WG C Γ Λ (.Name x p) d ws P := h
theorem gSet (x : Str) {p pos : Pos} {e : Expr} {R : Rs} (h : WS C Γ Λ (.Assign [.Name x p] e pos) R) : WS C Γ Λ (.Assign [.Name x p] e pos) R := h
theorem gSetA {t : List Expr} {pos : Pos} {e : Expr} {R : Rs} (h : WS C Γ Λ (.Assign t e pos) R) : WS C Γ Λ (.Assign t e pos) R := h
theorem gSetI {o i : Expr} {p pos : Pos} {e : Expr} {R : Rs} (h : WS C Γ Λ (.Assign [.Subscript o i p] e pos) R) : WS C Γ Λ (.Assign [.Subscript o i p] e pos) R := h
theorem gExpr {pos : Pos} {e : Expr} {R : Rs} (h : WS C Γ Λ (.Expr e pos) R) : WS C Γ Λ (.Expr e pos) R := h
theorem gLC {elt : Expr} {gs : List Comprehension} {sc : Scope} {pos : Pos} {P : D → Cells → Prop} (h : WE C E Γ Λ (.ListComp elt gs sc pos) P) : WE C E Γ Λ (.ListComp elt gs sc pos) P := h
theorem gLCN {elt : Expr} {gs : List Comprehension} {sc : Scope} {pos : Pos} {P : List D → Cells → Prop} (h : WN C E Γ Λ (.ListComp elt gs sc pos) P) : WN C E Γ Λ (.ListComp elt gs sc pos) P := h
theorem gSet2 (x y : Str) {k : Nat} {p1 p2 p pos : Pos} {e : Expr} {R : Rs} (h : WS C Γ Λ (.Assign [.Tuple [.Name x p1, .Name y p2] k p] e pos) R) : WS C Γ Λ (.Assign [.Tuple [.Name x p1, .Name y p2] k p] e pos) R := h
theorem gSet3 (x y z : Str) {k : Nat} {p1 p2 p3 p pos : Pos} {e : Expr} {R : Rs} (h : WS C Γ Λ (.Assign [.Tuple [.Name x p1, .Name y p2, .Name z p3] k p] e pos) R) : WS C Γ Λ (.Assign [.Tuple [.Name x p1, .Name y p2, .Name z p3] k p] e pos) R := h
theorem gFor (x : Str) {p pos : Pos} {e : Expr} {b o : List Stmt} {R : Rs} (h : WS C Γ Λ (.For (.Name x p) e b o pos) R) : WS C Γ Λ (.For (.Name x p) e b o pos) R := h
theorem gFor2 (x y : Str) {k : Nat} {p1 p2 p pos : Pos} {e : Expr} {b o : List Stmt} {R : Rs} (h : WS C Γ Λ (.For (.Tuple [.Name x p1, .Name y p2] k p) e b o pos) R) : WS C Γ Λ (.For (.Tuple [.Name x p1, .Name y p2] k p) e b o pos) R := h
theorem gForA {t e : Expr} {pos : Pos} {b o : List Stmt} {R : Rs} (h : WS C Γ Λ (.For t e b o pos) R) : WS C Γ Λ (.For t e b o pos) R := h
theorem wgs_cons1 {e : Expr} {es : List Expr} {d : D} {ds : List D} {v : Nat} {ws : List Nat} {P : Env → Prop} (h : WG C Γ Λ e d [v] fun Γ' => WGs C Γ' Λ es ds ws P) (he : plainT e = true := by rfl) : WGs C Γ Λ (e :: es) (d :: ds) (v :: ws) P := wgs_cons h he
theorem gWGs {tg : List Expr} {d : List D} {ws : List Nat} {P : Env → Prop} (h : WGs C Γ Λ tg d ws P) : WGs C Γ Λ tg d ws P := h
theorem gWG {tg : Expr} {d : D} {ws : List Nat} {P : Env → Prop} (h : WG C Γ Λ tg d ws P) : WG C Γ Λ tg d ws P := h
end
section
variable {Λ : Cells} {P : D → Prop} {f : Int → Int → D} {x y : D}
theorem gInt {g : Int → Int → Prop} (h : intP g f x y P) : intP g f x y P := h
theorem gIpos (h : intP (fun _ j => 0 < j) f x y P) : intP (fun _ j => 0 < j) f x y P := h
theorem gImul (h : intP CMul f x y P) : intP CMul f x y P := h
theorem gIdiv (h : intP CDivW f x y P) : intP CDivW f x y P := h
theorem gIpow (h : intP CPow f x y P) : intP CPow f x y P := h
theorem gIx (h : ixP Λ x y P) : ixP Λ x y P := h
theorem gSl {l u : Option Int} (h : slP Λ x l u P) : slP Λ x l u P := h
theorem gLen {P : Int → Prop} (h : lenP Λ x P) : lenP Λ x P := h
theorem gE1 {α : Sort _} {p q : α → Prop} (h : ∃ a, p a ∧ q a) : ∃ a, p a ∧ q a := h
theorem gE2 {α β : Sort _} {p q r : α → β → Prop} (h : ∃ a b, p a b ∧ q a b ∧ r a b) : ∃ a b, p a b ∧ q a b ∧ r a b := h
theorem gE3 {α β : Sort _} {p q : α → β → Prop} (h : ∃ a b, p a b ∧ q a b) : ∃ a b, p a b ∧ q a b := h
theorem gIte {c : Bool} {A B : Prop} (h : if c = true then A else B) : if c = true then A else B := h
theorem gSz {ds : List D} {p : Prop} (h : ds.length ≤ sizeLine ∧ p) : ds.length ≤ sizeLine ∧ p := h
theorem gWil {d : D} {P : List D → Prop} (h : ∃ ds', (d = .lst ds' ∨ d = .fzl ds') ∧ nls ds' = true ∧ P ds') : ∃ ds', (d = .lst ds' ∨ d = .fzl ds') ∧ nls ds' = true ∧ P ds' := h
theorem gAll {P : Prop} (h : P) : P := h
end
end Pl
namespace Pl
open PySem L2 PyProof.Rows
theorem eqP_refl {Λ : Cells} {x : D} {Pb : Bool → Prop} (hp : (py (vw Λ x)).plain = true) (hd : (py (vw Λ x)).depth ≤ 190) (h : Pb true) : eqP Λ x x Pb :=
  eqP_gen hp hp (by rw [Nat.min_self]; exact hd) (by rw [PySem.SeqAt.eqv_refl_plain _ hp]; exact h)
end Pl
namespace Pl
open PySem L2 PyProof.Rows
/-- the law's own def: True for every script -/
theorem law_ok {G : Gl} {x p : Str} {st : Stmt} {N : List Str} {vs ls : List Bool} {gl : List Str} {k n : Nat} {f : Addr} {fd : FuncData} (F : Fun G.K x x st f fd) (sc : FnScope N [p] (defScope st)) (good : goodC N (defScope st) vs ls gl = true)
    (hb : ∀ ns : List Int, ns.length ≤ n → WSs (G.cx N (defScope st) vs ls gl k 0) (Γ0 N [.fzl (ns.map .int)]) [] (defBody st) ⟨fun _ _ => False, fun r _ => r = .val (.bl true), fun _ _ => False, fun _ _ => False, ER.none⟩) : FnOk G.P G.w G.K G.mg G.base (L2.CX G.P G.w) (k + 1) f fd [p] (spOf G.K 1 (lawSpec n)) :=
  fn_ok (ps := [p]) (S := lawSpec n) F sc (G.cx N (defScope st) vs ls gl k 0) ⟨rfl, rfl, rfl, rfl, rfl, rfl, rfl, rfl⟩ (good_by good) (fun ds Λ Q E h => by obtain ⟨_, _, _, rfl, _⟩ := h; exact Nat.le_refl _) fun ds Λ Q E hl ⟨ns, h1, h2, h3, h4⟩ => by
    subst h2; subst h3
    refine wss_mono (hb ns h1) ⟨fun _ _ z => z.elim, fun r Λ e => ?_, fun _ _ z => z, fun _ _ z => z, fun _ _ _ z => z.elim⟩
    have e : r = .val (.bl true) := e
    subst e
    exact ⟨rfl, by rw [List.length_nil, List.take_zero]; exact ⟨rfl, h4⟩⟩
end Pl
namespace Pl
open PySem L2 PyProof.Rows
@[reducible] def frOf {K : PySem.W.Frag} {h : Heap} (_ : K.In h) : PySem.W.Frag := K
end Pl

/-! Pl13: more operations -/
namespace Pl
open PySem L2 PyProof.Rows
section
variable {C : Ctx} {E : ER} {Γ : Env} {Λ : Cells} {a b : Expr} {pos : Pos}
/-- xs + ys of lists, a new list -/
theorem wn_add {P : List D → Cells → Prop} (h : WE C E Γ Λ a fun x Λ1 => WE C E Γ Λ1 b fun y Λ2 => ∃ xs ys, vw Λ2 x = .lst xs ∧ vw Λ2 y = .lst ys ∧ xs.length + ys.length ≤ sizeLine ∧ P (xs ++ ys) Λ2) : WN C E Γ Λ (.BinOp a .Add b pos) P := fun X F W is tk => by
  refine pe_imp (pe_op op_cat pe_U pe_U) fun σ H Q ⟨B, α, S, q, er⟩ => ?_
  refine WE.use h is tk S er fun x Λ1 vx B1 α1 H1 p1 S1 e1 f1 r1 => ?_
  refine WE.use p1 is tk S1 (er.mono e1) fun y Λ2 vy B2 α2 H2 p2 S2 e2 f2 r2 => ?_
  obtain ⟨xs, ys, hx, hy, hl, p⟩ := p2
  obtain ⟨p1, vs, rfl, h1, h2⟩ := S2.lst (r1.mono e2 f2) hx
  obtain ⟨p2, ws, rfl, g1, g2⟩ := S2.lst r2 hy
  refine ⟨p1, p2, vs, ws, rfl, rfl, h1, g1, by rw [h2.length, g2.length]; exact hl, fun t ht => ?_⟩
  exact q _ Λ2 t _ B2 α2 _ p (S2.grow (Ex.new ht)) (e1.trans e2) (f1.trans f2) upd_same (S2.bh.back ht) (S2.dm t ht) (fun ha => (S2.ah t ha).1 ht) (h2.append g2)
/-- is None, is True, is False -/
def isP (x y : D) (P : Bool → Prop) : Prop := match y with
  | .non => ∃ c, isN x = some c ∧ P c
  | .bl b => ∃ a, x = .bl a ∧ P (decide (a = b))
  | _ => False
theorem we_isA {P : D → Cells → Prop} (h : WE C E Γ Λ a fun x Λ1 => WE C E Γ Λ1 b fun y Λ2 => isP x y fun c => P (.bl c) Λ2) : WE C E Γ Λ (.Compare a [.Is] [b] pos) P :=
  we_cmpK (fun X is => op_isN.or op_is_bl) (we_mono h fun x Λ1 p => we_mono p fun y Λ2 q => by
    intro F B α σ H vx vy Q S rx ry k
    unfold isP at q
    split at q
    · obtain ⟨c, hc, p⟩ := q
      unfold Rep at ry
      refine .inl ⟨ry, ?_⟩
      have := isN_rep rx hc
      rw [this]
      exact k _ _ _ _ _ _ p S (Ex.refl B) (List.prefix_refl _) (by unfold Rep; rfl)
    · obtain ⟨c, rfl, p'⟩ := q
      unfold Rep at rx ry
      exact .inr ⟨_, _, rx, ry, k _ _ _ _ _ _ p' S (Ex.refl B) (List.prefix_refl _) (by unfold Rep; rfl)⟩
    · exact q.elim) (nomark b)
theorem isP_bl {c d : Bool} {P : Bool → Prop} (h : P (decide (c = d))) : isP (.bl c) (.bl d) P := ⟨c, rfl, h⟩
theorem isP_non {x : D} {c : Bool} {P : Bool → Prop} (hc : isN x = some c) (h : P c) : isP x .non P := ⟨c, hc, h⟩
end
theorem gRetLC {C : Ctx} {Γ : Env} {Λ : Cells} {elt : Expr} {gs : List Comprehension} {sc : Scope} {p pos : Pos} {R : Rs} (h : WS C Γ Λ (.Return (some (.ListComp elt gs sc p)) pos) R) : WS C Γ Λ (.Return (some (.ListComp elt gs sc p)) pos) R := h
/-! lists of things of one kind -/
section
variable {β : Type} {f : β → D}
theorem plain_map (hf : ∀ x, (py (f x)).plain = true) : ∀ xs : List β, PyData.plainAll (pys (xs.map f)) = true
  | [] => rfl
  | x :: xs => by
    show PyData.plainAll (py (f x) :: pys (xs.map f)) = true
    rw [PyData.plainAll, hf x, plain_map hf xs]; rfl
theorem depth_map {k : Nat} (hf : ∀ x, (py (f x)).depth ≤ k) : ∀ xs : List β, PyData.depthAll (pys (xs.map f)) ≤ k
  | [] => Nat.zero_le _
  | x :: xs => by
    show PyData.depthAll (py (f x) :: pys (xs.map f)) ≤ k
    rw [PyData.depthAll]
    exact Nat.max_le.mpr ⟨hf x, depth_map hf xs⟩
theorem depth_mapM {k : Nat} : ∀ xs : List β, (∀ x ∈ xs, (py (f x)).depth ≤ k) → PyData.depthAll (pys (xs.map f)) ≤ k
  | [], _ => Nat.zero_le _
  | x :: xs, hf => by
    show PyData.depthAll (py (f x) :: pys (xs.map f)) ≤ k
    rw [PyData.depthAll]
    exact Nat.max_le.mpr ⟨hf x List.mem_cons_self, depth_mapM xs fun y hy => hf y (List.mem_cons_of_mem _ hy)⟩
theorem eqv_map [DecidableEq β] (hf : ∀ x y, PyData.eqv (py (f x)) (py (f y)) = decide (x = y)) : ∀ xs ys : List β, PyData.eqvAll (pys (xs.map f)) (pys (ys.map f)) = decide (xs = ys)
  | [], [] => by show PyData.eqvAll [] [] = _; simp [PyData.eqvAll]
  | [], y :: ys => by show PyData.eqvAll [] (_ :: _) = _; simp [PyData.eqvAll]
  | x :: xs, [] => by show PyData.eqvAll (_ :: _) [] = _; simp [PyData.eqvAll]
  | x :: xs, y :: ys => by
    show PyData.eqvAll (py (f x) :: pys (xs.map f)) (py (f y) :: pys (ys.map f)) = _
    rw [PyData.eqvAll, hf x y, eqv_map hf xs ys]
    by_cases h : x = y <;> by_cases h' : xs = ys <;> simp [h, h']
/-- xs == ys -/
theorem eqP_lists [DecidableEq β] {Λ : Cells} {xs ys : List β} {Pb : Bool → Prop} (hp : ∀ x, (py (f x)).plain = true) (hd : ∀ x ∈ xs, (py (f x)).depth ≤ 189) (he : ∀ x y, PyData.eqv (py (f x)) (py (f y)) = decide (x = y)) (h : Pb (decide (xs = ys))) : eqP Λ (.lst (xs.map f)) (.lst (ys.map f)) Pb := by
  have pl : ∀ zs : List β, (PyData.list (pys (zs.map f))).plain = true := fun zs => by rw [PyData.plain]; exact plain_map hp zs
  refine eqP_gen (pl xs) (pl ys) (Nat.le_trans (Nat.min_le_left _ _) ?_) ?_
  · show (PyData.list (pys (xs.map f))).depth ≤ 190
    rw [PyData.depth]; have := depth_mapM (f := f) xs hd; omega
  · show Pb (PyData.eqv (.list (pys (xs.map f))) (.list (pys (ys.map f))))
    rw [PyData.eqv, eqv_map he]; exact h
end
theorem bl_plain (b : Bool) : (py (.bl b)).plain = true := rfl
theorem bl_depth (b : Bool) : (py (.bl b)).depth ≤ 189 := Nat.zero_le _
theorem bl_eqv (a b : Bool) : PyData.eqv (py (.bl a)) (py (.bl b)) = decide (a = b) := by cases a <;> cases b <;> rfl
end Pl
namespace Pl
open PySem L2 PyProof.Rows
/-- what a def's body may hand back: a datum, a new list, or a list that it owns -/
def rtN (R : Res → Prop) (r : Res) (Λ : Cells) : Prop := (nlR r = true ∧ R r) ∨ (∃ n ds, r = .val (.loc n) ∧ Λ[n]? = some (.lst ds) ∧ nls ds = true ∧ R (.new ds)) ∨ ∃ n ks ds, r = .val (.loc n) ∧ Λ[n]? = some (.dic ks ds) ∧ nls ds = true ∧ R (.val (.dic ks ds))
theorem def_okN {G : Gl} {x : Str} {st : Stmt} {ps : List Str} {qn : Str} (h : DefAt G.K G.mg x st ps qn) {N : List Str} {vs ls : List Bool} {gl : List Str} {k : Nat} {β : Type} {A : β → List D} {ok : β → Prop} {R : β → Res → Prop} (sc : FnScope N ps (defScope st)) (good : goodC N (defScope st) vs ls gl = true)
    (hb : ∀ b, ok b → ∀ E : ER, WSs (G.cx N (defScope st) vs ls gl k 0) (Γ0 N (A b)) [] (defBody st) ⟨fun _ _ => R b (.val .non), rtN (R b), fun _ _ => False, fun _ _ => False, E⟩) : G.fn (k + 1) x ps.length (dS A ok R) :=
  def_okC h sc good dS_len fun ds Λ Q E hl ⟨b, h1, h2, h3, h4⟩ => by
    subst h1; subst h2
    refine wss_mono (hb b h3 (erX [] E)) ⟨fun Γ Λ p => ?_, fun r Λ p => ?_, fun _ _ z => z, fun _ _ z => z, fun _ _ _ z => z⟩
    · exact ⟨0, Nat.le_refl _, rfl, .inl ⟨rfl, h4 _ p⟩⟩
    · rcases p with ⟨p1, p2⟩ | ⟨n, ds, rfl, p1, p2, p3⟩ | ⟨n, ks, ds, rfl, p1, p2, p3⟩
      · refine ⟨0, Nat.le_refl _, rfl, .inl ⟨?_, h4 _ p2⟩⟩
        cases r with
        | val d => exact ltD_nl d p1
        | new ds => exact p1
      · exact ⟨0, Nat.le_refl _, rfl, .inr (.inl ⟨n, ds, Nat.zero_le _, rfl, p1, p2, h4 _ p3⟩)⟩
      · exact ⟨0, Nat.le_refl _, rfl, .inr (.inr ⟨n, ks, ds, Nat.zero_le _, rfl, p1, p2, h4 _ p3⟩)⟩
theorem rtN_v {R : Res → Prop} {r : Res} {Λ : Cells} (h1 : nlR r = true) (h2 : R r) : rtN R r Λ := .inl ⟨h1, h2⟩
theorem rtN_l {R : Res → Prop} {n : Nat} {Λ : Cells} {ds : List D} (h0 : Λ[n]? = some (.lst ds)) (h1 : nls ds = true) (h2 : R (.new ds)) : rtN R (.val (.loc n)) Λ := .inr (.inl ⟨n, ds, rfl, h0, h1, h2⟩)
theorem rtN_d {R : Res → Prop} {n : Nat} {Λ : Cells} {ks : List Key} {ds : List D} (h0 : Λ[n]? = some (.dic ks ds)) (h1 : nls ds = true) (h2 : R (.val (.dic ks ds))) : rtN R (.val (.loc n)) Λ := .inr (.inr ⟨n, ks, ds, rfl, h0, h1, h2⟩)
end Pl
namespace Pl
open PySem L2 PyProof.Rows
theorem nls_bl (xs : List Bool) : nls (xs.map D.bl) = true := by rw [nls_map]; simp [nl]
theorem nls_int (xs : List Int) : nls (xs.map D.int) = true := by rw [nls_map]; simp [nl]
theorem nls_str (xs : List Str) : nls (xs.map D.str) = true := by rw [nls_map]; simp [nl]
theorem all1 {ds : List D} (h : nls ds = true) : [Cell.lst ds].all nlC = true := by show (nls ds && true) = true; rw [h]; rfl
theorem cutD_init {xs : List D} {y : D} : cutD (xs ++ [y]) none (some (-1)) = xs := by
  unfold cutD HT.sIx
  simp
  rw [show (-1 + ((xs.length : Int) + 1)).toNat = xs.length by omega]
  simp
end Pl
namespace Pl
open PySem L2 PyProof.Rows
/-- a word of the state between two statements -/
theorem wss_cut {C : Ctx} {Γ : Env} {Λ : Cells} {s : Stmt} {rest : List Stmt} {R : Rs} (J : Env → Cells → Prop) (h1 : WS C Γ Λ s { R with nx := J }) (h2 : ∀ Γ Λ, J Γ Λ → WSs C Γ Λ rest R) : WSs C Γ Λ (s :: rest) R :=
  wss_cons (ws_mono h1 ⟨fun Γ Λ h => h2 Γ Λ h, fun _ _ z => z, fun _ _ z => z, fun _ _ z => z, fun _ _ _ z => z⟩)
end Pl
namespace Pl
open PySem L2 PyProof.Rows
theorem gWIT {C : Ctx} {E : ER} {Γ : Env} {Λ : Cells} {tg : Expr} {es : List Expr} {k : Nat} {p : Pos} {P : List D → Cells → Prop} (h : WI C E Γ Λ tg (.Tuple es k p) P) : WI C E Γ Λ tg (.Tuple es k p) P := h
theorem gWit {ds : List D} {P : List D → Prop} (h : ∃ ds', D.tup ds = .tup ds' ∧ nls ds' = true ∧ P ds') : ∃ ds', D.tup ds = .tup ds' ∧ nls ds' = true ∧ P ds' := h
theorem bl_ite {c : Bool} {A B : Prop} (d : Bool) (e : c = d) (h : if d = true then A else B) : if c = true then A else B := by subst e; exact h
end Pl

/-! Pl14: dicts -/
namespace Pl
open PySem L2 PyProof.Rows
/-! ### a dict of the module -/
/-- the dict of the module by this name; f tells its values -/
def DicAt (K : PySem.W.Frag) (w : World) (mg : Str → Option Value) (x : Str) (f : Str → Option Str) : Prop := ∃ a : Addr, mg x = some (.ref a) ∧ ∀ z v, f z = some v → KDct K w a z (.str v)
section
variable {C : Ctx} {E : ER} {Γ : Env} {Λ : Cells} {P : D → Cells → Prop} {pos p : Pos} {e : Expr}
theorem we_gdic {x : Str} {f : Str → Option Str} (D : DicAt C.K C.w C.mg x f) (hj : GlAt C x) (h : WE C E Γ Λ e fun d Λ' => ∃ z v, d = .str z ∧ f z = some v ∧ P (.str v) Λ') (hs : PlainIx e := by intro _ _; rfl) (hd : (x == ("__debug__" : Str)) = false := by decide) : WE C E Γ Λ (.Subscript (.Name x p) e pos) P := fun X F W is tk => by
  obtain ⟨a, hm, hk⟩ := D
  refine pe_imp (pe_ix ix_kdict (pe_glob (v := .ref a) (is.gl hj) (by rw [is.mg]; exact hm) rfl hd) pe_U hs) fun σ H Q ⟨B, α, S, q, er⟩ => ?_
  refine WE.use h is tk S er fun d Λ' v B' α' H' p S' e f r => ?_
  obtain ⟨z, u, rfl, hz, p⟩ := p
  unfold Rep at r
  refine ⟨a, z, .str u, rfl, r, by rw [is.K, is.w]; exact hk z u hz, q _ _ _ _ _ _ p S' e f (by unfold Rep; rfl)⟩
end

/-! ### displays -/
def keyStrs : List (Option Expr) → Option (List Str)
  | [] => some []
  | some (.Constant (.str x) _ _) :: r => (keyStrs r).map (x :: ·)
  | _ => none
/-- the values, from the left -/
def WDs (C : Ctx) (Γ : Env) (Λ : Cells) : List Expr → (List D → Prop) → Prop
  | [], P => P []
  | e :: es, P => WE C ER.none Γ Λ e fun d Λ' => Λ' = Λ ∧ WDs C Γ Λ es fun ds => P (d :: ds)
theorem putK_new {k : Key} {v : V} {acc : List (Key × V)} (h : ∀ kv ∈ acc, kv.1 ≠ k) : putK acc k v = acc ++ [(k, v)] := by
  unfold putK
  rw [if_neg]
  intro z
  obtain ⟨kv, h1, h2⟩ := List.any_eq_true.mp z
  exact h kv h1 (of_decide_eq_true h2)
theorem mergeK_new : ∀ {more acc : List (Key × V)}, (more.map (·.1)).Nodup → (∀ kv ∈ acc, kv.1 ∉ more.map (·.1)) → mergeK acc more = acc ++ more
  | [], acc, _, _ => by unfold mergeK; simp
  | q :: more, acc, nd, h => by
    rw [List.map_cons, List.nodup_cons] at nd
    have h1 : putK acc q.1 q.2 = acc ++ [q] := putK_new fun kv hk e => h kv hk (by rw [List.map_cons, e]; exact List.mem_cons_self)
    show mergeK (putK acc q.1 q.2) more = _
    rw [h1, mergeK_new nd.2, List.append_assoc]; rfl
    intro kv hk
    rcases List.mem_append.mp hk with z | z
    · exact fun m => h kv z (by rw [List.map_cons]; exact List.mem_cons_of_mem _ m)
    · rw [List.mem_singleton] at z; subst z; exact nd.1
def trU (X : Cx) : List Str → List Expr → List (TE × TE)
  | k :: ks, v :: vs => (tC (.str k), UE X v) :: trU X ks vs
  | _, _ => []
theorem ppU {X : Cx} {pos : Pos} : ∀ (keys : List (Option Expr)) (vals : List Expr) (ks : List Str), keyStrs keys = some ks → keys.length = vals.length → PPs X pos keys vals (trU X ks vals)
  | [], [], ks, hk, _ => by cases hk; exact pps_nil
  | [], _ :: _, _, _, hl => by simp at hl
  | _ :: _, [], _, _, hl => by simp at hl
  | k :: keys, v :: vals, ks, hk, hl => by
    unfold keyStrs at hk
    split at hk
    · rename_i heq; cases heq
    · rename_i x j kp r heq
      cases heq
      obtain ⟨ks', hk', rfl⟩ := Option.map_eq_some_iff.mp hk
      exact pps_cons pe_str pe_U (ppU keys vals ks' hk' (by simpa using hl))
    · cases hk
theorem keyStrs_len : ∀ {keys : List (Option Expr)} {ks : List Str}, keyStrs keys = some ks → keys.length = ks.length ∧ keys.all (·.isSome) = true
  | [], ks, hk => by cases hk; exact ⟨rfl, rfl⟩
  | k :: keys, ks, hk => by
    unfold keyStrs at hk
    split at hk
    · rename_i heq; cases heq
    · rename_i x j kp r heq
      cases heq
      obtain ⟨ks', hk', rfl⟩ := Option.map_eq_some_iff.mp hk
      obtain ⟨h1, h2⟩ := keyStrs_len hk'
      exact ⟨by simp [h1], by simpa using h2⟩
    · cases hk
section
variable {C : Ctx} {E : ER} {Γ : Env} {Λ : Cells} {pos : Pos} {X : Cx} {W : WX}
theorem pairs_use (is : C.Is X) (tk : Takes X W) (vals : List Expr) : ∀ (ks : List Str) (P : List D → Prop), ks.length = vals.length → WDs C Γ Λ vals P → ∀ F B α σ H (Q : List (V × V) → Hp → Prop), Sat C.K F B α Γ Λ σ H →
      (∀ ds vs B' H', P ds → Sat C.K F B' α Γ Λ σ H' → Ex B B' → Reps C.K B' α ds vs → vs.length = ks.length → Q ((ks.map V.str).zip vs) H') → tPairs (trU X ks vals) σ H Q := by
  induction vals with
  | nil =>
    intro ks P hl h F B α σ H Q S q
    cases ks with
    | nil => exact q [] [] B H h S (Ex.refl B) .nil rfl
    | cons _ _ => simp at hl
  | cons v vals ih =>
    intro ks P hl h F B α σ H Q S q
    cases ks with
    | nil => simp at hl
    | cons k ks =>
      show UE X v σ H _
      have h : WE C ER.none Γ Λ v fun d Λ' => Λ' = Λ ∧ WDs C Γ Λ vals fun ds => P (d :: ds) := h
      refine WE.use h is tk S (fun err Λ' B' α' H' c dx e => e.elim) fun d Λ' x B' α' H' p S' e f r => ?_
      obtain ⟨rfl, p⟩ := p
      have ea := pre_len f (by rw [S.al, S'.al])
      subst ea
      refine ih ks _ (by simpa using hl) p F B' _ σ H' _ S' fun ds vs B2 H2 p2 S2 e2 r2 l2 => ?_
      exact q (d :: ds) (x :: vs) B2 H2 p2 S2 (e.trans e2) (.cons (r.mono e2 (List.prefix_refl _)) r2) (by simpa using l2)
theorem zip_kV : ∀ (ks : List Str) (vs : List V), (ks.map V.str).zip vs = ((ks.map (Sum.inr (α := Int))).zip vs).map fun kv => (kV kv.1, kv.2)
  | [], _ => rfl
  | _ :: _, [] => rfl
  | k :: ks, v :: vs => by
    show (V.str k, v) :: (ks.map V.str).zip vs = (kV (.inr k), v) :: ((ks.map (Sum.inr (α := Int))).zip vs).map fun kv => (kV kv.1, kv.2)
    rw [zip_kV ks vs]; rfl
theorem inr_nodup : ∀ {ks : List Str}, ks.Nodup → (ks.map (Sum.inr (α := Int))).Nodup
  | [], _ => List.nodup_nil
  | k :: ks, h => by
    rw [List.nodup_cons] at h
    rw [List.map_cons, List.nodup_cons]
    refine ⟨fun m => ?_, inr_nodup h.2⟩
    obtain ⟨x, hx, e⟩ := List.mem_map.mp m
    cases e; exact h.1 hx
/-- {"k": v, ..}: a dict that is seen -/
theorem we_disp {keys : List (Option Expr)} {vals : List Expr} {P : D → Cells → Prop} (ks : List Str) (hk : keyStrs keys = some ks) (hl : keys.length = vals.length) (h0 : keys ≠ []) (h15 : keys.length ≤ 15) (nd : ks.Nodup)
    (h : WDs C Γ Λ vals fun ds => P (.dic (ks.map .inr) ds) Λ) : WE C E Γ Λ (.Dict keys vals pos) P := fun X F W is tk => by
  obtain ⟨kl, ka⟩ := keyStrs_len hk
  refine pe_imp (pe_disp (ppU keys vals ks hk hl) ka hl h0 h15) fun σ H Q ⟨B, α, S, q, er⟩ => ?_
  intro p hp
  have hpα : p ∉ α := fun ha => (S.ah p ha).1 hp
  have S1 := S.grow (Ex.new (o := .dK []) hp)
  refine pairs_use is tk vals ks _ (by rw [← kl, hl]) h _ B α σ _ _ S1.rebase fun ds vs B' H' p' T e r lv => ?_
  have S2 := S1.unbase T
  have hH : H' p = some (.dK []) := T.kp p _ upd_same hpα
  have hB : B' p = none := by
    cases z : B' p with
    | none => rfl
    | some o =>
      rcases T.fr p o z with w | w
      · have w : B p = some o := w
        rw [S.bh.back hp] at w; cases w
      · have w : upd H p (.dK []) p = none := w
        rw [upd_same] at w; cases w
  refine ⟨hH, (ks.map Sum.inr).zip vs, ?_, ?_, ?_⟩
  · exact zip_kV ks vs
  · rw [List.length_zip, List.length_map]; omega
  · have em : mergeK [] ((ks.map (Sum.inr (α := Int))).zip vs) = (ks.map Sum.inr).zip vs := by
      rw [mergeK_new (acc := []) (by rw [List.map_fst_zip (by rw [List.length_map, lv]; exact Nat.le_refl _)]; exact inr_nodup nd) (fun kv hk => by simp at hk)]; rfl
    rw [em]
    have S3 := (S2.poke hB (S.dm p hp) hpα (o := .dK ((ks.map Sum.inr).zip vs))).see upd_same hB (S.dm p hp) hpα
    have hx : Ex B' (upd B' p (.dK ((ks.map Sum.inr).zip vs))) := Ex.new hB
    refine q _ Λ _ _ α _ p' S3 (e.trans hx) (List.prefix_refl _) ?_
    show Rep C.K _ α (.dic _ _) (.ref p)
    unfold Rep
    exact ⟨p, vs, rfl, .inl upd_same, r.mono hx (List.prefix_refl _), by rw [List.length_map, ← lv]; exact r.length⟩
end
end Pl
namespace Pl
open PySem L2 PyProof.Rows
section
variable {C : Ctx} {E : ER} {Γ : Env} {Λ : Cells} {pos : Pos}
theorem gDict {k : List (Option Expr)} {v : List Expr} {P : D → Cells → Prop} (h : WE C E Γ Λ (.Dict k v pos) P) : WE C E Γ Λ (.Dict k v pos) P := h
theorem gSubN (x : Str) {p : Pos} {i : Expr} {P : D → Cells → Prop} (h : WE C E Γ Λ (.Subscript (.Name x p) i pos) P) : WE C E Γ Λ (.Subscript (.Name x p) i pos) P := h
theorem gSubD {k : List (Option Expr)} {v : List Expr} {p : Pos} {i : Expr} {P : D → Cells → Prop} (h : WE C E Γ Λ (.Subscript (.Dict k v p) i pos) P) : WE C E Γ Λ (.Subscript (.Dict k v p) i pos) P := h
theorem wds_nil {P : List D → Prop} (h : P []) : WDs C Γ Λ [] P := h
theorem wds_cons {e : Expr} {es : List Expr} {P : List D → Prop} (h : WE C ER.none Γ Λ e fun d Λ' => Λ' = Λ ∧ WDs C Γ Λ es fun ds => P (d :: ds)) : WDs C Γ Λ (e :: es) P := h
theorem gEq {p : Prop} {A B : Cells} (h : A = B ∧ p) : A = B ∧ p := h
theorem eq_and {A : Cells} {p : Prop} (h : p) : A = A ∧ p := ⟨rfl, h⟩
end
theorem str_len (s t : Str) : (s ++ t).length = s.length + t.length := by
  show (s.cps ++ t.cps).size = s.cps.size + t.cps.size
  exact Array.size_append
end Pl
namespace Pl
open PySem L2 PyProof.Rows
theorem mem_of_lookup {z v : Str} : ∀ {ps : List (Str × Str)}, ps.lookup z = some v → (z, v) ∈ ps
  | [], h => by simp at h
  | (a, b) :: ps, h => by
    rw [List.lookup_cons] at h
    split at h
    · rename_i e
      cases h
      rw [beq_iff_eq.mp e]; exact List.mem_cons_self
    · exact List.mem_cons_of_mem _ (mem_of_lookup h)
theorem dicAt_mk {K : PySem.W.Frag} {w : World} {mg : Str → Option Value} {h : Heap} {x : Str} {a : Addr} {es : Array DictEntry} {n : Nat} {ps : List (Str × Str)} (X : K.In h) (G : h.Ns mainGlobals mg)
    (ha : PySem.W.nsIn K mainGlobals x = some (some (.ref a))) (l : K.lookup a = some ⟨.type "dict", none, .dict es n, #[]⟩) (hk : PySem.W.KeysLit w.params es.toList) (hv : ∀ p ∈ ps, ∃ t, PySem.W.nsIn K a p.1 = some (some (.str p.2 t))) : DicAt K w mg x fun z => ps.lookup z :=
  ⟨a, PySem.W.mg_of X G ha, fun z v hz => by
    obtain ⟨t, ht⟩ := hv (z, v) (mem_of_lookup hz)
    exact ⟨es, n, _, l, hk, ht, t, rfl⟩⟩
end Pl
namespace Pl
open PySem L2 PyProof.Rows
section
variable {C : Ctx} {Γ : Env} {Λ : Cells} {tg elt : Expr} {ws : List Nat} {P : List D → Prop} {acc : List D}
theorem compP_nil {ifs : List Expr} (h : P acc) : CompP C Γ Λ tg ws ifs elt P [] acc := by rw [CompP]; exact h
theorem compP_cons {d : D} {ds : List D} (hl : acc.length < 10000000) (h : WG C Γ Λ tg d ws fun Γ' => WE C ER.none Γ' Λ elt fun y Λ' => Λ' = Λ ∧ CompP C Γ Λ tg ws [] elt P ds (acc ++ [y])) : CompP C Γ Λ tg ws [] elt P (d :: ds) acc := by rw [CompP]; exact ⟨hl, h⟩
theorem gComp {ifs : List Expr} {d : D} {ds : List D} (h : CompP C Γ Λ tg ws ifs elt P (d :: ds) acc) : CompP C Γ Λ tg ws ifs elt P (d :: ds) acc := h
end
end Pl

/-! Pl15: dicts that are owned, copied, asked, held against one another -/
namespace Pl
open PySem L2 PyProof.Rows
section
variable {C : Ctx} {E : ER} {Γ : Env} {Λ : Cells} {P : D → Cells → Prop} {pos pos' p apos cpos : Pos} {e o i f : Expr}
/-- {}, seen -/
theorem we_dnew (h : P (.dic [] []) Λ) : WE C E Γ Λ (.Dict [] [] pos) P := fun X F W is tk => by
  refine pe_imp pe_dnewK fun σ H Q ⟨B, α, S, q, er⟩ => ?_
  intro t ht
  have hx : Ex B (upd B t (.dK [])) := Ex.new (S.bh.back ht)
  refine q _ Λ _ _ α _ h (S.lay ht) hx (List.prefix_refl _) ?_
  show Rep C.K _ α (.dic [] []) (.ref t)
  unfold Rep
  exact ⟨t, [], rfl, .inl upd_same, .nil, rfl⟩
/-- {}, owned -/
theorem we_dnewO (h : P (.loc Λ.length) (Λ ++ [.dic [] []])) : WE C E Γ Λ (.Dict [] [] pos) P := fun X F W is tk => by
  refine pe_imp pe_dnewK fun σ H Q ⟨B, α, S, q, er⟩ => ?_
  intro t ht
  have S' := S.own (c := .dic [] []) ht (Ex.new (o := .dK []) ht) (by rw [upd_same]; simp) fun α' _ => ⟨[], upd_same, .nil, rfl⟩
  refine q _ _ _ B _ _ h S' (Ex.refl B) (List.prefix_append _ _) ?_
  show Rep C.K _ _ (.loc _) (.ref t)
  unfold Rep
  exact ⟨t, rfl, by rw [← S.al, List.getElem?_append_right (Nat.le_refl _), Nat.sub_self]; rfl⟩
/-- dict(d): a copy, seen -/
def rDcopy : List V → Hp → VK → Prop := fun vs H Q => ∃ (a : Addr) (kvs : List (Key × V)), vs = [.ref a] ∧ Rd H a (.dK kvs) ∧ ∀ t, H t = none → Q (.ref t) (upd H t (.dK kvs))
theorem cr_dcopy {X : Cx} : CallR X (.type "dict") rDcopy := by
  intro pins s σ H vs us Q I r h
  obtain ⟨a, kvs, rfl, hr, q⟩ := h
  rw [Vals.ref1 r]
  exact d_copyOf I hr fun t s' ht I' => ⟨.ref t, _, I', rfl, q t ht⟩
theorem boot_dict' : bootBuiltins "dict" = some (.type "dict") := by decide +kernel
theorem we_dcopy (hj : GlAt C "dict") (hm : C.mg "dict" = none) (h : WE C E Γ Λ e fun x Λ1 => ∃ ks ds, vw Λ1 x = .dic ks ds ∧ ks.length = ds.length ∧ P (.dic ks ds) Λ1) (he : plainE e = true := by rfl) : WE C E Γ Λ (.Call (.Name "dict" p) [e] [] pos) P :=
  we_callTy (fun X is => cr_dcopy) hj hm boot_dict' (wa_cons (we_mono h fun x Λ1 ⟨ks, ds, h1, h2, h3⟩ => wa_nil (by
    intro F B α σ H vs Q S rs q
    obtain ⟨v, rfl, rv⟩ := reps1 rs
    obtain ⟨a, ws, rfl, g1, g2⟩ := S.dic rv h1
    refine ⟨a, _, rfl, g1, fun t ht => ?_⟩
    have hx : Ex B (upd B t (.dK (ks.zip ws))) := Ex.new (S.bh.back ht)
    refine q _ Λ1 _ _ α _ h3 (S.lay ht) hx (List.prefix_refl _) ?_
    show Rep C.K _ α (.dic ks ds) (.ref t)
    unfold Rep
    exact ⟨t, ws, rfl, .inl upd_same, g2.mono hx (List.prefix_refl _), h2⟩)) he) (he := he)
/-- o.get(e, f) -/
theorem m2_of {X : Cx} (ho : plainO o = true) (he : plainE e = true) (hf : plainE f = true) (hl : (apos.endLine == cpos.line) = true) : M2 X o "get" apos e f cpos :=
  ⟨base_plain ho, by rw [star_plain he, star_plain hf]; rfl, hl, by rw [star_plain he, star_plain hf]; rfl⟩
theorem we_dget2 (h : WE C E Γ Λ o fun x Λ1 => ∃ ks ds, vw Λ1 x = .dic ks ds ∧ WE C E Γ Λ1 e fun y Λ2 => WE C E Γ Λ2 f fun z Λ3 => ∃ k, keyD y = some k ∧ vw Λ3 x = .dic ks ds ∧ P ((dLook ks ds k).getD z) Λ3)
    (ho : plainO o = true := by rfl) (he : plainE e = true := by rfl) (hf : plainE f = true := by rfl) (hl : (apos.endLine == cpos.line) = true := by rfl) : WE C E Γ Λ (.Call (.Attribute o "get" apos) [e, f] [] cpos) P := fun X F W is tk => by
  have hu := is.u200
  refine pe_imp (pe_dget2 (by omega) pe_U pe_U pe_U (m2_of ho he hf hl)) fun σ H Q ⟨B, α, S, q, er⟩ => ?_
  refine WE.use h is tk S er fun x Λ1 vx B1 α1 H1 p1 S1 e1 f1 r1 => ?_
  obtain ⟨ks, ds, hx, p1⟩ := p1
  obtain ⟨a, vs, rfl, g1, g2⟩ := S1.dic r1 hx
  refine ⟨a, rfl, .inl ⟨_, g1⟩, ?_⟩
  refine WE.use p1 is tk S1 (er.mono e1) fun y Λ2 vy B2 α2 H2 p2 S2 e2 f2 r2 => ?_
  refine WE.use p2 is tk S2 (er.mono (e1.trans e2)) fun z Λ3 vz B3 α3 H3 p3 S3 e3 f3 r3 => ?_
  obtain ⟨k, hk, hx3, p⟩ := p3
  obtain ⟨a', ws, ea, k1, k2⟩ := S3.dic ((r1.mono e2 f2).mono e3 f3) hx3
  cases ea
  have hy := keyD_rep (r2.mono e3 f3) hk
  refine ⟨valV (ks.zip ws) k, .inl ⟨_, k, k1, hy, rfl⟩, ?_⟩
  have lk := dLook_rep (ks := ks) k k2
  cases hd : dLook ks ds k with
  | none =>
    rw [lk.2 hd]
    rw [hd] at p
    exact q _ _ _ _ _ _ p S3 ((e1.trans e2).trans e3) ((f1.trans f2).trans f3) r3
  | some d =>
    obtain ⟨v, hv, rv⟩ := lk.1 d hd
    rw [hv]
    rw [hd] at p
    exact q _ _ _ _ _ _ p S3 ((e1.trans e2).trans e3) ((f1.trans f2).trans f3) rv
end
/-! ### d[k] = v -/
def hasK (ks : List Key) (k : Key) : Bool := ks.any fun x => decide (x = k)
def putKs (ks : List Key) (k : Key) : List Key := if hasK ks k = true then ks else ks ++ [k]
def putDs {β : Type} (ks : List Key) (ds : List β) (k : Key) (d : β) : List β := if hasK ks k = true then (ks.zip ds).map (fun q => if q.1 = k then d else q.2) else ds ++ [d]
theorem any_mem {β : Type} {k : Key} : ∀ {ks : List Key} {vs : List β}, ks.length = vs.length → ((ks.zip vs).any fun kv => decide (kv.1 = k)) = hasK ks k
  | [], _, _ => rfl
  | _ :: _, [], h => by simp at h
  | a :: ks, v :: vs, h => by
    have ih := any_mem (k := k) (ks := ks) (vs := vs) (by simpa using h)
    rw [List.zip_cons_cons, List.any_cons, ih]
    rfl
theorem putK_zip {ks : List Key} {vs : List V} {k : Key} {v : V} (h : ks.length = vs.length) : putK (ks.zip vs) k v = (putKs ks k).zip (putDs ks vs k v) := by
  unfold putK putKs putDs
  rw [any_mem h]
  by_cases m : hasK ks k = true
  · rw [if_pos m, if_pos m, if_pos m]
    clear m
    induction ks generalizing vs with
    | nil => simp
    | cons a ks ih =>
      cases vs with
      | nil => simp at h
      | cons w vs =>
        have := ih (vs := vs) (by simpa using h)
        rw [List.zip_cons_cons, List.map_cons, List.map_cons, List.zip_cons_cons, this]
        by_cases e : a = k
        · simp [e]
        · simp [e]
  · rw [if_neg m, if_neg m, if_neg m, List.zip_append h]; rfl
theorem putDs_reps {K : PySem.W.Frag} {B : Hp} {α : List Addr} {k : Key} {d : D} {v : V} (hd : Rep K B α d v) {ks : List Key} : ∀ {ds : List D} {vs : List V}, Reps K B α ds vs → ks.length = ds.length → Reps K B α (putDs ks ds k d) (putDs ks vs k v) := by
  intro ds vs r hl
  unfold putDs
  by_cases m : hasK ks k = true
  · rw [if_pos m, if_pos m]
    clear m
    induction ks generalizing ds vs with
    | nil => simp [Reps]
    | cons a ks ih =>
      cases ds with
      | nil => simp at hl
      | cons x ds =>
        unfold Reps at r
        obtain ⟨w, ws, rfl, r1, r2⟩ := r
        rw [List.zip_cons_cons, List.zip_cons_cons, List.map_cons, List.map_cons]
        refine .cons ?_ (ih r2 (by simpa using hl))
        by_cases e : a = k
        · simp [e]; exact hd
        · simp [e]; exact r1
  · rw [if_neg m, if_neg m]
    exact r.append (.one hd)
theorem putKs_len {β : Type} {ks : List Key} {ds : List β} {k : Key} {d : β} (h : ks.length = ds.length) : (putKs ks k).length = (putDs ks ds k d).length := by
  unfold putKs putDs
  by_cases m : hasK ks k = true
  · rw [if_pos m, if_pos m, List.length_map, List.length_zip, h]; simp
  · rw [if_neg m, if_neg m, List.length_append, List.length_append, h]; rfl
section
variable {C : Ctx} {Γ : Env} {Λ : Cells} {R : Rs} {pos pos' : Pos} {e o i : Expr}
theorem ws_dput (h : WE C R.er Γ Λ e fun d Λ1 => WE C R.er Γ Λ1 o fun x Λ2 => WE C R.er Γ Λ2 i fun y Λ3 => ∃ n ks ds k, x = .loc n ∧ keyD y = some k ∧ Λ3[n]? = some (.dic ks ds) ∧ ks.length < 10000000 ∧ R.nx Γ (Λ3.set n (.dic (putKs ks k) (putDs ks ds k d))))
    (hc : noComp e = true := by rfl) : WS C Γ Λ (.Assign [.Subscript o i pos'] e pos) R := fun X F W is hm tk => by
  have hu := is.u200
  refine ps_imp (ps_dput (by omega) pe_U pe_U pe_U (noSwap hc)) fun Dn σ H ⟨B, α, S, q⟩ => ?_
  refine WE.use h is tk S q.er.at fun d Λ1 v B1 α1 H1 p1 S1 e1 f1 r1 => ?_
  refine WE.use p1 is tk S1 (q.er.mono e1).at fun x Λ2 vx B2 α2 H2 p2 S2 e2 f2 r2 => ?_
  refine WE.use p2 is tk S2 (q.er.mono (e1.trans e2)).at fun y Λ3 vy B3 α3 H3 p3 S3 e3 f3 r3 => ?_
  obtain ⟨n, ks, ds, k, rfl, hk, hn, hl, p⟩ := p3
  have r2' := r2.mono e3 f3
  unfold Rep at r2'
  obtain ⟨a, rfl, ha⟩ := r2'
  obtain ⟨a', q1, q2, q3, vs, q4, q5, q6⟩ := S3.ce n _ hn (by simp)
  rw [ha] at q1; cases q1
  have hlv : ks.length = vs.length := by rw [q6, q5.length]
  refine ⟨a, upd H3 a (.dK (putK (ks.zip vs) k v)), rfl, .inl ⟨ks.zip vs, k, q4, keyD_rep r3 hk, ?_, rfl⟩, ?_⟩
  · rw [List.length_zip]; exact sz_ltt (by omega)
  · rw [putK_zip hlv]
    refine q.nx Γ _ B3 α3 σ _ p (S3.put ha q2 ?_) ((e1.trans e2).trans e3)
    exact ⟨_, upd_same, putDs_reps ((r1.mono e2 f2).mono e3 f3) q5 q6, putKs_len q6⟩
theorem gSetIN (x : Str) {p pos : Pos} {e i : Expr} (h : WS C Γ Λ (.Assign [.Subscript (.Name x p) i pos'] e pos) R) : WS C Γ Λ (.Assign [.Subscript (.Name x p) i pos'] e pos) R := h
end
end Pl

/-! Pl16: dicts held against one another -/
namespace Pl
open PySem L2 PyProof.Rows PySem.Spec
section
variable {prog : Program} {w : World} {A : Around} {s : Shared} {Kx : Type} [DecidableEq Kx] {kd : PySem.KeyKind prog w Kx}
theorem dics_ne {a b : Addr} {us vs : List (Kx × Value)} {r : Bool} (ha : (a == sysModules) = false) (hb : (b == sysModules) = false) (da : s.heap.DictOf kd a us) (db : s.heap.DictOf kd b vs) (hu : A.units < cLine)
    (hits : us.length = vs.length → PySem.W.KeqHitsP prog w A.in1 s vs us r) (E Q : Value → Shared → Prop) (h : Q (.bool (!(us.length == vs.length && r))) s) : wpAny (model prog w) A (richCompare .NotEq (.ref a) (.ref b)) Q E s := by
  refine wpAny_richCompare_same_room (op := .NotEq) da.typeIs db.typeIs PySem.F.slot_dict_ne (wpAny_call_entry PySem.F.slot_dict_ne da.typeIs PySem.F.entry_dict_ne ?_ (PySem.F.args_dict_ne_2 _ _)) hu
  show wpAny _ _ (Builtin.Dict.dictSlotArgs "__ne__" ⟨[.ref a, .ref b], []⟩ >>= _) _ _ s
  refine wpAny_bind (by unfold Builtin.Dict.dictSlotArgs; refine wpAny_bind (wpAny_notOrdered_dict da.typeIs ?_); show wpAny _ _ (pure (Value.ref a, Value.ref b)) _ _ s; refine wpAny_pure ?_; refine wpAny_bind (wpAny_isInstance (T := "dict") db.typeIs PySem.F.sub_dict_dict ?_); simp only [Bool.not_true, Bool.false_eq_true, if_false]; refine wpAny_bind (wpAny_pure (wpAny_bind (wpAny_pure ?_))); refine wpAny_bind (PySem.W.samePairsP ha hb da db hits ?_); refine wpAny_pure ⟨_, rfl, fun x => (nomatch x), ?_⟩; simpa using h)
/-- the two bear one datum -/
def DEq (K : PySem.W.Frag) (H : Hp) (x y : V) : Prop := ∃ d, Dp K H x d ∧ Dp K H y d ∧ d.plain = true ∧ d.depth ≤ 100
def rNeDic (K : PySem.W.Frag) : R2 := fun x y H Q => ∃ (a b : Addr) (ks ls : List (Key × V)), x = .ref a ∧ y = .ref b ∧ Rd H a (.dK ks) ∧ Rd H b (.dK ls) ∧ ks.length = ls.length ∧ (∀ p ∈ ks, ∃ u, valV ls p.1 = some u ∧ DEq K H p.2 u) ∧ Q (.bl false) H
theorem op_neDic {X : Cx} (hu : X.A.units + 200 < cLine) : OpR X (compareOp .NotEq) (rNeDic X.K) := by
  intro pins s σ H x y v u Q I rx ry h
  obtain ⟨a, b, ks, ls, rfl, rfl, ha, hb, hl, hp, q⟩ := h
  cases (show v = Value.ref a from rx)
  cases (show u = Value.ref b from ry)
  obtain ⟨_, ya, va, ra, da⟩ := dk_rd I.hok ha
  obtain ⟨_, yb, vb, rb, db⟩ := dk_rd I.hok hb
  have ih : ∀ x y v u, DEq X.K H x y → RelV x v → RelV y u → PySem.SeqAt.EqP X.prog X.w X.A.in1 s v u true := fun x y v u ⟨d, h1, h2, h3, h4⟩ r1 r2 => by
    obtain ⟨as, k1⟩ := Dp.reads I d x v h1 r1
    obtain ⟨bs, k2⟩ := Dp.reads I d y u h2 r2
    have := PySem.SeqAt.eqAt_plain d d X.A.in1 s v u as bs k1 k2 h3 h3 (by show X.A.units + 1 + _ < cLine; rw [Nat.min_self]; omega)
    rw [PySem.SeqAt.eqv_refl_plain d h3] at this
    exact this.eqP
  refine dics_ne (kd := mixKind X.prog X.w) (r := true) ya yb da db (by omega) (fun _ => hits_run ih rb ra hp) _ _ ?_
  have e : va.length = vb.length := by rw [← ra.length, ← rb.length]; exact hl
  rw [show (!(va.length == vb.length && true)) = false from by rw [e]; simp]
  exact ⟨.bl false, H, I, rfl, q⟩
end
section
variable {C : Ctx} {E : ER} {Γ : Env} {Λ : Cells} {pos : Pos} {a b : Expr}
theorem valV_cons {k k' : Key} {v : V} {r : List (Key × V)} : valV ((k', v) :: r) k = if k' = k then some v else valV r k := by
  unfold valV
  rw [List.find?_cons]
  by_cases e : k' = k
  · simp [e]
  · simp [e]
theorem pairs_eq {K : PySem.W.Frag} {B H : Hp} {α : List Addr} (e : Ex B H) : ∀ {ks : List Key} {ds : List D} {vs ws : List V}, ks.Nodup → Reps K B α ds vs → Reps K B α ds ws → (∀ d ∈ ds, (py d).plain = true ∧ (py d).depth ≤ 100) →
    ∀ p ∈ ks.zip vs, ∃ u, valV (ks.zip ws) p.1 = some u ∧ DEq K H p.2 u
  | [], _, _, _, _, _, _, _, p, hp => by simp at hp
  | _ :: _, [], vs, ws, _, r1, r2, _, p, hp => by unfold Reps at r1; subst r1; simp at hp
  | k :: ks, d :: ds, vs, ws, nd, r1, r2, hd, p, hp => by
    unfold Reps at r1 r2
    obtain ⟨v, vs, rfl, a1, a2⟩ := r1
    obtain ⟨w, ws, rfl, b1, b2⟩ := r2
    rw [List.nodup_cons] at nd
    rw [List.zip_cons_cons] at hp ⊢
    rcases List.mem_cons.mp hp with rfl | hp
    · refine ⟨w, by rw [valV_cons, if_pos rfl], py d, a1.dp e d v (hd d List.mem_cons_self).1, b1.dp e d w (hd d List.mem_cons_self).1, (hd d List.mem_cons_self).1, (hd d List.mem_cons_self).2⟩
    · obtain ⟨u, h1, h2⟩ := pairs_eq e nd.2 a2 b2 (fun d' h => hd d' (List.mem_cons_of_mem _ h)) p hp
      refine ⟨u, ?_, h2⟩
      rw [valV_cons, if_neg, h1]
      intro q
      apply nd.1
      rw [q]
      exact (List.of_mem_zip hp).1
/-- d != e of two dicts that bear the same -/
theorem wt_neDic {P : Bool → Cells → Prop} (h : WE C E Γ Λ a fun x Λ1 => WE C E Γ Λ1 b fun y Λ2 => ∃ ks ds, x = .dic ks ds ∧ y = .dic ks ds ∧ ks.Nodup ∧ (∀ d ∈ ds, (py d).plain = true ∧ (py d).depth ≤ 100) ∧ P false Λ2) : WT C E Γ Λ (.Compare a [.NotEq] [b] pos) P :=
  wt_cmpK (r := rNeDic C.K) (fun X is => by rw [← is.K]; exact op_neDic is.u200) (we_mono h fun x Λ1 p => we_mono p fun y Λ2 q => by
    intro F B α σ H vx vy Q S rx ry k
    obtain ⟨ks, ds, rfl, rfl, nd, hd, p'⟩ := q
    unfold Rep at rx ry
    obtain ⟨p1, vs, rfl, g1, g2, g3⟩ := rx
    obtain ⟨p2, ws, rfl, k1, k2, k3⟩ := ry
    refine ⟨p1, p2, ks.zip vs, ks.zip ws, rfl, rfl, S.bh.rd g1, S.bh.rd k1, by rw [List.length_zip, List.length_zip, g2.length, k2.length], pairs_eq S.bh nd g2 k2 hd, ?_⟩
    exact k _ _ _ _ _ _ ⟨false, rfl, p'⟩ S (Ex.refl B) (List.prefix_refl _) (by unfold Rep; rfl)) (nomark _)
theorem gNeNN (x y : Str) {p q : Pos} {P : Bool → Cells → Prop} (h : WT C E Γ Λ (.Compare (.Name x p) [.NotEq] [.Name y q] pos) P) : WT C E Γ Λ (.Compare (.Name x p) [.NotEq] [.Name y q] pos) P := h
end
end Pl
namespace Pl
open PySem L2 PyProof.Rows
section
variable {C : Ctx} {E : ER} {Γ : Env} {Λ : Cells} {pos p : Pos} {β : Type} {A : β → List D} {ok : β → Prop} {R : β → Res → Prop}
theorem pe_call0S {X : Cx} {CX : CXT} {k : Nat} {f : Addr} {fd : FuncData} {ps : List Str} {sp : Sp} {E' : L2.St → XK} {x : Str} (F : FnOk X.prog X.w X.K X.mg X.base CX k f fd ps sp) (hr : Room k X.A) (hg : L2.Gl X x) (hm : X.mg x = some (.ref f)) (hk : PySem.W.keepIn X.K (.ref f) = true) (hb : Binds X.K fd ps []) (hx : ∀ σ, PassesAt CX X σ (E' σ))
    (hdb : (x == ("__debug__" : Str)) = false) : PE X (.Call (.Name x p) [] [] pos) fun σ H Q => sp [] H Q (E' σ) := by
  refine ⟨fun pins s σ H Q I h => wpAny_Call_Name_kw (ld_glob I hg hm ?_ hdb)⟩
  exact PySem.W.callWith_K0 I.kIn hk (run_fnS (us := []) F hr hb (hx σ) I .nil h)
/-- f() of a def of the module: a value -/
theorem we_call0 {k : Nat} {x : Str} {P : D → Cells → Prop} (G : C.fn k x 0 (dS A ok R)) (hk : k ≤ C.k) (hj : GlAt C x) (b : β) (hA : A b = []) (hok : ok b) (h : ∀ r, R b r → ∃ d, r = .val d ∧ P d Λ)
    (hdb : (x == ("__debug__" : Str)) = false := by decide) : WE C E Γ Λ (.Call (.Name x p) [] [] pos) P := fun X F W is tk => by
  obtain ⟨f, fd, ps, h1, h2, h3, h4, h5⟩ := G.ex
  have e1 := is.prog; have e2 := is.w; have e3 := is.K; have e4 := is.mg; have e5 := is.base
  refine pe_imp (pe_call0S (E' := fun σ c dx H' => W c dx σ H') (by rw [e1, e2, e3, e4, e5]; exact h1) (is.room.mono hk) (is.gl hj) (by rw [e4]; exact h2) (by rw [e3]; exact h3) (by rw [e3]; exact h4)
    (fun σ => by rw [← e1, ← e2]; exact passAt tk σ) hdb) fun σ H Q ⟨B, α, T, q, er⟩ => ?_
  have := call_sp (S := dS A ok R) (Pr := fun r => ∃ d, r = .val d ∧ P d Λ) (E' := E) (n := 0) (ds := []) (vs := []) (Q := Q) T .nil rfl rfl ⟨b, hA.symm, rfl, hok, fun r hr => ⟨rfl, h r hr⟩⟩ (fun Q Q' E E' z i j => dS_mono [] [] Q Q' E E' z i j) er fun r v B' H' p' T' x' ra => by
    obtain ⟨d, rfl, p'⟩ := p'
    exact q d Λ v B' α H' p' T' x' (List.prefix_refl _) (Rep.mono (Ex.refl _) List.nil_prefix d v ra)
  exact this
end
end Pl

/-! Pl17: tuples whose items are held against one another only up to the first that differ -/
namespace Tlt
open PySem PySem.SeqAt PyProof.Rows
open PySem.AutoSeq1 (wpAny_loadPart')
open PySem.MeetsSeq PySem.MeetsSeq2 PySem.MeetsSeq3 PySem.SeqRoads2
/-- from the left: equal items are passed, the first unequal ones answer; fin where none differ -/
def LtP (A : Around) (z : Shared) (fin : Bool) : List (Value × Value) → Bool → Prop
  | [], k => k = fin
  | (x, y) :: r, k => ∃ e, EqAt A z x y e ∧ (e = true → LtP A z fin r k) ∧ (e = false → RcLt A z x y k)
theorem tup_lt (p q : Addr) (us ws : Array Value) (m1 m2 : Nat) (d1 d2 : Option Addr) (o1 o2 : Array (Option Value)) (k : Bool) :
    Meets (Builtin.«tuple.__lt__» ⟨[.ref p, .ref q], []⟩) fun A R z => z.heap.get? p = some ⟨.type "tuple", d1, .seq us m1, o1⟩ ∧ z.heap.get? q = some ⟨.type "tuple", d2, .seq ws m2, o2⟩ ∧ LtP A.in1 z (decide (us.size < ws.size)) (us.toList.zip ws.toList) k ∧ R (.ok (.ret (.bool k))) z :=
  .of_wp fun pr w A R z hyp => by
    obtain ⟨hh, gg, dd, tt, oo⟩ := z; obtain ⟨hp, hq, hL, hR⟩ := hyp
    have sub := AutoSeq1.sub_tuple_tuple
    wp_walk using wpAny_loadPart' hp, wpAny_loadPart' hq, wpAny_forIn_list _ (fun tl c z' => c.1 = none ∧ z' = ⟨hh, gg, dd, tt, oo⟩ ∧ LtP A.in1 ⟨hh, gg, dd, tt, oo⟩ (decide (us.size < ws.size)) tl k) _
    case turn =>
      rintro ⟨x, y⟩ tl c z' ⟨hc, rfl, e, he, h1, h2⟩
      refine wpAny_bind (he pr w _ _ ?_)
      cases e with
      | true =>
        wp_walk
        exact ⟨rfl, rfl, h1 rfl⟩
      | false =>
        have hr := h2 rfl pr w
        generalize PySem.richCompare CmpOp.Lt x y = m at hr ⊢
        wp_walk
        refine hr _ _ ?_
        wp_walk
        exact ⟨_, rfl, hR⟩
    case fin =>
      rintro ⟨c1, c2⟩ z' ⟨hc, rfl, hL'⟩
      simp only at hc
      subst hc
      have hk : k = decide (us.size < ws.size) := hL'
      subst hk
      wp_walk
      exact ⟨_, rfl, by simpa [Builtin.Tuple.tupleCompareSizes] using hR⟩
    case h =>
      exact ⟨rfl, rfl, hL⟩
theorem rc_tup {A : Around} {z : Shared} {p q : Addr} {us ws : Array Value} {k : Bool} (hp : z.heap.IsTuple p us) (hq : z.heap.IsTuple q ws) (hu : A.units < cLine) (hL : LtP A.in1 z (decide (us.size < ws.size)) (us.toList.zip ws.toList) k) : RcLt A z (.ref p) (.ref q) k := fun pr w E Q h => by
  obtain ⟨⟨c1, d1, t1, o1⟩, g1, e1, m1, f1⟩ := hp
  obtain ⟨⟨c2, d2, t2, o2⟩, g2, e2, m2, f2⟩ := hq
  simp only at e1 f1 e2 f2
  subst e1 f1 e2 f2
  exact richCompare_meets_room (op := .Lt) ⟨_, g1, rfl⟩ ⟨_, g2, rfl⟩ F.slot_tuple_lt F.entry_tuple_lt (F.args_tuple_lt_2 _ _) (tup_lt p q us ws m1 m2 d1 d2 o1 o2 k) ⟨g1, g2, hL, show Value.bool k ≠ Value.notImplemented ∧ Q (.bool k) z from ⟨(fun x => nomatch x), h⟩⟩ hu
end Tlt

/-! Pl18: == through cells, list.clear -/
namespace Pl
open PySem L2 PyProof.Rows
/-! ### a datum with its cells looked through -/
mutual
def dv (Λ : Cells) : D → D
  | .loc n => match Λ[n]? with
    | some (.lst ds) => .lst ds
    | _ => .loc n
  | .tup ds => .tup (dvs Λ ds)
  | .lst ds => .lst (dvs Λ ds)
  | .fzl ds => .fzl (dvs Λ ds)
  | d => d
def dvs (Λ : Cells) : List D → List D
  | [] => []
  | d :: ds => dv Λ d :: dvs Λ ds
end
section
variable {K : PySem.W.Frag} {F : Fm} {B : Hp} {α : List Addr} {Γ : Env} {Λ : Cells} {σ : L2.St} {H : Hp}
mutual
theorem Sat.dpv (S : Sat K F B α Γ Λ σ H) : ∀ (d : D) (v : V), (py (dv Λ d)).plain = true → Rep K B α d v → Dp K H v (py (dv Λ d))
  | .non, _, _, h => by unfold Rep at h; subst h; exact .non
  | .bl b, _, _, h => by unfold Rep at h; subst h; exact .bl b
  | .int i, _, _, h => by unfold Rep at h; subst h; exact .int i
  | .str s, _, _, h => by unfold Rep at h; subst h; exact .str s
  | .raw _, _, p, _ => by cases p
  | .ins _ _ _, _, p, _ => by cases p
  | .dic _ _, _, p, _ => by cases p
  | .exc _ _ _, _, p, _ => by cases p
  | .loc n, v, p, h => by
    unfold dv at p ⊢
    split at p
    · rename_i ds hc
      obtain ⟨a, vs, rfl, _, _, g4, g5⟩ := S.cellL h hc
      have p' : PyData.plainAll (pys ds) = true := by have p : (PyData.list (pys ds)).plain = true := p; rw [PyData.plain] at p; exact p
      exact .lst (SqL.of g4) (Reps.dp S.bh ds vs p' g5)
    · cases p
  | .tup ds, v, p, h => by
    unfold Rep at h
    obtain ⟨a, vs, rfl, h1, h2⟩ := h
    have p' : PyData.plainAll (pys (dvs Λ ds)) = true := by have p : (PyData.tuple (pys (dvs Λ ds))).plain = true := p; rw [PyData.plain] at p; exact p
    exact .tup (S.bh.sqT h1) (Sat.dpvs S ds vs p' h2)
  | .lst ds, v, p, h => by
    unfold Rep at h
    obtain ⟨a, vs, rfl, h1, h2⟩ := h
    have p' : PyData.plainAll (pys (dvs Λ ds)) = true := by have p : (PyData.list (pys (dvs Λ ds))).plain = true := p; rw [PyData.plain] at p; exact p
    exact .lst (SqL.of (S.bh a _ h1)) (Sat.dpvs S ds vs p' h2)
  | .fzl ds, v, p, h => by
    unfold Rep at h
    obtain ⟨a, vs, rfl, h1, h2⟩ := h
    have p' : PyData.plainAll (pys (dvs Λ ds)) = true := by have p : (PyData.list (pys (dvs Λ ds))).plain = true := p; rw [PyData.plain] at p; exact p
    exact .lst (S.bh.sqL h1) (Sat.dpvs S ds vs p' h2)
theorem Sat.dpvs (S : Sat K F B α Γ Λ σ H) : ∀ (ds : List D) (vs : List V), PyData.plainAll (pys (dvs Λ ds)) = true → Reps K B α ds vs → DpAll K H vs (pys (dvs Λ ds))
  | [], _, _, h => by unfold Reps at h; subst h; exact .nil
  | d :: ds, _, p, h => by
    unfold Reps at h
    obtain ⟨v, r, rfl, h1, h2⟩ := h
    have p : PyData.plainAll (py (dv Λ d) :: pys (dvs Λ ds)) = true := p
    rw [PyData.plainAll, Bool.and_eq_true] at p
    exact .cons (Sat.dpv S d v p.1 h1) (Sat.dpvs S ds r p.2 h2)
end
end
/-- x == y, through cells -/
def eqV (Λ : Cells) (x y : D) (P : Bool → Prop) : Prop := (py (dv Λ x)).plain = true ∧ (py (dv Λ y)).plain = true ∧ min (py (dv Λ x)).depth (py (dv Λ y)).depth ≤ 190 ∧ P (PyData.eqv (py (dv Λ x)) (py (dv Λ y)))
section
variable {C : Ctx} {E : ER} {Γ : Env} {Λ : Cells} {pos apos cpos : Pos} {a b o : Expr}
theorem eqV_K {K : PySem.W.Frag} {neg : Bool → Bool} {x y : D} {P : D → Cells → Prop} (h : eqV Λ x y fun c => P (.bl (neg c)) Λ) : OpK K (rEqP K neg) x y Γ Λ P := by
  intro F B α σ H vx vy Q S rx ry q
  obtain ⟨h1, h2, h3, h4⟩ := h
  exact ⟨_, _, S.dpv x vx h1 rx, S.dpv y vy h2 ry, h1, h2, h3, q _ Λ _ B α H h4 S (Ex.refl B) (List.prefix_refl _) (by unfold Rep; rfl)⟩
theorem we_eqv {P : D → Cells → Prop} (h : WE C E Γ Λ a fun x Λ1 => WE C E Γ Λ1 b fun y Λ2 => eqV Λ2 x y fun c => P (.bl c) Λ2) : WE C E Γ Λ (.Compare a [.Eq] [b] pos) P :=
  we_cmpK (r := rEqP C.K id) (fun X is => by rw [← is.K]; exact op_eqP is) (we_mono h fun x Λ1 p => we_mono p fun y Λ2 q => eqV_K (neg := id) q) (nomark _)
theorem wt_nev {P : Bool → Cells → Prop} (h : WE C E Γ Λ a fun x Λ1 => WE C E Γ Λ1 b fun y Λ2 => eqV Λ2 x y fun c => P (!c) Λ2) : WT C E Γ Λ (.Compare a [.NotEq] [b] pos) P :=
  wt_cmpK (r := rEqP C.K not) (fun X is => by rw [← is.K]; exact op_neP is) (we_mono h fun x Λ1 p => we_mono p fun y Λ2 q => eqV_K (neg := not) (by obtain ⟨q1, q2, q3, q4⟩ := q; exact ⟨q1, q2, q3, _, rfl, q4⟩)) (nomark _)
/-- o.clear() of an owned list -/
theorem we_clear {P : D → Cells → Prop} (h : WE C E Γ Λ o fun x Λ1 => ∃ n ds, x = .loc n ∧ Λ1[n]? = some (.lst ds) ∧ P .non (Λ1.set n (.lst [])))
    (ho : plainO o = true := by rfl) (hl : (apos.endLine == cpos.line) = true := by rfl) : WE C E Γ Λ (.Call (.Attribute o "clear" apos) [] [] cpos) P := fun X F W is tk => by
  refine pe_imp (pe_bm0 PySem.F.plainAttrs_list PySem.F.slot_list_clear PySem.F.type_list_clear mt_clear pe_U (base_plain ho) hl) fun σ H Q ⟨B, α, S, q, er⟩ => ?_
  refine WE.use h is tk S er fun x Λ1 vx B1 α1 H1 p1 S1 e1 f1 r1 => ?_
  obtain ⟨n, ds, rfl, hn, p⟩ := p1
  obtain ⟨a, vs, rfl, g1, g2, g3, g4⟩ := S1.cellL r1 hn
  refine ⟨.inl ⟨rfl, _, by exact SqL.of g3⟩, a, vs, rfl, rfl, g3, ?_⟩
  exact q _ _ _ B1 α1 _ p (S1.put g1 g2 ⟨[], upd_same, .nil⟩) e1 f1 (by unfold Rep; rfl)
end
end Pl
namespace Pl
open PySem L2 PyProof.Rows
/-! ### comprehensions whose items are told by a word only -/
inductive All2 {β γ : Type} (R : β → γ → Prop) : List β → List γ → Prop
  | nil : All2 R [] []
  | cons {x y xs ys} : R x y → All2 R xs ys → All2 R (x :: xs) (y :: ys)
theorem All2.len {β γ : Type} {R : β → γ → Prop} {xs : List β} {ys : List γ} (h : All2 R xs ys) : xs.length = ys.length := by
  induction h with
  | nil => rfl
  | cons _ _ ih => simp [ih]
section
variable {C : Ctx} {Γ : Env} {Λ : Cells} {tg elt : Expr} {ws : List Nat} {P : List D → Prop} {β γ : Type}
theorem compP_all2 (g : β → D) (f : γ → D) (R : β → γ → Prop) : ∀ (xs : List β) (acc : List D), (∀ x ∈ xs, WG C Γ Λ tg (g x) ws fun Γ' => WE C ER.none Γ' Λ elt fun y Λ' => ∃ z, y = f z ∧ R x z ∧ Λ' = Λ) → acc.length + xs.length < 10000000 → (∀ zs, All2 R xs zs → P (acc ++ zs.map f)) →
    CompP C Γ Λ tg ws [] elt P (xs.map g) acc
  | [], acc, _, _, p => by
    rw [List.map_nil, CompP]
    simpa using p [] .nil
  | x :: xs, acc, h, hl, p => by
    rw [List.length_cons] at hl
    rw [List.map_cons, CompP]
    refine ⟨by omega, ?_⟩
    have hx := h x List.mem_cons_self
    intro X F is
    refine pg_imp (hx X F is) fun v σ H Q ⟨B, α, S, r, q⟩ => ⟨B, α, S, r, fun Γ' σ' p' S' ag => q Γ' σ' ?_ S' ag⟩
    refine we_mono p' fun y Λ' e => ?_
    obtain ⟨z, e1, e2, e3⟩ := e
    rw [e1]
    exact ⟨e3, compP_all2 g f R xs (acc ++ [f z]) (fun w hw => h w (List.mem_cons_of_mem _ hw)) (by rw [List.length_append, List.length_singleton]; omega) fun zs hz => by simpa using p (z :: zs) (.cons e2 hz)⟩
end
end Pl
namespace Pl
open PySem L2
theorem gSetLC {C : Ctx} {Γ : Env} {Λ : Cells} (x : Str) {p pos q : Pos} {elt : Expr} {gs : List Comprehension} {sc : Scope} {R : Rs} (h : WS C Γ Λ (.Assign [.Name x p] (.ListComp elt gs sc q) pos) R) : WS C Γ Λ (.Assign [.Name x p] (.ListComp elt gs sc q) pos) R := h
end Pl
namespace Pl
open PySem L2
mutual
theorem dv_nl {Λ : Cells} : ∀ d : D, nl d = true → dv Λ d = d
  | .loc n, h => by cases h
  | .tup ds, h => by show D.tup _ = _; rw [dvs_nl ds h]
  | .lst ds, h => by show D.lst _ = _; rw [dvs_nl ds h]
  | .fzl ds, h => by show D.fzl _ = _; rw [dvs_nl ds h]
  | .ins C ns ds, h => rfl
  | .dic ks ds, h => rfl
  | .exc C ns ds, h => rfl
  | .non, _ => rfl
  | .bl _, _ => rfl
  | .int _, _ => rfl
  | .str _, _ => rfl
  | .raw _, _ => rfl
theorem dvs_nl {Λ : Cells} : ∀ ds : List D, nls ds = true → dvs Λ ds = ds
  | [], _ => rfl
  | d :: ds, h => by
    have h' : (nl d && nls ds) = true := h
    rw [Bool.and_eq_true] at h'
    show dv Λ d :: dvs Λ ds = _
    rw [dv_nl d h'.1, dvs_nl ds h'.2]
end
theorem eqV_same {Λ : Cells} {x y z : D} {P : Bool → Prop} (hx : dv Λ x = z) (hy : dv Λ y = z) (hp : (py z).plain = true) (hd : (py z).depth ≤ 190) (h : P true) : eqV Λ x y P := by
  unfold eqV
  rw [hx, hy]
  exact ⟨hp, hp, by rw [Nat.min_self]; exact hd, by rw [PySem.SeqAt.eqv_refl_plain _ hp]; exact h⟩
end Pl
namespace Pl
open PySem L2
/-- x = [..], x a name that comprehensions see -/
theorem swap_cell {elt : Expr} {gs : List Comprehension} {scope : Scope} {q p : Pos} {l : Nat} {x : Str} {env : PySem.Env} (h : (env.kindOf x == some .local) = false) : swapsWith (.ListComp elt gs scope q) (some (.Name x p)) l env = pure false := by
  unfold swapsWith
  simp [h]
theorem ws_setcell {C : Ctx} {Γ : Env} {Λ : Cells} {R : Rs} {i : Nat} {x : Str} {elt : Expr} {gs : List Comprehension} {scope : Scope} {q pos pos' : Pos} (hi : C.N[i]? = some x) (hl : C.ls[i]? = some true) (hx : (C.sc.names.lookup x == some .local) = false)
    (h : WE C R.er Γ Λ (.ListComp elt gs scope q) fun d Λ' => R.nx (Γ.set i (some d)) Λ') : WS C Γ Λ (.Assign [.Name x pos'] (.ListComp elt gs scope q) pos) R := fun X F W is hm tk => by
  refine ps_imp (ps_set is.nd (is.ni hi) (is.loc hi hl) pe_U (swap_cell (by show (X.env.scope.names.lookup x == some .local) = false; rw [is.sc]; exact hx)) (is.fn i x hi hl)) fun D σ H ⟨B, α, S, q⟩ => ?_
  exact WE.use h is tk S q.er.at fun d Λ' v B' α' H' p S' e f r => q.nx _ Λ' B' α' _ H' p (S'.set r) e
end Pl

namespace Law
open PySem L2 Pl
/-- a letter -/
inductive Lt | p | q | r
  deriving DecidableEq
def Lt.s : Lt → Str | .p => "p" | .q => "q" | .r => "r"
inductive Bop | and | or | iff
  deriving DecidableEq
def Bop.s : Bop → Str | .and => "and" | .or => "or" | .iff => "if"
/-- a saying -/
inductive Sy
  | no | lt (l : Lt) | not (a : Sy) | shown (a : Sy) | bin (o : Bop) (a b : Sy)
  deriving DecidableEq
namespace Sy
def pv : Sy → D
  | no => .tup [.str "no"]
  | lt l => .tup [.str "letter", .str l.s]
  | not a => .tup [.str "not", a.pv]
  | shown a => .tup [.str "shown", a.pv]
  | bin o a b => .tup [.str o.s, a.pv, b.pv]
def size : Sy → Nat
  | no => 1
  | lt _ => 1
  | not a => 1 + a.size
  | shown a => 1 + a.size
  | bin _ a b => 1 + a.size + b.size
def kids : Sy → List Sy
  | no => []
  | lt _ => []
  | not a => [a]
  | shown a => [a]
  | bin _ a b => [a, b]
/-- nesting -/
def ht : Sy → Nat
  | no => 1
  | lt _ => 1
  | not a => 1 + a.ht
  | shown a => 1 + a.ht
  | bin _ a b => 1 + max a.ht b.ht
theorem nl_pv : ∀ s : Sy, nl s.pv = true
  | no => rfl
  | lt _ => rfl
  | not a => by show (true && (nl a.pv && true)) = true; rw [nl_pv a]; rfl
  | shown a => by show (true && (nl a.pv && true)) = true; rw [nl_pv a]; rfl
  | bin o a b => by show (true && (nl a.pv && (nl b.pv && true))) = true; rw [nl_pv a, nl_pv b]; rfl
theorem ht_size : ∀ s : Sy, s.ht ≤ s.size
  | no => Nat.le_refl _
  | lt _ => Nat.le_refl _
  | not a => Nat.add_le_add_left (ht_size a) 1
  | shown a => Nat.add_le_add_left (ht_size a) 1
  | bin _ a b => by have := ht_size a; have := ht_size b; simp only [ht, size]; omega
theorem ht_pos (s : Sy) : 1 ≤ s.ht := by cases s <;> simp [ht] <;> omega
theorem kid_ht {m : Nat} {s x : Sy} (h : s.ht ≤ m + 1) (hx : x ∈ s.kids) : x.ht ≤ m := by
  cases s <;> simp only [kids, List.not_mem_nil, List.mem_cons, or_false, ht] at h hx
  · subst hx; omega
  · subst hx; omega
  · rcases hx with rfl | rfl <;> omega
theorem kids_few (s : Sy) : ([] : List D).length + s.kids.length < 10000000 := by cases s <;> simp [kids]
theorem size_kids (s : Sy) : (1 : Int) + (s.kids.map fun x => (x.size : Int)).sum = s.size := by
  cases s <;> simp [kids, size] <;> omega
/-- the depth -/
def dep : Sy → Nat
  | no => 0
  | lt _ => 0
  | not a => a.dep
  | shown a => a.dep + 1
  | bin _ a b => max a.dep b.dep
end Sy
namespace Sy
theorem pv_plain : ∀ s : Sy, (py s.pv).plain = true
  | no => rfl
  | lt _ => rfl
  | not a => by show (PyData.tuple [.str "not", py a.pv]).plain = true; simp [PyData.plain, PyData.plainAll, pv_plain a]
  | shown a => by show (PyData.tuple [.str "shown", py a.pv]).plain = true; simp [PyData.plain, PyData.plainAll, pv_plain a]
  | bin o a b => by show (PyData.tuple [.str o.s, py a.pv, py b.pv]).plain = true; simp [PyData.plain, PyData.plainAll, pv_plain a, pv_plain b]
theorem pv_depth : ∀ s : Sy, (py s.pv).depth ≤ s.ht
  | no => by show (PyData.tuple [.str "no"]).depth ≤ 1; simp [PyData.depth, PyData.depthAll]
  | lt l => by show (PyData.tuple [.str "letter", .str l.s]).depth ≤ 1; simp [PyData.depth, PyData.depthAll]
  | not a => by
    have := pv_depth a
    show (PyData.tuple [.str "not", py a.pv]).depth ≤ 1 + a.ht
    simp only [PyData.depth, PyData.depthAll]; omega
  | shown a => by
    have := pv_depth a
    show (PyData.tuple [.str "shown", py a.pv]).depth ≤ 1 + a.ht
    simp only [PyData.depth, PyData.depthAll]; omega
  | bin o a b => by
    have := pv_depth a
    have := pv_depth b
    show (PyData.tuple [.str o.s, py a.pv, py b.pv]).depth ≤ 1 + max a.ht b.ht
    simp only [PyData.depth, PyData.depthAll]; omega
theorem pv_tup : ∀ s : Sy, ∃ ds, s.pv = .tup ds
  | no => ⟨_, rfl⟩
  | lt _ => ⟨_, rfl⟩
  | not _ => ⟨_, rfl⟩
  | shown _ => ⟨_, rfl⟩
  | bin _ _ _ => ⟨_, rfl⟩
theorem vw_pv (Λ : Cells) (s : Sy) : vw Λ s.pv = s.pv := by obtain ⟨ds, e⟩ := pv_tup s; rw [e]; rfl
theorem ty_pv (Λ : Cells) (s : Sy) : tyD Λ s.pv = some "tuple" := by obtain ⟨ds, e⟩ := pv_tup s; rw [e]; rfl
theorem eqP_pv {Λ : Cells} {s : Sy} {Pb : Bool → Prop} (hd : s.ht ≤ 190) (h : Pb true) : eqP Λ s.pv s.pv Pb :=
  eqP_refl (by rw [vw_pv]; exact pv_plain s) (by rw [vw_pv]; exact Nat.le_trans (pv_depth s) hd) h
end Sy
/-! what the builders take out of their lists -/
theorem leaf_mem {e : D} (h : e ∈ [D.tup [.str "no"], .tup [.str "letter", .str "p"], .tup [.str "letter", .str "q"], .tup [.str "letter", .str "r"]]) : ∃ l : Sy, e = l.pv ∧ l.size = 1 := by
  simp only [List.mem_cons, List.not_mem_nil, or_false] at h
  rcases h with rfl | rfl | rfl | rfl
  · exact ⟨.no, rfl, rfl⟩
  · exact ⟨.lt .p, rfl, rfl⟩
  · exact ⟨.lt .q, rfl, rfl⟩
  · exact ⟨.lt .r, rfl, rfl⟩
theorem un_mem {e : D} (h : e ∈ [D.str "not", .str "shown", .str "shown"]) : ∃ f : Sy → Sy, ∀ a, D.tup [e, a.pv] = (f a).pv ∧ (f a).size = a.size + 1 := by
  simp only [List.mem_cons, List.not_mem_nil, or_false] at h
  rcases h with rfl | rfl | rfl
  · exact ⟨.not, fun a => ⟨rfl, by simp [Sy.size]; omega⟩⟩
  · exact ⟨.shown, fun a => ⟨rfl, by simp [Sy.size]; omega⟩⟩
  · exact ⟨.shown, fun a => ⟨rfl, by simp [Sy.size]; omega⟩⟩
theorem bin_mem {e : D} (h : e ∈ [D.str "and", .str "or", .str "if"]) : ∃ o : Bop, e = .str o.s := by
  simp only [List.mem_cons, List.not_mem_nil, or_false] at h
  rcases h with rfl | rfl | rfl
  · exact ⟨.and, rfl⟩
  · exact ⟨.or, rfl⟩
  · exact ⟨.iff, rfl⟩
theorem w_no : ¬ (Str.ofString "no" = Str.ofString "shown") := by decide
theorem w_letter : ¬ (Str.ofString "letter" = Str.ofString "shown") := by decide
theorem w_not : ¬ (Str.ofString "not" = Str.ofString "shown") := by decide
theorem w_bop (o : Bop) : ¬ (o.s = Str.ofString "shown") := by cases o <;> decide
/-- the parts of a stack, all together -/
def tot (st : List Sy) : Nat := (st.map Sy.size).sum
theorem tot_snoc (st : List Sy) (y : Sy) : tot (st ++ [y]) = tot st + y.size := by simp [tot]
theorem size_pos (s : Sy) : 1 ≤ s.size := by cases s <;> simp [Sy.size] <;> omega
theorem len_tot (st : List Sy) : st.length ≤ tot st := by
  induction st with
  | nil => simp [tot]
  | cons a st ih => have := size_pos a; simp only [tot, List.map_cons, List.sum_cons, List.length_cons] at *; omega
end Law

/-! Ss: the order of sayings -/
namespace Law
open PySem L2 Pl
/-! ### an order of lists of numbers -/
def lexN : List Nat → List Nat → Bool
  | [], [] => false
  | [], _ :: _ => true
  | _ :: _, [] => false
  | a :: x, b :: y => if a = b then lexN x y else decide (a < b)
theorem lexN_self : ∀ x, lexN x x = false
  | [] => rfl
  | a :: x => by rw [lexN, if_pos rfl, lexN_self x]
theorem lexN_asym : ∀ x y, lexN x y = true → lexN y x = false
  | [], [], h => by cases h
  | [], _ :: _, _ => rfl
  | _ :: _, [], h => by cases h
  | a :: x, b :: y, h => by
    rw [lexN] at h ⊢
    by_cases e : a = b
    · rw [if_pos e] at h; rw [if_pos e.symm]; exact lexN_asym x y h
    · rw [if_neg e] at h; rw [if_neg (fun z => e z.symm)]
      have := of_decide_eq_true h
      exact decide_eq_false (by omega)
theorem lexN_tot : ∀ x y, lexN x y = false → lexN y x = false → x = y
  | [], [], _, _ => rfl
  | [], _ :: _, h, _ => by cases h
  | _ :: _, [], _, h => by cases h
  | a :: x, b :: y, h, g => by
    rw [lexN] at h g
    by_cases e : a = b
    · rw [if_pos e] at h; rw [if_pos e.symm] at g; rw [e, lexN_tot x y h g]
    · rw [if_neg e] at h; rw [if_neg (fun z => e z.symm)] at g
      have := of_decide_eq_false h
      have := of_decide_eq_false g
      omega
theorem lexN_trans : ∀ x y z, lexN x y = true → lexN y z = true → lexN x z = true
  | [], [], _, h, _ => by cases h
  | [], _ :: _, [], _, h => by cases h
  | [], _ :: _, _ :: _, _, _ => rfl
  | _ :: _, [], _, h, _ => by cases h
  | _ :: _, _ :: _, [], _, h => by cases h
  | a :: x, b :: y, c :: z, h, g => by
    rw [lexN] at h g ⊢
    by_cases e : a = b
    · rw [if_pos e] at h
      subst e
      by_cases e2 : a = c
      · rw [if_pos e2] at g ⊢; exact lexN_trans x y z h g
      · rw [if_neg e2] at g ⊢; exact g
    · rw [if_neg e] at h
      have h1 := of_decide_eq_true h
      by_cases e2 : b = c
      · subst e2; rw [if_neg e]; exact h
      · rw [if_neg e2] at g
        have h2 := of_decide_eq_true g
        rw [if_neg (by omega)]; exact decide_eq_true (by omega)
namespace Sy
def ix : Sy → Nat
  | bin .and _ _ => 0
  | bin .iff _ _ => 1
  | lt _ => 2
  | no => 3
  | not _ => 4
  | bin .or _ _ => 5
  | shown _ => 6
def _root_.Law.Lt.ix : Lt → Nat | .p => 0 | .q => 1 | .r => 2
/-- a code without prefixes -/
def code : Sy → List Nat
  | no => [3]
  | lt l => [2, l.ix]
  | not a => 4 :: code a
  | shown a => 6 :: code a
  | bin o a b => (bin o no no).ix :: (code a ++ code b)
def ltS (s t : Sy) : Bool := lexN (code s) (code t)
theorem code_app : ∀ (s t : Sy) (p q : List Nat), lexN (code s ++ p) (code t ++ q) = if s = t then lexN p q else ltS s t := by
  intro s
  induction s with
  | no =>
    intro t p q
    cases t with
    | no => simp [code, lexN]
    | bin o a b => cases o <;> simp [code, ltS, lexN, ix]
    | _ => simp [code, ltS, lexN]
  | lt l =>
    intro t p q
    cases t with
    | lt m => cases l <;> cases m <;> simp [code, ltS, lexN, Lt.ix]
    | bin o a b => cases o <;> simp [code, ltS, lexN, ix]
    | _ => simp [code, ltS, lexN]
  | not a ih =>
    intro t p q
    cases t with
    | not b => simp only [code, ltS, List.cons_append, lexN, if_true, ih b p q]; by_cases e : a = b <;> simp [e, ltS]
    | bin o a b => cases o <;> simp [code, ltS, lexN, ix]
    | _ => simp [code, ltS, lexN]
  | shown a ih =>
    intro t p q
    cases t with
    | shown b => simp only [code, ltS, List.cons_append, lexN, if_true, ih b p q]; by_cases e : a = b <;> simp [e, ltS]
    | bin o a b => cases o <;> simp [code, ltS, lexN, ix]
    | _ => simp [code, ltS, lexN]
  | bin o a b iha ihb =>
    intro t p q
    cases t with
    | bin o' a' b' =>
      by_cases eo : o = o'
      · subst eo
        simp only [code, ltS, List.cons_append, List.append_assoc, lexN, if_true, iha, ihb]
        by_cases e : a = a'
        · subst e
          by_cases e2 : b = b'
          · subst e2; simp
          · simp [e2]
        · simp [e]
      · have : ¬ (bin o no no).ix = (bin o' no no).ix := by cases o <;> cases o' <;> simp [ix] <;> exact eo rfl
        simp only [code, ltS, List.cons_append, lexN, if_neg this]
        rw [if_neg (by intro z; injection z with z1; exact eo z1)]
    | _ => cases o <;> simp [code, ltS, lexN, ix]
theorem ltS_kid (n : Nat) (a b : Sy) : lexN (n :: code a) (n :: code b) = ltS a b := by rw [lexN, if_pos rfl]; rfl
theorem code_inj {s t : Sy} (h : code s = code t) : s = t := by
  by_cases e : s = t
  · exact e
  · exfalso
    have h1 := code_app s t [] [0]
    have h2 := code_app s t [0] []
    rw [if_neg e] at h1 h2
    rw [h] at h1 h2
    have h3 := code_app t t [] [0]
    have h4 := code_app t t [0] []
    rw [if_pos rfl] at h3 h4
    rw [h3] at h1
    rw [h4] at h2
    rw [← h1] at h2
    cases h2
theorem ltS_tot {s t : Sy} (h : ltS s t = false) (g : ltS t s = false) : s = t := code_inj (lexN_tot _ _ h g)
/-! ### == of sayings -/
theorem strs_eqv (x y : Str) : PyData.eqv (.str x) (.str y) = decide (x = y) := by
  rw [PyData.eqv]
  by_cases e : x = y
  · subst e; simp
  · simp [e]
theorem lt_s_inj {a b : Lt} : a.s = b.s ↔ a = b := by
  constructor
  · intro h; cases a <;> cases b <;> first | rfl | (exfalso; revert h; decide)
  · rintro rfl; rfl
theorem eqv_pv : ∀ s t : Sy, PyData.eqv (py s.pv) (py t.pv) = decide (s = t) := by
  intro s
  induction s with
  | no =>
    intro t
    cases t with
    | bin o a b => cases o <;> (show PyData.eqv (.tuple [.str _]) (.tuple [.str _, _, _]) = _; simp [PyData.eqv, PyData.eqvAll])
    | no => show PyData.eqv (.tuple [.str "no"]) (.tuple [.str "no"]) = _; simp [PyData.eqv, PyData.eqvAll]
    | lt l => show PyData.eqv (.tuple [.str _]) (.tuple [.str _, _]) = _; simp [PyData.eqv, PyData.eqvAll]
    | not l => show PyData.eqv (.tuple [.str _]) (.tuple [.str _, _]) = _; simp [PyData.eqv, PyData.eqvAll]
    | shown l => show PyData.eqv (.tuple [.str _]) (.tuple [.str _, _]) = _; simp [PyData.eqv, PyData.eqvAll]
  | lt l =>
    intro t
    cases t with
    | bin o a b => show PyData.eqv (.tuple [.str _, _]) (.tuple [.str _, _, _]) = _; simp [PyData.eqv, PyData.eqvAll]
    | no => show PyData.eqv (.tuple [.str _, _]) (.tuple [.str _]) = _; simp [PyData.eqv, PyData.eqvAll]
    | lt m => cases l <;> cases m <;> rfl
    | not a => show PyData.eqv (.tuple [.str "letter", _]) (.tuple [.str "not", _]) = _; simp [PyData.eqv, PyData.eqvAll]; intro h; exact absurd h (by decide)
    | shown a => show PyData.eqv (.tuple [.str "letter", _]) (.tuple [.str "shown", _]) = _; simp [PyData.eqv, PyData.eqvAll]; intro h; exact absurd h (by decide)
  | not x ih =>
    intro t
    cases t with
    | bin o a b => show PyData.eqv (.tuple [.str _, _]) (.tuple [.str _, _, _]) = _; simp [PyData.eqv, PyData.eqvAll]
    | no => show PyData.eqv (.tuple [.str _, _]) (.tuple [.str _]) = _; simp [PyData.eqv, PyData.eqvAll]
    | lt m => show PyData.eqv (.tuple [.str "not", _]) (.tuple [.str "letter", _]) = _; simp [PyData.eqv, PyData.eqvAll]; intro h; exact absurd h (by decide)
    | not a => show PyData.eqv (.tuple [.str "not", py x.pv]) (.tuple [.str "not", py a.pv]) = _; simp [PyData.eqv, PyData.eqvAll, ih]
    | shown a => show PyData.eqv (.tuple [.str "not", _]) (.tuple [.str "shown", _]) = _; simp [PyData.eqv, PyData.eqvAll]; intro h; exact absurd h (by decide)
  | shown x ih =>
    intro t
    cases t with
    | bin o a b => show PyData.eqv (.tuple [.str _, _]) (.tuple [.str _, _, _]) = _; simp [PyData.eqv, PyData.eqvAll]
    | no => show PyData.eqv (.tuple [.str _, _]) (.tuple [.str _]) = _; simp [PyData.eqv, PyData.eqvAll]
    | lt m => show PyData.eqv (.tuple [.str "shown", _]) (.tuple [.str "letter", _]) = _; simp [PyData.eqv, PyData.eqvAll]; intro h; exact absurd h (by decide)
    | not a => show PyData.eqv (.tuple [.str "shown", _]) (.tuple [.str "not", _]) = _; simp [PyData.eqv, PyData.eqvAll]; intro h; exact absurd h (by decide)
    | shown a => show PyData.eqv (.tuple [.str "shown", py x.pv]) (.tuple [.str "shown", py a.pv]) = _; simp [PyData.eqv, PyData.eqvAll, ih]
  | bin o x y ihx ihy =>
    intro t
    cases t with
    | bin o' a b =>
      show PyData.eqv (.tuple [.str o.s, py x.pv, py y.pv]) (.tuple [.str o'.s, py a.pv, py b.pv]) = _
      have ho : (o.s = o'.s) ↔ o = o' := by
        constructor
        · intro h; cases o <;> cases o' <;> first | rfl | (exfalso; revert h; decide)
        · rintro rfl; rfl
      simp [PyData.eqv, PyData.eqvAll, ihx, ihy]
      by_cases e1 : o = o' <;> by_cases e2 : x = a <;> by_cases e3 : y = b <;> simp [e1, e2, e3, ho]
    | no => show PyData.eqv (.tuple [.str _, _, _]) (.tuple [.str _]) = _; simp [PyData.eqv, PyData.eqvAll]
    | lt m => show PyData.eqv (.tuple [.str _, _, _]) (.tuple [.str _, _]) = _; simp [PyData.eqv, PyData.eqvAll]
    | not a => show PyData.eqv (.tuple [.str _, _, _]) (.tuple [.str _, _]) = _; simp [PyData.eqv, PyData.eqvAll]
    | shown a => show PyData.eqv (.tuple [.str _, _, _]) (.tuple [.str _, _]) = _; simp [PyData.eqv, PyData.eqvAll]
end Sy
end Law

/-! Ss2: < of sayings, as the model reckons it -/
namespace Law
open PySem L2 Pl PySem.SeqAt PyProof.Rows PySem.W
namespace Sy
def wS : Nat → Str | 0 => "and" | 1 => "if" | 2 => "letter" | 3 => "no" | 4 => "not" | 5 => "or" | _ => "shown"
def kd : Sy → List PyData
  | no => []
  | lt l => [.str l.s]
  | not a => [py a.pv]
  | shown a => [py a.pv]
  | bin _ a b => [py a.pv, py b.pv]
def kc : Sy → List Nat
  | no => []
  | lt l => [l.ix]
  | not a => code a
  | shown a => code a
  | bin _ a b => code a ++ code b
theorem py_kd (s : Sy) : py s.pv = .tuple (.str (wS s.ix) :: kd s) := by
  cases s with
  | bin o a b => cases o <;> rfl
  | _ => rfl
theorem code_kc (s : Sy) : code s = s.ix :: kc s := by
  cases s with
  | bin o a b => cases o <;> rfl
  | _ => rfl
theorem ix_lt (s : Sy) : s.ix < 7 := by
  cases s with
  | bin o a b => cases o <;> simp [ix]
  | _ => simp [ix]
theorem wS_lt : ∀ i, i < 7 → ∀ j, j < 7 → decide ((wS i).cps.toList < (wS j).cps.toList) = decide (i < j) := by decide +kernel
theorem wS_eq : ∀ i, i < 7 → ∀ j, j < 7 → decide (wS i = wS j) = decide (i = j) := by decide +kernel
theorem lt_word {s t : Sy} (h : s.ix ≠ t.ix) : decide ((wS s.ix).cps.toList < (wS t.ix).cps.toList) = ltS s t := by
  rw [wS_lt _ (ix_lt s) _ (ix_lt t), ltS, code_kc s, code_kc t, lexN, if_neg h]
section
variable {A : Around} {z : Shared}
theorem eqStr {x y : Str} {v u : Value} {as bs : List Addr} (hv : Reads z.heap v (.str x) as) (hu : Reads z.heap u (.str y) bs) (hA : A.units < cLine) : EqAt A z v u (decide (x = y)) := by
  have := eqAt_plain (.str x) (.str y) A z v u as bs hv hu rfl rfl (by simpa [PyData.depth] using hA)
  rw [strs_eqv] at this; exact this
theorem rcStr {x y : Str} {v u : Value} {as bs : List Addr} (hv : Reads z.heap v (.str x) as) (hu : Reads z.heap u (.str y) bs) (hA : A.units < cLine) : RcLt A z v u (decide (x.cps.toList < y.cps.toList)) := by
  have := rcLt_alike (.str x) (.str y) A z v u as bs hv hu rfl (by simp) (by simpa [PyData.depth] using hA)
  rw [dataLt_str] at this; exact this
theorem eqSy {s t : Sy} {v u : Value} {as bs : List Addr} (hv : Reads z.heap v (py s.pv) as) (hu : Reads z.heap u (py t.pv) bs) (hA : A.units + s.ht < cLine) : EqAt A z v u (decide (s = t)) := by
  have := eqAt_plain _ _ A z v u as bs hv hu (pv_plain s) (pv_plain t) (by have := pv_depth s; omega)
  rw [eqv_pv] at this; exact this
theorem rcs : ∀ (n : Nat) (s t : Sy), s.ht ≤ n → ∀ (A : Around) (v u : Value) (as bs : List Addr), Reads z.heap v (py s.pv) as → Reads z.heap u (py t.pv) bs → A.units + n + 2 < cLine → RcLt A z v u (ltS s t) := by
  intro n
  induction n with
  | zero => intro s t h; have := ht_pos s; omega
  | succ n ih =>
    intro s t hs A v u as bs hv hu hA
    have hA' : A.in1.units = A.units + 1 := rfl
    rw [py_kd] at hv hu
    cases hv with
    | @tuple l o us m _ as₁ h1 h2 h3 h4 =>
      cases hu with
      | @tuple l' o' ws m' _ bs₁ k1 k2 k3 k4 =>
        refine Tlt.rc_tup ⟨_, h1, h2, _, h3⟩ ⟨_, k1, k2, _, k3⟩ (by omega) ?_
        have n1 : us.size = (PyData.str (wS s.ix) :: kd s).length := by simpa using ReadsAll.length _ _ _ h4
        have n2 : ws.size = (PyData.str (wS t.ix) :: kd t).length := by simpa using ReadsAll.length _ _ _ k4
        rw [n1, n2]
        generalize us.toList = xs at h4
        generalize ws.toList = ys at k4
        cases h4 with
        | cons r rs =>
          cases k4 with
          | cons r' rs' =>
            refine ⟨_, eqStr r r' (by omega), fun e => ?_, fun e => ?_⟩
            · have e1 : s.ix = t.ix := of_decide_eq_true (by rw [← wS_eq _ (ix_lt s) _ (ix_lt t)]; exact e)
              have shape : ∀ {a b : Sy} {vs ws : List Value} {as bs : List Addr}, ReadsAll z.heap vs [py a.pv] as → ReadsAll z.heap ws [py b.pv] bs → a.ht ≤ n → Tlt.LtP A.in1 z false (vs.zip ws) (ltS a b) := fun {a b vs ws as bs} rs rs' c3 => by
                cases rs with
                | cons q qs =>
                  cases rs' with
                  | cons q' qs' =>
                    cases qs
                    cases qs'
                    refine ⟨_, eqSy q q' (by omega), fun f => ?_, fun f => ih a b c3 A.in1 _ _ _ _ q q' (by omega)⟩
                    have : a = b := of_decide_eq_true f
                    subst this
                    show ltS a a = _
                    rw [ltS, lexN_self]
              cases s with
              | no =>
                cases t with
                | no => cases rs; cases rs'; show ltS no no = _; rfl
                | bin o a b => cases o <;> simp [ix] at e1
                | _ => simp [ix] at e1
              | lt x =>
                cases t with
                | lt y =>
                  cases rs with
                  | cons q qs =>
                    cases rs' with
                    | cons q' qs' =>
                      cases qs
                      cases qs'
                      refine ⟨_, eqStr q q' (by omega), fun f => ?_, fun f => ?_⟩
                      · have : x = y := lt_s_inj.mp (of_decide_eq_true f)
                        subst this
                        show ltS (lt x) (lt x) = _
                        rw [ltS, lexN_self]; rfl
                      · have := rcStr q q' (A := A.in1) (z := z) (by omega)
                        have e2 : decide (x.s.cps.toList < y.s.cps.toList) = ltS (lt x) (lt y) := by cases x <;> cases y <;> decide +kernel
                        rw [e2] at this; exact this
                | bin o a b => cases o <;> simp [ix] at e1
                | _ => simp [ix] at e1
              | not a =>
                cases t with
                | not b => rw [show ltS (not a) (not b) = ltS a b from ltS_kid 4 a b]; exact shape rs rs' (by simp only [ht] at hs; omega)
                | bin o a b => cases o <;> simp [ix] at e1
                | _ => simp [ix] at e1
              | shown a =>
                cases t with
                | shown b => rw [show ltS (shown a) (shown b) = ltS a b from ltS_kid 6 a b]; exact shape rs rs' (by simp only [ht] at hs; omega)
                | bin o a b => cases o <;> simp [ix] at e1
                | _ => simp [ix] at e1
              | bin o a b =>
                cases t with
                | bin o' a' b' =>
                  have eo : o = o' := by cases o <;> cases o' <;> first | rfl | (simp [ix] at e1)
                  subst eo
                  have hs' : a.ht ≤ n ∧ b.ht ≤ n := by simp only [ht] at hs; omega
                  have e3 : ltS (bin o a b) (bin o a' b') = if a = a' then ltS b b' else ltS a a' := by
                    rw [ltS, code, code, lexN, if_pos rfl, code_app]; rfl
                  cases rs with
                  | cons q qs =>
                    cases rs' with
                    | cons q' qs' =>
                      cases qs with
                      | cons p ps =>
                        cases qs' with
                        | cons p' ps' =>
                          cases ps
                          cases ps'
                          rw [e3]
                          refine ⟨_, eqSy q q' (by omega), fun f => ?_, fun f => ?_⟩
                          · rw [if_pos (of_decide_eq_true f)]
                            refine ⟨_, eqSy p p' (by omega), fun g => ?_, fun g => ih b b' hs'.2 A.in1 _ _ _ _ p p' (by omega)⟩
                            have : b = b' := of_decide_eq_true g
                            subst this
                            show ltS b b = _
                            rw [ltS, lexN_self]; rfl
                          · rw [if_neg (of_decide_eq_false f)]
                            exact ih a a' hs'.1 A.in1 _ _ _ _ q q' (by omega)
                | _ => cases o <;> simp [ix] at e1
            · have e1 : s.ix ≠ t.ix := of_decide_eq_false (by rw [← wS_eq _ (ix_lt s) _ (ix_lt t)]; exact e)
              have := rcStr r r' (A := A.in1) (z := z) (by omega)
              rw [lt_word e1] at this; exact this
end
end Sy
end Law

/-! Ss3: sorted() of sayings -/
namespace Law
open PySem L2 Pl PySem.SeqAt PyProof.Rows PySem.W
namespace Sy
section
variable {A : Around} {z : Shared}
theorem kidsP {s t : Sy} {vs ws : List Value} {as bs : List Addr} (e1 : s.ix = t.ix) (rs : ReadsAll z.heap vs (kd s) as) (rs' : ReadsAll z.heap ws (kd t) bs) (hA : A.units + s.ht + 4 < cLine) : Tlt.LtP A z false (vs.zip ws) (ltS s t) := by
  have shape : ∀ {a b : Sy} {vs ws : List Value} {as bs : List Addr}, ReadsAll z.heap vs [py a.pv] as → ReadsAll z.heap ws [py b.pv] bs → a.ht ≤ s.ht → Tlt.LtP A z false (vs.zip ws) (ltS a b) := fun {a b vs ws as bs} rs rs' c3 => by
    cases rs with
    | cons q qs =>
      cases rs' with
      | cons q' qs' =>
        cases qs
        cases qs'
        refine ⟨_, eqSy q q' (by omega), fun f => ?_, fun f => rcs a.ht a b (Nat.le_refl _) A _ _ _ _ q q' (by omega)⟩
        have : a = b := of_decide_eq_true f
        subst this
        show ltS a a = _
        rw [ltS, lexN_self]
  cases s with
  | no =>
    cases t with
    | no => cases rs; cases rs'; rfl
    | bin o a b => cases o <;> simp [ix] at e1
    | _ => simp [ix] at e1
  | lt x =>
    cases t with
    | lt y =>
      cases rs with
      | cons q qs =>
        cases rs' with
        | cons q' qs' =>
          cases qs
          cases qs'
          refine ⟨_, eqStr q q' (by omega), fun f => ?_, fun f => ?_⟩
          · have : x = y := lt_s_inj.mp (of_decide_eq_true f)
            subst this
            show ltS (lt x) (lt x) = _
            rw [ltS, lexN_self]
          · have := rcStr q q' (A := A) (z := z) (by omega)
            have e2 : decide (x.s.cps.toList < y.s.cps.toList) = ltS (lt x) (lt y) := by cases x <;> cases y <;> decide +kernel
            rw [e2] at this; exact this
    | bin o a b => cases o <;> simp [ix] at e1
    | _ => simp [ix] at e1
  | not a =>
    cases t with
    | not b => rw [show ltS (not a) (not b) = ltS a b from ltS_kid 4 a b]; exact shape rs rs' (by simp only [ht]; omega)
    | bin o a b => cases o <;> simp [ix] at e1
    | _ => simp [ix] at e1
  | shown a =>
    cases t with
    | shown b => rw [show ltS (shown a) (shown b) = ltS a b from ltS_kid 6 a b]; exact shape rs rs' (by simp only [ht]; omega)
    | bin o a b => cases o <;> simp [ix] at e1
    | _ => simp [ix] at e1
  | bin o a b =>
    cases t with
    | bin o' a' b' =>
      have eo : o = o' := by cases o <;> cases o' <;> first | rfl | (simp [ix] at e1)
      subst eo
      have e3 : ltS (bin o a b) (bin o a' b') = if a = a' then ltS b b' else ltS a a' := by
        rw [ltS, code, code, lexN, if_pos rfl, code_app]; rfl
      simp only [ht] at hA
      cases rs with
      | cons q qs =>
        cases rs' with
        | cons q' qs' =>
          rw [e3]
          refine ⟨_, eqSy q q' (by omega), fun f => ?_, fun f => ?_⟩
          · rw [if_pos (of_decide_eq_true f)]
            exact shape qs qs' (by simp only [ht]; omega)
          · rw [if_neg (of_decide_eq_false f)]
            exact rcs a.ht a a' (Nat.le_refl _) A _ _ _ _ q q' (by omega)
    | _ => cases o <;> simp [ix] at e1
end
def ar : Nat → Nat | 0 => 2 | 1 => 2 | 2 => 1 | 3 => 0 | 4 => 1 | 5 => 2 | _ => 1
theorem kd_len (s : Sy) : (kd s).length = ar s.ix := by
  cases s with
  | bin o a b => cases o <;> rfl
  | _ => rfl
section
variable {prog : Program} {w : World} {A : Around} {z : Shared}
theorem kat_of {fin : Bool} {Q : Bool → Shared → Prop} : ∀ (l : List (Value × Value)) (i : Nat) (k : Bool), Tlt.LtP A z fin l k → Q k z → KatLex prog w A true fin Q l (i + 1) z
  | [], i, k, h, q => by
    have h : k = fin := h
    subst h
    exact kat_nil q
  | (x, y) :: r, i, k, ⟨e, he, h1, h2⟩, q => by
    refine kat_cons (he prog w _ _ ?_)
    refine kat_go (fun e1 => kat_yes (kat_of r (i + 1) k (h1 e1) q)) fun e1 => ?_
    refine kat_no ?_
    rw [show (true && i + 1 == 0) = false from rfl]
    exact kat_one _ _ (h2 e1 prog w _ _ (show PySem.W.BoolBack Q (.bool k) z from q))
theorem cmpS {s t : Sy} {v u : Value} {as bs : List Addr} (hv : Reads z.heap v (py s.pv) as) (hu : Reads z.heap u (py t.pv) bs) (hA : A.units + s.ht + 4 < cLine) :
    wpAny (model prog w) A (keyLt' (tuples' true) v u) (fun r z' => z' = z ∧ r = ltS s t) (fun _ _ => False) z := by
  rw [py_kd] at hv hu
  cases hv with
  | @tuple l o us m _ as₁ h1 h2 h3 h4 =>
    cases hu with
    | @tuple l' o' ws m' _ bs₁ k1 k2 k3 k4 =>
      have n1 : us.size = (PyData.str (wS s.ix) :: kd s).length := by simpa using ReadsAll.length _ _ _ h4
      have n2 : ws.size = (PyData.str (wS t.ix) :: kd t).length := by simpa using ReadsAll.length _ _ _ k4
      refine kat_lt h1 h3 k1 k3 ?_
      rw [n1, n2]
      generalize us.toList = xs at h4
      generalize ws.toList = ys at k4
      cases h4 with
      | cons r rs =>
        cases k4 with
        | cons r' rs' =>
          refine kat_cons (eqStr (A := A) r r' (by omega) prog w _ _ ?_)
          refine kat_go (fun e => kat_yes ?_) fun e => kat_no ?_
          · have e1 : s.ix = t.ix := of_decide_eq_true (by rw [← wS_eq _ (ix_lt s) _ (ix_lt t)]; exact e)
            have el : (PyData.str (wS s.ix) :: kd s).length = (PyData.str (wS t.ix) :: kd t).length := by
              rw [List.length_cons, List.length_cons, kd_len, kd_len, e1]
            rw [el, show decide ((PyData.str (wS t.ix) :: kd t).length < (PyData.str (wS t.ix) :: kd t).length) = false from decide_eq_false (Nat.lt_irrefl _)]
            exact kat_of _ 0 (ltS s t) (kidsP e1 rs rs' hA) ⟨rfl, rfl⟩
          · have e1 : s.ix ≠ t.ix := of_decide_eq_false (by rw [← wS_eq _ (ix_lt s) _ (ix_lt t)]; exact e)
            cases r
            cases r'
            show wpAny (model prog w) A (oneLt' true _ _) _ _ z
            exact oneLt_str ⟨rfl, lt_word e1⟩
/-! ### the sort -/
theorem ra_cons {h : Heap} {vs : List Value} {d : PyData} {ds : List PyData} {as : List Addr} (r : ReadsAll h vs (d :: ds) as) : ∃ v ws a b, vs = v :: ws ∧ as = a ++ b ∧ Reads h v d a ∧ ReadsAll h ws ds b := by
  cases r with
  | cons q qs => exact ⟨_, _, _, _, rfl, rfl, q, qs⟩
theorem ra_nil {h : Heap} {vs : List Value} {as : List Addr} (r : ReadsAll h vs [] as) : vs = [] ∧ as = [] := by cases r; exact ⟨rfl, rfl⟩
theorem reads_tup {h h' : Heap} (keep : ∀ b o, h.get? b = some o → o.cls = .type "tuple" → h'.get? b = some o) : ∀ (s : Sy) (v : Value) (as : List Addr), Reads h v (py s.pv) as → Reads h' v (py s.pv) as := by
  intro s
  have str : ∀ {x : Str} {v : Value} {as : List Addr}, Reads h v (.str x) as → Reads h' v (.str x) as := fun r => by cases r; exact .str _ _
  induction s with
  | no =>
    intro v as r
    have r : Reads h v (.tuple [.str "no"]) as := r
    show Reads h' v (.tuple [.str "no"]) as
    cases r with
    | tuple h1 h2 h3 h4 =>
      obtain ⟨v1, w1, a1, b1, e1, f1, q1, r1⟩ := ra_cons h4
      refine .tuple (keep _ _ h1 h2) h2 h3 ?_
      rw [e1, f1, (ra_nil r1).1, (ra_nil r1).2]; exact .cons (str q1) .nil
  | lt l =>
    intro v as r
    have r : Reads h v (.tuple [.str "letter", .str l.s]) as := r
    show Reads h' v (.tuple [.str "letter", .str l.s]) as
    cases r with
    | tuple h1 h2 h3 h4 =>
      obtain ⟨v1, w1, a1, b1, e1, f1, q1, r1⟩ := ra_cons h4
      obtain ⟨v2, w2, a2, b2, e2, f2, q2, r2⟩ := ra_cons r1
      refine .tuple (keep _ _ h1 h2) h2 h3 ?_
      rw [e1, f1, e2, f2, (ra_nil r2).1, (ra_nil r2).2]; exact .cons (str q1) (.cons (str q2) .nil)
  | not a ih =>
    intro v as r
    have r : Reads h v (.tuple [.str "not", py a.pv]) as := r
    show Reads h' v (.tuple [.str "not", py a.pv]) as
    cases r with
    | tuple h1 h2 h3 h4 =>
      obtain ⟨v1, w1, a1, b1, e1, f1, q1, r1⟩ := ra_cons h4
      obtain ⟨v2, w2, a2, b2, e2, f2, q2, r2⟩ := ra_cons r1
      refine .tuple (keep _ _ h1 h2) h2 h3 ?_
      rw [e1, f1, e2, f2, (ra_nil r2).1, (ra_nil r2).2]; exact .cons (str q1) (.cons (ih _ _ q2) .nil)
  | shown a ih =>
    intro v as r
    have r : Reads h v (.tuple [.str "shown", py a.pv]) as := r
    show Reads h' v (.tuple [.str "shown", py a.pv]) as
    cases r with
    | tuple h1 h2 h3 h4 =>
      obtain ⟨v1, w1, a1, b1, e1, f1, q1, r1⟩ := ra_cons h4
      obtain ⟨v2, w2, a2, b2, e2, f2, q2, r2⟩ := ra_cons r1
      refine .tuple (keep _ _ h1 h2) h2 h3 ?_
      rw [e1, f1, e2, f2, (ra_nil r2).1, (ra_nil r2).2]; exact .cons (str q1) (.cons (ih _ _ q2) .nil)
  | bin o a b iha ihb =>
    intro v as r
    have r : Reads h v (.tuple [.str o.s, py a.pv, py b.pv]) as := r
    show Reads h' v (.tuple [.str o.s, py a.pv, py b.pv]) as
    cases r with
    | tuple h1 h2 h3 h4 =>
      obtain ⟨v1, w1, a1, b1, e1, f1, q1, r1⟩ := ra_cons h4
      obtain ⟨v2, w2, a2, b2, e2, f2, q2, r2⟩ := ra_cons r1
      obtain ⟨v3, w3, a3, b3, e3, f3, q3, r3⟩ := ra_cons r2
      refine .tuple (keep _ _ h1 h2) h2 h3 ?_
      rw [e1, f1, e2, f2, e3, f3, (ra_nil r3).1, (ra_nil r3).2]; exact .cons (str q1) (.cons (iha _ _ q2) (.cons (ihb _ _ q3) .nil))
theorem firsts {h : Heap} {k : Value → Sy} : ∀ {vs : List Value}, (∀ v ∈ vs, ∃ as, Reads h v (py (k v).pv) as) → ∃ fs : List Value, KatTups h vs fs ∧ fs.length = vs.length ∧ ∀ f ∈ fs, ∃ x t, f = Value.str x t
  | [], _ => ⟨[], KatTups.nil, rfl, fun _ hm => by simp at hm⟩
  | v :: vs, hp => by
    obtain ⟨fs, h1, h2, h3⟩ := firsts (vs := vs) fun v' hm => hp v' (List.mem_cons_of_mem _ hm)
    obtain ⟨as, r⟩ := hp v List.mem_cons_self
    rw [py_kd] at r
    cases r with
    | @tuple l o us m _ as₁ g1 g2 g3 g4 =>
      generalize hx : us.toList = xs at g4
      cases g4 with
      | cons q qs =>
        cases q
        rename_i t
        refine ⟨.str _ t :: fs, KatTups.cons g1 g2 g3 (by rw [← Array.getElem?_toList, hx]; rfl) h1, by rw [List.length_cons, List.length_cons, h2], fun f hm => ?_⟩
        rcases List.mem_cons.mp hm with rfl | hm
        · exact ⟨_, t, rfl⟩
        · exact h3 f hm
theorem lex_tr {x y z : List Nat} (h1 : lexN y x = false) (h2 : lexN z y = false) : lexN z x = false := by
  cases e : lexN z x with
  | false => rfl
  | true =>
    exfalso
    cases e1 : lexN x y with
    | false =>
      rw [lexN_tot _ _ e1 h1] at e
      rw [e] at h2; cases h2
    | true =>
      have := lexN_trans _ _ _ e e1
      rw [this] at h2; cases h2
theorem swo (k : Value → Sy) : SrtO.Swo fun v u => ltS (k v) (k u) := by
  exact ⟨fun x y h => lexN_asym _ _ h, fun x y z h1 h2 => lex_tr h1 h2⟩
end
end Sy
end Law

/-! Ss4: sorted() of sayings, the rule -/
namespace Law
open PySem L2 Pl PySem.SeqAt PyProof.Rows PySem.W PySem.Spec
section
variable {prog : Program} {w : World} {A : Around} {E : Value → Shared → Prop} {s : Shared}
theorem sortableS {a : Addr} {vs : List Value} {k : Value → Sy} (h0 : 0 < vs.length) (hp : ∀ v ∈ vs, (∃ as, Reads s.heap v (py (k v).pv) as) ∧ (k v).ht ≤ 180) (hA : A.units + 190 < cLine) (ha : ∀ o, s.heap.get? a = some o → o.cls ≠ .type "tuple") :
    SrtO.SortableO prog w A s a vs fun v u => Sy.ltS (k v) (k u) := by
  intro h' keep
  have hp' : ∀ v ∈ vs, ∃ as, Reads h' v (py (k v).pv) as := fun v hm => by
    obtain ⟨⟨as, r⟩, _⟩ := hp v hm
    exact ⟨as, Sy.reads_tup (fun b o e c => keep b o (fun q => by subst q; exact ha o e c) e) _ _ _ r⟩
  obtain ⟨fs, h1, h2, h3⟩ := Sy.firsts hp'
  refine ⟨tuples' true, fun Q E hq => ?_, fun p q hm hm' => ?_⟩
  · refine kat_kind (T := .type "str") h1 (by omega) (fun f hm => ?_) (by rfl) ?_
    · obtain ⟨x, t, rfl⟩ := h3 f hm
      exact Looks.now
    · have e : (Value.type "str" != Value.type "tuple") = true := by first | decide +kernel | rfl | decide
      rw [e]
      exact hq
  · obtain ⟨as, r1⟩ := hp' _ hm
    obtain ⟨bs, r2⟩ := hp' _ hm'
    have hh : (k p.1).ht ≤ 180 := (hp p.1 hm).2
    exact Sy.cmpS (A := A) r1 r2 (by omega)
theorem sortedS {l : Addr} {vs : List Value} {k : Value → Sy} {Q : Value → Shared → Prop} (hl : s.heap.IsList l vs.toArray) (hz : vs.length ≤ sizeLine) (hp : ∀ v ∈ vs, (∃ as, Reads s.heap v (py (k v).pv) as) ∧ (k v).ht ≤ 180) (hA : A.units + 195 < cLine)
    (h : ∀ (h' : Heap) (d : Addr) (out : List Value), SrtO.Srtd (fun v u => Sy.ltS (k v) (k u)) out → SrtO.Stb (fun v u => Sy.ltS (k v) (k u)) out vs → (∀ b o, s.heap.get? b = some o → h'.get? b = some o) → s.heap.objs.size ≤ d → (∃ n, h'.get? d = some (seqObj "list" out.toArray n)) → Q (.ref d) { s with heap := h' }) :
    wpAny (model prog w) A (call (.builtin "sorted") [.ref l]) Q E s := by
  refine SrtO.sorted_ord (Sy.swo k) hl hz (fun h2 h₁ a ha kk => ?_) fun out hs hb => h _ _ out hs hb (fun b o e => sortedAll_old e) (Nat.le_succ _) (sortedAll_at s.heap vs out.toArray)
  refine sortableS (s := { s with heap := h₁ }) (by omega) (fun v hm => ?_) (by show A.units + 1 + 1 + 190 < cLine; omega) fun o e => ?_
  · obtain ⟨⟨as, r⟩, hh⟩ := hp v hm
    exact ⟨⟨as, Sy.reads_tup (fun b o e _ => (kk b o e).2) _ _ _ r⟩, hh⟩
  · have e' : some o = some (seqObj "list" vs.toArray 0) := e.symm.trans ha
    cases e'
    intro c
    exact absurd (Value.type.inj c) (by decide)
end
/-- sorted(xs) of sayings -/
def rSortS (K : PySem.W.Frag) : List V → Hp → VK → Prop := fun vs H Q => ∃ (a : Addr) (xs : List V) (k : V → Sy), vs = [V.ref a] ∧ SqL K H a xs ∧ (∀ x ∈ xs, Dp K H x (py (k x).pv) ∧ (∃ t, x = V.ref t) ∧ (k x).ht ≤ 180) ∧
  ∀ ys p, SrtO.Srtd (fun x y => Sy.ltS (k x) (k y)) ys → SrtO.Stb (fun x y => Sy.ltS (k x) (k y)) ys xs → H p = none → Q (.ref p) (upd H p (.lst ys))
theorem swoV (k : V → Sy) : SrtO.Swo fun v u => Sy.ltS (k v) (k u) := by
  exact ⟨fun x y h => lexN_asym _ _ h, fun x y z h1 h2 => Sy.lex_tr h1 h2⟩
theorem cr_sortS {X : Cx} (hu : X.A.units + 200 < cLine) : CallR X (.builtin "sorted") (rSortS X.K) := by
  intro pins s σ H vs us Q I r h
  obtain ⟨a, xs, k, rfl, hs, hx, q⟩ := h
  obtain ⟨its, rv, hl, hz⟩ := I.list hs
  obtain ⟨u, rfl, ru⟩ := vals1 r
  obtain rfl : u = Value.ref a := ru
  obtain ⟨e1, e2⟩ := refs_back rv fun x m => (hx x m).2.1
  refine sortedS (k := fun u => k (backV u)) hl.isList (by rw [← rv.length]; exact hz) (fun v hv => ?_) (by omega) fun h' d out h1 h2 kp hd hn => ?_
  · obtain ⟨t, rfl⟩ := e2 v hv
    have hm : V.ref t ∈ xs := by rw [e1]; exact List.mem_map.mpr ⟨_, hv, rfl⟩
    obtain ⟨dp, _, hh⟩ := hx _ hm
    exact ⟨Dp.reads I _ _ _ dp rfl, hh⟩
  · have h3 : ∀ u ∈ out, ∃ a, u = Value.ref a := fun u hu => e2 u (h2.perm.mem_iff.mp hu)
    obtain ⟨n, hn⟩ := hn
    have hb : SrtO.Stb (fun x y => Sy.ltS (k x) (k y)) (out.map backV) xs := by
      rw [e1]
      exact SrtO.Stb.map (swoV k) backV h2
    refine ⟨.ref d, upd H d (.lst (out.map backV)), I.laid (t' := s.toks) kp hd ⟨?_, out, n, vals_back h3, hn⟩, rfl, q _ d (SrtO.srtd_map h1) hb (I.hok.fresh hd)⟩
    rw [hb.len]
    exact hz
end Law

/-! Ss5: sorted() of sayings, told by data -/
namespace Law
open PySem L2 Pl PySem.SeqAt PyProof.Rows PySem.W PySem.Spec
def leS (s t : Sy) : Bool := !Sy.ltS t s
theorem leS_trans (a b c : Sy) (h : leS a b = true) (g : leS b c = true) : leS a c = true := by
  unfold leS at *
  rw [Bool.not_eq_true'] at *
  exact Sy.lex_tr h g
theorem leS_total (a b : Sy) : (leS a b || leS b a) = true := by
  unfold leS
  cases h : Sy.ltS b a with
  | false => rfl
  | true => have : Sy.ltS a b = false := lexN_asym _ _ h; rw [this]; rfl
theorem leS_anti {a b : Sy} (h : leS a b = true) (g : leS b a = true) : a = b := by
  unfold leS at *
  rw [Bool.not_eq_true'] at *
  exact Sy.ltS_tot g h
/-- the sayings, in their order -/
def sortS (ss : List Sy) : List Sy := ss.mergeSort leS
theorem sortS_perm (ss : List Sy) : (sortS ss).Perm ss := List.mergeSort_perm ss leS
theorem sortS_pw (ss : List Sy) : (sortS ss).Pairwise fun a b => leS a b = true := List.pairwise_mergeSort leS_trans leS_total ss
theorem sortS_uniq {l ss : List Sy} (hp : l.Perm ss) (hs : l.Pairwise fun a b => leS a b = true) : l = sortS ss :=
  List.Perm.eq_of_pairwise (le := fun a b => leS a b = true) (fun a b _ _ h g => leS_anti h g) hs (sortS_pw ss) (hp.trans (sortS_perm ss).symm)
theorem pv_inj {s t : Sy} (h : py s.pv = py t.pv) : s = t := by
  have h1 := Sy.eqv_pv s t
  rw [h, eqv_refl_plain _ (Sy.pv_plain t)] at h1
  exact of_decide_eq_true h1.symm
/-- sorted(xs) of sayings, with what each thing bears -/
def rSortT (K : PySem.W.Frag) : List V → Hp → VK → Prop := fun vs H Q => ∃ (a : Addr) (xs : List V) (ss : List Sy), vs = [V.ref a] ∧ SqL K H a xs ∧ xs.length = ss.length ∧ (∀ q ∈ xs.zip ss, Dp K H q.1 (py q.2.pv) ∧ (∃ t, q.1 = V.ref t) ∧ q.2.ht ≤ 180) ∧
  ∀ (ys : List V) p, ys.length = (sortS ss).length → (∀ q ∈ ys.zip (sortS ss), q ∈ xs.zip ss) → H p = none → Q (.ref p) (upd H p (.lst ys))
open Classical in
noncomputable def pick (l : List (V × Sy)) (x : V) : Sy := if h : ∃ s, (x, s) ∈ l then Classical.choose h else .no
theorem cr_sortT {X : Cx} (hu : X.A.units + 200 < cLine) : CallR X (.builtin "sorted") (rSortT X.K) := by
  intro pins z σ H vs us Q I r h
  obtain ⟨a, xs, ss, rfl, hs, hl, hx, q⟩ := h
  have uni : ∀ x s t, (x, s) ∈ xs.zip ss → (x, t) ∈ xs.zip ss → s = t := fun x s t h1 h2 => by
    obtain ⟨d1, ⟨c, rfl⟩, _⟩ := hx _ h1
    obtain ⟨d2, _, _⟩ := hx _ h2
    obtain ⟨as, r1⟩ := Dp.reads I _ _ (.ref c) d1 rfl
    obtain ⟨bs, r2⟩ := Dp.reads I _ _ (.ref c) d2 rfl
    exact pv_inj (plain_unique _ _ _ _ _ (Sy.pv_plain s) r1 r2)
  have pk : ∀ x s, (x, s) ∈ xs.zip ss → pick (xs.zip ss) x = s := fun x s h => by
    unfold pick
    have he : ∃ s, (x, s) ∈ xs.zip ss := ⟨s, h⟩
    rw [dif_pos he]
    exact uni x _ s (Classical.choose_spec he) h
  have inz : ∀ x ∈ xs, (x, pick (xs.zip ss) x) ∈ xs.zip ss := fun x m => by
    obtain ⟨i, hi, e⟩ := List.getElem_of_mem m
    have hm : (x, ss[i]'(by omega)) ∈ xs.zip ss := by
      rw [← e, ← List.getElem_zip (h := by rw [List.length_zip]; omega)]
      exact List.getElem_mem _
    rw [pk x _ hm]; exact hm
  have emap : xs.map (pick (xs.zip ss)) = ss := by
    apply List.ext_getElem (by rw [List.length_map, hl])
    intro i h1 h2
    rw [List.getElem_map]
    apply pk
    rw [← List.getElem_zip (h := by rw [List.length_zip, List.length_map] at *; omega)]
    exact List.getElem_mem _
  refine cr_sortS hu pins z σ H _ us Q I r ⟨a, xs, pick (xs.zip ss), rfl, hs, fun x m => hx _ (inz x m), fun ys p h1 h2 hp => ?_⟩
  have es : ys.map (pick (xs.zip ss)) = sortS ss := by
    refine sortS_uniq ?_ ?_
    · have := h2.perm.map (pick (xs.zip ss))
      rw [emap] at this; exact this
    · refine List.pairwise_map.mpr (h1.imp fun {x y} e => ?_)
      show leS _ _ = true
      unfold leS
      have e : Sy.ltS (pick (xs.zip ss) y) (pick (xs.zip ss) x) = false := e
      rw [e]; rfl
  refine q ys p (by rw [← es, List.length_map]) (fun w hw => ?_) hp
  rw [← es] at hw
  obtain ⟨i, hi, e⟩ := List.getElem_of_mem hw
  rw [List.getElem_zip, List.getElem_map] at e
  rw [← e]
  exact inz _ (h2.perm.mem_iff.mp (List.getElem_mem _))
theorem boot_sorted' : bootBuiltins "sorted" = some (.builtin "sorted") := by decide +kernel
section
variable {C : Pl.Ctx} {E : ER} {Γ : Pl.Env} {Λ : Cells} {e : Expr} {p pos : Pos}
theorem reps_zip {K : PySem.W.Frag} {B : Hp} {α : List Addr} : ∀ {ss : List Sy} {vs : List V}, Reps K B α (ss.map Sy.pv) vs → vs.length = ss.length ∧ ∀ q ∈ vs.zip ss, Rep K B α q.2.pv q.1
  | [], vs, h => by
    rw [List.map_nil] at h
    unfold Reps at h; subst h; exact ⟨rfl, fun q hq => by simp at hq⟩
  | s :: ss, vs, h => by
    rw [List.map_cons] at h
    unfold Reps at h
    obtain ⟨v, r, rfl, h1, h2⟩ := h
    obtain ⟨g1, g2⟩ := reps_zip h2
    refine ⟨by simp [g1], fun q hq => ?_⟩
    rw [List.zip_cons_cons] at hq
    rcases List.mem_cons.mp hq with rfl | hq
    · exact h1
    · exact g2 q hq
theorem zip_reps {K : PySem.W.Frag} {B : Hp} {α : List Addr} : ∀ {ss : List Sy} {vs : List V}, vs.length = ss.length → (∀ q ∈ vs.zip ss, Rep K B α q.2.pv q.1) → Reps K B α (ss.map Sy.pv) vs
  | [], [], _, _ => .nil
  | [], _ :: _, h, _ => by simp at h
  | _ :: _, [], h, _ => by simp at h
  | s :: ss, v :: vs, h, g => by
    rw [List.map_cons]
    exact .cons (g (v, s) (by rw [List.zip_cons_cons]; exact List.mem_cons_self)) (zip_reps (by simpa using h) fun q hq => g q (by rw [List.zip_cons_cons]; exact List.mem_cons_of_mem _ hq))
/-- sorted(e), a new list -/
theorem wn_sorted {P : List D → Cells → Prop} (hj : GlAt C "sorted") (hm : C.mg "sorted" = Option.none) (h : WE C E Γ Λ e fun x Λ1 => ∃ ss : List Sy, lstD Λ1 x = some (ss.map Sy.pv) ∧ (∀ s ∈ ss, s.ht ≤ 180) ∧ P ((sortS ss).map Sy.pv) Λ1) (he : plainE e = true := by rfl) : WN C E Γ Λ (.Call (.Name "sorted" p) [e] [] pos) P :=
  wn_callB (r := rSortT C.K) (fun X is => crK rSortT is (cr_sortT is.u200)) hj hm boot_sorted' (wa_cons (we_mono h fun x Λ1 ⟨ss, h1, h2, h3⟩ => wa_nil (by
    intro F B α σ H vs Q S rs q
    obtain ⟨v, rfl, rv⟩ := reps1 rs
    obtain ⟨a, ws, rfl, g1, g2⟩ := S.seqL rv h1
    obtain ⟨z1, z2⟩ := reps_zip g2
    refine ⟨a, ws, ss, rfl, g1, z1, fun y hy => ?_, fun ys t l1 l2 ht => ?_⟩
    · have ry := z2 y hy
      refine ⟨Rep.dp S.bh _ _ (Sy.pv_plain _) ry, ?_, h2 _ (List.of_mem_zip hy).2⟩
      obtain ⟨ds, e⟩ := Sy.pv_tup y.2
      rw [e] at ry
      unfold Rep at ry
      obtain ⟨b, _, hb, _⟩ := ry
      exact ⟨b, hb⟩
    · exact q _ Λ1 t ys B α _ h3 (S.grow (Ex.new ht)) (Ex.refl B) (List.prefix_refl _) upd_same (S.bh.back ht) (S.dm t ht) (fun ha => (S.ah t ha).1 ht) (zip_reps l1 fun y hy => z2 y (l2 y hy)))) he) (he := he)
theorem eqP_pvs {s t : Sy} {Pb : Bool → Prop} (hd : s.ht ≤ 190) (h : Pb (decide (s = t))) : eqP Λ s.pv t.pv Pb :=
  eqP_gen (by rw [Sy.vw_pv]; exact Sy.pv_plain s) (by rw [Sy.vw_pv]; exact Sy.pv_plain t) (Nat.le_trans (Nat.min_le_left _ _) (by rw [Sy.vw_pv]; exact Nat.le_trans (Sy.pv_depth s) hd)) (by rw [Sy.vw_pv, Sy.vw_pv, Sy.eqv_pv]; exact h)
theorem eqP_pvr {s t : Sy} {Pb : Bool → Prop} (hd : t.ht ≤ 190) (h : Pb (decide (s = t))) : eqP Λ s.pv t.pv Pb :=
  eqP_gen (by rw [Sy.vw_pv]; exact Sy.pv_plain s) (by rw [Sy.vw_pv]; exact Sy.pv_plain t) (Nat.le_trans (Nat.min_le_right _ _) (by rw [Sy.vw_pv]; exact Nat.le_trans (Sy.pv_depth t) hd)) (by rw [Sy.vw_pv, Sy.vw_pv, Sy.eqv_pv]; exact h)
theorem nls_pvs (ss : List Sy) : nls (ss.map Sy.pv) = true := by rw [nls_map]; simp [Sy.nl_pv]
end
/-! ### each once -/
def onceS (ss : List Sy) : List Sy := ss.foldl (fun told one => if told.getLast? = some one then told else told ++ [one]) []
theorem onceS_snoc (ss : List Sy) (x : Sy) : onceS (ss ++ [x]) = if (onceS ss).getLast? = some x then onceS ss else onceS ss ++ [x] := by
  unfold onceS; rw [List.foldl_append]; rfl
theorem onceS_len (ss : List Sy) : (onceS ss).length ≤ ss.length := by
  have go : ∀ (ss acc : List Sy), (ss.foldl (fun told one => if told.getLast? = some one then told else told ++ [one]) acc).length ≤ acc.length + ss.length := by
    intro ss
    induction ss with
    | nil => intro acc; exact Nat.le_refl _
    | cons x ss ih =>
      intro acc
      rw [List.foldl_cons, List.length_cons]
      split
      · have := ih acc; omega
      · have := ih (acc ++ [x]); rw [List.length_append, List.length_singleton] at this; omega
  have := go ss []
  simpa [onceS] using this
theorem onceS_mem {ss : List Sy} {x : Sy} (h : x ∈ onceS ss) : x ∈ ss := by
  have go : ∀ (ss acc : List Sy), x ∈ ss.foldl (fun told one => if told.getLast? = some one then told else told ++ [one]) acc → x ∈ acc ∨ x ∈ ss := by
    intro ss
    induction ss with
    | nil => intro acc h; exact .inl h
    | cons y ss ih =>
      intro acc h
      rw [List.foldl_cons] at h
      rcases ih _ h with z | z
      · split at z
        · exact .inl z
        · rcases List.mem_append.mp z with w | w
          · exact .inl w
          · simp at w; subst w; exact .inr List.mem_cons_self
      · exact .inr (List.mem_cons_of_mem _ z)
  rcases go ss [] h with z | z
  · simp at z
  · exact z
theorem once_sort_mem {ss : List Sy} {x : Sy} (h : x ∈ onceS (sortS ss)) : x ∈ ss := (sortS_perm ss).mem_iff.mp (onceS_mem h)
/-- all parts of a saying, the saying first -/
def partsL : Sy → List Sy
  | .no => [.no]
  | .lt l => [.lt l]
  | .not a => .not a :: partsL a
  | .shown a => .shown a :: partsL a
  | .bin o a b => .bin o a b :: (partsL a ++ partsL b)
theorem partsL_len : ∀ s : Sy, (partsL s).length = s.size
  | .no => rfl
  | .lt _ => rfl
  | .not a => by simp [partsL, Sy.size, partsL_len a]; omega
  | .shown a => by simp [partsL, Sy.size, partsL_len a]; omega
  | .bin o a b => by simp [partsL, Sy.size, partsL_len a, partsL_len b]; omega
theorem partsL_kids (s : Sy) : partsL s = s :: s.kids.flatMap partsL := by cases s <;> simp [partsL, Sy.kids]
end Law

/-! Sh1: the pure reading. U: data without cells; M: what a def comes to. -/
namespace Sh
open PySem L2 Pl
/-- a pure datum; `ins c us`: an instance of the class named c, its fields in order -/
inductive U where
  | non | bl (b : Bool) | int (i : Int) | str (s : Str)
  | tup (us : List U) | lst (us : List U) | fzl (us : List U)
  | dic (ks : List Key) (us : List U)
  | ins (c : Str) (us : List U)
  | exc (c : Str) (us : List U)
  deriving Inhabited
/-- where the classes stand, their fields -/
structure Kl where
  ad : Str → Addr
  fs : Str → List Str
mutual
def em (κ : Kl) : U → D
  | .non => .non
  | .bl b => .bl b
  | .int i => .int i
  | .str s => .str s
  | .tup us => .tup (ems κ us)
  | .lst us => .lst (ems κ us)
  | .fzl us => .fzl (ems κ us)
  | .dic ks us => .dic ks (ems κ us)
  | .ins c us => .ins (κ.ad c) (κ.fs c) (ems κ us)
  | .exc c us => .exc (κ.ad c) (κ.fs c) (ems κ us)
def ems (κ : Kl) : List U → List D
  | [] => []
  | u :: us => em κ u :: ems κ us
end
section
variable {κ : Kl} {Λ : Cells}
theorem ems_map : ∀ us : List U, ems κ us = us.map (em κ)
  | [] => rfl
  | u :: us => by rw [ems, ems_map us, List.map_cons]
theorem ems_app (us vs : List U) : ems κ (us ++ vs) = ems κ us ++ ems κ vs := by simp only [ems_map, List.map_append]
theorem ems_len (us : List U) : (ems κ us).length = us.length := by rw [ems_map, List.length_map]
mutual
theorem nl_em : ∀ u : U, nl (em κ u) = true
  | .non => rfl
  | .bl _ => rfl
  | .int _ => rfl
  | .str _ => rfl
  | .tup us => nls_em us
  | .lst us => nls_em us
  | .fzl us => nls_em us
  | .dic _ us => nls_em us
  | .ins _ us => nls_em us
  | .exc _ us => nls_em us
theorem nls_em : ∀ us : List U, nls (ems κ us) = true
  | [] => rfl
  | u :: us => by show (nl (em κ u) && nls (ems κ us)) = true; rw [nl_em u, nls_em us]; rfl
end
theorem vw_em (u : U) : vw Λ (em κ u) = em κ u := by cases u <;> rfl
mutual
/-- as the library's -/
def pyU : U → PyData
  | .non => .none
  | .bl b => .bool b
  | .int i => .int i
  | .str s => .str s
  | .tup us => .tuple (pyUs us)
  | .lst us => .list (pyUs us)
  | .fzl us => .list (pyUs us)
  | .dic _ _ => .dict []
  | .ins _ _ => .dict []
  | .exc _ _ => .dict []
def pyUs : List U → List PyData
  | [] => []
  | u :: us => pyU u :: pyUs us
end
mutual
theorem py_em : ∀ u : U, py (em κ u) = pyU u
  | .non => rfl
  | .bl _ => rfl
  | .int _ => rfl
  | .str _ => rfl
  | .tup us => by rw [em, py, pyU, pys_ems us]
  | .lst us => by rw [em, py, pyU, pys_ems us]
  | .fzl us => by rw [em, py, pyU, pys_ems us]
  | .dic _ us => rfl
  | .ins _ us => rfl
  | .exc _ us => rfl
theorem pys_ems : ∀ us : List U, pys (ems κ us) = pyUs us
  | [] => rfl
  | u :: us => by rw [ems, pys, pyUs, py_em u, pys_ems us]
end
theorem pyUs_map : ∀ us : List U, pyUs us = us.map pyU
  | [] => rfl
  | u :: us => by rw [pyUs, pyUs_map us, List.map_cons]
end

/-! ### what a def comes to -/
inductive M (α : Type) where
  | stuck
  | err (c : Str) (us : List U)
  | ok (a : α)
namespace M
variable {α β : Type}
def bind (m : M α) (k : α → M β) : M β := match m with
  | .stuck => .stuck
  | .err c us => .err c us
  | .ok a => k a
@[simp] theorem bind_ok (a : α) (k : α → M β) : (M.ok a).bind k = k a := rfl
@[simp] theorem bind_stuck (k : α → M β) : (M.stuck : M α).bind k = .stuck := rfl
@[simp] theorem bind_err (c : Str) (us : List U) (k : α → M β) : (M.err c us : M α).bind k = .err c us := rfl
/-- a refusal met where none may be -/
def calm (m : M α) : M α := match m with
  | .err _ _ => .stuck
  | m => m
@[simp] theorem calm_ok (a : α) : (M.ok a).calm = .ok a := rfl
@[simp] theorem calm_stuck : (M.stuck : M α).calm = .stuck := rfl
@[simp] theorem calm_err (c : Str) (us : List U) : (M.err c us : M α).calm = .stuck := rfl
end M
def wp {α : Type} (m : M α) (P : α → Prop) (E : Str → List U → Prop) : Prop := match m with
  | .stuck => False
  | .err c us => E c us
  | .ok a => P a
def no : Str → List U → Prop := fun _ _ => False
section
variable {α β : Type} {P P' : α → Prop} {Q : β → Prop} {Eh Eh' : Str → List U → Prop} {m : M α} {k : α → M β}
theorem wp_bind (h : wp (m.bind k) Q Eh) : wp m (fun a => wp (k a) Q Eh) Eh := by cases m <;> exact h
theorem wp_mono (h : wp m P Eh) (i : ∀ a, P a → P' a) (j : ∀ c us, Eh c us → Eh' c us) : wp m P' Eh' := by
  cases m with
  | stuck => exact h
  | err c us => exact j c us h
  | ok a => exact i a h
theorem wp_calm (h : wp m.calm P Eh) : wp m P no := by
  cases m with
  | stuck => exact h
  | err c us => exact h.elim
  | ok a => exact h
theorem wp_ok {a : α} (h : m = .ok a) (p : P a) : wp m P Eh := by subst h; exact p
end
/-- a test of the size -/
def sz {α : Type} (n : Nat) (m : M α) : M α := if n < 10000000 then m else .stuck
theorem sz_ok {α : Type} {n : Nat} {m : M α} (h : n < 10000000) : sz n m = m := if_pos h
theorem wp_sz {α : Type} {n : Nat} {m : M α} {P : α → Prop} {E : Str → List U → Prop} (h : wp (sz n m) P E) : n < 10000000 ∧ wp m P E := by
  unfold sz at h; split at h
  · exact ⟨‹_›, h⟩
  · exact h.elim

/-! ### operations -/
def addM : U → U → M U
  | .int i, .int j => .ok (.int (i + j))
  | .str s, .str t => sz (s.length + t.length) (.ok (.str (s ++ t)))
  | .tup (x :: xs), .tup ys => sz (xs.length + 1 + ys.length) (.ok (.tup (x :: (xs ++ ys))))
  | .lst xs, .lst ys => sz (xs.length + ys.length) (.ok (.lst (xs ++ ys)))
  | _, _ => .stuck
def subM : U → U → M U
  | .int i, .int j => .ok (.int (i - j))
  | _, _ => .stuck
/-- a factor that is small -/
def small (i : Int) : Bool := decide (-(2 ^ 64) < i) && decide (i < 2 ^ 64)
def mulM : U → U → M U
  | .int i, .int j => if small i || small j then .ok (.int (i * j)) else .stuck
  | _, _ => .stuck
def fdivM : U → U → M U
  | .int i, .int j => if decide (0 < j) && decide (j < 2 ^ 8999) then .ok (.int (i / j)) else .stuck
  | _, _ => .stuck
def modM : U → U → M U
  | .int i, .int j => if 0 < j then .ok (.int (i % j)) else .stuck
  | _, _ => .stuck
def powM : U → U → M U
  | .int i, .int j => if decide (0 ≤ j) && (decide (j ≤ 1000000) && decide (i.natAbs < 2 ^ 64)) then .ok (.int (i ^ j.toNat)) else .stuck
  | _, _ => .stuck
def negM : U → M U
  | .int i => .ok (.int (-i))
  | _ => .stuck
/-- no dict, no instance lies within -/
def pl (u : U) : Bool := (pyU u).plain
def dp (u : U) : Nat := (pyU u).depth
def eqM (x y : U) : M Bool := if pl x && (pl y && decide (min (dp x) (dp y) ≤ 190)) then .ok (PyData.eqv (pyU x) (pyU y)) else .stuck
def ltM : U → U → M Bool
  | .int i, .int j => .ok (decide (i < j))
  | .str s, .str t => .ok (decide (s.cps.toList < t.cps.toList))
  | _, _ => .stuck
def leM : U → U → M Bool
  | .int i, .int j => .ok (decide (i ≤ j))
  | _, _ => .stuck
def gtM : U → U → M Bool
  | .int i, .int j => .ok (decide (j < i))
  | _, _ => .stuck
def geM : U → U → M Bool
  | .int i, .int j => .ok (decide (j ≤ i))
  | _, _ => .stuck
def isNone : U → Bool
  | .non => true
  | _ => false
/-- x is None, x is True -/
def isM : U → U → M Bool
  | x, .non => .ok (isNone x)
  | .bl a, .bl b => .ok (decide (a = b))
  | _, _ => .stuck
def keyU : U → Option Key
  | .int i => some (.inl i)
  | .str s => some (.inr s)
  | _ => none
def uLook (ks : List Key) (us : List U) (k : Key) : Option U := ((ks.zip us).find? fun kv => decide (kv.1 = k)).map (·.2)
/-- the items of a list, a tuple -/
def seqU : U → Option (List U)
  | .lst us => some us
  | .fzl us => some us
  | .tup us => some us
  | _ => none
def inM (x : U) : U → M Bool
  | .str t => match x with
    | .str s => .ok (strIn s t)
    | _ => .stuck
  | .dic ks us => match keyU x with
    | some k => .ok (uLook ks us k).isSome
    | none => .stuck
  | y => match seqU y with
    | some us => if PyData.plainAll (pyUs us) && (pl x && decide (min (PyData.depthAll (pyUs us)) (dp x) ≤ 190)) then .ok (us.any fun e => PyData.eqv (pyU e) (pyU x)) else .stuck
    | none => .stuck
def boolM : U → M Bool
  | .bl b => .ok b
  | _ => .stuck
def ixM : U → U → M U
  | .str s, .int i => match atI s.cps.toList i with
    | some c => if s.length ≤ sizeLine then .ok (.str ⟨#[c]⟩) else .stuck
    | none => .stuck
  | x, .int i => match seqU x with
    | some us => match atI us i with
      | some u => .ok u
      | none => .stuck
    | none => .stuck
  | _, _ => .stuck
/-- d[k] -/
def ixdM : U → U → M U
  | .dic ks us, y => match keyU y with
    | some k => match uLook ks us k with
      | some u => .ok u
      | none => .stuck
    | none => .stuck
  | _, _ => .stuck
def cutU (xs : List U) (lo hi : Option Int) : List U := (xs.drop (HT.sIx xs.length 0 lo)).take (HT.sIx xs.length xs.length hi - HT.sIx xs.length 0 lo)
/-- an end of a slice -/
def endM : U → M (Option Int)
  | .int i => .ok (some i)
  | _ => .stuck
def slM (x : U) (l u : Option Int) : M U := match x with
  | .str s => if s.length ≤ sizeLine then .ok (.str (cutS s l u)) else .stuck
  | .tup us => .ok (.tup (cutU us l u))
  | .lst us => .ok (.lst (cutU us l u))
  | .fzl us => .ok (.lst (cutU us l u))
  | _ => .stuck
/-- .. of a list, a new list -/
def slnM (x : U) (l u : Option Int) : M (List U) := match x with
  | .lst us => .ok (cutU us l u)
  | .fzl us => .ok (cutU us l u)
  | _ => .stuck
def lenM : U → M U
  | .str s => if s.length ≤ sizeLine then .ok (.int s.length) else .stuck
  | x => match seqU x with
    | some us => .ok (.int us.length)
    | none => .stuck
def listM (x : U) : M (List U) := match seqU x with
  | some us => .ok us
  | none => .stuck
def tupleM (x : U) : M U := match seqU x with
  | some us => .ok (.tup us)
  | none => .stuck
/-- the items of a list -/
def itemsL : U → Option (List U)
  | .lst us => some us
  | .fzl us => some us
  | _ => none
def iterL (x : U) : M (List U) := match itemsL x with
  | some us => .ok us
  | none => .stuck
def iterT : U → M (List U)
  | .tup us => .ok us
  | _ => .stuck
def iterS : U → M (List U)
  | .str s => .ok (s.cps.toList.map fun c => .str ⟨#[c]⟩)
  | _ => .stuck
def rangeU (lo : Int) (n : Nat) : List U := (List.range n).map fun i => .int (lo + (i : Nat))
def range1M : U → M (List U)
  | .int n => if decide (-(2 ^ 62) ≤ n) && decide (n < 2 ^ 62) then .ok (rangeU 0 n.toNat) else .stuck
  | _ => .stuck
def range2M : U → U → M (List U)
  | .int l, .int n => if decide (-(2 ^ 62) ≤ l) && (decide (l < 2 ^ 62) && (decide (-(2 ^ 62) ≤ n) && decide (n < 2 ^ 62))) then .ok (rangeU l (n - l).toNat) else .stuck
  | _, _ => .stuck
def asInts : List U → Option (List Int)
  | [] => some []
  | .int i :: us => (asInts us).map (i :: ·)
  | _ => none
def asBls : List U → Option (List Bool)
  | [] => some []
  | .bl i :: us => (asBls us).map (i :: ·)
  | _ => none
def sumM (x : U) : M U := match itemsL x with
  | some us => match asInts us with
    | some ns => .ok (.int ns.sum)
    | none => .stuck
  | none => .stuck
def allM (x : U) : M U := match itemsL x with
  | some us => match asBls us with
    | some ns => .ok (.bl (ns.all id))
    | none => .stuck
  | none => .stuck
def anyM (x : U) : M U := match itemsL x with
  | some us => match asBls us with
    | some ns => .ok (.bl (ns.any id))
    | none => .stuck
  | none => .stuck
/-- max(xs) -/
def maxlM (x : U) : M U := match itemsL x with
  | some us => match asInts us with
    | some (n :: ns) => .ok (.int (ns.foldl max n))
    | _ => .stuck
  | none => .stuck
def maxdM (x : U) (i : Int) : M U := match itemsL x with
  | some us => match asInts us with
    | some ns => .ok (.int (mxd i ns))
    | _ => .stuck
  | none => .stuck
def max2M : U → U → M U
  | .int a, .int b => .ok (.int (max a b))
  | _, _ => .stuck
def min2M : U → U → M U
  | .int a, .int b => .ok (.int (min a b))
  | _, _ => .stuck
def intM : U → M U
  | .int i => .ok (.int i)
  | .bl b => .ok (.int (if b then 1 else 0))
  | _ => .stuck
def tyU : U → Option String
  | .non => some "NoneType"
  | .bl _ => some "bool"
  | .int _ => some "int"
  | .str _ => some "str"
  | .tup _ => some "tuple"
  | .lst _ => some "list"
  | .fzl _ => some "list"
  | .dic _ _ => some "dict"
  | .ins _ _ => none
  | .exc _ _ => none
def isiM (x : U) (T : String) : M U := match tyU x with
  | some t => match isiB t T with
    | some b => .ok (.bl b)
    | none => .stuck
  | none => .stuck
/-- a tuple's two, three .. items -/
def un2 : U → M (U × U)
  | .tup [a, b] => .ok (a, b)
  | _ => .stuck
def un3 : U → M (U × U × U)
  | .tup [a, b, c] => .ok (a, b, c)
  | _ => .stuck
def un4 : U → M (U × U × U × U)
  | .tup [a, b, c, d] => .ok (a, b, c, d)
  | _ => .stuck
def un5 : U → M (U × U × U × U × U)
  | .tup [a, b, c, d, e] => .ok (a, b, c, d, e)
  | _ => .stuck
/-- xs.append(x): the list behind it -/
def appM (xs : List U) (x : U) : M (List U) := sz xs.length (.ok (xs ++ [x]))
def popM (xs : List U) : M (U × List U) := match xs.getLast? with
  | some x => .ok (x, xs.dropLast)
  | none => .stuck
def extM (xs : List U) (y : U) : M (List U) := match y with
  | .lst ys => sz (xs.length + ys.length) (.ok (xs ++ ys))
  | _ => .stuck
/-- xs[i] = x -/
def setM (xs : List U) (i x : U) : M (List U) := match i with
  | .int k => match ixN xs.length k with
    | some j => .ok (xs.set j x)
    | none => .stuck
  | _ => .stuck
def getdM (x k z : U) : M U := match x with
  | .dic ks us => match keyU k with
    | some k => .ok ((uLook ks us k).getD z)
    | none => .stuck
  | _ => .stuck
/-! ### loops -/
/-- what a turn comes to -/
inductive Ct (σ ρ : Type) where
  | nx (s : σ) | bk (s : σ) | rt (r : ρ)
variable {σ ρ : Type}
def forN (f : σ → U → M σ) : List U → σ → M σ
  | [], s => .ok s
  | x :: xs, s => (f s x).bind fun s => forN f xs s
def forC (f : σ → U → M (Ct σ ρ)) : List U → σ → M (Ct σ ρ)
  | [], s => .ok (.nx s)
  | x :: xs, s => (f s x).bind fun c => match c with
    | .nx s => forC f xs s
    | .bk s => .ok (.nx s)
    | .rt r => .ok (.rt r)
/-- while, at most n turns -/
def whN (c : σ → M Bool) (f : σ → M σ) : Nat → σ → M σ
  | 0, _ => .stuck
  | n + 1, s => (c s).bind fun b => if b then (f s).bind fun s => whN c f n s else .ok s
def whC (c : σ → M Bool) (f : σ → M (Ct σ ρ)) : Nat → σ → M (Ct σ ρ)
  | 0, _ => .stuck
  | n + 1, s => (c s).bind fun b => if b then (f s).bind fun c' => match c' with
    | .nx s => whC c f n s
    | .bk s => .ok (.nx s)
    | .rt r => .ok (.rt r) else .ok (.nx s)
def mapC (f : U → M U) : List U → M (List U)
  | [] => .ok []
  | x :: xs => (f x).calm.bind fun y => (mapC f xs).bind fun ys => .ok (y :: ys)
def filC (g : U → M Bool) (f : U → M U) : List U → M (List U)
  | [] => .ok []
  | x :: xs => (g x).calm.bind fun b => if b then (f x).calm.bind fun y => (filC g f xs).bind fun ys => .ok (y :: ys) else filC g f xs
/-- [f(x) for x in xs] -/
def compM (f : U → M U) (xs : List U) : M (List U) := sz xs.length (mapC f xs)
/-- [f(x) for x in xs if g(x)] -/
def compF (g : U → M Bool) (f : U → M U) (xs : List U) : M (List U) := sz xs.length (filC g f xs)
end Sh

/-! Sh2: from the pure reading to the wishes over data. -/
namespace Sh
open PySem L2 Pl
/-- the datum d, looked through its cell, is u -/
def Vw (κ : Kl) (Λ : Cells) (d : D) (u : U) : Prop := vw Λ d = em κ u
section
variable {κ : Kl} {Λ : Cells}
theorem vE {u : U} : Vw κ Λ (em κ u) u := vw_em u
theorem vL {n : Nat} {us : List U} (h : Λ[n]? = some (.lst (ems κ us))) : Vw κ Λ (.loc n) (.lst us) := by
  unfold Vw vw; dsimp only; rw [h]; rfl
theorem vD {n : Nat} {ks : List Key} {us : List U} (h : Λ[n]? = some (.dic ks (ems κ us))) : Vw κ Λ (.loc n) (.dic ks us) := by
  unfold Vw vw; dsimp only; rw [h]; rfl
theorem Vw.atom {d : D} {u : U} (h : Vw κ Λ d u) (h2 : ∀ us, u ≠ .lst us) (h3 : ∀ ks us, u ≠ .dic ks us) (h4 : ∀ c us, u ≠ .ins c us) : d = em κ u := by
  refine vw_noc h ?_ ?_ ?_ ?_
  · intro n e; cases u <;> cases e
  · intro ds e; cases u with
    | lst us => exact h2 us rfl
    | _ => cases e
  · intro ks ds e; cases u with
    | dic ks us => exact h3 ks us rfl
    | _ => cases e
  · intro c ns ds e; cases u with
    | ins c us => exact h4 c us rfl
    | _ => cases e
theorem Vw.py {d : D} {u : U} (h : Vw κ Λ d u) : py (vw Λ d) = pyU u := by rw [h, py_em]
theorem seq_of {d : D} {u : U} (h : Vw κ Λ d u) {us : List U} (e : seqU u = some us) : seqD Λ d = some (ems κ us) := by
  unfold seqD; rw [h]
  cases u <;> simp only [seqU, Option.some.injEq, reduceCtorEq] at e <;> subst e <;> rfl
theorem items_of {d : D} {u : U} (h : Vw κ Λ d u) {us : List U} (e : itemsL u = some us) : lstD Λ d = some (ems κ us) := by
  unfold lstD; rw [h]
  cases u <;> simp only [itemsL, Option.some.injEq, reduceCtorEq] at e <;> subst e <;> rfl
theorem atI_map' {α β : Type} (f : α → β) (xs : List α) (i : Int) : atI (xs.map f) i = (atI xs i).map f := by
  unfold L2.atI
  rw [List.length_map]
  cases ixN xs.length i with
  | none => rfl
  | some j => simp
theorem atI_ems {us : List U} {i : Int} {u : U} (h : atI us i = some u) : atI (ems κ us) i = some (em κ u) := by
  rw [ems_map, atI_map', h]; rfl
theorem cut_ems (us : List U) (l u : Option Int) : cutD (ems κ us) l u = ems κ (cutU us l u) := by
  unfold cutD cutU; rw [ems_len, ems_map, ems_map, List.map_take, List.map_drop]
theorem uLook_em {us : List U} {k : Key} : ∀ {ks : List Key}, dLook ks (ems κ us) k = (uLook ks us k).map (em κ) := by
  unfold dLook uLook
  induction us with
  | nil => intro ks; cases ks <;> rfl
  | cons u us ih =>
    intro ks
    cases ks with
    | nil => rfl
    | cons a ks =>
      rw [ems]
      simp only [List.zip_cons_cons, List.find?_cons]
      by_cases e : a = k
      · simp [e]
      · simp only [e, decide_false]
        exact ih
theorem key_of {d : D} {u : U} (h : Vw κ Λ d u) {k : Key} (e : keyU u = some k) : keyD d = some k := by
  have : d = em κ u := h.atom (by rintro _ rfl; cases e) (by rintro _ _ rfl; cases e) (by rintro _ _ rfl; cases e)
  subst this
  cases u <;> first | exact e | cases e
theorem sz_line {n : Nat} (h : n < 10000000) : n ≤ sizeLine := Pl.sz_lt h

theorem ints_em : ∀ {us : List U} {ns : List Int}, asInts us = some ns → ems κ us = ns.map .int
  | [], ns, e => by cases e; rfl
  | .int i :: us, ns, e => by
    simp only [asInts, Option.map_eq_some_iff] at e
    obtain ⟨ms, e1, rfl⟩ := e
    rw [ems, ints_em e1]; rfl
theorem bls_em : ∀ {us : List U} {ns : List Bool}, asBls us = some ns → ems κ us = ns.map .bl
  | [], ns, e => by cases e; rfl
  | .bl i :: us, ns, e => by
    simp only [asBls, Option.map_eq_some_iff] at e
    obtain ⟨ms, e1, rfl⟩ := e
    rw [ems, bls_em e1]; rfl
variable {α : Type} {Q : α → Prop} {Eh : Str → List U → Prop} {x y z : D} {P : D → Prop} {Pb : Bool → Prop}
section two
variable {k : U → M α} {kb : Bool → M α} (a b : U) (hx : Vw κ Λ x a) (hy : Vw κ Λ y b)
include hx hy
theorem addP_m (h : wp ((addM a b).bind k) Q Eh) (i : ∀ z, wp (k z) Q Eh → P (em κ z)) : addP Λ x y P := by
  replace h := wp_bind h
  unfold addP; rw [hx, hy]
  unfold addM at h
  split at h
  · exact i _ h
  · obtain ⟨h1, h2⟩ := wp_sz h
    exact ⟨sz_line h1, i _ h2⟩
  · obtain ⟨h1, h2⟩ := wp_sz h
    refine ⟨by simp [ems], ?_, ?_⟩
    · simp only [ems, List.length_cons, ems_len]; exact sz_line h1
    · have := i _ h2
      simp only [em, ems, ems_app] at this
      simpa only [ems, List.cons_append] using this
  · obtain ⟨h1, h2⟩ := wp_sz h
    refine ⟨?_, ?_⟩
    · simp only [ems_len]; exact sz_line h1
    · have := i _ h2
      simp only [em, ems_app] at this
      exact this
  · exact h.elim
theorem subP_m (h : wp ((subM a b).bind k) Q Eh) (i : ∀ z, wp (k z) Q Eh → P (em κ z)) : intP (fun _ _ => True) (fun i j => .int (i - j)) x y P := by
  replace h := wp_bind h
  unfold subM at h
  split at h
  · have e1 := hx.atom (by simp) (by simp) (by simp); have e2 := hy.atom (by simp) (by simp) (by simp)
    subst e1; subst e2
    exact ⟨trivial, i _ h⟩
  · exact h.elim
theorem mulP_m (h : wp ((mulM a b).bind k) Q Eh) (i : ∀ z, wp (k z) Q Eh → P (em κ z)) : intP CMul (fun i j => .int (i * j)) x y P := by
  replace h := wp_bind h
  unfold mulM at h
  split at h
  · have e1 := hx.atom (by simp) (by simp) (by simp); have e2 := hy.atom (by simp) (by simp) (by simp)
    subst e1; subst e2
    split at h
    · rename_i hs
      refine ⟨?_, i _ h⟩
      simpa [small, CMul] using hs
    · exact h.elim
  · exact h.elim
theorem fdivP_m (h : wp ((fdivM a b).bind k) Q Eh) (i : ∀ z, wp (k z) Q Eh → P (em κ z)) : intP CDivW (fun i j => .int (i / j)) x y P := by
  replace h := wp_bind h
  unfold fdivM at h
  split at h
  · have e1 := hx.atom (by simp) (by simp) (by simp); have e2 := hy.atom (by simp) (by simp) (by simp)
    subst e1; subst e2
    split at h
    · rename_i i' j' hs
      refine ⟨?_, i _ h⟩
      rw [Bool.and_eq_true, decide_eq_true_eq, decide_eq_true_eq] at hs
      obtain ⟨h1, h2⟩ := hs
      refine ⟨h1, ?_⟩
      have h3 : j'.natAbs < 2 ^ 8999 := by
        have e : ((j'.natAbs : Nat) : Int) = j' := Int.natAbs_of_nonneg (Int.le_of_lt h1)
        generalize hm : (2 : Nat) ^ 8999 = m
        have hm' : (2 : Int) ^ 8999 = (m : Int) := by rw [← hm]; exact (Int.natCast_pow 2 8999).symm
        rw [hm'] at h2
        omega
      have h4 := (Nat.log2_lt (by omega)).mpr h3
      omega
    · exact h.elim
  · exact h.elim
theorem modP_m (h : wp ((modM a b).bind k) Q Eh) (i : ∀ z, wp (k z) Q Eh → P (em κ z)) : intP (fun _ j => 0 < j) (fun i j => .int (i % j)) x y P := by
  replace h := wp_bind h
  unfold modM at h
  split at h
  · have e1 := hx.atom (by simp) (by simp) (by simp); have e2 := hy.atom (by simp) (by simp) (by simp)
    subst e1; subst e2
    split at h
    · exact ⟨by assumption, i _ h⟩
    · exact h.elim
  · exact h.elim
theorem powP_m (h : wp ((powM a b).bind k) Q Eh) (i : ∀ z, wp (k z) Q Eh → P (em κ z)) : intP CPow (fun i j => .int (i ^ j.toNat)) x y P := by
  replace h := wp_bind h
  unfold powM at h
  split at h
  · have e1 := hx.atom (by simp) (by simp) (by simp); have e2 := hy.atom (by simp) (by simp) (by simp)
    subst e1; subst e2
    split at h
    · rename_i hs
      rw [Bool.and_eq_true, Bool.and_eq_true, decide_eq_true_eq, decide_eq_true_eq, decide_eq_true_eq] at hs
      exact ⟨hs, i _ h⟩
    · exact h.elim
  · exact h.elim
theorem eqP_m (h : wp ((eqM a b).bind kb) Q Eh) (i : ∀ z, wp (kb z) Q Eh → Pb z) : eqP Λ x y Pb := by
  replace h := wp_bind h
  unfold eqM at h
  split at h
  · rename_i hs
    rw [Bool.and_eq_true, Bool.and_eq_true, decide_eq_true_eq] at hs
    obtain ⟨h1, h2, h3⟩ := hs
    have g := i _ h
    unfold eqP
    split
    · have e1 : em κ a = .int _ := hx.symm
      have e2 : em κ b = .int _ := hy.symm
      cases a <;> cases e1; cases b <;> cases e2
      rename_i p q
      have e : PyData.eqv (pyU (.int p)) (pyU (.int q)) = decide (p = q) := by
        simp only [pyU, PyData.eqv]; by_cases c : p = q <;> simp [c]
      rw [e] at g; exact g
    · have e1 : em κ a = .str _ := hx.symm
      have e2 : em κ b = .str _ := hy.symm
      cases a <;> cases e1; cases b <;> cases e2
      rename_i p q
      have e : PyData.eqv (pyU (.str p)) (pyU (.str q)) = decide (p = q) := Law.Sy.strs_eqv p q
      rw [e] at g; exact g
    · have e1 : em κ a = .bl _ := hx.symm
      have e2 : em κ b = .bl _ := hy.symm
      cases a <;> cases e1; cases b <;> cases e2
      rename_i p q
      have e : PyData.eqv (pyU (.bl p)) (pyU (.bl q)) = decide (p = q) := bl_eqv p q
      rw [e] at g; exact g
    · rw [hx.py, hy.py]
      exact ⟨h1, h2, h3, g⟩
  · exact h.elim
theorem ltP_m (h : wp ((ltM a b).bind kb) Q Eh) (i : ∀ z, wp (kb z) Q Eh → Pb z) : ltP x y Pb := by
  replace h := wp_bind h
  unfold ltM at h
  split at h
  · have e1 := hx.atom (by simp) (by simp) (by simp); have e2 := hy.atom (by simp) (by simp) (by simp)
    subst e1; subst e2
    exact i _ h
  · have e1 := hx.atom (by simp) (by simp) (by simp); have e2 := hy.atom (by simp) (by simp) (by simp)
    subst e1; subst e2
    exact ⟨rfl, i _ h⟩
  · exact h.elim
theorem leP_m (h : wp ((leM a b).bind kb) Q Eh) (i : ∀ z, wp (kb z) Q Eh → Pb z) : leP x y Pb := by
  replace h := wp_bind h
  unfold leM at h
  split at h
  · have e1 := hx.atom (by simp) (by simp) (by simp); have e2 := hy.atom (by simp) (by simp) (by simp)
    subst e1; subst e2
    exact i _ h
  · exact h.elim
theorem gtP_m (h : wp ((gtM a b).bind kb) Q Eh) (i : ∀ z, wp (kb z) Q Eh → Pb z) : gtP x y Pb := by
  replace h := wp_bind h
  unfold gtM at h
  split at h
  · have e1 := hx.atom (by simp) (by simp) (by simp); have e2 := hy.atom (by simp) (by simp) (by simp)
    subst e1; subst e2
    exact i _ h
  · exact h.elim
theorem geP_m (h : wp ((geM a b).bind kb) Q Eh) (i : ∀ z, wp (kb z) Q Eh → Pb z) : geP x y Pb := by
  replace h := wp_bind h
  unfold geM at h
  split at h
  · have e1 := hx.atom (by simp) (by simp) (by simp); have e2 := hy.atom (by simp) (by simp) (by simp)
    subst e1; subst e2
    exact i _ h
  · exact h.elim
theorem inP_m (h : wp ((inM a b).bind kb) Q Eh) (i : ∀ z, wp (kb z) Q Eh → Pb z) : inP Λ x y Pb := by
  replace h := wp_bind h
  unfold inM at h
  split at h
  · split at h
    · have e1 := hx.atom (by simp) (by simp) (by simp)
      subst e1
      unfold inP; rw [hy]
      exact ⟨_, rfl, i _ h⟩
    · exact h.elim
  · split at h
    · rename_i c e
      unfold inP; rw [hy]
      refine ⟨c, key_of hx e, ?_⟩
      have g := i _ h
      rw [uLook_em, Option.isSome_map]
      exact g
    · exact h.elim
  · split at h
    · rename_i us e
      split at h
      · rename_i hs
        rw [Bool.and_eq_true, Bool.and_eq_true, decide_eq_true_eq] at hs
        obtain ⟨h1, h2, h3⟩ := hs
        refine inP_seq (seq_of hy e) ?_ ?_ ?_ ?_
        · rw [pys_ems]; exact h1
        · rw [hx.py]; exact h2
        · rw [hx.py, pys_ems]; exact h3
        · rw [hx.py, pys_ems]
          have g := i _ h
          rw [pyUs_map, List.any_map]
          exact g
      · exact h.elim
    · exact h.elim
theorem ixP_m (h : wp ((ixM a b).bind k) Q Eh) (i : ∀ z, wp (k z) Q Eh → P (em κ z)) : ixP Λ x y P := by
  replace h := wp_bind h
  unfold ixM at h
  split at h
  · have e1 := hx.atom (by simp) (by simp) (by simp); have e2 := hy.atom (by simp) (by simp) (by simp)
    subst e1; subst e2
    split at h
    · split at h
      · rename_i c hc hl
        exact ixP_str hl hc (i _ h)
      · exact h.elim
    · exact h.elim
  · have e2 := hy.atom (by simp) (by simp) (by simp)
    subst e2
    split at h
    · rename_i us e
      split at h
      · rename_i u hu
        exact ixP_seq (seq_of hx e) (atI_ems hu) (i _ h)
      · exact h.elim
    · exact h.elim
  · exact h.elim
/-- d[k] -/
theorem ixdP_m (h : wp ((ixdM a b).bind k) Q Eh) (i : ∀ z, wp (k z) Q Eh → P (em κ z)) : ∃ ks ds c d, vw Λ x = .dic ks ds ∧ keyD y = some c ∧ dLook ks ds c = some d ∧ P d := by
  replace h := wp_bind h
  unfold ixdM at h
  split at h
  · split at h
    · rename_i c hc
      split at h
      · rename_i u hu
        exact ⟨_, _, c, _, hx, key_of hy hc, by rw [uLook_em, hu]; rfl, i _ h⟩
      · exact h.elim
    · exact h.elim
  · exact h.elim
theorem max2P_m (h : wp ((max2M a b).bind k) Q Eh) (i : ∀ z, wp (k z) Q Eh → P (em κ z)) : ∃ p q, x = .int p ∧ y = .int q ∧ P (.int (max p q)) := by
  replace h := wp_bind h
  unfold max2M at h
  split at h
  · exact ⟨_, _, hx.atom (by simp) (by simp) (by simp), hy.atom (by simp) (by simp) (by simp), i _ h⟩
  · exact h.elim
theorem min2P_m (h : wp ((min2M a b).bind k) Q Eh) (i : ∀ z, wp (k z) Q Eh → P (em κ z)) : ∃ p q, x = .int p ∧ y = .int q ∧ P (.int (min p q)) := by
  replace h := wp_bind h
  unfold min2M at h
  split at h
  · exact ⟨_, _, hx.atom (by simp) (by simp) (by simp), hy.atom (by simp) (by simp) (by simp), i _ h⟩
  · exact h.elim
theorem rng2P_m {Pl' : List D → Prop} {kl : List U → M α} (h : wp ((range2M a b).bind kl) Q Eh) (i : ∀ z, wp (kl z) Q Eh → Pl' (ems κ z)) : ∃ l n : Int, x = .int l ∧ y = .int n ∧ (-(2 ^ 62) ≤ l ∧ l < 2 ^ 62 ∧ -(2 ^ 62) ≤ n ∧ n < 2 ^ 62) ∧ Pl' (rangeD l (n - l).toNat) := by
  replace h := wp_bind h
  unfold range2M at h
  split at h
  · split at h
    · rename_i hs
      rw [Bool.and_eq_true, Bool.and_eq_true, Bool.and_eq_true, decide_eq_true_eq, decide_eq_true_eq, decide_eq_true_eq, decide_eq_true_eq] at hs
      refine ⟨_, _, hx.atom (by simp) (by simp) (by simp), hy.atom (by simp) (by simp) (by simp), hs, ?_⟩
      have g := i _ h
      have e : ∀ lo n, ems κ (rangeU lo n) = rangeD lo n := fun lo n => by unfold rangeU rangeD; rw [ems_map, List.map_map]; rfl
      rw [e] at g; exact g
    · exact h.elim
  · exact h.elim
theorem isP_m (h : wp ((isM a b).bind kb) Q Eh) (i : ∀ z, wp (kb z) Q Eh → Pb z) : isP x y Pb := by
  replace h := wp_bind h
  have hy' : b = .non ∨ (∃ c, b = .bl c) → y = em κ b := fun e => by rcases e with rfl | ⟨c, rfl⟩ <;> exact hy.atom (by simp) (by simp) (by simp)
  unfold isM at h
  split at h
  · have e2 := hy' (.inl rfl)
    subst e2
    have g := i _ h
    refine ⟨isNone a, ?_, g⟩
    have hv : vw Λ x = em κ a := hx
    by_cases hl : ∃ n, x = .loc n
    · obtain ⟨n, rfl⟩ := hl
      cases a with
      | non => exact absurd (hx.atom (by simp) (by simp) (by simp)) (by simp [em])
      | _ => rfl
    · have : x = em κ a := by
        cases x <;> first | exact absurd ⟨_, rfl⟩ hl | exact hv
      subst this
      cases a <;> rfl
  · have e2 := hy' (.inr ⟨_, rfl⟩)
    have e1 := hx.atom (by simp) (by simp) (by simp)
    subst e1; subst e2
    exact ⟨_, rfl, i _ h⟩
  · exact h.elim
end two
section one
variable {k : U → M α} {kb : Bool → M α} {kl : List U → M α} {ko : Option Int → M α} {Pl' : List D → Prop} (a : U) (hx : Vw κ Λ x a)
include hx
theorem negP_m (h : wp ((negM a).bind k) Q Eh) (i : ∀ z, wp (k z) Q Eh → P (em κ z)) : ∃ j, x = .int j ∧ P (.int (-j)) := by
  replace h := wp_bind h
  unfold negM at h
  split at h
  · exact ⟨_, hx.atom (by simp) (by simp) (by simp), i _ h⟩
  · exact h.elim
theorem boolP_m (h : wp ((boolM a).bind kb) Q Eh) (i : ∀ z, wp (kb z) Q Eh → Pb z) : boolP x Pb := by
  replace h := wp_bind h
  unfold boolM at h
  split at h
  · have e1 := hx.atom (by simp) (by simp) (by simp)
    subst e1
    exact i _ h
  · exact h.elim
theorem endP_m {Po : Option Int → Prop} (h : wp ((endM a).bind ko) Q Eh) (i : ∀ z, wp (ko z) Q Eh → Po z) : ∃ j, x = .int j ∧ Po (some j) := by
  replace h := wp_bind h
  unfold endM at h
  split at h
  · exact ⟨_, hx.atom (by simp) (by simp) (by simp), i _ h⟩
  · exact h.elim
theorem slP_m {l u : Option Int} (h : wp ((slM a l u).bind k) Q Eh) (i : ∀ z, wp (k z) Q Eh → P (em κ z)) : slP Λ x l u P := by
  replace h := wp_bind h
  unfold slM at h
  split at h
  · have e1 := hx.atom (by simp) (by simp) (by simp)
    subst e1
    split at h
    · rename_i hl
      exact slP_str hl (i _ h)
    · exact h.elim
  · have e1 := hx.atom (by simp) (by simp) (by simp)
    subst e1
    refine slP_tup rfl ?_
    rw [cut_ems]; exact i _ h
  · refine slP_lst (items_of hx rfl) ?_
    rw [cut_ems]; exact i _ h
  · refine slP_lst (items_of hx rfl) ?_
    rw [cut_ems]; exact i _ h
  · exact h.elim
theorem slnP_m {l u : Option Int} (h : wp ((slnM a l u).bind kl) Q Eh) (i : ∀ z, wp (kl z) Q Eh → Pl' (ems κ z)) : ∃ ds, lstD Λ x = some ds ∧ Pl' (cutD ds l u) := by
  replace h := wp_bind h
  unfold slnM at h
  split at h
  · refine ⟨_, items_of hx rfl, ?_⟩
    rw [cut_ems]; exact i _ h
  · refine ⟨_, items_of hx rfl, ?_⟩
    rw [cut_ems]; exact i _ h
  · exact h.elim
theorem lenP_m (h : wp ((lenM a).bind k) Q Eh) (i : ∀ z, wp (k z) Q Eh → P (em κ z)) : lenP Λ x fun n => P (.int n) := by
  replace h := wp_bind h
  unfold lenM at h
  split at h
  · have e1 := hx.atom (by simp) (by simp) (by simp)
    subst e1
    split at h
    · rename_i hl
      exact lenP_str hl (i _ h)
    · exact h.elim
  · split at h
    · rename_i us e
      refine lenP_seq (seq_of hx e) ?_
      rw [ems_len]; exact i _ h
    · exact h.elim
theorem listP_m (h : wp ((listM a).bind kl) Q Eh) (i : ∀ z, wp (kl z) Q Eh → Pl' (ems κ z)) : ∃ zs, seqD Λ x = some zs ∧ Pl' zs := by
  replace h := wp_bind h
  unfold listM at h
  split at h
  · rename_i us e
    exact ⟨_, seq_of hx e, i _ h⟩
  · exact h.elim
theorem tupleP_m (h : wp ((tupleM a).bind k) Q Eh) (i : ∀ z, wp (k z) Q Eh → P (em κ z)) : ∃ zs, seqD Λ x = some zs ∧ P (.tup zs) := by
  replace h := wp_bind h
  unfold tupleM at h
  split at h
  · rename_i us e
    exact ⟨_, seq_of hx e, i _ h⟩
  · exact h.elim
theorem sumP_m (h : wp ((sumM a).bind k) Q Eh) (i : ∀ z, wp (k z) Q Eh → P (em κ z)) : ∃ ns : List Int, lstD Λ x = some (ns.map .int) ∧ P (.int ns.sum) := by
  replace h := wp_bind h
  unfold sumM at h
  split at h
  · rename_i us e
    split at h
    · rename_i ns e2
      exact ⟨ns, by rw [← ints_em (κ := κ) e2]; exact items_of hx e, i _ h⟩
    · exact h.elim
  · exact h.elim
theorem allP_m (h : wp ((allM a).bind k) Q Eh) (i : ∀ z, wp (k z) Q Eh → P (em κ z)) : ∃ ns : List Bool, lstD Λ x = some (ns.map .bl) ∧ P (.bl (ns.all id)) := by
  replace h := wp_bind h
  unfold allM at h
  split at h
  · rename_i us e
    split at h
    · rename_i ns e2
      exact ⟨ns, by rw [← bls_em (κ := κ) e2]; exact items_of hx e, i _ h⟩
    · exact h.elim
  · exact h.elim
theorem anyP_m (h : wp ((anyM a).bind k) Q Eh) (i : ∀ z, wp (k z) Q Eh → P (em κ z)) : ∃ ns : List Bool, lstD Λ x = some (ns.map .bl) ∧ P (.bl (ns.any id)) := by
  replace h := wp_bind h
  unfold anyM at h
  split at h
  · rename_i us e
    split at h
    · rename_i ns e2
      exact ⟨ns, by rw [← bls_em (κ := κ) e2]; exact items_of hx e, i _ h⟩
    · exact h.elim
  · exact h.elim
theorem maxdP_m {n : Int} (h : wp ((maxdM a n).bind k) Q Eh) (i : ∀ z, wp (k z) Q Eh → P (em κ z)) : ∃ ns : List Int, lstD Λ x = some (ns.map .int) ∧ P (.int (mxd n ns)) := by
  replace h := wp_bind h
  unfold maxdM at h
  split at h
  · rename_i us e
    split at h
    · rename_i ns e2
      exact ⟨ns, by rw [← ints_em (κ := κ) e2]; exact items_of hx e, i _ h⟩
    · exact h.elim
  · exact h.elim
theorem maxlP_m (h : wp ((maxlM a).bind k) Q Eh) (i : ∀ z, wp (k z) Q Eh → P (em κ z)) : ∃ ns : List Int, lstD Λ x = some (ns.map .int) ∧ 0 < ns.length ∧ ∀ m, m ∈ ns → (∀ y ∈ ns, y ≤ m) → P (.int m) := by
  replace h := wp_bind h
  unfold maxlM at h
  split at h
  · rename_i us e
    split at h
    · rename_i n ns e2
      refine ⟨n :: ns, by rw [← ints_em (κ := κ) e2]; exact items_of hx e, Nat.succ_pos _, fun m hm hy => ?_⟩
      have g := i _ h
      have e3 : mxd 0 (n :: ns) = m := mxd_is hm hy
      have e4 : ns.foldl max n = m := e3
      rw [e4] at g; exact g
    · exact h.elim
  · exact h.elim
theorem intOfP_m (h : wp ((intM a).bind k) Q Eh) (i : ∀ z, wp (k z) Q Eh → P (em κ z)) : intOf x fun n => P (.int n) := by
  replace h := wp_bind h
  unfold intM at h
  split at h
  · have e1 := hx.atom (by simp) (by simp) (by simp)
    subst e1; exact i _ h
  · have e1 := hx.atom (by simp) (by simp) (by simp)
    subst e1; exact i _ h
  · exact h.elim
theorem ty_of {t : String} (e : tyU a = some t) : tyD Λ x = some t := by
  unfold tyD; rw [hx]
  cases a <;> first | exact e | cases e
theorem isiP_m {T : String} (h : wp ((isiM a T).bind k) Q Eh) (i : ∀ z, wp (k z) Q Eh → P (em κ z)) : ∃ t b, tyD Λ x = some t ∧ isiB t T = some b ∧ P (.bl b) := by
  replace h := wp_bind h
  unfold isiM at h
  split at h
  · rename_i t e
    split at h
    · rename_i b e2
      exact ⟨t, b, ty_of a hx e, e2, i _ h⟩
    · exact h.elim
  · exact h.elim
theorem rng1P_m (h : wp ((range1M a).bind kl) Q Eh) (i : ∀ z, wp (kl z) Q Eh → Pl' (ems κ z)) : ∃ n : Int, x = .int n ∧ -(2 ^ 62) ≤ n ∧ n < 2 ^ 62 ∧ Pl' (rangeD 0 n.toNat) := by
  replace h := wp_bind h
  unfold range1M at h
  split at h
  · split at h
    · rename_i hs
      rw [Bool.and_eq_true, decide_eq_true_eq, decide_eq_true_eq] at hs
      refine ⟨_, hx.atom (by simp) (by simp) (by simp), hs.1, hs.2, ?_⟩
      have g := i _ h
      have e : ∀ lo n, ems κ (rangeU lo n) = rangeD lo n := fun lo n => by unfold rangeU rangeD; rw [ems_map, List.map_map]; rfl
      rw [e] at g; exact g
    · exact h.elim
  · exact h.elim
omit hx
/-- walked: a list's items, a tuple's, a text's -/
theorem iterLP_m (h : wp ((iterL a).bind kl) Q Eh) (i : ∀ z, wp (kl z) Q Eh → Pl' (ems κ z)) : ∃ ds, (em κ a = .lst ds ∨ em κ a = .fzl ds) ∧ nls ds = true ∧ Pl' ds := by
  replace h := wp_bind h
  unfold iterL at h
  split at h
  · rename_i us e
    refine ⟨ems κ us, ?_, nls_em us, i _ h⟩
    cases a <;> simp only [itemsL, Option.some.injEq, reduceCtorEq] at e <;> subst e
    · exact .inl rfl
    · exact .inr rfl
  · exact h.elim
theorem iterTP_m (h : wp ((iterT a).bind kl) Q Eh) (i : ∀ z, wp (kl z) Q Eh → Pl' (ems κ z)) : ∃ ds, em κ a = .tup ds ∧ nls ds = true ∧ Pl' ds := by
  replace h := wp_bind h
  unfold iterT at h
  split at h
  · rename_i us
    exact ⟨ems κ us, rfl, nls_em us, i _ h⟩
  · exact h.elim
theorem iterSP_m (h : wp ((iterS a).bind kl) Q Eh) (i : ∀ z, wp (kl z) Q Eh → Pl' (ems κ z)) : ∃ s, em κ a = .str s ∧ Pl' (signsD s) := by
  replace h := wp_bind h
  unfold iterS at h
  split at h
  · rename_i s
    refine ⟨s, rfl, ?_⟩
    have g := i _ h
    have e : ems κ (s.cps.toList.map fun c => U.str ⟨#[c]⟩) = signsD s := by unfold signsD; rw [ems_map, List.map_map]; rfl
    rw [e] at g; exact g
  · exact h.elim
end one
/-- a decided test -/
theorem ite_m {A B : Prop} {c : Bool} {m m' : M α} (h : wp (if c = true then m else m') Q Eh) (h1 : wp m Q Eh → A) (h2 : wp m' Q Eh → B) : if c = true then A else B := by
  cases c
  · rw [if_neg (by simp)] at h ⊢; exact h2 h
  · rw [if_pos rfl] at h ⊢; exact h1 h
end
end Sh

/-! Sh3: calls, loops, comprehensions, joins, defs in the pure reading. -/
namespace Sh
open PySem L2 Pl
/-- a refusal -/
def errD (κ : Kl) (c : Str) (us : List U) : Err := ⟨.ref (κ.ad c), match κ.fs c with
  | [] => none
  | ns => some (ns, ems κ us)⟩
/-- each refusal that is reckoned with is wished -/
def EI (κ : Kl) (Eh : Str → List U → Prop) (E : ER) : Prop := ∀ c us Γ Λ, Eh c us → E (errD κ c us) Γ Λ
theorem EI.no {κ : Kl} {E : ER} : EI κ no E := fun _ _ _ _ h => h.elim
theorem nlE_errD {κ : Kl} {c : Str} {us : List U} : nlE (errD κ c us) = true := by
  unfold nlE errD
  dsimp only
  cases κ.fs c with
  | nil => rfl
  | cons a b => exact nls_em us
/-! ### what defs promise -/
/-- a def of pure data: a value -/
def spV (κ : Kl) (n : Nat) (f : List U → M U) : Pl.Spec := fun ds Λ Q E => Λ = [] ∧ ∃ us, ds = ems κ us ∧ us.length = n ∧ wp (f us) (fun z => Q (.val (em κ z)) []) (fun c es => E (errD κ c es) [])
/-- .. a new list -/
def spN (κ : Kl) (n : Nat) (f : List U → M (List U)) : Pl.Spec := fun ds Λ Q E => Λ = [] ∧ ∃ us, ds = ems κ us ∧ us.length = n ∧ wp (f us) (fun z => Q (.new (ems κ z)) []) (fun c es => E (errD κ c es) [])
section
variable {κ : Kl} {n : Nat}
theorem spV_mono {f : List U → M U} : Mono (spV κ n f) := fun ds Λ Q Q' E E' ⟨h0, us, h1, h2, h3⟩ i j => ⟨h0, us, h1, h2, wp_mono h3 (fun z h => i _ _ h) fun c es h => j _ _ h⟩
theorem spN_mono {f : List U → M (List U)} : Mono (spN κ n f) := fun ds Λ Q Q' E E' ⟨h0, us, h1, h2, h3⟩ i j => ⟨h0, us, h1, h2, wp_mono h3 (fun z h => i _ _ h) fun c es h => j _ _ h⟩
variable {C : Pl.Ctx} {E : ER} {Γ : Pl.Env} {Λ : Cells} {pos p : Pos} {α : Type} {Q : α → Prop} {Eh : Str → List U → Prop}
/-- f(e, ..): a value -/
theorem we_callV {k : Nat} {x : Str} {e : Expr} {es : List Expr} {P : D → Cells → Prop} {f : List U → M U} (G : C.fn k x n (spV κ n f)) (hk : k ≤ C.k) (hj : GlAt C x)
    (h : WA C E Γ Λ (e :: es) fun ds Λ1 => ∃ us, ds = ems κ us ∧ us.length = n ∧ wp (f us) (fun z => P (em κ z) Λ1) (fun c es => E (errD κ c es) Γ Λ1))
    (he : plainE e = true := by rfl) (hes : es.all plainE = true := by rfl) (hdb : (x == ("__debug__" : Str)) = false := by decide) : WE C E Γ Λ (.Call (.Name x p) (e :: es) [] pos) P :=
  we_call G hk hj spV_mono (wa_mono h fun ds Λ1 ⟨us, h1, h2, h3⟩ => by
    subst h1
    exact ⟨nls_em us, by rw [ems_len]; exact h2, rfl, us, rfl, h2, wp_mono h3 (fun z h => ⟨rfl, _, rfl, h⟩) fun c es h => ⟨rfl, h⟩⟩) he hes hdb
theorem wn_callN {k : Nat} {x : Str} {e : Expr} {es : List Expr} {P : List D → Cells → Prop} {f : List U → M (List U)} (G : C.fn k x n (spN κ n f)) (hk : k ≤ C.k) (hj : GlAt C x)
    (h : WA C E Γ Λ (e :: es) fun ds Λ1 => ∃ us, ds = ems κ us ∧ us.length = n ∧ wp (f us) (fun z => P (ems κ z) Λ1) (fun c es => E (errD κ c es) Γ Λ1))
    (he : plainE e = true := by rfl) (hes : es.all plainE = true := by rfl) (hdb : (x == ("__debug__" : Str)) = false := by decide) : WN C E Γ Λ (.Call (.Name x p) (e :: es) [] pos) P :=
  wn_call G hk hj spN_mono (wa_mono h fun ds Λ1 ⟨us, h1, h2, h3⟩ => by
    subst h1
    exact ⟨nls_em us, by rw [ems_len]; exact h2, rfl, us, rfl, h2, wp_mono h3 (fun z h => ⟨rfl, _, rfl, h⟩) fun c es h => ⟨rfl, h⟩⟩) he hes hdb
/-- what the arguments are told as -/
theorem args_m {k : U → M α} {f : List U → M U} {P : D → Prop} {ds : List D} (us : List U) (hd : ds = ems κ us) (hn : us.length = n) (hE : EI κ Eh E) (h : wp ((f us).bind k) Q Eh) (i : ∀ z, wp (k z) Q Eh → P (em κ z)) : ∃ us, ds = ems κ us ∧ us.length = n ∧ wp (f us) (fun z => P (em κ z)) (fun c es => E (errD κ c es) Γ Λ) :=
  ⟨us, hd, hn, wp_mono (wp_bind h) i fun c es h => hE _ _ _ _ h⟩
theorem args_n {k : List U → M α} {f : List U → M (List U)} {P : List D → Prop} {ds : List D} (us : List U) (hd : ds = ems κ us) (hn : us.length = n) (hE : EI κ Eh E) (h : wp ((f us).bind k) Q Eh) (i : ∀ z, wp (k z) Q Eh → P (ems κ z)) : ∃ us, ds = ems κ us ∧ us.length = n ∧ wp (f us) (fun z => P (ems κ z)) (fun c es => E (errD κ c es) Γ Λ) :=
  ⟨us, hd, hn, wp_mono (wp_bind h) i fun c es h => hE _ _ _ _ h⟩
/-! ### cells -/
theorem appP_m {n : Nat} {Λ : Cells} {us : List U} {k : List U → M α} {P : D → Cells → Prop} (u : U) (hn : Λ[n]? = some (.lst (ems κ us))) (h : wp ((appM us u).bind k) Q Eh) (i : ∀ z, wp (k z) Q Eh → P .non (Λ.set n (.lst (ems κ z)))) : ∃ ds, Λ[n]? = some (.lst ds) ∧ ds.length < sizeLine ∧ P .non (Λ.set n (.lst (ds ++ [em κ u]))) := by
  replace h := wp_bind h
  obtain ⟨h1, h2⟩ := wp_sz h
  refine ⟨_, hn, by rw [ems_len]; exact sz_ltt h1, ?_⟩
  have := i _ h2
  rw [ems_app] at this; exact this
theorem popP_m {n : Nat} {Λ : Cells} {us : List U} {k : U × List U → M α} {P : D → Cells → Prop} (hn : Λ[n]? = some (.lst (ems κ us))) (h : wp ((popM us).bind k) Q Eh) (i : ∀ z vs, wp (k (z, vs)) Q Eh → P (em κ z) (Λ.set n (.lst (ems κ vs)))) : ∃ m ds d, D.loc n = .loc m ∧ Λ[m]? = some (.lst ds) ∧ ds.getLast? = some d ∧ P d (Λ.set m (.lst ds.dropLast)) := by
  replace h := wp_bind h
  unfold popM at h
  split at h
  · rename_i x e
    refine ⟨n, _, em κ x, rfl, hn, by rw [ems_map, List.getLast?_map, e]; rfl, ?_⟩
    have := i _ _ h
    rw [ems_map, List.map_dropLast, ← ems_map] at this; exact this
  · exact h.elim
theorem extP_m {n : Nat} {Λ : Cells} {us : List U} {y : D} {k : List U → M α} {P : D → Cells → Prop} (u : U) (hy : Vw κ Λ y u) (hn : Λ[n]? = some (.lst (ems κ us))) (h : wp ((extM us u).bind k) Q Eh) (i : ∀ z, wp (k z) Q Eh → P .non (Λ.set n (.lst (ems κ z)))) : ∃ ds zs, Λ[n]? = some (.lst ds) ∧ vw Λ y = .lst zs ∧ ds.length + zs.length ≤ sizeLine ∧ P .non (Λ.set n (.lst (ds ++ zs))) := by
  replace h := wp_bind h
  unfold extM at h
  split at h
  · obtain ⟨h1, h2⟩ := wp_sz h
    refine ⟨_, _, hn, hy, by rw [ems_len, ems_len]; exact sz_line h1, ?_⟩
    have := i _ h2
    rw [ems_app] at this; exact this
  · exact h.elim
theorem setP_m {n : Nat} {Λ : Cells} {us : List U} {y : D} {k : List U → M α} {P : Cells → Prop} (j u : U) (hy : Vw κ Λ y j) (hn : Λ[n]? = some (.lst (ems κ us))) (h : wp ((setM us j u).bind k) Q Eh) (i : ∀ z, wp (k z) Q Eh → P (Λ.set n (.lst (ems κ z)))) : ∃ m ds k j, D.loc n = .loc m ∧ y = .int k ∧ Λ[m]? = some (.lst ds) ∧ ixN ds.length k = some j ∧ P (Λ.set m (.lst (ds.set j (em κ u)))) := by
  replace h := wp_bind h
  unfold setM at h
  split at h
  · split at h
    · rename_i q w e
      refine ⟨n, _, _, _, rfl, hy.atom (by simp) (by simp) (by simp), hn, by rw [ems_len]; exact e, ?_⟩
      have := i _ h
      rw [ems_map, List.map_set, ← ems_map] at this; exact this
    · exact h.elim
  · exact h.elim
/-! ### tests and values that join -/
theorem wt_cutM {e : Expr} {m : M Bool} {k : Bool → M α} {P : Bool → Cells → Prop} (h : wp (m.bind k) Q Eh) (h1 : ∀ Q', wp m Q' Eh → WT C E Γ Λ e fun b Λ' => Λ' = Λ ∧ Q' b) (h2 : ∀ b, wp (k b) Q Eh → P b Λ) : WT C E Γ Λ e P :=
  wt_mono (h1 _ (wp_bind h)) fun b Λ' ⟨e, q⟩ => by subst e; exact h2 b q
theorem we_cutM {e : Expr} {m : M U} {k : U → M α} {P : D → Cells → Prop} (h : wp (m.bind k) Q Eh) (h1 : ∀ Q', wp m Q' Eh → WE C E Γ Λ e fun d Λ' => Λ' = Λ ∧ ∃ z, d = em κ z ∧ Q' z) (h2 : ∀ z, wp (k z) Q Eh → P (em κ z) Λ) : WE C E Γ Λ e P :=
  we_mono (h1 _ (wp_bind h)) fun d Λ' ⟨e, z, e2, q⟩ => by subst e; subst e2; exact h2 z q
variable {Γ : Pl.Env} {R : Rs}
/-- behind a statement the state is of a shape -/
theorem ws_cutM {σ : Type} (sh : σ → Pl.Env → Cells → Prop) {s : Stmt} {m : M σ} {k : σ → M α} (h : wp (m.bind k) Q Eh) (h1 : ∀ Q', wp m Q' Eh → WS C Γ Λ s { R with nx := fun Γ Λ => ∃ st, sh st Γ Λ ∧ Q' st }) (h2 : ∀ st Γ Λ, sh st Γ Λ → wp (k st) Q Eh → R.nx Γ Λ) : WS C Γ Λ s R :=
  ws_mono (h1 _ (wp_bind h)) ⟨fun Γ Λ ⟨st, a, b⟩ => h2 st Γ Λ a b, fun _ _ z => z, fun _ _ z => z, fun _ _ z => z, fun _ _ _ z => z⟩
/-- .. or the statement has ended the block: c tells how -/
theorem ws_cutC {σ ρ : Type} (sh : σ → Pl.Env → Cells → Prop) (rt : ρ → Res → Cells → Prop) {s : Stmt} {m : M (Ct σ ρ)} {k : Ct σ ρ → M α} (h : wp (m.bind k) Q Eh)
    (h1 : ∀ Q', wp m Q' Eh → WS C Γ Λ s { R with nx := fun Γ Λ => ∃ st, sh st Γ Λ ∧ Q' (.nx st), bk := fun Γ Λ => ∃ st, sh st Γ Λ ∧ Q' (.bk st), rt := fun r Λ => ∃ c, rt c r Λ ∧ Q' (.rt c) })
    (h2 : ∀ st Γ Λ, sh st Γ Λ → wp (k (.nx st)) Q Eh → R.nx Γ Λ) (h3 : ∀ st Γ Λ, sh st Γ Λ → wp (k (.bk st)) Q Eh → R.bk Γ Λ) (h4 : ∀ c r Λ, rt c r Λ → wp (k (.rt c)) Q Eh → R.rt r Λ) : WS C Γ Λ s R :=
  ws_mono (h1 _ (wp_bind h)) ⟨fun Γ Λ ⟨st, a, b⟩ => h2 st Γ Λ a b, fun r Λ ⟨c, a, b⟩ => h4 c r Λ a b, fun Γ Λ ⟨st, a, b⟩ => h3 st Γ Λ a b, fun _ _ z => z, fun _ _ _ z => z⟩
/-! ### loops -/
variable {tg : Expr} {ws : List Nat} {body : List Stmt}
theorem loopN {σ : Type} (sh : σ → Pl.Env → Cells → Prop) (f : σ → U → M σ)
    (hb : ∀ st x Γ Λ Q', sh st Γ Λ → wp (f st x) Q' Eh → WG C Γ Λ tg (em κ x) ws fun Γ' => WSs C Γ' Λ body { R with nx := fun Γ Λ => ∃ st, sh st Γ Λ ∧ Q' st, ct := fun Γ Λ => ∃ st, sh st Γ Λ ∧ Q' st, bk := fun _ _ => False }) :
    ∀ (xs : List U) (st : σ) (Γ : Pl.Env) (Λ : Cells), sh st Γ Λ → wp (forN f xs st) (fun st => ∀ Γ Λ, sh st Γ Λ → R.nx Γ Λ) Eh → LoopP C tg ws body R (ems κ xs) Γ Λ
  | [], st, Γ, Λ, hs, h => h Γ Λ hs
  | x :: xs, st, Γ, Λ, hs, h => by
    replace h := wp_bind h
    refine wg_mono (hb st x Γ Λ _ hs h) fun Γ' h' => ?_
    exact wss_mono h' ⟨fun Γ Λ ⟨st, a, b⟩ => loopN sh f hb xs st Γ Λ a b, fun _ _ z => z, fun _ _ z => z.elim, fun Γ Λ ⟨st, a, b⟩ => loopN sh f hb xs st Γ Λ a b, fun _ _ _ z => z⟩
theorem loopC {σ ρ : Type} (sh : σ → Pl.Env → Cells → Prop) (rt : ρ → Res → Cells → Prop) (f : σ → U → M (Ct σ ρ))
    (hb : ∀ st x Γ Λ Q', sh st Γ Λ → wp (f st x) Q' Eh → WG C Γ Λ tg (em κ x) ws fun Γ' => WSs C Γ' Λ body { R with nx := fun Γ Λ => ∃ st, sh st Γ Λ ∧ Q' (.nx st), ct := fun Γ Λ => ∃ st, sh st Γ Λ ∧ Q' (.nx st), bk := fun Γ Λ => ∃ st, sh st Γ Λ ∧ Q' (.bk st), rt := fun r Λ => ∃ c, rt c r Λ ∧ Q' (.rt c) }) :
    ∀ (xs : List U) (st : σ) (Γ : Pl.Env) (Λ : Cells), sh st Γ Λ → wp (forC f xs st) (fun c => match c with | .nx st => ∀ Γ Λ, sh st Γ Λ → R.nx Γ Λ | .bk _ => True | .rt c => ∀ r Λ, rt c r Λ → R.rt r Λ) Eh → LoopP C tg ws body R (ems κ xs) Γ Λ
  | [], st, Γ, Λ, hs, h => h Γ Λ hs
  | x :: xs, st, Γ, Λ, hs, h => by
    replace h := wp_bind h
    refine wg_mono (hb st x Γ Λ _ hs h) fun Γ' h' => ?_
    exact wss_mono h' ⟨fun Γ Λ ⟨st, a, b⟩ => loopC sh rt f hb xs st Γ Λ a b, fun r Λ ⟨c, a, b⟩ => b r Λ a, fun Γ Λ ⟨st, a, b⟩ => b Γ Λ a, fun Γ Λ ⟨st, a, b⟩ => loopC sh rt f hb xs st Γ Λ a b, fun _ _ _ z => z⟩
/-- a for as a whole -/
theorem loopN_m {σ : Type} (sh : σ → Pl.Env → Cells → Prop) {f : σ → U → M σ} {xs : List U} {st : σ} {k : σ → M α} (h : wp ((forN f xs st).bind k) Q Eh) (hs : sh st Γ Λ)
    (hb : ∀ st x Γ Λ Q', sh st Γ Λ → wp (f st x) Q' Eh → WG C Γ Λ tg (em κ x) ws fun Γ' => WSs C Γ' Λ body { R with nx := fun Γ Λ => ∃ st, sh st Γ Λ ∧ Q' st, ct := fun Γ Λ => ∃ st, sh st Γ Λ ∧ Q' st, bk := fun _ _ => False })
    (h2 : ∀ st Γ Λ, sh st Γ Λ → wp (k st) Q Eh → R.nx Γ Λ) : LoopP C tg ws body R (ems κ xs) Γ Λ :=
  loopN sh f hb xs st Γ Λ hs (wp_mono (wp_bind h) (fun st h Γ Λ hs => h2 st Γ Λ hs h) fun _ _ h => h)
theorem loopC_m {σ ρ : Type} (sh : σ → Pl.Env → Cells → Prop) (rt : ρ → Res → Cells → Prop) {f : σ → U → M (Ct σ ρ)} {xs : List U} {st : σ} {k : Ct σ ρ → M α} (h : wp ((forC f xs st).bind k) Q Eh) (hs : sh st Γ Λ)
    (hb : ∀ st x Γ Λ Q', sh st Γ Λ → wp (f st x) Q' Eh → WG C Γ Λ tg (em κ x) ws fun Γ' => WSs C Γ' Λ body { R with nx := fun Γ Λ => ∃ st, sh st Γ Λ ∧ Q' (.nx st), ct := fun Γ Λ => ∃ st, sh st Γ Λ ∧ Q' (.nx st), bk := fun Γ Λ => ∃ st, sh st Γ Λ ∧ Q' (.bk st), rt := fun r Λ => ∃ c, rt c r Λ ∧ Q' (.rt c) })
    (h2 : ∀ st Γ Λ, sh st Γ Λ → wp (k (.nx st)) Q Eh → R.nx Γ Λ) (h4 : ∀ c r Λ, rt c r Λ → wp (k (.rt c)) Q Eh → R.rt r Λ) : LoopP C tg ws body R (ems κ xs) Γ Λ := by
  refine loopC sh rt f hb xs st Γ Λ hs (wp_mono (wp_bind h) (fun c h => ?_) fun _ _ h => h)
  cases c with
  | nx st => exact fun Γ Λ hs => h2 st Γ Λ hs h
  | bk st => trivial
  | rt c => exact fun r Λ hr => h4 c r Λ hr h
/-- while -/
theorem whN_m {σ : Type} (sh : σ → Pl.Env → Cells → Prop) {c : Expr} {cM : σ → M Bool} {f : σ → M σ} {n : Nat} {st : σ} {k : σ → M α} {pos : Pos} (h : wp ((whN cM f n st).bind k) Q Eh) (hs : sh st Γ Λ)
    (hc : ∀ st Γ Λ Q', sh st Γ Λ → wp (cM st) Q' Eh → WT C R.er Γ Λ c fun b Λ' => Λ' = Λ ∧ Q' b)
    (hb : ∀ st Γ Λ Q', sh st Γ Λ → wp (f st) Q' Eh → WSs C Γ Λ body { R with nx := fun Γ Λ => ∃ st, sh st Γ Λ ∧ Q' st, ct := fun Γ Λ => ∃ st, sh st Γ Λ ∧ Q' st, bk := fun _ _ => False })
    (h2 : ∀ st Γ Λ, sh st Γ Λ → wp (k st) Q Eh → R.nx Γ Λ) : WS C Γ Λ (.While c body [] pos) R := by
  refine ws_while (fun m Γ Λ => ∃ st, sh st Γ Λ ∧ wp (whN cM f m st) (fun st => wp (k st) Q Eh) Eh) ⟨n, st, hs, wp_bind h⟩ fun m Γ Λ ⟨st, hs, h⟩ => ?_
  cases m with
  | zero => exact h.elim
  | succ m =>
    replace h := wp_bind h
    refine wt_mono (hc st Γ Λ _ hs h) fun b Λ' ⟨e, h⟩ => ?_
    subst e
    refine ite_m h (fun h => ?_) fun h => h2 st Γ Λ' hs h
    replace h := wp_bind h
    exact wss_mono (hb st Γ Λ' _ hs h) ⟨fun Γ Λ ⟨st, a, b⟩ => ⟨m, Nat.lt_succ_self m, st, a, b⟩, fun _ _ z => z, fun _ _ z => z.elim, fun Γ Λ ⟨st, a, b⟩ => ⟨m, Nat.lt_succ_self m, st, a, b⟩, fun _ _ _ z => z⟩
/-! ### comprehensions -/
theorem comp_cp {f : U → M U} {elt : Expr} {P : List D → Prop} (hb : ∀ x Q', wp (f x) Q' no → WG C Γ Λ tg (em κ x) ws fun Γ' => WE C ER.none Γ' Λ elt fun d Λ' => Λ' = Λ ∧ ∃ z, d = em κ z ∧ Q' z) :
    ∀ (xs : List U) (acc : List D), acc.length + xs.length < 10000000 → wp (mapC f xs) (fun zs => P (acc ++ ems κ zs)) no → CompP C Γ Λ tg ws [] elt P (ems κ xs) acc
  | [], acc, hm, h => by
    have h : P (acc ++ []) := h
    rw [List.append_nil] at h; exact h
  | x :: xs, acc, hm, h => by
    rw [List.length_cons] at hm
    refine ⟨by omega, wg_mono (hb x _ (wp_calm (wp_bind h))) fun Γ' h' => we_mono h' fun d Λ' ⟨e, z, e2, q⟩ => ⟨e, ?_⟩⟩
    subst e2
    refine comp_cp hb xs _ (by simp; omega) (wp_mono (wp_bind q) (fun zs q => ?_) fun _ _ h => h)
    have q : P (acc ++ (em κ z :: ems κ zs)) := q
    rw [List.append_assoc]; exact q
theorem comp_cf {g : U → M Bool} {f : U → M U} {elt c : Expr} {P : List D → Prop} (hb : ∀ x Qb Q', wp (g x) Qb no → (Qb true → wp (f x) Q' no) → WG C Γ Λ tg (em κ x) ws fun Γ' => WT C ER.none Γ' Λ c fun b Λ' => Λ' = Λ ∧ Qb b ∧ (b = true → WE C ER.none Γ' Λ elt fun d Λ' => Λ' = Λ ∧ ∃ z, d = em κ z ∧ Q' z)) :
    ∀ (xs : List U) (acc : List D), acc.length + xs.length < 10000000 → wp (filC g f xs) (fun zs => P (acc ++ ems κ zs)) no → CompP C Γ Λ tg ws [c] elt P (ems κ xs) acc
  | [], acc, hm, h => by
    have h : P (acc ++ []) := h
    rw [List.append_nil] at h; exact h
  | x :: xs, acc, hm, h => by
    rw [List.length_cons] at hm
    replace h := wp_calm (wp_bind h)
    refine ⟨by omega, wg_mono (hb x (fun b => wp (if b = true then (f x).calm.bind fun y => (filC g f xs).bind fun ys => .ok (y :: ys) else filC g f xs) (fun zs => P (acc ++ ems κ zs)) no) (fun z => wp ((filC g f xs).bind fun ys => .ok (z :: ys)) (fun zs => P (acc ++ ems κ zs)) no) h fun h => ?_) fun Γ' h' => wt_mono h' fun b Λ' ⟨e, q, r⟩ => ⟨e, ?_⟩⟩
    · rw [if_pos rfl] at h; exact wp_calm (wp_bind h)
    · cases b with
      | false =>
        rw [if_neg (by simp)] at q ⊢
        exact comp_cf hb xs _ (by omega) q
      | true =>
        rw [if_pos rfl]
        have e := e.symm; subst e
        refine we_mono (r rfl) fun d Λ' ⟨e, z, e2, q⟩ => ⟨e, ?_⟩
        subst e2
        refine comp_cf hb xs _ (by simp; omega) (wp_mono (wp_bind q) (fun zs q => ?_) fun _ _ h => h)
        have q : P (acc ++ (em κ z :: ems κ zs)) := q
        rw [List.append_assoc]; exact q
end
section
variable {κ : Kl} {C : Pl.Ctx} {Γ : Pl.Env} {Λ : Cells} {α : Type} {Q : α → Prop} {Eh : Str → List U → Prop} {tg : Expr} {ws : List Nat}
/-- a comprehension as a whole -/
theorem comp_m {f : U → M U} {elt : Expr} {P : List D → Prop} {xs : List U} {k : List U → M α} (h : wp ((compM f xs).bind k) Q Eh)
    (hb : ∀ x Q', wp (f x) Q' no → WG C Γ Λ tg (em κ x) ws fun Γ' => WE C ER.none Γ' Λ elt fun d Λ' => Λ' = Λ ∧ ∃ z, d = em κ z ∧ Q' z) (i : ∀ zs, wp (k zs) Q Eh → P (ems κ zs)) : CompP C Γ Λ tg ws [] elt P (ems κ xs) [] := by
  obtain ⟨h1, h2⟩ := wp_sz (wp_bind h)
  refine comp_cp hb xs [] (by simpa using h1) ?_
  have key : ∀ xs : List U, ∀ c us, mapC f xs ≠ .err c us := by
    intro xs
    induction xs with
    | nil => intro c us e; cases e
    | cons x xs ih =>
      intro c us e
      unfold mapC at e
      cases e1 : f x <;> rw [e1] at e <;> try cases e
      cases e2 : mapC f xs <;> rw [e2] at e <;> try cases e
      exact ih _ _ e2
  cases e : mapC f xs with
  | stuck => rw [e] at h2; exact h2.elim
  | err c us => exact absurd e (key _ _ _)
  | ok a => rw [e] at h2; exact i a h2
theorem compF_m {g : U → M Bool} {f : U → M U} {elt c : Expr} {P : List D → Prop} {xs : List U} {k : List U → M α} (h : wp ((compF g f xs).bind k) Q Eh)
    (hb : ∀ x Qb Q', wp (g x) Qb no → (Qb true → wp (f x) Q' no) → WG C Γ Λ tg (em κ x) ws fun Γ' => WT C ER.none Γ' Λ c fun b Λ' => Λ' = Λ ∧ Qb b ∧ (b = true → WE C ER.none Γ' Λ elt fun d Λ' => Λ' = Λ ∧ ∃ z, d = em κ z ∧ Q' z)) (i : ∀ zs, wp (k zs) Q Eh → P (ems κ zs)) : CompP C Γ Λ tg ws [c] elt P (ems κ xs) [] := by
  obtain ⟨h1, h2⟩ := wp_sz (wp_bind h)
  refine comp_cf hb xs [] (by simpa using h1) ?_
  have key : ∀ xs : List U, ∀ c us, filC g f xs ≠ .err c us := by
    intro xs
    induction xs with
    | nil => intro c us e; cases e
    | cons x xs ih =>
      intro c us e
      unfold filC at e
      cases e1 : g x <;> rw [e1] at e <;> try cases e
      rename_i b
      have e : (if b = true then _ else _) = M.err c us := e
      split at e
      · cases e3 : f x <;> rw [e3] at e <;> try cases e
        cases e2 : filC g f xs <;> rw [e2] at e <;> try cases e
        exact ih _ _ e2
      · exact ih _ _ e
  cases e : filC g f xs with
  | stuck => rw [e] at h2; exact h2.elim
  | err c us => exact absurd e (key _ _ _)
  | ok a => rw [e] at h2; exact i a h2
end
/-! ### defs -/
section
variable {κ : Kl} {G : Gl}
theorem fn_none {x : Str} {st : Stmt} {ps : List Str} {S : Pl.Spec} {qn : Str} (h : DefAt G.K G.mg x st ps qn) {k : Nat} (hn : ∀ ds Λ Q E, ¬ S ds Λ Q E) : G.fn k x ps.length S := h.none hn
theorem spV_none {n : Nat} {f : List U → M U} (hf : ∀ us, f us = .stuck) (ds : List D) (Λ : Cells) (Q : Res → Cells → Prop) (E : Err → Cells → Prop) : ¬ spV κ n f ds Λ Q E := fun ⟨_, us, _, _, h⟩ => by rw [hf] at h; exact h
theorem spN_none {n : Nat} {f : List U → M (List U)} (hf : ∀ us, f us = .stuck) (ds : List D) (Λ : Cells) (Q : Res → Cells → Prop) (E : Err → Cells → Prop) : ¬ spN κ n f ds Λ Q E := fun ⟨_, us, _, _, h⟩ => by rw [hf] at h; exact h
/-- the refusals that a def may leave with -/
def erM (κ : Kl) (Eh : Str → List U → Prop) : ER := fun e _ _ => ∃ c us, e = errD κ c us ∧ Eh c us
theorem EI.erM {Eh : Str → List U → Prop} : EI κ Eh (erM κ Eh) := fun c us _ _ h => ⟨c, us, rfl, h⟩
/-- what a def's body is to reach: a value -/
def rtV (κ : Kl) (Q : U → Prop) (r : Res) (Λ : Cells) : Prop := (∃ u, r = .val (em κ u) ∧ Q u) ∨ (∃ n ks us, r = .val (.loc n) ∧ Λ[n]? = some (.dic ks (ems κ us)) ∧ Q (.dic ks us))
/-- .. a new list -/
def rtL (κ : Kl) (Q : List U → Prop) (r : Res) (Λ : Cells) : Prop := (∃ us, r = .new (ems κ us) ∧ Q us) ∨ (∃ n us, r = .val (.loc n) ∧ Λ[n]? = some (.lst (ems κ us)) ∧ Q us)
theorem def_V {x : Str} {st : Stmt} {ps : List Str} {qn : Str} (h : DefAt G.K G.mg x st ps qn) {N : List Str} {vs ls : List Bool} {gl : List Str} {k : Nat} {f : List U → M U} (sc : FnScope N ps (defScope st)) (good : goodC N (defScope st) vs ls gl = true)
    (hb : ∀ us, us.length = ps.length → ∀ Q Eh, wp (f us) Q Eh → WSs (G.cx N (defScope st) vs ls gl k 0) (Γ0 N (ems κ us)) [] (defBody st) ⟨fun _ _ => Q .non, rtV κ Q, fun _ _ => False, fun _ _ => False, erM κ Eh⟩) : G.fn (k + 1) x ps.length (spV κ ps.length f) :=
  def_okC (m := 0) h sc good (fun ds Λ Q E ⟨h, _⟩ => by subst h; exact Nat.le_refl _) fun ds Λ Q E hl ⟨h0, us, h1, h2, h3⟩ => by
    subst h0; subst h1
    refine wss_mono (hb us h2 _ _ h3) ⟨fun Γ Λ p => ?_, fun r Λ p => ?_, fun _ _ z => z, fun _ _ z => z, fun e Γ Λ p => ?_⟩
    · exact ⟨0, Nat.le_refl _, rfl, .inl ⟨rfl, p⟩⟩
    · rcases p with ⟨u, rfl, q⟩ | ⟨n, ks, us, rfl, q1, q2⟩
      · exact ⟨0, Nat.le_refl _, rfl, .inl ⟨ltD_nl _ (nl_em u), q⟩⟩
      · exact ⟨0, Nat.le_refl _, rfl, .inr (.inr ⟨n, ks, _, Nat.zero_le _, rfl, q1, nls_em us, q2⟩)⟩
    · obtain ⟨c, es, rfl, q⟩ := p
      exact ⟨nlE_errD, rfl, q⟩
theorem def_N {x : Str} {st : Stmt} {ps : List Str} {qn : Str} (h : DefAt G.K G.mg x st ps qn) {N : List Str} {vs ls : List Bool} {gl : List Str} {k : Nat} {f : List U → M (List U)} (sc : FnScope N ps (defScope st)) (good : goodC N (defScope st) vs ls gl = true)
    (hb : ∀ us, us.length = ps.length → ∀ Q Eh, wp (f us) Q Eh → WSs (G.cx N (defScope st) vs ls gl k 0) (Γ0 N (ems κ us)) [] (defBody st) ⟨fun _ _ => False, rtL κ Q, fun _ _ => False, fun _ _ => False, erM κ Eh⟩) : G.fn (k + 1) x ps.length (spN κ ps.length f) :=
  def_okC (m := 0) h sc good (fun ds Λ Q E ⟨h, _⟩ => by subst h; exact Nat.le_refl _) fun ds Λ Q E hl ⟨h0, us, h1, h2, h3⟩ => by
    subst h0; subst h1
    refine wss_mono (hb us h2 _ _ h3) ⟨fun Γ Λ p => p.elim, fun r Λ p => ?_, fun _ _ z => z, fun _ _ z => z, fun e Γ Λ p => ?_⟩
    · rcases p with ⟨u, rfl, q⟩ | ⟨n, us, rfl, q1, q2⟩
      · exact ⟨0, Nat.le_refl _, rfl, .inl ⟨nls_em u, q⟩⟩
      · exact ⟨0, Nat.le_refl _, rfl, .inr (.inl ⟨n, _, Nat.zero_le _, rfl, q1, nls_em us, q2⟩)⟩
    · obtain ⟨c, es, rfl, q⟩ := p
      exact ⟨nlE_errD, rfl, q⟩
/-- the law's own def -/
theorem law_M {x p : Str} {st : Stmt} {N : List Str} {vs ls : List Bool} {gl : List Str} {k n : Nat} {f : Addr} {fd : FuncData} {m : List U → M U} (F : Fun G.K x x st f fd) (sc : FnScope N [p] (defScope st)) (good : goodC N (defScope st) vs ls gl = true)
    (hb : ∀ us, us.length = 1 → ∀ Q Eh, wp (m us) Q Eh → WSs (G.cx N (defScope st) vs ls gl k 0) (Γ0 N (ems κ us)) [] (defBody st) ⟨fun _ _ => Q .non, rtV κ Q, fun _ _ => False, fun _ _ => False, erM κ Eh⟩)
    (hm : ∀ ns : List Int, ns.length ≤ n → m [.fzl (ns.map .int)] = .ok (.bl true)) : FnOk G.P G.w G.K G.mg G.base (L2.CX G.P G.w) (k + 1) f fd [p] (spOf G.K 1 (lawSpec n)) :=
  law_ok F sc good fun ns hl => by
    have e : [em κ (.fzl (ns.map .int))] = [D.fzl (ns.map .int)] := by rw [em, ems_map, List.map_map]; rfl
    have := hb [.fzl (ns.map .int)] rfl (fun u => u = .bl true) no (by rw [hm ns hl]; exact rfl)
    have e2 : ems κ [.fzl (ns.map .int)] = [D.fzl (ns.map .int)] := e
    rw [e2] at this
    refine wss_mono this ⟨fun Γ Λ p => (by cases p), fun r Λ p => ?_, fun _ _ z => z, fun _ _ z => z, fun e Γ Λ p => ?_⟩
    · rcases p with ⟨u, rfl, rfl⟩ | ⟨n, ks, us, rfl, q1, q2⟩
      · rfl
      · cases q2
    · obtain ⟨c, es, rfl, q⟩ := p
      exact q
end
end Sh

/-! Sh4: the rules of expressions, in the pure reading. -/
namespace Sh
open PySem L2 Pl PyProof.Rows
abbrev Tr : Str → List U → Prop := fun _ _ => True
theorem wp_ret {α : Type} {m : M α} {P : α → Prop} {E : Str → List U → Prop} (h : wp m P E) : wp (m.bind .ok) P E := by cases m <;> exact h
section
variable {κ : Kl} {Λ : Cells} {α β : Type} {Q : α → Prop} {Eh : Str → List U → Prop} {x y : D}
theorem fin0 {m : M β} {k : β → M α} {P : β → Prop} (h : wp (m.bind k) Q Eh) (i : ∀ z, wp (k z) Q Eh → P z) : wp m P Tr := wp_mono (wp_bind h) i fun _ _ _ => trivial
theorem fin1 {f : U → M β} {k : β → M α} {P : β → Prop} (u : U) (hx : Vw κ Λ x u) (h : wp ((f u).bind k) Q Eh) (i : ∀ z, wp (k z) Q Eh → P z) : ∃ u, Vw κ Λ x u ∧ wp (f u) P Tr := ⟨u, hx, fin0 h i⟩
/-- the arguments of a call -/
theorem finF {β : Type} {n : Nat} {f : List U → M β} {E : ER} {Γ : Pl.Env} {ds : List D} {k : β → M α} {P : β → Prop} (us : List U) (hd : ds = ems κ us) (hn : us.length = n) (hE : EI κ Eh E) (h : wp ((f us).bind k) Q Eh) (i : ∀ z, wp (k z) Q Eh → P z) : ∃ us, ds = ems κ us ∧ us.length = n ∧ wp (f us) P (fun c es => E (errD κ c es) Γ Λ) :=
  ⟨us, hd, hn, wp_mono (wp_bind h) i fun c es h => hE _ _ _ _ h⟩
theorem fin2 {f : U → U → M β} {k : β → M α} {P : β → Prop} (u v : U) (hx : Vw κ Λ x u) (hy : Vw κ Λ y v) (h : wp ((f u v).bind k) Q Eh) (i : ∀ z, wp (k z) Q Eh → P z) : ∃ u v, Vw κ Λ x u ∧ Vw κ Λ y v ∧ wp (f u v) P Tr := ⟨u, v, hx, hy, fin0 h i⟩
end
section
variable {κ : Kl} {C : Pl.Ctx} {E : ER} {Γ : Pl.Env} {Λ : Cells} {P : D → Cells → Prop} {Pt : Bool → Cells → Prop} {Pn : List D → Cells → Prop} {pos p : Pos} {a b e e2 : Expr}
/-- two operands, an operation -/
abbrev Op2 (κ : Kl) (C : Pl.Ctx) (E : ER) (Γ : Pl.Env) (Λ : Cells) (a b : Expr) (f : U → U → M U) (P : D → Cells → Prop) : Prop := WE C E Γ Λ a fun x Λ1 => WE C E Γ Λ1 b fun y Λ2 => ∃ u v, Vw κ Λ2 x u ∧ Vw κ Λ2 y v ∧ wp (f u v) (fun z => P (em κ z) Λ2) Tr
abbrev Op2t (κ : Kl) (C : Pl.Ctx) (E : ER) (Γ : Pl.Env) (Λ : Cells) (a b : Expr) (f : U → U → M Bool) (P : Bool → Cells → Prop) : Prop := WE C E Γ Λ a fun x Λ1 => WE C E Γ Λ1 b fun y Λ2 => ∃ u v, Vw κ Λ2 x u ∧ Vw κ Λ2 y v ∧ wp (f u v) (fun z => P z Λ2) Tr
abbrev Op1 (κ : Kl) (C : Pl.Ctx) (E : ER) (Γ : Pl.Env) (Λ : Cells) (a : Expr) (f : U → M U) (P : D → Cells → Prop) : Prop := WE C E Γ Λ a fun x Λ1 => ∃ u, Vw κ Λ1 x u ∧ wp (f u) (fun z => P (em κ z) Λ1) Tr
abbrev Op1n (κ : Kl) (C : Pl.Ctx) (E : ER) (Γ : Pl.Env) (Λ : Cells) (a : Expr) (f : U → M (List U)) (P : List D → Cells → Prop) : Prop := WE C E Γ Λ a fun x Λ1 => ∃ u, Vw κ Λ1 x u ∧ wp (f u) (fun z => P (ems κ z) Λ1) Tr
theorem we_addM (h : Op2 κ C E Γ Λ a b addM P) : WE C E Γ Λ (.BinOp a .Add b pos) P := we_add (we_mono h fun x Λ1 h => we_mono h fun y Λ2 ⟨u, v, hx, hy, h⟩ => addP_m (P := fun d => P d Λ2) u v hx hy (wp_ret h) fun z h => h)
theorem we_subM (h : Op2 κ C E Γ Λ a b subM P) : WE C E Γ Λ (.BinOp a .Sub b pos) P := we_sub (we_mono h fun x Λ1 h => we_mono h fun y Λ2 ⟨u, v, hx, hy, h⟩ => subP_m (P := fun d => P d Λ2) u v hx hy (wp_ret h) fun z h => h)
theorem we_mulM (h : Op2 κ C E Γ Λ a b mulM P) : WE C E Γ Λ (.BinOp a .Mult b pos) P := we_mul (we_mono h fun x Λ1 h => we_mono h fun y Λ2 ⟨u, v, hx, hy, h⟩ => mulP_m (P := fun d => P d Λ2) u v hx hy (wp_ret h) fun z h => h)
theorem we_fdivM (h : Op2 κ C E Γ Λ a b fdivM P) : WE C E Γ Λ (.BinOp a .FloorDiv b pos) P := we_fdiv (we_mono h fun x Λ1 h => we_mono h fun y Λ2 ⟨u, v, hx, hy, h⟩ => fdivP_m (P := fun d => P d Λ2) u v hx hy (wp_ret h) fun z h => h)
theorem we_modM (h : Op2 κ C E Γ Λ a b modM P) : WE C E Γ Λ (.BinOp a .Mod b pos) P := we_mod (we_mono h fun x Λ1 h => we_mono h fun y Λ2 ⟨u, v, hx, hy, h⟩ => modP_m (P := fun d => P d Λ2) u v hx hy (wp_ret h) fun z h => h)
theorem we_powM (h : Op2 κ C E Γ Λ a b powM P) : WE C E Γ Λ (.BinOp a .Pow b pos) P := we_pow (we_mono h fun x Λ1 h => we_mono h fun y Λ2 ⟨u, v, hx, hy, h⟩ => powP_m (P := fun d => P d Λ2) u v hx hy (wp_ret h) fun z h => h)
theorem we_negM (h : Op1 κ C E Γ Λ a negM P) : WE C E Γ Λ (.UnaryOp .USub a pos) P := we_neg (we_mono h fun x Λ1 ⟨u, hx, h⟩ => negP_m (P := fun d => P d Λ1) u hx (wp_ret h) fun z h => h)
/-! comparisons, as values and as tests -/
abbrev vB (f : U → U → M Bool) (u v : U) : M U := (f u v).bind fun b => .ok (.bl b)
theorem vB_wp {m : M Bool} {P : U → Prop} (h : wp (m.bind fun b => .ok (.bl b)) P Tr) : wp m (fun b => P (.bl b)) Tr := by cases m <;> exact h
abbrev nB (f : U → U → M Bool) (u v : U) : M Bool := (f u v).bind fun b => .ok (!b)
theorem nB_wp {m : M Bool} {P : Bool → Prop} (h : wp (m.bind fun b => .ok (!b)) P Tr) : wp m (fun b => P (!b)) Tr := by cases m <;> exact h
theorem wt_eqM (h : Op2t κ C E Γ Λ a b eqM Pt) : WT C E Γ Λ (.Compare a [.Eq] [b] pos) Pt := wt_eq (we_mono h fun x Λ1 h => we_mono h fun y Λ2 ⟨u, v, hx, hy, h⟩ => eqP_m (Pb := fun d => Pt d Λ2) u v hx hy (wp_ret h) fun z h => h)
theorem wt_neM (h : Op2t κ C E Γ Λ a b (nB eqM) Pt) : WT C E Γ Λ (.Compare a [.NotEq] [b] pos) Pt := wt_ne (we_mono h fun x Λ1 h => we_mono h fun y Λ2 ⟨u, v, hx, hy, h⟩ => eqP_m (Pb := fun d => Pt (!d) Λ2) u v hx hy (wp_ret (nB_wp h)) fun z h => h)
theorem wt_ltM (h : Op2t κ C E Γ Λ a b ltM Pt) : WT C E Γ Λ (.Compare a [.Lt] [b] pos) Pt := wt_lt (we_mono h fun x Λ1 h => we_mono h fun y Λ2 ⟨u, v, hx, hy, h⟩ => ltP_m (Pb := fun d => Pt d Λ2) u v hx hy (wp_ret h) fun z h => h)
theorem wt_leM (h : Op2t κ C E Γ Λ a b leM Pt) : WT C E Γ Λ (.Compare a [.LtE] [b] pos) Pt := wt_le (we_mono h fun x Λ1 h => we_mono h fun y Λ2 ⟨u, v, hx, hy, h⟩ => leP_m (Pb := fun d => Pt d Λ2) u v hx hy (wp_ret h) fun z h => h)
theorem wt_gtM (h : Op2t κ C E Γ Λ a b gtM Pt) : WT C E Γ Λ (.Compare a [.Gt] [b] pos) Pt := wt_gt (we_mono h fun x Λ1 h => we_mono h fun y Λ2 ⟨u, v, hx, hy, h⟩ => gtP_m (Pb := fun d => Pt d Λ2) u v hx hy (wp_ret h) fun z h => h)
theorem wt_geM (h : Op2t κ C E Γ Λ a b geM Pt) : WT C E Γ Λ (.Compare a [.GtE] [b] pos) Pt := wt_ge (we_mono h fun x Λ1 h => we_mono h fun y Λ2 ⟨u, v, hx, hy, h⟩ => geP_m (Pb := fun d => Pt d Λ2) u v hx hy (wp_ret h) fun z h => h)
theorem wt_inM (h : Op2t κ C E Γ Λ a b inM Pt) (hm : behindInMarks .In b = false := by rfl) : WT C E Γ Λ (.Compare a [.In] [b] pos) Pt := wt_in (we_mono h fun x Λ1 h => we_mono h fun y Λ2 ⟨u, v, hx, hy, h⟩ => inP_m (Pb := fun d => Pt d Λ2) u v hx hy (wp_ret h) fun z h => h) hm
theorem wt_ninM (h : Op2t κ C E Γ Λ a b (nB inM) Pt) (hm : behindInMarks .NotIn b = false := by rfl) : WT C E Γ Λ (.Compare a [.NotIn] [b] pos) Pt := wt_nin (we_mono h fun x Λ1 h => we_mono h fun y Λ2 ⟨u, v, hx, hy, h⟩ => inP_m (Pb := fun d => Pt (!d) Λ2) u v hx hy (wp_ret (nB_wp h)) fun z h => h) hm
theorem we_eqM (h : Op2 κ C E Γ Λ a b (vB eqM) P) : WE C E Γ Λ (.Compare a [.Eq] [b] pos) P := we_eq (we_mono h fun x Λ1 h => we_mono h fun y Λ2 ⟨u, v, hx, hy, h⟩ => eqP_m (Pb := fun d => P (.bl d) Λ2) u v hx hy (wp_ret (vB_wp h)) fun z h => h)
theorem we_neM (h : Op2 κ C E Γ Λ a b (vB (nB eqM)) P) : WE C E Γ Λ (.Compare a [.NotEq] [b] pos) P := we_ne (we_mono h fun x Λ1 h => we_mono h fun y Λ2 ⟨u, v, hx, hy, h⟩ => eqP_m (Pb := fun d => P (.bl (!d)) Λ2) u v hx hy (wp_ret (nB_wp (vB_wp h))) fun z h => h)
theorem we_ltM (h : Op2 κ C E Γ Λ a b (vB ltM) P) : WE C E Γ Λ (.Compare a [.Lt] [b] pos) P := we_lt (we_mono h fun x Λ1 h => we_mono h fun y Λ2 ⟨u, v, hx, hy, h⟩ => ltP_m (Pb := fun d => P (.bl d) Λ2) u v hx hy (wp_ret (vB_wp h)) fun z h => h)
theorem we_leM (h : Op2 κ C E Γ Λ a b (vB leM) P) : WE C E Γ Λ (.Compare a [.LtE] [b] pos) P := we_le (we_mono h fun x Λ1 h => we_mono h fun y Λ2 ⟨u, v, hx, hy, h⟩ => leP_m (Pb := fun d => P (.bl d) Λ2) u v hx hy (wp_ret (vB_wp h)) fun z h => h)
theorem we_gtM (h : Op2 κ C E Γ Λ a b (vB gtM) P) : WE C E Γ Λ (.Compare a [.Gt] [b] pos) P := we_gt (we_mono h fun x Λ1 h => we_mono h fun y Λ2 ⟨u, v, hx, hy, h⟩ => gtP_m (Pb := fun d => P (.bl d) Λ2) u v hx hy (wp_ret (vB_wp h)) fun z h => h)
theorem we_geM (h : Op2 κ C E Γ Λ a b (vB geM) P) : WE C E Γ Λ (.Compare a [.GtE] [b] pos) P := we_ge (we_mono h fun x Λ1 h => we_mono h fun y Λ2 ⟨u, v, hx, hy, h⟩ => geP_m (Pb := fun d => P (.bl d) Λ2) u v hx hy (wp_ret (vB_wp h)) fun z h => h)
theorem we_inM (h : Op2 κ C E Γ Λ a b (vB inM) P) (hm : behindInMarks .In b = false := by rfl) : WE C E Γ Λ (.Compare a [.In] [b] pos) P := we_in (we_mono h fun x Λ1 h => we_mono h fun y Λ2 ⟨u, v, hx, hy, h⟩ => inP_m (Pb := fun d => P (.bl d) Λ2) u v hx hy (wp_ret (vB_wp h)) fun z h => h) hm
theorem we_ninM (h : Op2 κ C E Γ Λ a b (vB (nB inM)) P) (hm : behindInMarks .NotIn b = false := by rfl) : WE C E Γ Λ (.Compare a [.NotIn] [b] pos) P := we_nin (we_mono h fun x Λ1 h => we_mono h fun y Λ2 ⟨u, v, hx, hy, h⟩ => inP_m (Pb := fun d => P (.bl (!d)) Λ2) u v hx hy (wp_ret (nB_wp (vB_wp h))) fun z h => h) hm
/-- a < b < c and the like: the second comparison only where the first holds -/
theorem wt_leltM {c : Expr} (h : WE C E Γ Λ a fun x Λ1 => WE C E Γ Λ1 b fun y Λ2 => ∃ u v, Vw κ Λ2 x u ∧ Vw κ Λ2 y v ∧ wp (leM u v) (fun c1 => if c1 = true then WE C E Γ Λ2 c fun z Λ3 => ∃ v w, Vw κ Λ3 y v ∧ Vw κ Λ3 z w ∧ wp (ltM v w) (fun c2 => Pt c2 Λ3) Tr else Pt false Λ2) Tr) : WT C E Γ Λ (.Compare a [.LtE, .Lt] [b, c] pos) Pt :=
  wt_lelt (we_mono h fun x Λ1 h => we_mono h fun y Λ2 ⟨u, v, hx, hy, h⟩ => leP_m u v hx hy (wp_ret h) fun c1 h => by
    cases c1 with
    | false => exact h
    | true =>
      unfold wp at h; dsimp only at h; rw [if_pos rfl] at h ⊢
      exact we_mono h fun z Λ3 ⟨v, w, hy, hz, h⟩ => ltP_m (Pb := fun d => Pt d Λ3) v w hy hz (wp_ret h) fun z h => h)
theorem we_leltM {c : Expr} (h : WE C E Γ Λ a fun x Λ1 => WE C E Γ Λ1 b fun y Λ2 => ∃ u v, Vw κ Λ2 x u ∧ Vw κ Λ2 y v ∧ wp (leM u v) (fun c1 => if c1 = true then WE C E Γ Λ2 c fun z Λ3 => ∃ v w, Vw κ Λ3 y v ∧ Vw κ Λ3 z w ∧ wp (ltM v w) (fun c2 => P (.bl c2) Λ3) Tr else P (.bl false) Λ2) Tr) : WE C E Γ Λ (.Compare a [.LtE, .Lt] [b, c] pos) P :=
  we_lelt (we_mono h fun x Λ1 h => we_mono h fun y Λ2 ⟨u, v, hx, hy, h⟩ => leP_m u v hx hy (wp_ret h) fun c1 h => by
    cases c1 with
    | false => exact h
    | true =>
      unfold wp at h; dsimp only at h; rw [if_pos rfl] at h ⊢
      exact we_mono h fun z Λ3 ⟨v, w, hy, hz, h⟩ => ltP_m (Pb := fun d => P (.bl d) Λ3) v w hy hz (wp_ret h) fun z h => h)
theorem wt_isM (h : Op2t κ C E Γ Λ a b isM Pt) : WT C E Γ Λ (.Compare a [.Is] [b] pos) Pt :=
  wt_cmpK (fun X is => op_isN.or op_is_bl) (we_mono h fun x Λ1 p => we_mono p fun y Λ2 ⟨u, v, hx, hy, q⟩ => by
    have q : isP x y fun c => Pt c Λ2 := isP_m (Pb := fun d => Pt d Λ2) u v hx hy (wp_ret q) fun z h => h
    intro F B α σ H vx vy Q S rx ry k
    unfold isP at q
    split at q
    · obtain ⟨c, hc, p⟩ := q
      unfold Rep at ry
      refine .inl ⟨ry, ?_⟩
      have := isN_rep rx hc
      rw [this]
      exact k _ _ _ _ _ _ ⟨_, rfl, p⟩ S (Ex.refl B) (List.prefix_refl _) (by unfold Rep; rfl)
    · obtain ⟨c, rfl, p'⟩ := q
      unfold Rep at rx ry
      exact .inr ⟨_, _, rx, ry, k _ _ _ _ _ _ ⟨_, rfl, p'⟩ S (Ex.refl B) (List.prefix_refl _) (by unfold Rep; rfl)⟩
    · exact q.elim) (nomark b)
theorem we_isM (h : Op2 κ C E Γ Λ a b (vB isM) P) : WE C E Γ Λ (.Compare a [.Is] [b] pos) P :=
  we_isA (we_mono h fun x Λ1 h => we_mono h fun y Λ2 ⟨u, v, hx, hy, h⟩ => isP_m (Pb := fun d => P (.bl d) Λ2) u v hx hy (wp_ret (vB_wp h)) fun z h => h)
/-- x is not None -/
def isntM (x y : U) : M Bool := match y with
  | .non => .ok (!isNone x)
  | _ => .stuck
theorem isntP {u v : U} {x y : D} {P' : Bool → Prop} (hx : Vw κ Λ x u) (hy : Vw κ Λ y v) (h : wp (isntM u v) P' Tr) : y = .non ∧ ∃ c, isN x = some c ∧ P' (!c) := by
  unfold isntM at h
  split at h
  · have h2 : isP x y (fun c => P' (!c)) := isP_m (Pb := fun d => P' (!d)) (Q := fun b => P' (!b)) (Eh := Tr) (kb := .ok) u .non hx hy h fun z h => h
    have e2 : y = .non := hy.atom (by simp) (by simp) (by simp)
    subst e2
    exact ⟨rfl, h2⟩
  · exact h.elim
theorem wt_isntM (h : Op2t κ C E Γ Λ a b isntM Pt) : WT C E Γ Λ (.Compare a [.IsNot] [b] pos) Pt :=
  wt_isnt (we_mono h fun x Λ1 h => we_mono h fun y Λ2 ⟨u, v, hx, hy, h⟩ => isntP (P' := fun c => Pt c Λ2) hx hy h)
theorem we_isntM (h : Op2 κ C E Γ Λ a b (vB isntM) P) : WE C E Γ Λ (.Compare a [.IsNot] [b] pos) P :=
  we_isnt (we_mono h fun x Λ1 h => we_mono h fun y Λ2 ⟨u, v, hx, hy, h⟩ => isntP (P' := fun c => P (.bl c) Λ2) hx hy (vB_wp h))
/-! and, or, not, tests by value -/
theorem we_andM {rest : List Expr} (h : WE C E Γ Λ a fun x Λ1 => ∃ u, Vw κ Λ1 x u ∧ wp (boolM u) (fun c => if c = true then WE C E Γ Λ1 (.BoolOp .And (b :: rest) pos) P else P (.bl false) Λ1) Tr) : WE C E Γ Λ (.BoolOp .And (a :: b :: rest) pos) P :=
  we_and (we_mono h fun x Λ1 ⟨u, hx, h⟩ => boolP_m u hx (wp_ret h) fun z h => h)
theorem we_orM {rest : List Expr} (h : WE C E Γ Λ a fun x Λ1 => ∃ u, Vw κ Λ1 x u ∧ wp (boolM u) (fun c => if c = true then P (.bl true) Λ1 else WE C E Γ Λ1 (.BoolOp .Or (b :: rest) pos) P) Tr) : WE C E Γ Λ (.BoolOp .Or (a :: b :: rest) pos) P :=
  we_or (we_mono h fun x Λ1 ⟨u, hx, h⟩ => boolP_m u hx (wp_ret h) fun z h => h)
theorem we_notM (h : WE C E Γ Λ a fun x Λ1 => ∃ u, Vw κ Λ1 x u ∧ wp (boolM u) (fun c => P (.bl (!c)) Λ1) Tr) : WE C E Γ Λ (.UnaryOp .Not a pos) P :=
  we_not (we_mono h fun x Λ1 ⟨u, hx, h⟩ => boolP_m u hx (wp_ret h) fun z h => h)
theorem wt_valM (h : WE C E Γ Λ a fun x Λ1 => ∃ u, Vw κ Λ1 x u ∧ wp (boolM u) (fun c => Pt c Λ1) Tr) (he : ∀ (env : PySem.Env) whole, isTrue a env whole = (do let v ← whole; standAt a.pos; holding [v] (truthy v)) := by intro _ _; rfl) : WT C E Γ Λ a Pt :=
  wt_val (we_mono h fun x Λ1 ⟨u, hx, h⟩ => boolP_m (Pb := fun c => Pt c Λ1) u hx (wp_ret h) fun z h => h) he
/-! subscripts, slices -/
theorem we_ixM (h : Op2 κ C E Γ Λ a b ixM P) (hs : PlainIx b := by intro _ _; rfl) : WE C E Γ Λ (.Subscript a b pos) P := we_ix (we_mono h fun x Λ1 h => we_mono h fun y Λ2 ⟨u, v, hx, hy, h⟩ => ixP_m (P := fun d => P d Λ2) u v hx hy (wp_ret h) fun z h => h) hs
theorem we_ixdM (h : Op2 κ C E Γ Λ a b ixdM P) (hs : NoSl b := by intro _ _; rfl) : WE C E Γ Λ (.Subscript a b pos) P := we_ixd (we_mono h fun x Λ1 h => we_mono h fun y Λ2 ⟨u, v, hx, hy, h⟩ => ixdP_m (P := fun d => P d Λ2) u v hx hy (wp_ret h) fun z h => h) hs
/-- a slice's end -/
def WOM (κ : Kl) (C : Pl.Ctx) (E : ER) (Γ : Pl.Env) (Λ : Cells) : Option Expr → (Option Int → Cells → Prop) → Prop
  | none, P => P none Λ
  | some e, P => WE C E Γ Λ e fun x Λ1 => ∃ u, Vw κ Λ1 x u ∧ wp (endM u) (fun z => P z Λ1) Tr
theorem wo_of {o : Option Expr} {P : Option Int → Cells → Prop} (h : WOM κ C E Γ Λ o P) : WO C E Γ Λ o P := by
  cases o with
  | none => exact h
  | some e => exact we_mono h fun x Λ1 ⟨u, hx, h⟩ => endP_m (Po := fun z => P z Λ1) u hx (wp_ret h) fun z h => h
theorem wo_mono {o : Option Expr} {P P' : Option Int → Cells → Prop} (h : WO C E Γ Λ o P) (i : ∀ z Λ, P z Λ → P' z Λ) : WO C E Γ Λ o P' := by
  cases o with
  | none => exact i _ _ h
  | some e => exact we_mono h fun x Λ1 ⟨j, e, h⟩ => ⟨j, e, i _ _ h⟩
theorem we_slM {lo hi : Option Expr} {p2 : Pos} (h : WE C E Γ Λ a fun x Λ1 => WOM κ C E Γ Λ1 lo fun l Λ2 => WOM κ C E Γ Λ2 hi fun r Λ3 => ∃ u, Vw κ Λ3 x u ∧ wp (slM u l r) (fun z => P (em κ z) Λ3) Tr) : WE C E Γ Λ (.Subscript a (.Slice lo hi none p2) pos) P :=
  we_sl (we_mono h fun x Λ1 h => wo_mono (wo_of h) fun l Λ2 h => wo_mono (wo_of h) fun r Λ3 ⟨u, hx, h⟩ => slP_m (P := fun d => P d Λ3) u hx (wp_ret h) fun z h => h)
theorem wn_slM {lo hi : Option Expr} {p2 : Pos} (h : WE C E Γ Λ a fun x Λ1 => WOM κ C E Γ Λ1 lo fun l Λ2 => WOM κ C E Γ Λ2 hi fun r Λ3 => ∃ u, Vw κ Λ3 x u ∧ wp (slnM u l r) (fun z => Pn (ems κ z) Λ3) Tr) : WN C E Γ Λ (.Subscript a (.Slice lo hi none p2) pos) Pn :=
  wn_slice (we_mono h fun x Λ1 h => wo_mono (wo_of h) fun l Λ2 h => wo_mono (wo_of h) fun r Λ3 ⟨u, hx, h⟩ => slnP_m (Pl' := fun d => Pn d Λ3) u hx (wp_ret h) fun z h => h)
/-- xs + ys, a new list -/
def addnM : U → U → M (List U)
  | .lst xs, .lst ys => sz (xs.length + ys.length) (.ok (xs ++ ys))
  | _, _ => .stuck
theorem wn_addM (h : WE C E Γ Λ a fun x Λ1 => WE C E Γ Λ1 b fun y Λ2 => ∃ u v, Vw κ Λ2 x u ∧ Vw κ Λ2 y v ∧ wp (addnM u v) (fun z => Pn (ems κ z) Λ2) Tr) : WN C E Γ Λ (.BinOp a .Add b pos) Pn :=
  wn_add (we_mono h fun x Λ1 h => we_mono h fun y Λ2 ⟨u, v, hx, hy, h⟩ => by
    unfold addnM at h
    split at h
    · obtain ⟨h1, h2⟩ := wp_sz h
      refine ⟨_, _, hx, hy, by rw [ems_len, ems_len]; exact sz_line h1, ?_⟩
      have h2 : Pn (ems κ (_ ++ _)) Λ2 := h2
      rw [ems_app] at h2; exact h2
    · exact h.elim)
/-! built-ins -/
theorem we_lenM (hj : GlAt C "len") (hm : C.mg "len" = none) (h : Op1 κ C E Γ Λ e lenM P) (he : plainE e = true := by rfl) : WE C E Γ Λ (.Call (.Name "len" p) [e] [] pos) P := we_len hj hm (we_mono h fun x Λ1 ⟨u, hx, h⟩ => lenP_m (P := fun d => P d Λ1) u hx (wp_ret h) fun z h => h) he
theorem wn_listM (hj : GlAt C "list") (hm : C.mg "list" = none) (h : Op1n κ C E Γ Λ e listM Pn) (he : plainE e = true := by rfl) : WN C E Γ Λ (.Call (.Name "list" p) [e] [] pos) Pn := wn_list hj hm (we_mono h fun x Λ1 ⟨u, hx, h⟩ => listP_m (Pl' := fun d => Pn d Λ1) u hx (wp_ret h) fun z h => h) he
theorem we_tupleM (hj : GlAt C "tuple") (hm : C.mg "tuple" = none) (h : Op1 κ C E Γ Λ e tupleM P) (he : plainE e = true := by rfl) : WE C E Γ Λ (.Call (.Name "tuple" p) [e] [] pos) P := we_tuple hj hm (we_mono h fun x Λ1 ⟨u, hx, h⟩ => tupleP_m (P := fun d => P d Λ1) u hx (wp_ret h) fun z h => h) he
theorem we_sumM (hj : GlAt C "sum") (hm : C.mg "sum" = none) (h : Op1 κ C E Γ Λ e sumM P) (he : plainE e = true := by rfl) : WE C E Γ Λ (.Call (.Name "sum" p) [e] [] pos) P := we_sum hj hm (we_mono h fun x Λ1 ⟨u, hx, h⟩ => sumP_m (P := fun d => P d Λ1) u hx (wp_ret h) fun z h => h) he
theorem we_allM (hj : GlAt C "all") (hm : C.mg "all" = none) (h : Op1 κ C E Γ Λ e allM P) (he : plainE e = true := by rfl) : WE C E Γ Λ (.Call (.Name "all" p) [e] [] pos) P := we_all hj hm (we_mono h fun x Λ1 ⟨u, hx, h⟩ => allP_m (P := fun d => P d Λ1) u hx (wp_ret h) fun z h => h) he
theorem we_anyM (hj : GlAt C "any") (hm : C.mg "any" = none) (h : Op1 κ C E Γ Λ e anyM P) (he : plainE e = true := by rfl) : WE C E Γ Λ (.Call (.Name "any" p) [e] [] pos) P := we_any hj hm (we_mono h fun x Λ1 ⟨u, hx, h⟩ => anyP_m (P := fun d => P d Λ1) u hx (wp_ret h) fun z h => h) he
theorem we_maxlM (hj : GlAt C "max") (hm : C.mg "max" = none) (h : Op1 κ C E Γ Λ e maxlM P) (he : plainE e = true := by rfl) : WE C E Γ Λ (.Call (.Name "max" p) [e] [] pos) P := we_maxl hj hm (we_mono h fun x Λ1 ⟨u, hx, h⟩ => maxlP_m (P := fun d => P d Λ1) u hx (wp_ret h) fun z h => h) he
theorem we_maxdM {i : Int} {j : Nat} {p1 p2 : Pos} (hj : GlAt C "max") (hm : C.mg "max" = none) (h : Op1 κ C E Γ Λ e (fun u => maxdM u i) P) (he : plainE e = true := by rfl) : WE C E Γ Λ (.Call (.Name "max" p) [e] [⟨some "default", .Constant (.int i) j p1, p2⟩] pos) P := we_maxd hj hm (we_mono h fun x Λ1 ⟨u, hx, h⟩ => maxdP_m (P := fun d => P d Λ1) u hx (wp_ret h) fun z h => h) he
theorem we_max2M (hj : GlAt C "max") (hm : C.mg "max" = none) (h : Op2 κ C E Γ Λ e e2 max2M P) (he : plainE e = true := by rfl) (he2 : plainE e2 = true := by rfl) : WE C E Γ Λ (.Call (.Name "max" p) [e, e2] [] pos) P := we_max2 hj hm (we_mono h fun x Λ1 h => we_mono h fun y Λ2 ⟨u, v, hx, hy, h⟩ => max2P_m (P := fun d => P d Λ2) u v hx hy (wp_ret h) fun z h => h) he he2
theorem we_min2M (hj : GlAt C "min") (hm : C.mg "min" = none) (h : Op2 κ C E Γ Λ e e2 min2M P) (he : plainE e = true := by rfl) (he2 : plainE e2 = true := by rfl) : WE C E Γ Λ (.Call (.Name "min" p) [e, e2] [] pos) P := we_min2 hj hm (we_mono h fun x Λ1 h => we_mono h fun y Λ2 ⟨u, v, hx, hy, h⟩ => min2P_m (P := fun d => P d Λ2) u v hx hy (wp_ret h) fun z h => h) he he2
theorem we_intM (hj : GlAt C "int") (hm : C.mg "int" = none) (h : Op1 κ C E Γ Λ e intM P) (he : plainE e = true := by rfl) : WE C E Γ Λ (.Call (.Name "int" p) [e] [] pos) P := we_toInt hj hm (we_mono h fun x Λ1 ⟨u, hx, h⟩ => intOfP_m (P := fun d => P d Λ1) u hx (wp_ret h) fun z h => h) he
theorem we_isiM {x : Str} {T : String} {p2 : Pos} (hj : GlAt C "isinstance") (hm : C.mg "isinstance" = none) (hj2 : GlAt C x) (hm2 : C.mg x = none) (hv : bootBuiltins x = some (.type T)) (h : Op1 κ C E Γ Λ e (fun u => isiM u T) P) (he : plainE e = true := by rfl)
    (hn : x ≠ "__name__" := by decide) (hd : (x == ("__debug__" : Str)) = false := by decide) : WE C E Γ Λ (.Call (.Name "isinstance" p) [e, .Name x p2] [] pos) P := we_isiN hj hm hj2 hm2 hv (we_mono h fun x Λ1 ⟨u, hx, h⟩ => isiP_m (P := fun d => P d Λ1) u hx (wp_ret h) fun z h => h) he hn hd
/-! what is walked -/
variable {tg : Expr}
theorem wi_range1M (hj : GlAt C "range") (hm : C.mg "range" = none) (h : Op1n κ C E Γ Λ a range1M Pn) (ha : plainE a = true := by rfl) : WI C E Γ Λ tg (.Call (.Name "range" p) [a] [] pos) Pn := wi_range1 hj hm (we_mono h fun x Λ1 ⟨u, hx, h⟩ => rng1P_m (Pl' := fun d => Pn d Λ1) u hx (wp_ret h) fun z h => h) ha
theorem wi_range2M (hj : GlAt C "range") (hm : C.mg "range" = none) (h : WE C E Γ Λ a fun x Λ1 => WE C E Γ Λ1 b fun y Λ2 => ∃ u v, Vw κ Λ2 x u ∧ Vw κ Λ2 y v ∧ wp (range2M u v) (fun z => Pn (ems κ z) Λ2) Tr) (ha : plainE a = true := by rfl) (hb : plainE b = true := by rfl) : WI C E Γ Λ tg (.Call (.Name "range" p) [a, b] [] pos) Pn := wi_range2 hj hm (we_mono h fun x Λ1 h => we_mono h fun y Λ2 ⟨u, v, hx, hy, h⟩ => rng2P_m (Pl' := fun d => Pn d Λ2) u v hx hy (wp_ret h) fun z h => h) ha hb
abbrev OpI (κ : Kl) (C : Pl.Ctx) (E : ER) (Γ : Pl.Env) (Λ : Cells) (a : Expr) (f : U → M (List U)) (P : List D → Cells → Prop) : Prop := WE C E Γ Λ a fun x Λ1 => ∃ u, x = em κ u ∧ wp (f u) (fun z => P (ems κ z) Λ1) Tr
theorem wi_LM (h : OpI κ C E Γ Λ e iterL Pn) : WI C E Γ Λ tg e Pn := wi_list (we_mono h fun x Λ1 ⟨u, hx, h⟩ => by subst hx; exact iterLP_m (Pl' := fun d => Pn d Λ1) u (wp_ret h) fun z h => h)
theorem wi_TM (h : OpI κ C E Γ Λ e iterT Pn) : WI C E Γ Λ tg e Pn := wi_tup (we_mono h fun x Λ1 ⟨u, hx, h⟩ => by subst hx; exact iterTP_m (Pl' := fun d => Pn d Λ1) u (wp_ret h) fun z h => h)
theorem wi_SM (h : OpI κ C E Γ Λ e iterS Pn) : WI C E Γ Λ tg e Pn := wi_str (we_mono h fun x Λ1 ⟨u, hx, h⟩ => by subst hx; exact iterSP_m (Pl' := fun d => Pn d Λ1) u (wp_ret h) fun z h => h)
theorem finI {α : Type} {Q : α → Prop} {Eh : Str → List U → Prop} {f : U → M (List U)} {k : List U → M α} {P : List U → Prop} (u : U) (h : wp ((f u).bind k) Q Eh) (i : ∀ z, wp (k z) Q Eh → P z) : ∃ v, em κ u = em κ v ∧ wp (f v) P Tr := ⟨u, rfl, fin0 h i⟩
/-! targets -/
variable {α : Type} {Q : α → Prop} {Eh : Str → List U → Prop} {ws : List Nat} {Pg : Pl.Env → Prop}
theorem tg2 {k : U × U → M α} (u : U) (h : wp ((un2 u).bind k) Q Eh) (i : ∀ a b, wp (k (a, b)) Q Eh → WG C Γ Λ tg (.tup [em κ a, em κ b]) ws Pg) : WG C Γ Λ tg (em κ u) ws Pg := by
  replace h := wp_bind h
  unfold un2 at h
  split at h
  · exact i _ _ h
  · exact h.elim
theorem tg3 {k : U × U × U → M α} (u : U) (h : wp ((un3 u).bind k) Q Eh) (i : ∀ a b c, wp (k (a, b, c)) Q Eh → WG C Γ Λ tg (.tup [em κ a, em κ b, em κ c]) ws Pg) : WG C Γ Λ tg (em κ u) ws Pg := by
  replace h := wp_bind h
  unfold un3 at h
  split at h
  · exact i _ _ _ h
  · exact h.elim
theorem tg4 {k : U × U × U × U → M α} (u : U) (h : wp ((un4 u).bind k) Q Eh) (i : ∀ a b c d, wp (k (a, b, c, d)) Q Eh → WG C Γ Λ tg (.tup [em κ a, em κ b, em κ c, em κ d]) ws Pg) : WG C Γ Λ tg (em κ u) ws Pg := by
  replace h := wp_bind h
  unfold un4 at h
  split at h
  · exact i _ _ _ _ h
  · exact h.elim
theorem tg5 {k : U × U × U × U × U → M α} (u : U) (h : wp ((un5 u).bind k) Q Eh) (i : ∀ a b c d e, wp (k (a, b, c, d, e)) Q Eh → WG C Γ Λ tg (.tup [em κ a, em κ b, em κ c, em κ d, em κ e]) ws Pg) : WG C Γ Λ tg (em κ u) ws Pg := by
  replace h := wp_bind h
  unfold un5 at h
  split at h
  · exact i _ _ _ _ _ h
  · exact h.elim
/-! methods of owned lists -/
variable {apos cpos : Pos} {o : Expr}
theorem we_appM (n : Nat) (h : WE C E Γ Λ o fun x Λ1 => x = .loc n ∧ (∃ us : List U, Λ1[n]? = some (.lst (ems κ us))) ∧ WE C E Γ Λ1 e fun y Λ2 => ∃ us u, y = em κ u ∧ Λ2[n]? = some (.lst (ems κ us)) ∧ wp (appM us u) (fun z => P .non (Λ2.set n (.lst (ems κ z)))) Tr)
    (ho : plainO o = true := by rfl) (he : plainE e = true := by rfl) (hl : (apos.endLine == cpos.line) = true := by rfl) : WE C E Γ Λ (.Call (.Attribute o "append" apos) [e] [] cpos) P :=
  we_append (we_mono h fun x Λ1 ⟨hx, ⟨us0, h0⟩, h⟩ => ⟨n, _, hx, h0, we_mono h fun y Λ2 ⟨us, u, hy, h1, h⟩ => by
    subst hy
    obtain ⟨h2, h3⟩ := wp_sz h
    refine ⟨_, h1, by rw [ems_len]; exact sz_ltt h2, ?_⟩
    have h3 : P .non (Λ2.set n (.lst (ems κ (us ++ [u])))) := h3
    rw [ems_app] at h3; exact h3⟩) ho he hl
theorem we_popM (n : Nat) (h : WE C E Γ Λ o fun x Λ1 => x = .loc n ∧ ∃ us, Λ1[n]? = some (.lst (ems κ us)) ∧ wp (popM us) (fun z => P (em κ z.1) (Λ1.set n (.lst (ems κ z.2)))) Tr)
    (ho : plainO o = true := by rfl) (hl : (apos.endLine == cpos.line) = true := by rfl) : WE C E Γ Λ (.Call (.Attribute o "pop" apos) [] [] cpos) P :=
  we_pop (we_mono h fun x Λ1 ⟨hx, us, h1, h⟩ => by
    subst hx
    exact popP_m (P := P) (Q := fun z : U × List U => P (em κ z.1) (Λ1.set n (.lst (ems κ z.2)))) (Eh := Tr) (k := .ok) h1 (wp_ret h) fun z vs h => (show (fun z : U × List U => P (em κ z.1) (Λ1.set n (.lst (ems κ z.2)))) (z, vs) from h)) ho hl
theorem we_extM (n : Nat) (h : WE C E Γ Λ o fun x Λ1 => x = .loc n ∧ (∃ us : List U, Λ1[n]? = some (.lst (ems κ us))) ∧ WE C E Γ Λ1 e fun y Λ2 => ∃ us u, Vw κ Λ2 y u ∧ Λ2[n]? = some (.lst (ems κ us)) ∧ wp (extM us u) (fun z => P .non (Λ2.set n (.lst (ems κ z)))) Tr)
    (ho : plainO o = true := by rfl) (he : plainE e = true := by rfl) (hl : (apos.endLine == cpos.line) = true := by rfl) : WE C E Γ Λ (.Call (.Attribute o "extend" apos) [e] [] cpos) P :=
  we_extend (we_mono h fun x Λ1 ⟨hx, ⟨us0, h0⟩, h⟩ => ⟨n, _, hx, h0, we_mono h fun y Λ2 ⟨us, u, hy, h1, h⟩ =>
    extP_m (P := fun d Λ => P d Λ) u hy h1 (wp_ret h) fun z h => h⟩) ho he hl
theorem we_clrM (n : Nat) (h : WE C E Γ Λ o fun x Λ1 => x = .loc n ∧ (∃ us : List U, Λ1[n]? = some (.lst (ems κ us))) ∧ P .non (Λ1.set n (.lst (ems κ []))))
    (ho : plainO o = true := by rfl) (hl : (apos.endLine == cpos.line) = true := by rfl) : WE C E Γ Λ (.Call (.Attribute o "clear" apos) [] [] cpos) P :=
  we_clear (we_mono h fun x Λ1 ⟨hx, ⟨us, h1⟩, h⟩ => ⟨n, _, hx, h1, h⟩) ho hl
/-- owned: the end of an operation on a cell's list -/
theorem finC {β : Type} {f : List U → M β} {n : Nat} {k : β → M α} {P : β → Prop} (us : List U) (hn : Λ[n]? = some (.lst (ems κ us))) (h : wp ((f us).bind k) Q Eh) (i : ∀ z, wp (k z) Q Eh → P z) : ∃ us, Λ[n]? = some (.lst (ems κ us)) ∧ wp (f us) P Tr := ⟨us, hn, fin0 h i⟩
theorem finA {f : List U → U → M (List U)} {n : Nat} {k : List U → M α} {P : List U → Prop} (us : List U) (u : U) (hn : Λ[n]? = some (.lst (ems κ us))) (h : wp ((f us u).bind k) Q Eh) (i : ∀ z, wp (k z) Q Eh → P z) : ∃ us v, em κ u = em κ v ∧ Λ[n]? = some (.lst (ems κ us)) ∧ wp (f us v) P Tr := ⟨us, u, rfl, hn, fin0 h i⟩
theorem finV {f : List U → U → M (List U)} {n : Nat} {y : D} {k : List U → M α} {P : List U → Prop} (us : List U) (u : U) (hy : Vw κ Λ y u) (hn : Λ[n]? = some (.lst (ems κ us))) (h : wp ((f us u).bind k) Q Eh) (i : ∀ z, wp (k z) Q Eh → P z) : ∃ us v, Vw κ Λ y v ∧ Λ[n]? = some (.lst (ems κ us)) ∧ wp (f us v) P Tr := ⟨us, u, hy, hn, fin0 h i⟩
variable {R : Rs} {pos' : Pos} {i : Expr}
theorem ws_setM (n : Nat) (h : WE C R.er Γ Λ e fun d Λ1 => WE C R.er Γ Λ1 o fun x Λ2 => WE C R.er Γ Λ2 i fun y Λ3 => x = .loc n ∧ ∃ us u j, d = em κ u ∧ y = em κ j ∧ Λ3[n]? = some (.lst (ems κ us)) ∧ wp (setM us j u) (fun z => R.nx Γ (Λ3.set n (.lst (ems κ z)))) Tr)
    (hc : noComp e = true := by rfl) (ha : ∀ (env : PySem.Env) v, assign (.Subscript o i pos') env v = (do
      let ov ← holding [v] (eval o env)
      let iv ← holding [v, ov] (eval i env)
      standAt pos'
      holding [v, ov, iv] (setItem ov iv v)
      release [v, ov, iv] []) := by intro _ _; rfl) : WS C Γ Λ (.Assign [.Subscript o i pos'] e pos) R :=
  ws_setix (we_mono h fun d Λ1 h => we_mono h fun x Λ2 h => we_mono h fun y Λ3 ⟨hx, us, u, j, hd, hy, h1, q⟩ => by
    subst hx; subst hd; subst hy
    exact setP_m (P := fun Λ => R.nx Γ Λ) j u vE h1 (wp_ret q) fun z h => h) hc ha
theorem finS {n : Nat} {k : List U → M α} {P : List U → Prop} (us : List U) (u j : U) (hn : Λ[n]? = some (.lst (ems κ us))) (h : wp ((setM us j u).bind k) Q Eh) (i : ∀ z, wp (k z) Q Eh → P z) : ∃ vs v w, em κ u = em κ v ∧ em κ j = em κ w ∧ Λ[n]? = some (.lst (ems κ vs)) ∧ wp (setM vs w v) P Tr := ⟨us, u, j, rfl, rfl, hn, fin0 h i⟩
theorem rtV_v {Q : U → Prop} {u : U} (h : Q u) : rtV κ Q (.val (em κ u)) Λ := .inl ⟨u, rfl, h⟩
theorem rtV_d {Q : U → Prop} {n : Nat} {ks : List Key} {us : List U} (hn : Λ[n]? = some (.dic ks (ems κ us))) (h : Q (.dic ks us)) : rtV κ Q (.val (.loc n)) Λ := .inr ⟨n, ks, us, rfl, hn, h⟩
theorem rtL_v {Q : List U → Prop} {us : List U} (h : Q us) : rtL κ Q (.new (ems κ us)) Λ := .inl ⟨us, rfl, h⟩
theorem rtL_o {Q : List U → Prop} {n : Nat} {us : List U} (hn : Λ[n]? = some (.lst (ems κ us))) (h : Q us) : rtL κ Q (.val (.loc n)) Λ := .inr ⟨n, us, rfl, hn, h⟩
theorem rtV_imp {Q : U → Prop} {c : U} {r : Res} (hr : rtV κ (fun u => u = c) r Λ) (h : Q c) : rtV κ Q r Λ := by
  rcases hr with ⟨u, rfl, rfl⟩ | ⟨n, ks, us, rfl, h1, h2⟩
  · exact .inl ⟨_, rfl, h⟩
  · subst h2; exact .inr ⟨n, ks, us, rfl, h1, h⟩
theorem rtL_imp {Q : List U → Prop} {c : List U} {r : Res} (hr : rtL κ (fun u => u = c) r Λ) (h : Q c) : rtL κ Q r Λ := by
  rcases hr with ⟨u, rfl, rfl⟩ | ⟨n, us, rfl, h1, h2⟩
  · exact .inl ⟨_, rfl, h⟩
  · subst h2; exact .inr ⟨n, us, rfl, h1, h⟩
/-- a list that was owned is seen from now on; slot j told it -/
theorem freezeM {st : List Stmt} (n j : Nat) (us : List U) (hm0 : C.m ≤ n) (hn : Λ[n]? = some (.lst (ems κ us))) (hg : Γ[j]? = some (some (.loc n))) (h : WSs C (Γ.set j (some (em κ (.lst us)))) (Λ.set n .gone) st R) : WSs C Γ Λ st R :=
  wss_freeze n (ems κ us) hm0 hn _ (by simp) (fun i d hi => by
    by_cases e : j = i
    · subst e
      rw [List.getElem?_set_self (List.getElem?_eq_some_iff.mp hg).1] at hi
      cases hi
      exact .inr ⟨hg, rfl⟩
    · rw [List.getElem?_set_ne e] at hi
      exact .inl hi) h
theorem szd {n : Nat} (h : n < 10000000) : n ≤ sizeLine := Pl.sz_lt h
theorem len1 {us : List U} (h : us.length = 1) : ∃ a, us = [a] := by
  match us, h with
  | [a], _ => exact ⟨a, rfl⟩
theorem len2 {us : List U} (h : us.length = 2) : ∃ a b, us = [a, b] := by
  match us, h with
  | [a, b], _ => exact ⟨a, b, rfl⟩
theorem len3 {us : List U} (h : us.length = 3) : ∃ a b c, us = [a, b, c] := by
  match us, h with
  | [a, b, c], _ => exact ⟨a, b, c, rfl⟩
theorem len4 {us : List U} (h : us.length = 4) : ∃ a b c d, us = [a, b, c, d] := by
  match us, h with
  | [a, b, c, d], _ => exact ⟨a, b, c, d, rfl⟩
theorem len5 {us : List U} (h : us.length = 5) : ∃ a b c d e, us = [a, b, c, d, e] := by
  match us, h with
  | [a, b, c, d, e], _ => exact ⟨a, b, c, d, e, rfl⟩
theorem len6 {us : List U} (h : us.length = 6) : ∃ a b c d e f, us = [a, b, c, d, e, f] := by
  match us, h with
  | [a, b, c, d, e, f], _ => exact ⟨a, b, c, d, e, f, rfl⟩
end
end Sh

/-! Sh5: sayings as pure data; sorted. -/
namespace Sh
open PySem L2 Pl Law
/-- a saying's datum -/
def su : Sy → U
  | .no => .tup [.str "no"]
  | .lt l => .tup [.str "letter", .str l.s]
  | .not a => .tup [.str "not", su a]
  | .shown a => .tup [.str "shown", su a]
  | .bin o a b => .tup [.str o.s, su a, su b]
theorem em_su {κ : Kl} : ∀ s : Sy, em κ (su s) = s.pv
  | .no => rfl
  | .lt l => rfl
  | .not a => by rw [su, em, ems, ems, ems, em_su a]; rfl
  | .shown a => by rw [su, em, ems, ems, ems, em_su a]; rfl
  | .bin o a b => by rw [su, em, ems, ems, ems, ems, em_su a, em_su b]; rfl
theorem ems_su {κ : Kl} (ss : List Sy) : ems κ (ss.map su) = ss.map Sy.pv := by
  rw [ems_map, List.map_map]; exact List.map_congr_left fun s _ => em_su s
theorem pyU_su (s : Sy) : pyU (su s) = py s.pv := by rw [← em_su (κ := ⟨fun _ => 0, fun _ => []⟩) s, py_em]
theorem su_inj {s t : Sy} (h : su s = su t) : s = t := pv_inj (by rw [← pyU_su, ← pyU_su, h])
theorem map_inj {α β : Type} {f : α → β} (hf : ∀ a b, f a = f b → a = b) : ∀ {xs ys : List α}, xs.map f = ys.map f → xs = ys
  | [], [], _ => rfl
  | [], _ :: _, h => by simp at h
  | _ :: _, [], h => by simp at h
  | x :: xs, y :: ys, h => by
    rw [List.map_cons, List.map_cons, List.cons.injEq] at h
    rw [hf _ _ h.1, map_inj hf h.2]
end Sh
namespace Law
open PySem L2 Pl
/-- letters, in their order -/
def leL (a b : Lt) : Bool := decide (a.ix ≤ b.ix)
def sortL (ls : List Lt) : List Lt := ls.mergeSort leL
theorem leL_trans (a b c : Lt) (h : leL a b = true) (g : leL b c = true) : leL a c = true := by
  unfold leL at *; rw [decide_eq_true_eq] at *; omega
theorem leL_total (a b : Lt) : (leL a b || leL b a) = true := by
  unfold leL; rw [Bool.or_eq_true, decide_eq_true_eq, decide_eq_true_eq]; omega
theorem sortL_perm (ls : List Lt) : (sortL ls).Perm ls := List.mergeSort_perm ls leL
theorem sortL_pw (ls : List Lt) : (sortL ls).Pairwise fun a b => leL a b = true := List.pairwise_mergeSort leL_trans leL_total ls
theorem lix_inj {a b : Lt} (h : a.ix = b.ix) : a = b := by cases a <;> cases b <;> first | rfl | cases h
theorem leL_anti {a b : Lt} (h : leL a b = true) (g : leL b a = true) : a = b := by
  unfold leL at h g; rw [decide_eq_true_eq] at h g; exact lix_inj (by omega)
theorem sortL_uniq {l ls : List Lt} (hp : l.Perm ls) (hs : l.Pairwise fun a b => leL a b = true) : l = sortL ls :=
  List.Perm.eq_of_pairwise (le := fun a b => leL a b = true) (fun a b _ _ h g => leL_anti h g) hs (sortL_pw ls) (hp.trans (sortL_perm ls).symm)
theorem lt_leL : ∀ a b : Lt, PySem.Spec.ltCps b.s.cps.toList a.s.cps.toList = !leL a b := by intro a b; cases a <;> cases b <;> decide +kernel
theorem rising_L : ∀ (ms : List Lt) (a : Lt), PyProof.Rows.risingS a.s (ms.map Lt.s) = true → (a :: ms).Pairwise fun a b => leL a b = true
  | [], a, _ => List.pairwise_singleton ..
  | b :: ms, a, h => by
    rw [List.map_cons, PyProof.Rows.risingS, Bool.and_eq_true, lt_leL, Bool.not_not] at h
    have ih := rising_L ms b h.2
    refine List.pairwise_cons.mpr ⟨fun c hc => ?_, ih⟩
    rcases List.mem_cons.mp hc with rfl | hc
    · exact h.1
    · exact leL_trans _ _ _ h.1 ((List.pairwise_cons.mp ih).1 c hc)
theorem sortedS_L {ms : List Lt} (h : PyProof.Rows.sortedS (ms.map Lt.s) = true) : ms.Pairwise fun a b => leL a b = true := by
  cases ms with
  | nil => exact List.Pairwise.nil
  | cons a ms => exact rising_L ms a h
def unL (s : Str) : Lt := if s = "p" then .p else if s = "q" then .q else .r
theorem unL_s (a : Lt) : unL a.s = a := by cases a <;> decide +kernel
theorem perm_L {ys : List Str} {ls : List Lt} (h : ys.Perm (ls.map Lt.s)) (s : PyProof.Rows.sortedS ys = true) : ys = (sortL ls).map Lt.s := by
  have e : ys = (ys.map unL).map Lt.s := by
    rw [List.map_map]
    have e : ys.map (Lt.s ∘ unL) = ys.map id := List.map_congr_left fun y hy => by
      obtain ⟨a, _, rfl⟩ := List.mem_map.mp (h.mem_iff.mp hy)
      simp [unL_s]
    rw [e, List.map_id]
  rw [e] at s ⊢
  rw [sortL_uniq (l := ys.map unL) ?_ (sortedS_L s)]
  have := h.map unL
  rw [List.map_map] at this
  rw [show ls.map (unL ∘ Lt.s) = ls by rw [show (unL ∘ Lt.s) = id from funext unL_s]; simp] at this
  exact this
end Law
namespace Sh
open PySem L2 Pl Law
def ltU (l : Lt) : U := .str l.s
open Classical in
/-- sorted(xs) of sayings, of letters -/
noncomputable def sortedM (x : U) : M (List U) :=
  if h : ∃ ss : List Sy, itemsL x = some (ss.map su) ∧ ∀ s ∈ ss, s.ht ≤ 180 then .ok ((sortS h.choose).map su)
  else if h : ∃ ls : List Lt, itemsL x = some (ls.map ltU) ∧ ls.length < 64 then .ok ((sortL h.choose).map ltU) else .stuck
theorem sortedM_su {x : U} {ss : List Sy} (e : itemsL x = some (ss.map su)) (h : ∀ s ∈ ss, s.ht ≤ 180) : sortedM x = .ok ((sortS ss).map su) := by
  have hx : ∃ ss : List Sy, itemsL x = some (ss.map su) ∧ ∀ s ∈ ss, s.ht ≤ 180 := ⟨ss, e, h⟩
  unfold sortedM
  rw [dif_pos hx]
  have g := e.symm.trans hx.choose_spec.1
  rw [← map_inj (fun _ _ => su_inj) (Option.some.inj g)]
theorem ltU_inj {a b : Lt} (h : ltU a = ltU b) : a = b := by
  unfold ltU at h; injection h with h; exact Sy.lt_s_inj.mp h
theorem sortedM_lt {x : U} {ls : List Lt} (e : itemsL x = some (ls.map ltU)) (h : ls.length < 64) : sortedM x = .ok ((sortL ls).map ltU) := by
  cases ls with
  | nil => rw [sortedM_su (ss := []) e (by simp)]; simp [sortS, sortL]
  | cons a as =>
    have hx : ∃ ls : List Lt, itemsL x = some (ls.map ltU) ∧ ls.length < 64 := ⟨_, e, h⟩
    unfold sortedM
    rw [dif_neg, dif_pos hx]
    · have g := e.symm.trans hx.choose_spec.1
      rw [← map_inj (fun _ _ => ltU_inj) (Option.some.inj g)]
    · rintro ⟨ss, h1, _⟩
      rw [e] at h1
      cases ss with
      | nil => simp at h1
      | cons s ss => simp only [List.map_cons, Option.some.injEq, List.cons.injEq] at h1; exact absurd h1.1 (by cases s <;> simp [ltU, su])
section
variable {κ : Kl} {C : Pl.Ctx} {E : ER} {Γ : Pl.Env} {Λ : Cells} {Pn : List D → Cells → Prop} {pos p : Pos} {e : Expr}
def rSortA (K : PySem.W.Frag) : List V → Hp → VK → Prop := fun vs H Q => rSortT K vs H Q ∨ rSortedS K vs H Q
theorem cr_sortA {X : Cx} (hu : X.A.units + 200 < cLine) : CallR X (.builtin "sorted") (rSortA X.K) := by
  intro pins z σ H vs us Q I r h
  rcases h with h | h
  · exact cr_sortT hu pins z σ H vs us Q I r h
  · exact cr_sortedS pins z σ H vs us Q I r h
theorem ems_ltU (ls : List Lt) : ems κ (ls.map ltU) = ls.map fun l => D.str l.s := by rw [ems_map, List.map_map]; rfl
theorem wn_sortedM (hj : GlAt C "sorted") (hm : C.mg "sorted" = none) (h : Op1n κ C E Γ Λ e sortedM Pn) (he : plainE e = true := by rfl) : WN C E Γ Λ (.Call (.Name "sorted" p) [e] [] pos) Pn :=
  wn_callB (r := rSortA C.K) (fun X is => crK rSortA is (cr_sortA is.u200)) hj hm boot_sorted' (wa_cons (we_mono h fun x Λ1 ⟨u, hx, h⟩ => wa_nil (by
    intro F B α σ H vs Q S rs q
    obtain ⟨v, rfl, rv⟩ := reps1 rs
    unfold sortedM at h
    split at h
    · rename_i hs
      obtain ⟨h1, h2⟩ := hs.choose_spec
      generalize hs.choose = ss at h h1 h2
      have h3 : Pn (ems κ ((sortS ss).map su)) Λ1 := h
      have h1 : lstD Λ1 x = some (ss.map Sy.pv) := by rw [items_of hx h1, ems_su]
      rw [ems_su] at h3
      obtain ⟨a, ws, rfl, g1, g2⟩ := S.seqL rv h1
      obtain ⟨z1, z2⟩ := reps_zip g2
      refine .inl ⟨a, ws, ss, rfl, g1, z1, fun y hy => ?_, fun ys t l1 l2 ht => ?_⟩
      · have ry := z2 y hy
        refine ⟨Rep.dp S.bh _ _ (Sy.pv_plain _) ry, ?_, h2 _ (List.of_mem_zip hy).2⟩
        obtain ⟨ds, e⟩ := Sy.pv_tup y.2
        rw [e] at ry
        unfold Rep at ry
        obtain ⟨b, _, hb, _⟩ := ry
        exact ⟨b, hb⟩
      · exact q _ Λ1 t ys B α _ h3 (S.grow (Ex.new ht)) (Ex.refl B) (List.prefix_refl _) upd_same (S.bh.back ht) (S.dm t ht) (fun ha => (S.ah t ha).1 ht) (zip_reps l1 fun y hy => z2 y (l2 y hy))
    · split at h
      · rename_i hs
        obtain ⟨h1, h2⟩ := hs.choose_spec
        generalize hs.choose = ls at h h1 h2
        have h3 : Pn (ems κ ((sortL ls).map ltU)) Λ1 := h
        have h1 : lstD Λ1 x = some (ls.map fun l => D.str l.s) := by rw [items_of hx h1, ems_ltU]
        rw [ems_ltU] at h3
        obtain ⟨a, ws, rfl, g1, g2⟩ := S.seqL rv h1
        have hw : ws = (ls.map Lt.s).map V.str := by
          have key : ∀ (ls : List Lt) (ws : List V), Reps C.K B α (ls.map fun l => D.str l.s) ws → ws = (ls.map Lt.s).map V.str := by
            intro ls
            induction ls with
            | nil => intro ws h; unfold Reps at h; subst h; rfl
            | cons l ls ih =>
              intro ws h
              rw [List.map_cons] at h
              unfold Reps at h
              obtain ⟨v, r, rfl, a1, a2⟩ := h
              unfold Rep at a1
              rw [a1, ih r a2]; rfl
          exact key ls ws g2
        subst hw
        refine .inr ⟨a, ls.map Lt.s, rfl, g1, by rw [List.length_map]; exact h2, fun ys t l1 l2 ht => ?_⟩
        have e := perm_L l1 l2
        subst e
        have hr : Reps C.K B α ((sortL ls).map fun l => D.str l.s) (((sortL ls).map Lt.s).map V.str) := by
          generalize sortL ls = ms
          induction ms with
          | nil => exact .nil
          | cons m ms ih => exact .cons (by unfold Rep; rfl) ih
        exact q _ Λ1 t _ B α _ h3 (S.grow (Ex.new ht)) (Ex.refl B) (List.prefix_refl _) upd_same (S.bh.back ht) (S.dm t ht) (fun ha => (S.ah t ha).1 ht) hr
      · exact h.elim)) he) (he := he)
end
end Sh

/-! Sh6: more that is walked: enumerate, zip, reversed, ranges down. -/
namespace Sh
open PySem L2 Pl PyProof.Rows
section
variable {K : PySem.W.Frag} {B : Hp}
def enumD (ds : List D) : List D := ds.mapIdx fun i d => .tup [.int (i : Nat), d]
def zipD (ds es : List D) : List D := List.zipWith (fun a b => .tup [a, b]) ds es
theorem Reps.at {α : List Addr} {ds : List D} {vs : List V} {i : Nat} {d : D} {x : V} (r : Reps K B α ds vs) (h : ds[i]? = some d) (hx : vs[i]? = some x) : Rep K B α d x := by
  obtain ⟨v, h1, h2⟩ := r.get h
  rw [hx] at h1; cases h1; exact h2
theorem ite_ok {a : Addr} {vs : List V} {ds : List D} (h : SqL K B a vs) (r : Reps K B [] ds vs) : ItsOk K B (Ite K a) (enumD ds) where
  go := fun i H hi e => by
    have hi : i < ds.length := by simpa [enumD] using hi
    have hv : i < vs.length := by rw [r.length]; exact hi
    exact ⟨vs, vs[i], e.sqL h, List.getElem?_eq_getElem hv⟩
  stop := fun H e => ⟨vs, e.sqL h, by rw [r.length]; simp [enumD]⟩
  yld := fun i H x H' d hd e y => by
    obtain ⟨T, v, rfl, hT, rfl, hv⟩ := y
    have hv := hv vs (e.sqL h)
    unfold enumD at hd
    rw [List.getElem?_mapIdx, Option.map_eq_some_iff] at hd
    obtain ⟨d', hd', rfl⟩ := hd
    exact .inr ⟨T, _, _, rfl, hT, rfl, rfl, .cons (by unfold Rep; rfl) (.one (Reps.at r hd' hv))⟩
theorem itz_ok {a b : Addr} {vs ws : List V} {ds es : List D} (h : SqL K B a vs) (h2 : SqL K B b ws) (r : Reps K B [] ds vs) (r2 : Reps K B [] es ws) : ItsOk K B (Itz K a b) (zipD ds es) where
  go := fun i H hi e => by
    have hi : i < min ds.length es.length := by simpa [zipD] using hi
    have hv : i < vs.length := by rw [r.length]; omega
    have hw : i < ws.length := by rw [r2.length]; omega
    exact ⟨vs, ws, vs[i], ws[i], e.sqL h, e.sqL h2, List.getElem?_eq_getElem hv, List.getElem?_eq_getElem hw⟩
  stop := fun H e => ⟨vs, ws, e.sqL h, e.sqL h2, by rw [r.length, r2.length]; simp [zipD]; omega⟩
  yld := fun i H x H' d hd e y => by
    obtain ⟨T, v, w, rfl, hT, rfl, hv, hw⟩ := y
    have hv := hv vs (e.sqL h)
    have hw := hw ws (e.sqL h2)
    unfold zipD at hd
    rw [List.getElem?_zipWith] at hd
    split at hd
    · rename_i p q h3 h4
      cases hd
      exact .inr ⟨T, _, _, rfl, hT, rfl, rfl, .cons (Reps.at r h3 hv) (.one (Reps.at r2 h4 hw))⟩
    · cases hd
theorem itv_ok {a : Addr} {vs : List V} {ds : List D} (h : SqL K B a vs) (r : Reps K B [] ds vs) : ItsOk K B (Itv K a vs.length) ds.reverse where
  go := fun i H hi e => by
    have hi : i < ds.length := by simpa using hi
    have hv : i < vs.length := by rw [r.length]; exact hi
    exact ⟨hv, vs, vs[vs.length - 1 - i], e.sqL h, List.getElem?_eq_getElem (by omega)⟩
  stop := fun H e => by show vs.length ≤ _; rw [r.length]; simp
  yld := fun i H x H' d hd e y => by
    obtain ⟨rfl, hv⟩ := y
    have hv := hv vs (e.sqL h)
    have hi : i < ds.length := by simpa using (List.getElem?_eq_some_iff.mp hd).1
    rw [List.getElem?_reverse hi, ← r.length] at hd
    exact .inl ⟨rfl, Reps.at r hd hv⟩
def downD (lo c : Int) (n : Nat) : List D := (List.range n).map fun i => .int (lo + (i : Nat) * c)
theorem itc_ok {lo c : Int} {n : Nat} : ItsOk K B (Itc lo c n) (downD lo c n) where
  go := fun i H hi e => by show i < n; simpa [downD] using hi
  stop := fun H e => by show n ≤ _; simp [downD]
  yld := fun i H x H' d hd e y => by
    obtain ⟨rfl, rfl⟩ := y
    unfold downD at hd
    rw [List.getElem?_map, Option.map_eq_some_iff] at hd
    obtain ⟨j, hj, rfl⟩ := hd
    obtain ⟨h1, h2⟩ := List.getElem?_eq_some_iff.mp hj
    rw [List.getElem_range] at h2
    subst h2
    exact .inl ⟨rfl, by unfold Rep; rfl⟩
end
/-! the pure side -/
def enumU (us : List U) : List U := us.mapIdx fun i u => .tup [.int (i : Nat), u]
def zipU (us vs : List U) : List U := List.zipWith (fun a b => .tup [a, b]) us vs
def downU (lo : Int) (n : Nat) : List U := (List.range n).map fun i => .int (lo - (i : Nat))
def enumM (x : U) : M (List U) := match itemsL x with
  | some us => .ok (enumU us)
  | none => .stuck
def zipM (x y : U) : M (List U) := match itemsL x, itemsL y with
  | some us, some vs => .ok (zipU us vs)
  | _, _ => .stuck
def revM (x : U) : M (List U) := match itemsL x with
  | some us => .ok us.reverse
  | none => .stuck
def bd (i : Int) : Bool := decide (-(2 ^ 62) ≤ i) && decide (i < 2 ^ 62)
/-- reversed(range(..)) -/
def rrng1M : U → M (List U)
  | .int n => if bd n then .ok (downU (n - 1) n.toNat) else .stuck
  | _ => .stuck
def rrng2M : U → U → M (List U)
  | .int l, .int n => if bd l && bd n then .ok (downU (n - 1) (n - l).toNat) else .stuck
  | _, _ => .stuck
/-- range(a, b, -1) -/
def rngdM : U → U → M (List U)
  | .int a, .int b => if bd a && bd b then .ok (downU a (a - b).toNat) else .stuck
  | _, _ => .stuck
section
variable {κ : Kl} {C : Pl.Ctx} {E : ER} {Γ : Pl.Env} {Λ : Cells} {Pn : List D → Cells → Prop} {pos p tpos : Pos} {e e2 tg : Expr} {elts : List Expr} {kk : Nat}
theorem enum_ems (us : List U) : ems κ (enumU us) = enumD (ems κ us) := by
  unfold enumU enumD; rw [ems_map, ems_map]
  apply List.ext_getElem?
  intro i
  simp only [List.getElem?_map, List.getElem?_mapIdx, Option.map_map]
  rfl
theorem zip_ems : ∀ (us vs : List U), ems κ (zipU us vs) = zipD (ems κ us) (ems κ vs)
  | [], _ => by simp [zipU, zipD, ems]
  | _ :: _, [] => by simp [zipU, zipD, ems]
  | u :: us, v :: vs => by
    have := zip_ems us vs
    unfold zipU zipD at this ⊢
    rw [List.zipWith_cons_cons, ems, this]; rfl
theorem down_ems (lo : Int) (n : Nat) : ems κ (downU lo n) = downD lo (-1) n := by
  unfold downU downD; rw [ems_map, List.map_map]
  refine List.map_congr_left fun i _ => ?_
  show D.int _ = D.int _
  congr 1; omega
theorem wi_enum (hj : GlAt C "enumerate") (hm : C.mg "enumerate" = none) (h : WE C E Γ Λ e fun x Λ1 => ∃ u, x = em κ u ∧ wp (enumM u) (fun z => Pn (ems κ z) Λ1) Tr) (he : plainE e = true := by rfl) : WI C E Γ Λ (.Tuple elts kk tpos) (.Call (.Name "enumerate" p) [e] [] pos) Pn := fun X F W is tk => by
  refine pi_imp (pi_enum (is.gl hj) (by rw [is.mg]; exact hm) (pa_cons pe_U pa_nil (star_plain he)) (by rw [star_plain he]; rfl)) fun σ H R ⟨B, α, S, q, er⟩ => ?_
  refine WE.use h is tk S er fun d Λ' v B' α' H' p S' e f r => ?_
  obtain ⟨u, rfl, h⟩ := p
  unfold enumM at h
  split at h
  · rename_i us hu
    have h : Pn (ems κ (enumU us)) Λ' := h
    obtain ⟨a, vs, rfl, h1, h2⟩ : ∃ a vs, v = .ref a ∧ SqL C.K B' a vs ∧ Reps C.K B' α' (ems κ us) vs := by
      cases u <;> simp only [itemsL, Option.some.injEq, reduceCtorEq] at hu <;> subst hu <;> rw [em] at r <;> unfold Rep at r
      · obtain ⟨a, vs, h1, h2, h3⟩ := r; exact ⟨a, vs, h1, SqL.of h2, h3⟩
      · exact r
    refine ⟨a, vs, rfl, by rw [is.K]; exact S'.bh.sqL h1, ?_⟩
    rw [is.K]
    exact q _ Λ' _ B' α' H' h S' e f (by rw [enum_ems]; exact ite_ok h1 (Reps.nl _ vs (nls_em us) h2))
  · exact h.elim
theorem seqV {B' : Hp} {α' : List Addr} {u : U} {us : List U} {v : V} {K : PySem.W.Frag} (hu : itemsL u = some us) (r : Rep K B' α' (em κ u) v) : ∃ a vs, v = .ref a ∧ SqL K B' a vs ∧ Reps K B' α' (ems κ us) vs := by
  cases u <;> simp only [itemsL, Option.some.injEq, reduceCtorEq] at hu <;> subst hu <;> rw [em] at r <;> unfold Rep at r
  · obtain ⟨a, vs, h1, h2, h3⟩ := r; exact ⟨a, vs, h1, SqL.of h2, h3⟩
  · exact r
theorem wi_zip (hj : GlAt C "zip") (hm : C.mg "zip" = none) (h : WE C E Γ Λ e fun x Λ1 => WE C E Γ Λ1 e2 fun y Λ2 => ∃ u w, x = em κ u ∧ y = em κ w ∧ wp (zipM u w) (fun z => Pn (ems κ z) Λ2) Tr) (he : plainE e = true := by rfl) (he2 : plainE e2 = true := by rfl) : WI C E Γ Λ (.Tuple elts kk tpos) (.Call (.Name "zip" p) [e, e2] [] pos) Pn := fun X F W is tk => by
  refine pi_imp (RZ.pi_zipA (is.gl hj) (by rw [is.mg]; exact hm) (pa_cons pe_U (pa_cons pe_U pa_nil (star_plain he2)) (star_plain he)) (by rw [star_plain he]) (by rw [star_plain he2]; rfl)) fun σ H R ⟨B, α, S, q, er⟩ => ?_
  refine WE.use h is tk S er fun x Λ1 v B1 α1 H1 p1 S1 e1 f1 r1 => ?_
  refine WE.use p1 is tk S1 (er.mono e1) fun y Λ2 w B2 α2 H2 p2 S2 e2' f2 r2 => ?_
  obtain ⟨u, w', rfl, rfl, h⟩ := p2
  unfold zipM at h
  split at h
  · rename_i us vs hu hv
    have h : Pn (ems κ (zipU us vs)) Λ2 := h
    obtain ⟨a, xs, rfl, h1, h2⟩ := seqV hu (r1.mono e2' f2)
    obtain ⟨b, ys, rfl, g1, g2⟩ := seqV hv r2
    refine ⟨a, b, xs, ys, rfl, .inl ⟨by rw [is.K]; exact S2.bh.sqL h1, by rw [is.K]; exact S2.bh.sqL g1, ?_⟩⟩
    rw [is.K]
    exact q _ Λ2 _ B2 α2 H2 h S2 (e1.trans e2') (f1.trans f2) (by rw [zip_ems]; exact itz_ok h1 g1 (Reps.nl _ xs (nls_em us) h2) (Reps.nl _ ys (nls_em vs) g2))
  · exact h.elim
theorem wi_rev (hj : GlAt C "reversed") (hm : C.mg "reversed" = none) (h : WE C E Γ Λ e fun x Λ1 => ∃ u, x = em κ u ∧ wp (revM u) (fun z => Pn (ems κ z) Λ1) Tr) (he : plainE e = true := by rfl) : WI C E Γ Λ tg (.Call (.Name "reversed" p) [e] [] pos) Pn := fun X F W is tk => by
  refine pi_imp (RT.pi_revA (is.gl hj) (by rw [is.mg]; exact hm) pe_U (star_plain he)) fun σ H R ⟨B, α, S, q, er⟩ => ?_
  refine WE.use h is tk S er fun d Λ' v B' α' H' p S' e f r => ?_
  obtain ⟨u, rfl, h⟩ := p
  unfold revM at h
  split at h
  · rename_i us hu
    have h : Pn (ems κ us.reverse) Λ' := h
    obtain ⟨a, vs, rfl, h1, h2⟩ := seqV hu r
    refine ⟨a, vs, rfl, .inl ⟨by rw [is.K]; exact S'.bh.sqL h1, ?_⟩⟩
    rw [is.K]
    have e1 : ems κ us.reverse = (ems κ us).reverse := by rw [ems_map, ems_map, List.map_reverse]
    exact q _ Λ' _ B' α' H' h S' e f (by rw [e1]; exact itv_ok h1 (Reps.nl _ vs (nls_em us) h2))
  · exact h.elim
theorem bd_iff {i : Int} (h : bd i = true) : -(2 ^ 62) ≤ i ∧ i < 2 ^ 62 := by
  unfold bd at h
  rw [Bool.and_eq_true, decide_eq_true_eq, decide_eq_true_eq] at h; exact h
theorem wi_rrng1 {p2 pos2 : Pos} (hj : GlAt C "reversed") (hm : C.mg "reversed" = none) (hj2 : GlAt C "range") (hm2 : C.mg "range" = none) (h : WE C E Γ Λ e fun x Λ1 => ∃ u, x = em κ u ∧ wp (rrng1M u) (fun z => Pn (ems κ z) Λ1) Tr) (he : plainE e = true := by rfl) : WI C E Γ Λ tg (.Call (.Name "reversed" p) [.Call (.Name "range" p2) [e] [] pos2] [] pos) Pn := fun X F W is tk => by
  refine pi_imp (pi_revR (is.gl hj) (by rw [is.mg]; exact hm) (prg_1 (is.gl hj2) (by rw [is.mg]; exact hm2) pe_U (star_plain he)) (star_plain rfl)) fun σ H R ⟨B, α, S, q, er⟩ => ?_
  refine WE.use h is tk S er fun d Λ' v B' α' H' p S' e f r => ?_
  obtain ⟨u, rfl, h⟩ := p
  unfold rrng1M at h
  split at h
  · rename_i n
    split at h
    · rename_i hb
      obtain ⟨b1, b2⟩ := bd_iff hb
      rw [em] at r; unfold Rep at r; subst r
      have h : Pn (ems κ (downU (n - 1) n.toNat)) Λ' := h
      refine ⟨n, rfl, by decide, by decide, b1, b2, ?_⟩
      have e1 : (n - 0).toNat = n.toNat := by rw [Int.sub_zero]
      have e2 : downD (0 + (((n - 0).toNat : Nat) : Int) - 1) (-1) (n - 0).toNat = downD (n - 1) (-1) n.toNat := by
        rw [e1]
        by_cases hn : 0 ≤ n
        · congr 1; omega
        · have : n.toNat = 0 := by omega
          rw [this]; rfl
      have := q (downD (0 + (((n - 0).toNat : Nat) : Int) - 1) (-1) (n - 0).toNat) Λ' (Itc (0 + (((n - 0).toNat : Nat) : Int) - 1) (-1) (n - 0).toNat) B' α' H' (by rw [e2, ← down_ems]; exact h) S' e f itc_ok
      exact this
    · exact h.elim
  · exact h.elim
theorem wi_rrng2 {p2 pos2 : Pos} (hj : GlAt C "reversed") (hm : C.mg "reversed" = none) (hj2 : GlAt C "range") (hm2 : C.mg "range" = none) (h : WE C E Γ Λ e fun x Λ1 => WE C E Γ Λ1 e2 fun y Λ2 => ∃ u w, x = em κ u ∧ y = em κ w ∧ wp (rrng2M u w) (fun z => Pn (ems κ z) Λ2) Tr) (he : plainE e = true := by rfl) (he2 : plainE e2 = true := by rfl) : WI C E Γ Λ tg (.Call (.Name "reversed" p) [.Call (.Name "range" p2) [e, e2] [] pos2] [] pos) Pn := fun X F W is tk => by
  refine pi_imp (pi_revR (is.gl hj) (by rw [is.mg]; exact hm) (prg_2 (is.gl hj2) (by rw [is.mg]; exact hm2) pe_U pe_U (star_plain he) (star_plain he2) (by rw [star_plain he2]; rfl)) (star_plain rfl)) fun σ H R ⟨B, α, S, q, er⟩ => ?_
  refine WE.use h is tk S er fun x Λ1 v B1 α1 H1 p1 S1 e1 f1 r1 => ?_
  refine WE.use p1 is tk S1 (er.mono e1) fun y Λ2 w B2 α2 H2 p2 S2 e2' f2 r2 => ?_
  obtain ⟨u, w', rfl, rfl, h⟩ := p2
  unfold rrng2M at h
  split at h
  · rename_i l n
    split at h
    · rename_i hb
      rw [Bool.and_eq_true] at hb
      obtain ⟨b1, b2⟩ := bd_iff hb.1
      obtain ⟨b3, b4⟩ := bd_iff hb.2
      rw [em] at r1 r2; unfold Rep at r1 r2; subst r1; subst r2
      have h : Pn (ems κ (downU (n - 1) (n - l).toNat)) Λ2 := h
      refine ⟨l, n, rfl, rfl, b1, b2, b3, b4, ?_⟩
      have e2 : downD (l + (((n - l).toNat : Nat) : Int) - 1) (-1) (n - l).toNat = downD (n - 1) (-1) (n - l).toNat := by
        by_cases hn : 0 ≤ n - l
        · congr 1; omega
        · have : (n - l).toNat = 0 := by omega
          rw [this]; rfl
      exact q (downD (l + (((n - l).toNat : Nat) : Int) - 1) (-1) (n - l).toNat) Λ2 _ B2 α2 H2 (by rw [e2, ← down_ems]; exact h) S2 (e1.trans e2') (f1.trans f2) itc_ok
    · exact h.elim
  · exact h.elim
theorem wi_rngd {p3 p4 : Pos} {j : Nat} (hj : GlAt C "range") (hm : C.mg "range" = none) (h : WE C E Γ Λ e fun x Λ1 => WE C E Γ Λ1 e2 fun y Λ2 => ∃ u w, x = em κ u ∧ y = em κ w ∧ wp (rngdM u w) (fun z => Pn (ems κ z) Λ2) Tr) (he : plainE e = true := by rfl) (he2 : plainE e2 = true := by rfl) : WI C E Γ Λ tg (.Call (.Name "range" p) [e, e2, .UnaryOp .USub (.Constant (.int 1) j p3) p4] [] pos) Pn := fun X F W is tk => by
  refine pi_imp (pi_range3 (is.gl hj) (by rw [is.mg]; exact hm) (pa_cons pe_U (pa_cons pe_U (pa_cons (pe_un un_neg pe_int) pa_nil (star_plain rfl)) (star_plain he2)) (star_plain he)) (by rw [star_plain he]) (by rw [star_plain he2]; rfl)) fun σ H R ⟨B, α, S, q, er⟩ => ?_
  refine WE.use h is tk S er fun x Λ1 v B1 α1 H1 p1 S1 e1 f1 r1 => ?_
  refine WE.use p1 is tk S1 (er.mono e1) fun y Λ2 w B2 α2 H2 p2 S2 e2' f2 r2 => ?_
  obtain ⟨u, w', rfl, rfl, h⟩ := p2
  unfold rngdM at h
  split at h
  · rename_i l n
    split at h
    · rename_i hb
      rw [Bool.and_eq_true] at hb
      obtain ⟨b1, b2⟩ := bd_iff hb.1
      obtain ⟨b3, b4⟩ := bd_iff hb.2
      rw [em] at r1 r2; unfold Rep at r1 r2; subst r1; subst r2
      have h : Pn (ems κ (downU l (l - n).toNat)) Λ2 := h
      refine ⟨1, rfl, ?_⟩
      refine ⟨l, n, -1, (l - n).toNat, rfl, RgC.neg b1 b2 b3 b4, ?_⟩
      exact q (downD l (-1) (l - n).toNat) Λ2 _ B2 α2 H2 (by rw [← down_ems]; exact h) S2 (e1.trans e2') (f1.trans f2) itc_ok
    · exact h.elim
  · exact h.elim
/-- the end of a rule of two operands that are seen -/
theorem finI2 {α : Type} {Q : α → Prop} {Eh : Str → List U → Prop} {f : U → U → M (List U)} {k : List U → M α} {P : List U → Prop} (u v : U) (h : wp ((f u v).bind k) Q Eh) (i : ∀ z, wp (k z) Q Eh → P z) : ∃ a b, em κ u = em κ a ∧ em κ v = em κ b ∧ wp (f a b) P Tr := ⟨u, v, rfl, rfl, fin0 h i⟩
end
end Sh

/-! Sh7: cells handed, cells handed back; tuples of owned lists. -/
namespace Sh
open PySem L2 Pl PyProof.Rows
section
variable {κ : Kl} {Λ : Cells}
theorem ren_em {f : Nat → Nat} (u : U) : ren f (em κ u) = em κ u := ren_nl _ (nl_em u)
theorem rens_ems {f : Nat → Nat} (us : List U) : rens f (ems κ us) = ems κ us := rens_nl _ (nls_em us)
theorem ltD_em {m : Nat} (u : U) : ltD m (em κ u) = true := ltD_nl _ (nl_em u)
theorem ltDs_ems {m : Nat} (us : List U) : ltDs m (ems κ us) = true := ltDs_nl _ (nls_em us)
/-- looked through all cells, d is u -/
def Vx (κ : Kl) (Λ : Cells) (d : D) (u : U) : Prop := dv Λ d = em κ u
mutual
theorem dv_nl : ∀ d : D, nl d = true → dv Λ d = d
  | .non, _ => rfl
  | .bl _, _ => rfl
  | .int _, _ => rfl
  | .str _, _ => rfl
  | .loc _, h => by cases h
  | .raw _, h => rfl
  | .ins _ _ _, _ => rfl
  | .dic _ _, _ => rfl
  | .exc _ _ _, _ => rfl
  | .tup ds, h => by rw [dv, dvs_nl' ds h]
  | .lst ds, h => by rw [dv, dvs_nl' ds h]
  | .fzl ds, h => by rw [dv, dvs_nl' ds h]
theorem dvs_nl' : ∀ ds : List D, nls ds = true → dvs Λ ds = ds
  | [], _ => rfl
  | d :: ds, h => by
    have h : (nl d && nls ds) = true := h
    rw [Bool.and_eq_true] at h
    rw [dvs, dv_nl d h.1, dvs_nl' ds h.2]
end
theorem Vx.pure {u : U} : Vx κ Λ (em κ u) u := dv_nl _ (nl_em u)
theorem Vx.cell {n : Nat} {us : List U} (h : Λ[n]? = some (.lst (ems κ us))) : Vx κ Λ (.loc n) (.lst us) := by
  unfold Vx dv; rw [h]; rfl
theorem Vx.tup {ds : List D} {us : List U} (h : dvs Λ ds = ems κ us) : Vx κ Λ (.tup ds) (.tup us) := by
  unfold Vx dv; rw [h]; rfl
theorem Vx.lst {ds : List D} {us : List U} (h : dvs Λ ds = ems κ us) : Vx κ Λ (.lst ds) (.lst us) := by
  unfold Vx dv; rw [h]; rfl
theorem Vx.nil : dvs Λ [] = ems κ [] := rfl
theorem Vx.cons {d : D} {u : U} {ds : List D} {us : List U} (h : Vx κ Λ d u) (h2 : dvs Λ ds = ems κ us) : dvs Λ (d :: ds) = ems κ (u :: us) := by
  rw [dvs, ems, h2]; unfold Vx at h; rw [h]
theorem tyX {d : D} {u : U} (h : Vx κ Λ d u) {t : String} (e : tyU u = some t) : tyD Λ d = some t := by
  unfold Vx at h
  cases d with
  | loc n =>
    unfold dv at h
    split at h
    · rename_i ds hc
      cases u <;> simp only [em, reduceCtorEq] at h
      simp only [tyU, Option.some.injEq] at e; subst e
      unfold tyD vw; dsimp only; rw [hc]
    · cases u <;> simp only [em, reduceCtorEq] at h
  | _ => cases u <;> simp only [dv, em, reduceCtorEq] at h <;> first | exact e | (cases e)
theorem lenX {d : D} {u : U} (h : Vx κ Λ d u) {us : List U} (e : seqU u = some us) : ∃ ds, seqD Λ d = some ds ∧ ds.length = us.length := by
  unfold Vx at h
  have key : ∀ {ds : List D} {us : List U}, dvs Λ ds = ems κ us → ds.length = us.length := by
    intro ds
    induction ds with
    | nil => intro us h; cases us with
      | nil => rfl
      | cons _ _ => cases h
    | cons d ds ih => intro us h; cases us with
      | nil => cases h
      | cons u us => rw [dvs, ems, List.cons.injEq] at h; simp [ih h.2]
  cases d with
  | loc n =>
    unfold dv at h
    split at h
    · rename_i ds hc
      cases u <;> simp only [em, reduceCtorEq, D.lst.injEq] at h
      simp only [seqU, Option.some.injEq] at e; subst e
      subst h
      exact ⟨_, by unfold seqD vw; dsimp only; rw [hc], ems_len _⟩
    · cases u <;> simp only [em, reduceCtorEq] at h
  | tup ds =>
    cases u <;> simp only [dv, em, reduceCtorEq, D.tup.injEq] at h
    simp only [seqU, Option.some.injEq] at e; subst e
    exact ⟨ds, rfl, key h⟩
  | lst ds =>
    cases u <;> simp only [dv, em, reduceCtorEq, D.lst.injEq] at h
    simp only [seqU, Option.some.injEq] at e; subst e
    exact ⟨ds, rfl, key h⟩
  | fzl ds =>
    cases u <;> simp only [dv, em, reduceCtorEq, D.fzl.injEq] at h
    simp only [seqU, Option.some.injEq] at e; subst e
    exact ⟨ds, rfl, key h⟩
  | _ => cases u <;> simp only [dv, em, reduceCtorEq] at h <;> cases e
theorem pyX {d : D} {u : U} (h : Vx κ Λ d u) : py (dv Λ d) = pyU u := by unfold Vx at h; rw [h, py_em]
end
section
variable {κ : Kl} {C : Pl.Ctx} {E : ER} {Γ : Pl.Env} {Λ : Cells} {P : D → Cells → Prop} {Pt : Bool → Cells → Prop} {Pn : List D → Cells → Prop} {pos p : Pos} {a b e e2 : Expr}
abbrev Op2x (κ : Kl) (C : Pl.Ctx) (E : ER) (Γ : Pl.Env) (Λ : Cells) (a b : Expr) (f : U → U → M U) (P : D → Cells → Prop) : Prop := WE C E Γ Λ a fun x Λ1 => WE C E Γ Λ1 b fun y Λ2 => ∃ u v, Vx κ Λ2 x u ∧ Vx κ Λ2 y v ∧ wp (f u v) (fun z => P (em κ z) Λ2) Tr
abbrev Op2tx (κ : Kl) (C : Pl.Ctx) (E : ER) (Γ : Pl.Env) (Λ : Cells) (a b : Expr) (f : U → U → M Bool) (P : Bool → Cells → Prop) : Prop := WE C E Γ Λ a fun x Λ1 => WE C E Γ Λ1 b fun y Λ2 => ∃ u v, Vx κ Λ2 x u ∧ Vx κ Λ2 y v ∧ wp (f u v) (fun z => P z Λ2) Tr
theorem eqVX {x y : D} {u v : U} {Pb : Bool → Prop} (hx : Vx κ Λ x u) (hy : Vx κ Λ y v) (h : wp (eqM u v) Pb Tr) : Pl.eqV Λ x y Pb := by
  unfold eqM at h
  split at h
  · rename_i hs
    rw [Bool.and_eq_true, Bool.and_eq_true, decide_eq_true_eq] at hs
    obtain ⟨h1, h2, h3⟩ := hs
    unfold Pl.eqV
    rw [pyX hx, pyX hy]
    exact ⟨h1, h2, h3, h⟩
  · exact h.elim
theorem we_eqX (h : Op2x κ C E Γ Λ a b (vB eqM) P) : WE C E Γ Λ (.Compare a [.Eq] [b] pos) P :=
  we_eqv (we_mono h fun x Λ1 h => we_mono h fun y Λ2 ⟨u, v, hx, hy, h⟩ => eqVX (Pb := fun d => P (.bl d) Λ2) hx hy (vB_wp h))
theorem wt_neX (h : Op2tx κ C E Γ Λ a b (nB eqM) Pt) : WT C E Γ Λ (.Compare a [.NotEq] [b] pos) Pt :=
  wt_nev (we_mono h fun x Λ1 h => we_mono h fun y Λ2 ⟨u, v, hx, hy, h⟩ => eqVX (Pb := fun d => Pt (!d) Λ2) hx hy (nB_wp h))
theorem wt_eqX (h : Op2tx κ C E Γ Λ a b eqM Pt) : WT C E Γ Λ (.Compare a [.Eq] [b] pos) Pt :=
  wt_cmpK (r := rEqP C.K id) (fun X is => by rw [← is.K]; exact op_eqP is) (we_mono h fun x Λ1 p => we_mono p fun y Λ2 ⟨u, v, hx, hy, q⟩ => eqV_K (neg := id) (by
    obtain ⟨q1, q2, q3, q4⟩ := eqVX (Pb := fun d => Pt d Λ2) hx hy q; exact ⟨q1, q2, q3, _, rfl, q4⟩)) (nomark _)
theorem we_neX (h : Op2x κ C E Γ Λ a b (vB (nB eqM)) P) : WE C E Γ Λ (.Compare a [.NotEq] [b] pos) P :=
  we_cmpK (r := rEqP C.K not) (fun X is => by rw [← is.K]; exact op_neP is) (we_mono h fun x Λ1 p => we_mono p fun y Λ2 ⟨u, v, hx, hy, q⟩ => eqV_K (neg := not) (eqVX (Pb := fun d => P (.bl (!d)) Λ2) hx hy (nB_wp (vB_wp q)))) (nomark _)
theorem we_isiX {x : Str} {T : String} {p2 : Pos} (hj : GlAt C "isinstance") (hm : C.mg "isinstance" = none) (hj2 : GlAt C x) (hm2 : C.mg x = none) (hv : bootBuiltins x = some (.type T)) (h : WE C E Γ Λ e fun x Λ1 => ∃ u, Vx κ Λ1 x u ∧ wp (isiM u T) (fun z => P (em κ z) Λ1) Tr) (he : plainE e = true := by rfl)
    (hn : x ≠ "__name__" := by decide) (hd : (x == ("__debug__" : Str)) = false := by decide) : WE C E Γ Λ (.Call (.Name "isinstance" p) [e, .Name x p2] [] pos) P := we_isiN hj hm hj2 hm2 hv (we_mono h fun x Λ1 ⟨u, hx, h⟩ => by
    unfold isiM at h
    split at h
    · rename_i t e
      split at h
      · rename_i b e2
        exact ⟨t, b, tyX hx e, e2, h⟩
      · exact h.elim
    · exact h.elim) he hn hd
theorem we_lenX (hj : GlAt C "len") (hm : C.mg "len" = none) (h : WE C E Γ Λ e fun x Λ1 => ∃ u, (seqU u).isSome = true ∧ Vx κ Λ1 x u ∧ wp (lenM u) (fun z => P (em κ z) Λ1) Tr) (he : plainE e = true := by rfl) : WE C E Γ Λ (.Call (.Name "len" p) [e] [] pos) P :=
  we_len hj hm (we_mono h fun x Λ1 ⟨u, hs, hx, h⟩ => by
    obtain ⟨us, e⟩ := Option.isSome_iff_exists.mp hs
    obtain ⟨ds, h1, h2⟩ := lenX hx e
    refine lenP_seq h1 ?_
    have : lenM u = .ok (.int us.length) := by cases u <;> simp only [seqU, Option.some.injEq, reduceCtorEq] at e <;> subst e <;> rfl
    rw [this] at h
    rw [h2]; exact h) he
/-- x[i] of a tuple, a list of owned things -/
theorem we_ixS (h : WE C E Γ Λ a fun x Λ1 => WE C E Γ Λ1 b fun y Λ2 => ∃ ds i d, seqD Λ2 x = some ds ∧ y = .int i ∧ atI ds i = some d ∧ P d Λ2) (hs : PlainIx b := by intro _ _; rfl) : WE C E Γ Λ (.Subscript a b pos) P :=
  we_ix (we_mono h fun x Λ1 h => we_mono h fun y Λ2 ⟨ds, i, d, h1, h2, h3, h4⟩ => by subst h2; exact ixP_seq h1 h3 h4) hs
theorem fin1x {α β : Type} {Q : α → Prop} {Eh : Str → List U → Prop} {x : D} {f : U → M β} {k : β → M α} {P : β → Prop} (u : U) (hx : Vx κ Λ x u) (h : wp ((f u).bind k) Q Eh) (i : ∀ z, wp (k z) Q Eh → P z) : ∃ u, Vx κ Λ x u ∧ wp (f u) P Tr := ⟨u, hx, fin0 h i⟩
theorem fin1l {α : Type} {Q : α → Prop} {Eh : Str → List U → Prop} {x : D} {k : U → M α} {P : U → Prop} (u : U) (hs : (seqU u).isSome = true) (hx : Vx κ Λ x u) (h : wp ((lenM u).bind k) Q Eh) (i : ∀ z, wp (k z) Q Eh → P z) : ∃ u, (seqU u).isSome = true ∧ Vx κ Λ x u ∧ wp (lenM u) P Tr := ⟨u, hs, hx, fin0 h i⟩
theorem fin2x {α β : Type} {Q : α → Prop} {Eh : Str → List U → Prop} {x y : D} {f : U → U → M β} {k : β → M α} {P : β → Prop} (u v : U) (hx : Vx κ Λ x u) (hy : Vx κ Λ y v) (h : wp ((f u v).bind k) Q Eh) (i : ∀ z, wp (k z) Q Eh → P z) : ∃ u v, Vx κ Λ x u ∧ Vx κ Λ y v ∧ wp (f u v) P Tr := ⟨u, v, hx, hy, fin0 h i⟩
/-- an operation that is known -/
theorem known {α β : Type} {Q : α → Prop} {Eh : Str → List U → Prop} {m : M β} {v : β} {k : β → M α} {A : Prop} (e : m = .ok v) (h : wp (m.bind k) Q Eh) (i : wp (k v) Q Eh → A) : A := by subst e; exact i h
end
/-! ### promises with cells -/
def spK (κ : Kl) {α γ β : Type} (Dd : α → List D) (L : α → Cells) (f : α → M γ) (g : γ → M β) (R : β → Res) (L' : α → β → Cells) : Pl.Spec := fun ds Λ Q _ => ∃ a, ds = Dd a ∧ Λ = L a ∧ wp (f a) (fun z => wp (g z) (fun w => Q (R w) (L' a w)) no) no
section
variable {κ : Kl} {α γ β : Type} {Dd : α → List D} {L : α → Cells} {f : α → M γ} {g : γ → M β} {R : β → Res} {L' : α → β → Cells}
theorem spK_mono : Mono (spK κ Dd L f g R L') := fun ds Λ Q Q' E E' ⟨a, h1, h2, h3⟩ i j => ⟨a, h1, h2, wp_mono h3 (fun z h => wp_mono h (fun w h => i _ _ h) fun _ _ h => h) fun _ _ h => h⟩
theorem spK_none (hf : ∀ a, f a = .stuck) (ds : List D) (Λ : Cells) (Q : Res → Cells → Prop) (E : Err → Cells → Prop) : ¬ spK κ Dd L f g R L' ds Λ Q E := fun ⟨a, _, _, h⟩ => by rw [hf] at h; exact h
variable {C : Pl.Ctx} {E : ER} {Γ : Pl.Env} {Λ : Cells} {pos p : Pos}
/-- the end of a call with cells -/
theorem kc {n : Nat} {ds : List D} {Pr : Res → Cells → Prop} (ls : List Nat) (a : α) (r2 : β → Res) (Λ2 : β → Cells) (h0 : Hand Λ ls) (h1 : ds = rens (gI ls Λ.length) (Dd a)) (h2 : ltDs ls.length (Dd a) = true) (h3 : (Dd a).length = n) (h4 : cellsAt Λ ls = L a)
    (h5 : ∀ w, (L' a w).all nlC = true) (h6 : ∀ w, match R w with | .val d => r2 w = .val (ren (gI ls Λ.length) d) | .new ds => nls ds = true ∧ r2 w = .new ds) (h7 : ∀ w, putB Λ ls (L' a w) = Λ2 w)
    (h : wp (f a) (fun z => wp (g z) (fun w => Pr (r2 w) (Λ2 w)) no) no) : CallC n (spK κ Dd L f g R L') E Γ Λ ds Pr := by
  refine ⟨ls, Dd a, h0, h1, h2, h3, a, rfl, h4, wp_mono h (fun z h => wp_mono h (fun w h => ⟨h5 w, ?_⟩) fun _ _ h => h) fun _ _ h => h⟩
  have h6 := h6 w
  rw [h7]
  cases e : R w with
  | val d => rw [e] at h6; dsimp only at h6 ⊢; rw [← h6]; exact h
  | new ds => rw [e] at h6; dsimp only at h6 ⊢; rw [← h6.2]; exact ⟨h6.1, h⟩
end
/-- the end of a call in the text -/
theorem finK {α γ β : Type} {Q : α → Prop} {Eh : Str → List U → Prop} {m : M γ} {g : γ → M β} {k : β → M α} {P : β → Prop} (h : wp (m.calm.bind fun z => (g z).calm.bind k) Q Eh) (i : ∀ w, wp (k w) Q Eh → P w) : wp m (fun z => wp (g z) P no) no :=
  wp_mono (wp_calm (wp_bind h)) (fun z h => wp_mono (wp_calm (wp_bind h)) i fun _ _ h => h) fun _ _ h => h
theorem finK1 {α γ : Type} {Q : α → Prop} {Eh : Str → List U → Prop} {m : M γ} {k : γ → M α} {P : γ → Prop} (h : wp (m.calm.bind k) Q Eh) (i : ∀ w, wp (k w) Q Eh → P w) : wp m (fun z => wp (M.ok z) P no) no :=
  wp_mono (wp_calm (wp_bind h)) (fun z h => i z h) fun _ _ h => h
/-! defs -/
section
variable {κ : Kl} {G : Gl} {α γ β : Type} {Dd : α → List D} {L : α → Cells} {f : α → M γ} {g : γ → M β} {R : β → Res} {L' : α → β → Cells}
def rtK (L0 : Cells) (R : β → Res) (L' : β → Cells) (Q : β → Prop) (r : Res) (Λ' : Cells) : Prop := ∃ w, Q w ∧ rtY L0 (fun r Λ => r = R w ∧ Λ = L' w) r Λ'
theorem def_K {x : Str} {st : Stmt} {ps : List Str} {qn : Str} (h : DefAt G.K G.mg x st ps qn) {N : List Str} {vs ls : List Bool} {gl : List Str} {k : Nat} (m : Nat) (sc : FnScope N ps (defScope st)) (good : goodC N (defScope st) vs ls gl = true)
    (hm : ∀ a, (L a).length ≤ m)
    (hb : ∀ a Q, wp (f a) (fun z => wp (g z) Q no) no → WSs (G.cx N (defScope st) vs ls gl k m) (Γ0 N (Dd a)) (L a) (defBody st) ⟨fun _ Λ' => rtK (L a) R (L' a) Q (.val .non) Λ', rtK (L a) R (L' a) Q, fun _ _ => False, fun _ _ => False, ER.none⟩) : G.fn (k + 1) x ps.length (spK κ Dd L f g R L') :=
  def_okC (m := m) h sc good (fun ds Λ Q E ⟨a, _, h, _⟩ => by subst h; exact hm a) fun ds Λ Q E hl ⟨a, h1, h2, h3⟩ => by
    subst h1; subst h2
    have key : ∀ r Λ', rtK (L a) R (L' a) (fun w => Q (R w) (L' a w)) r Λ' → rtY (L a) Q r Λ' := fun r Λ' ⟨w, q, m, a1, a2, a3⟩ => by
      refine ⟨m, a1, a2, ?_⟩
      rcases a3 with ⟨b1, b2, b3⟩ | ⟨n, ds, c1, c2, c3, c4, c5, c6⟩ | ⟨n, ks, ds, c1, c2, c3, c4, c5, c6⟩
      · exact .inl ⟨b1, by rw [b2, b3]; exact q⟩
      · exact .inr (.inl ⟨n, ds, c1, c2, c3, c4, by rw [c5, c6]; exact q⟩)
      · exact .inr (.inr ⟨n, ks, ds, c1, c2, c3, c4, by rw [c5, c6]; exact q⟩)
    exact wss_mono (hb a _ h3) ⟨fun Γ Λ p => key _ _ p, fun r Λ p => key _ _ p, fun _ _ z => z, fun _ _ z => z, fun e Γ Λ p => p.elim⟩
variable {L0 Λ : Cells} {L1 : β → Cells} {Q : β → Prop}
theorem rtK_v (w : β) (m : Nat) {d : D} (h : Q w) (e : R w = .val d) (h1 : L0.length ≤ m) (h2 : ltD m d = true) (h3 : Λ.take m = L1 w) (h4 : (L1 w).all nlC = true) : rtK L0 R L1 Q (.val d) Λ := ⟨w, h, m, h1, by rw [h3]; exact h4, .inl ⟨h2, e.symm, h3⟩⟩
theorem rtK_n (w : β) (m : Nat) {us : List U} (h : Q w) (e : R w = .new (ems κ us)) (h1 : L0.length ≤ m) (h3 : Λ.take m = L1 w) (h4 : (L1 w).all nlC = true) : rtK L0 R L1 Q (.new (ems κ us)) Λ := ⟨w, h, m, h1, by rw [h3]; exact h4, .inl ⟨nls_em us, e.symm, h3⟩⟩
theorem rtK_o (w : β) (m n : Nat) {us : List U} (h : Q w) (e : R w = .new (ems κ us)) (h0 : Λ[n]? = some (.lst (ems κ us))) (hn : m ≤ n) (h1 : L0.length ≤ m) (h3 : Λ.take m = L1 w) (h4 : (L1 w).all nlC = true) : rtK L0 R L1 Q (.val (.loc n)) Λ := ⟨w, h, m, h1, by rw [h3]; exact h4, .inr (.inl ⟨n, _, hn, rfl, h0, nls_em us, e.symm, h3⟩)⟩
theorem rtK_imp {c : β} {r : Res} (hr : rtK L0 R L1 (fun w => w = c) r Λ) (h : Q c) : rtK L0 R L1 Q r Λ := by
  obtain ⟨w, rfl, q⟩ := hr
  exact ⟨w, h, q⟩
end
/-! results that are taken apart -/
def gL2 : U → M (List U × List U)
  | .tup [.lst a, .lst b] => .ok (a, b)
  | _ => .stuck
end Sh
namespace Sh
open PySem L2 Pl PyProof.Rows
/-! the cells chosen anew between two statements -/
def pickE (f : Nat → Nat) (m : Nat) : Pl.Env → Pl.Env → Prop
  | [], [] => True
  | _ :: Γ, none :: Γ' => pickE f m Γ Γ'
  | some d :: Γ, some d' :: Γ' => (ltD m d' = true ∧ d = ren f d') ∧ pickE f m Γ Γ'
  | _, _ => False
theorem pickE_len {f : Nat → Nat} {m : Nat} : ∀ {Γ Γ' : Pl.Env}, pickE f m Γ Γ' → Γ'.length = Γ.length
  | [], [], _ => rfl
  | o :: Γ, none :: Γ', h => by
    have h : pickE f m Γ Γ' := by cases o <;> exact h
    simp [pickE_len h]
  | some d :: Γ, some d' :: Γ', h => by
    have h : (ltD m d' = true ∧ d = ren f d') ∧ pickE f m Γ Γ' := h
    simp [pickE_len h.2]
  | [], none :: _, h => h.elim
  | [], some _ :: _, h => h.elim
  | _ :: _, [], h => by cases h
  | none :: _, some _ :: _, h => h.elim
theorem pickE_get {f : Nat → Nat} {m : Nat} : ∀ {Γ Γ' : Pl.Env} {i : Nat} {d : D}, pickE f m Γ Γ' → Γ'[i]? = some (some d) → ltD m d = true ∧ Γ[i]? = some (some (ren f d))
  | [], [], i, d, _, e => by simp at e
  | o :: Γ, none :: Γ', i, d, h, e => by
    have h : pickE f m Γ Γ' := by cases o <;> exact h
    cases i with
    | zero => simp at e
    | succ i => simpa using pickE_get h (by simpa using e)
  | some d0 :: Γ, some d' :: Γ', i, d, h, e => by
    have h : (ltD m d' = true ∧ d0 = ren f d') ∧ pickE f m Γ Γ' := h
    cases i with
    | zero =>
      simp at e; subst e
      exact ⟨h.1.1, by rw [h.1.2]; rfl⟩
    | succ i => simpa using pickE_get h.2 (by simpa using e)
  | [], none :: _, _, _, h, _ => h.elim
  | [], some _ :: _, _, _, h, _ => h.elim
  | _ :: _, [], _, _, h, _ => by cases h
  | none :: _, some _ :: _, _, _, h, _ => h.elim
theorem wss_pick {C : Pl.Ctx} {Γ : Pl.Env} {Λ : Cells} {st : List Stmt} {R : Rs} (ps : List Nat) (Γ' : Pl.Env) (Λ' : Cells) (hm0 : C.m ≤ ps.length) (hpre : ps.take C.m = List.range C.m) (nd : ps.Nodup) (hlt : ∀ n ∈ ps, n < Λ.length)
    (hc : cellsAt Λ ps = Λ') (hn : Λ'.all nlC = true) (hΓ : pickE (fun j => ps.getD j 0) ps.length Γ Γ') (h : WSs C Γ' Λ' st R) : WSs C Γ Λ st R := fun X F W is hm tk => by
  refine pss_imp pss_U fun Dn σ H ⟨B, α, S, q⟩ => ?_
  have hl : ∀ n ∈ ps, n < α.length := fun n hn => by rw [S.al]; exact hlt n hn
  have ha : F.α0.length ≤ C.m := hm
  have key : ∀ (j : Nat) (a : Addr), j < ps.length → α[ps.getD j 0]? = some a → (adsAt α ps)[j]? = some a := fun j a hj e => by
    rw [List.getD_eq_getElem?_getD, List.getElem?_eq_getElem hj, Option.getD_some] at e
    rw [adsAt_get (List.getElem?_eq_getElem hj) (hl _ (List.getElem_mem _))]; exact e
  refine WSs.use h is hm tk (B := B) (α := adsAt α ps) ⟨S.bb, S.bh, S.fr, S.kp, S.dm, ?_, adsAt_nodup nd S.nd hl, ?_, fun j c hj hg => ?_, fun a h => S.ah a (adsAt_mem hl h), fun i d hi => ?_, by rw [pickE_len hΓ]; exact S.ln⟩ q
  · obtain ⟨t, ht⟩ := S.pf
    have e1 : (adsAt α ps).take F.α0.length = F.α0 := by
      apply List.ext_getElem?
      intro i
      by_cases hi : i < F.α0.length
      · rw [List.getElem?_take_of_lt hi]
        have hps : ps[i]? = some i := by
          have : (ps.take C.m)[i]? = some i := by rw [hpre, List.getElem?_range (by omega)]
          rwa [List.getElem?_take_of_lt (by omega)] at this
        rw [adsAt_get hps (by rw [← ht, List.length_append]; omega), ← ht, List.getElem?_append_left hi]
      · rw [List.getElem?_eq_none (by rw [List.length_take]; omega), List.getElem?_eq_none (by omega)]
    have := List.take_prefix F.α0.length (adsAt α ps)
    rw [e1] at this; exact this
  · rw [← hc]; simp [adsAt, cellsAt]
  · have hj' : j < ps.length := by
      have := (List.getElem?_eq_some_iff.mp hj).1
      rw [← hc] at this; simpa [cellsAt] using this
    have hnm : ps[j] ∈ ps := List.getElem_mem _
    have e1 : Λ[ps[j]]? = some c := by
      rw [← hc] at hj
      unfold cellsAt at hj
      rw [List.getElem?_map, List.getElem?_eq_getElem hj'] at hj
      have h3 := hlt _ hnm
      rw [Option.map_some, List.getElem?_eq_getElem h3, Option.getD_some] at hj
      rw [List.getElem?_eq_getElem h3]; exact hj
    obtain ⟨a, q1, q2, q3, q4⟩ := S.ce _ _ e1 hg
    refine ⟨a, ?_, q2, q3, CellAt.nl ?_ q4⟩
    · rw [adsAt_get (List.getElem?_eq_getElem hj') (hl _ hnm)]; exact q1
    · exact List.all_eq_true.mp hn c (List.mem_of_getElem? hj)
  · obtain ⟨g1, g2⟩ := pickE_get hΓ hi
    obtain ⟨v, h1, h2⟩ := S.sl i _ g2
    exact ⟨v, h1, Rep.unren (m := ps.length) (fun n a hn e => key n a hn e) d v g1 h2⟩
end Sh
namespace Sh
open PySem L2 Pl PyProof.Rows
theorem pickE_nil {f : Nat → Nat} {m : Nat} : pickE f m [] [] := trivial
theorem pickE_none {f : Nat → Nat} {m : Nat} {o : Option D} {Γ Γ' : Pl.Env} (h : pickE f m Γ Γ') : pickE f m (o :: Γ) (none :: Γ') := by cases o <;> exact h
theorem pickE_some {f : Nat → Nat} {m : Nat} {d d' : D} {Γ Γ' : Pl.Env} (h1 : ltD m d' = true) (h2 : d = ren f d') (h : pickE f m Γ Γ') : pickE f m (some d :: Γ) (some d' :: Γ') := ⟨⟨h1, h2⟩, h⟩
end Sh

/-! Sh8: a def sees owned things, and hands back a bare word, number or truth. -/
namespace Sh
open PySem L2 Pl PyProof.Rows
mutual
/-- looked through all cells, dicts too -/
def fv (Λ : Cells) : D → D
  | .loc n => match Λ[n]? with
    | some (.lst ds) => .lst ds
    | some (.dic ks ds) => .dic ks ds
    | _ => .loc n
  | .tup ds => .tup (fvs Λ ds)
  | .lst ds => .lst (fvs Λ ds)
  | .fzl ds => .fzl (fvs Λ ds)
  | d => d
def fvs (Λ : Cells) : List D → List D
  | [] => []
  | d :: ds => fv Λ d :: fvs Λ ds
end
theorem fvs_len {Λ : Cells} : ∀ ds : List D, (fvs Λ ds).length = ds.length
  | [] => rfl
  | d :: ds => by rw [fvs, List.length_cons, List.length_cons, fvs_len ds]
def thaw (B : Hp) (α : List Addr) (H : Hp) : Hp := fun a => match B a with
  | some o => some o
  | none => if a ∈ α then H a else none
section
variable {K : PySem.W.Frag} {F : Fm} {B : Hp} {α : List Addr} {Γ : Pl.Env} {Λ : Cells} {σ : L2.St} {H : Hp}
theorem thaw_ex : Ex B (thaw B α H) := fun a o h => by unfold thaw; rw [h]
theorem thaw_cell {a : Addr} {o : HO} (h : B a = none) (m : a ∈ α) (e : H a = some o) : thaw B α H a = some o := by
  unfold thaw; rw [h]; dsimp only; rw [if_pos m]; exact e
mutual
theorem rep_fv (S : Sat K F B α Γ Λ σ H) : ∀ (d : D) (v : V), nl (fv Λ d) = true → Rep K B α d v → Rep K (thaw B α H) [] (fv Λ d) v
  | .non, _, _, h => by unfold Rep at h; subst h; unfold fv Rep; rfl
  | .bl _, _, _, h => by unfold Rep at h; subst h; unfold fv Rep; rfl
  | .int _, _, _, h => by unfold Rep at h; subst h; unfold fv Rep; rfl
  | .str _, _, _, h => by unfold Rep at h; subst h; unfold fv Rep; rfl
  | .raw _, _, _, h => by unfold Rep at h; subst h; unfold fv Rep; rfl
  | .ins C ns ds, v, hn, h => Rep.mono thaw_ex (List.prefix_refl _) _ v (Rep.nl _ v hn h)
  | .dic ks ds, v, hn, h => Rep.mono thaw_ex (List.prefix_refl _) _ v (Rep.nl _ v hn h)
  | .exc C ns ds, v, hn, h => Rep.mono thaw_ex (List.prefix_refl _) _ v (Rep.nl _ v hn h)
  | .loc n, v, hn, h => by
    unfold Rep at h
    obtain ⟨a, rfl, ha⟩ := h
    unfold fv at hn ⊢
    split at hn
    · rename_i ds hc
      obtain ⟨a', q1, q2, q3, vs, q4, q5⟩ := S.ce n _ hc (by simp)
      rw [ha] at q1; cases q1
      unfold Rep
      exact ⟨a, vs, rfl, thaw_cell q2 (List.mem_of_getElem? ha) q4, (Reps.nl ds vs hn q5).mono thaw_ex (List.prefix_refl _)⟩
    · rename_i ks ds hc
      obtain ⟨a', q1, q2, q3, vs, q4, q5, q6⟩ := S.ce n _ hc (by simp)
      rw [ha] at q1; cases q1
      unfold Rep
      exact ⟨a, vs, rfl, .inl (thaw_cell q2 (List.mem_of_getElem? ha) q4), (Reps.nl ds vs hn q5).mono thaw_ex (List.prefix_refl _), q6⟩
    · cases hn
  | .tup ds, v, hn, h => by
    unfold Rep at h
    obtain ⟨a, vs, rfl, h1, h2⟩ := h
    show Rep _ _ _ (.tup (fvs Λ ds)) _
    unfold Rep
    exact ⟨a, vs, rfl, thaw_ex.sqT h1, reps_fv S ds vs hn h2⟩
  | .lst ds, v, hn, h => by
    unfold Rep at h
    obtain ⟨a, vs, rfl, h1, h2⟩ := h
    show Rep _ _ _ (.lst (fvs Λ ds)) _
    unfold Rep
    exact ⟨a, vs, rfl, thaw_ex _ _ h1, reps_fv S ds vs hn h2⟩
  | .fzl ds, v, hn, h => by
    unfold Rep at h
    obtain ⟨a, vs, rfl, h1, h2⟩ := h
    show Rep _ _ _ (.fzl (fvs Λ ds)) _
    unfold Rep
    exact ⟨a, vs, rfl, thaw_ex.sqL h1, reps_fv S ds vs hn h2⟩
theorem reps_fv (S : Sat K F B α Γ Λ σ H) : ∀ (ds : List D) (vs : List V), nls (fvs Λ ds) = true → Reps K B α ds vs → Reps K (thaw B α H) [] (fvs Λ ds) vs
  | [], _, _, h => by unfold Reps at h; subst h; unfold fvs Reps; rfl
  | d :: ds, vs, hn, h => by
    unfold Reps at h
    obtain ⟨v, r, rfl, h1, h2⟩ := h
    have hn : (nl (fv Λ d) && nls (fvs Λ ds)) = true := hn
    rw [Bool.and_eq_true] at hn
    show Reps _ _ _ (fv Λ d :: fvs Λ ds) _
    unfold Reps
    exact ⟨v, r, rfl, rep_fv S d v hn.1 h1, reps_fv S ds r hn.2 h2⟩
end
theorem sat_thaw (S : Sat K F B α Γ Λ σ H) : Sat K ⟨H, thaw B α H, []⟩ (thaw B α H) [] [] [] [] H where
  bb := Ex.refl _
  bh := fun a o h => by
    unfold thaw at h
    split at h
    · rename_i u hu; cases h; exact S.bh a _ hu
    · split at h
      · exact h
      · cases h
  fr := fun a o h => .inl h
  kp := fun a o h _ => h
  dm := fun a h => h
  pf := List.prefix_refl _
  nd := List.nodup_nil
  al := rfl
  ce := fun n c h => by simp at h
  ah := fun a h => by simp at h
  sl := fun i d h => by simp at h
  ln := rfl
theorem sat_back {B' : Hp} {H' : Hp} (S : Sat K F B α Γ Λ σ H) (T : Sat K ⟨H, thaw B α H, []⟩ B' [] [] [] [] H') : Sat K F B α Γ Λ σ H' :=
  have kp : ∀ a o, H a = some o → H' a = some o := fun a o h => T.kp a o h (by simp)
  { S with
    bh := (thaw_ex.trans T.bb).trans T.bh
    kp := fun a o h h2 => kp a o (S.kp a o h h2)
    dm := fun a h => S.dm a (T.dm a h)
    ce := fun n c h hg => by
      obtain ⟨a, q1, q2, q3, q4⟩ := S.ce n c h hg
      exact ⟨a, q1, q2, q3, q4.mono (Ex.refl _) (List.prefix_refl _) (kp a)⟩
    ah := fun a ha => ⟨fun e => by have := (S.ah a ha).1; exact this (T.dm a e), (S.ah a ha).2⟩ }
end
/-- bare things -/
def atomM : U → M U
  | .non => .ok .non
  | .bl b => .ok (.bl b)
  | .int i => .ok (.int i)
  | .str s => .ok (.str s)
  | _ => .stuck
@[simp] theorem atomM_bl {b : Bool} : atomM (.bl b) = .ok (.bl b) := rfl
@[simp] theorem atomM_int {b : Int} : atomM (.int b) = .ok (.int b) := rfl
@[simp] theorem atomM_str {b : Str} : atomM (.str b) = .ok (.str b) := rfl
@[simp] theorem atomM_non : atomM .non = .ok .non := rfl
section
variable {κ : Kl} {C : Pl.Ctx} {E : ER} {Γ : Pl.Env} {Λ : Cells} {pos p : Pos}
theorem we_callA {k n : Nat} {x : Str} {e : Expr} {es : List Expr} {P : D → Cells → Prop} {f : List U → M U} (G : C.fn k x n (spV κ n f)) (hk : k ≤ C.k) (hj : GlAt C x)
    (h : WA C E Γ Λ (e :: es) fun ds Λ1 => ∃ us, fvs Λ1 ds = ems κ us ∧ us.length = n ∧ wp (f us) (fun z => wp (atomM z) (fun z => P (em κ z) Λ1) no) no)
    (he : plainE e = true := by rfl) (hes : es.all plainE = true := by rfl) (hdb : (x == ("__debug__" : Str)) = false := by decide) : WE C E Γ Λ (.Call (.Name x p) (e :: es) [] pos) P := fun X F W is tk => by
  obtain ⟨f', fd, ps, h1, h2, h3, h4, h5⟩ := G.ex
  have e1 := is.prog; have e2 := is.w; have e3 := is.K; have e4 := is.mg; have e5 := is.base
  refine pe_imp (pe_callSD (E := fun σ c dx H' => W c dx σ H') (dvs := []) (ds := []) (by rw [e1, e2, e3, e4, e5]; exact h1) (is.room.mono hk) (is.gl hj) (by rw [e4]; exact h2) (by rw [e3]; exact h3) (by rw [e3]; exact h4) .nil
    (fun σ => by rw [← e1, ← e2]; exact passAt tk σ) pa_U hdb (star_plain he) (back_plain hes)) fun σ H Q ⟨B, α, T, q, er⟩ => ?_
  refine WA.use h is tk T er fun ds Λ1 vs B1 α1 H1 p1 T1 x1 f1 r1 => ?_
  obtain ⟨us, hu, hl, s1⟩ := p1
  have hd : ds.length = n := by rw [← fvs_len (Λ := Λ1), hu, ems_len, hl]
  refine ⟨⟨H1, thaw B1 α1 H1, []⟩, fvs Λ1 ds, [], by rw [List.append_nil, r1.length, hd], rfl, sat_thaw T1, by rw [List.append_nil]; exact reps_fv T1 ds vs (by rw [hu]; exact nls_em us) r1, rfl, us, hu, hl, wp_mono s1 (fun z hz v H' B' α' T' ra => ?_) fun c es h => h.elim⟩
  have e := T'.nil_al
  subst e
  have T2 := sat_back T1 T'
  unfold atomM at hz
  have fin : ∀ u : U, P (em κ u) Λ1 → Rep C.K B1 α1 (em κ u) v → Q v H' := fun u hp hr => q _ Λ1 v B1 α1 H' hp T2 x1 f1 hr
  split at hz
  · exact fin _ hz (by unfold ResAt em at ra; unfold Rep at ra; subst ra; unfold em Rep; rfl)
  · exact fin _ hz (by unfold ResAt em at ra; unfold Rep at ra; subst ra; unfold em Rep; rfl)
  · exact fin _ hz (by unfold ResAt em at ra; unfold Rep at ra; subst ra; unfold em Rep; rfl)
  · exact fin _ hz (by unfold ResAt em at ra; unfold Rep at ra; subst ra; unfold em Rep; rfl)
  · exact hz.elim
/-- .. as the text tells it -/
theorem finA1 {α : Type} {n : Nat} {Q : α → Prop} {Eh : Str → List U → Prop} {f : List U → M U} {ds : List D} {k : U → M α} {P : U → Prop} (us : List U) (hd : fvs Λ ds = ems κ us) (hn : us.length = n) (h : wp ((f us).calm.bind fun z => (atomM z).bind k) Q Eh) (i : ∀ z, wp (k z) Q Eh → P z) : ∃ us, fvs Λ ds = ems κ us ∧ us.length = n ∧ wp (f us) (fun z => wp (atomM z) P no) no :=
  ⟨us, hd, hn, wp_mono (wp_calm (wp_bind h)) (fun z h => by
    have h := wp_bind h
    cases z <;> first | exact i _ h | exact h.elim) fun _ _ h => h⟩
theorem fv_em (u : U) : fv Λ (em κ u) = em κ u := by
  have key : ∀ d : D, nl d = true → fv Λ d = d := by
    intro d
    apply D.rec (motive_1 := fun d => nl d = true → fv Λ d = d) (motive_2 := fun ds => nls ds = true → fvs Λ ds = ds)
    all_goals first
      | (intro ds ih h; rw [fv, ih h]; done)
      | (intro d ds ih1 ih2 h; have h : (nl d && nls ds) = true := h; rw [Bool.and_eq_true] at h; rw [fvs, ih1 h.1, ih2 h.2]; done)
      | (intros; rfl)
      | (intro n h; cases h; done)
  exact key _ (nl_em u)
theorem fvs_cons {d : D} {ds : List D} {u : U} {us : List U} (h : fv Λ d = em κ u) (h2 : fvs Λ ds = ems κ us) : fvs Λ (d :: ds) = ems κ (u :: us) := by rw [fvs, h, h2]; rfl
theorem fvs_nil : fvs Λ [] = ems κ [] := rfl
theorem fv_tup {ds : List D} {us : List U} (h : fvs Λ ds = ems κ us) : fv Λ (.tup ds) = em κ (.tup us) := by rw [fv, h]; rfl
theorem fv_lst {ds : List D} {us : List U} (h : fvs Λ ds = ems κ us) : fv Λ (.lst ds) = em κ (.lst us) := by rw [fv, h]; rfl
theorem fv_cell {n : Nat} {us : List U} (h : Λ[n]? = some (.lst (ems κ us))) : fv Λ (.loc n) = em κ (.lst us) := by rw [fv, h]; rfl
theorem fv_dic {n : Nat} {ks : List Key} {us : List U} (h : Λ[n]? = some (.dic ks (ems κ us))) : fv Λ (.loc n) = em κ (.dic ks us) := by rw [fv, h]; rfl
end
end Sh

/-! Sh9: reckoning with the pure reading. -/
namespace Sh
open PySem L2 Pl Law
@[simp] theorem ofS_inj {a b : String} : (Str.ofString a = Str.ofString b) = (a = b) := by
  apply propext; constructor
  · intro h
    rw [Str.ofString_eq_toList, Str.ofString_eq_toList] at h
    have h1 : (a.toList.map Char.toNat) = b.toList.map Char.toNat := by
      have := congrArg (fun s : Str => s.cps.toList) h
      simpa using this
    have h2 : a.toList = b.toList := map_inj (fun c d e => Char.ext (UInt32.toNat_inj.mp e)) h1
    exact String.toList_injective h2
  · intro h; rw [h]
section
variable {i j : Int} {s t : Str} {us vs : List U}
@[simp] theorem addM_int : addM (.int i) (.int j) = .ok (.int (i + j)) := rfl
@[simp] theorem subM_int : subM (.int i) (.int j) = .ok (.int (i - j)) := rfl
@[simp] theorem negM_int : negM (.int i) = .ok (.int (-i)) := rfl
@[simp] theorem modM_int (h : 0 < j) : modM (.int i) (.int j) = .ok (.int (i % j)) := if_pos h
theorem p64 : (2 : Int) ^ 64 = 18446744073709551616 := by decide
theorem p64n : (2 : Nat) ^ 64 = 18446744073709551616 := by decide
theorem p62 : (2 : Int) ^ 62 = 4611686018427387904 := by decide
@[simp] theorem fdivM_int (h : 0 < j) (h2 : j < 18446744073709551616) : fdivM (.int i) (.int j) = .ok (.int (i / j)) := by
  have h3 : j < 2 ^ 8999 := Int.lt_of_lt_of_le h2 (by
    rw [← p64]
    have e : (2 : Int) ^ 8999 = 2 ^ 64 * 2 ^ 8935 := by rw [← Int.pow_add]
    rw [e]
    have : (0 : Int) < 2 ^ 8935 := Int.pow_pos (by decide)
    generalize (2 : Int) ^ 8935 = m at this
    rw [p64]; omega)
  exact if_pos (by rw [Bool.and_eq_true, decide_eq_true_eq, decide_eq_true_eq]; exact ⟨h, h3⟩)
theorem small_of (h : -18446744073709551616 < i) (h2 : i < 18446744073709551616) : small i = true := by
  unfold small; rw [Bool.and_eq_true, decide_eq_true_eq, decide_eq_true_eq, p64]; exact ⟨h, h2⟩
theorem mulM_r (h : -18446744073709551616 < j) (h2 : j < 18446744073709551616) : mulM (.int i) (.int j) = .ok (.int (i * j)) :=
  if_pos (by rw [small_of h h2, Bool.or_true])
theorem mulM_l (h : -18446744073709551616 < i) (h2 : i < 18446744073709551616) : mulM (.int i) (.int j) = .ok (.int (i * j)) :=
  if_pos (by rw [small_of h h2, Bool.true_or])
theorem powM_int (h : 0 ≤ j) (h2 : j ≤ 1000000) (h3 : i.natAbs < 18446744073709551616) : powM (.int i) (.int j) = .ok (.int (i ^ j.toNat)) :=
  if_pos (by rw [Bool.and_eq_true, Bool.and_eq_true, decide_eq_true_eq, decide_eq_true_eq, decide_eq_true_eq, p64n]; exact ⟨h, h2, h3⟩)
@[simp] theorem pow10_1 : powM (.int 10) (.int 1) = .ok (.int 10) := (powM_int (by decide) (by decide) (by decide)).trans (congrArg (fun z => M.ok (U.int z)) (by decide))
@[simp] theorem pow10_2 : powM (.int 10) (.int 2) = .ok (.int 100) := (powM_int (by decide) (by decide) (by decide)).trans (congrArg (fun z => M.ok (U.int z)) (by decide))
@[simp] theorem pow10_3 : powM (.int 10) (.int 3) = .ok (.int 1000) := (powM_int (by decide) (by decide) (by decide)).trans (congrArg (fun z => M.ok (U.int z)) (by decide))
@[simp] theorem pow10_4 : powM (.int 10) (.int 4) = .ok (.int 10000) := (powM_int (by decide) (by decide) (by decide)).trans (congrArg (fun z => M.ok (U.int z)) (by decide))
@[simp] theorem pow10_5 : powM (.int 10) (.int 5) = .ok (.int 100000) := (powM_int (by decide) (by decide) (by decide)).trans (congrArg (fun z => M.ok (U.int z)) (by decide))
@[simp] theorem pow10_6 : powM (.int 10) (.int 6) = .ok (.int 1000000) := (powM_int (by decide) (by decide) (by decide)).trans (congrArg (fun z => M.ok (U.int z)) (by decide))
@[simp] theorem pow10_7 : powM (.int 10) (.int 7) = .ok (.int 10000000) := (powM_int (by decide) (by decide) (by decide)).trans (congrArg (fun z => M.ok (U.int z)) (by decide))
@[simp] theorem pow10_8 : powM (.int 10) (.int 8) = .ok (.int 100000000) := (powM_int (by decide) (by decide) (by decide)).trans (congrArg (fun z => M.ok (U.int z)) (by decide))
@[simp] theorem pow10_9 : powM (.int 10) (.int 9) = .ok (.int 1000000000) := (powM_int (by decide) (by decide) (by decide)).trans (congrArg (fun z => M.ok (U.int z)) (by decide))
@[simp] theorem pow10_12 : powM (.int 10) (.int 12) = .ok (.int 1000000000000) := (powM_int (by decide) (by decide) (by decide)).trans (congrArg (fun z => M.ok (U.int z)) (by decide))
@[simp] theorem pow10_15 : powM (.int 10) (.int 15) = .ok (.int 1000000000000000) := (powM_int (by decide) (by decide) (by decide)).trans (congrArg (fun z => M.ok (U.int z)) (by decide))
@[simp] theorem pow10_18 : powM (.int 10) (.int 18) = .ok (.int 1000000000000000000) := (powM_int (by decide) (by decide) (by decide)).trans (congrArg (fun z => M.ok (U.int z)) (by decide))
@[simp] theorem pow10_20 : powM (.int 10) (.int 20) = .ok (.int 100000000000000000000) := (powM_int (by decide) (by decide) (by decide)).trans (congrArg (fun z => M.ok (U.int z)) (by decide))
@[simp] theorem pow10_24 : powM (.int 10) (.int 24) = .ok (.int 1000000000000000000000000) := (powM_int (by decide) (by decide) (by decide)).trans (congrArg (fun z => M.ok (U.int z)) (by decide))
@[simp] theorem pow10_30 : powM (.int 10) (.int 30) = .ok (.int 1000000000000000000000000000000) := (powM_int (by decide) (by decide) (by decide)).trans (congrArg (fun z => M.ok (U.int z)) (by decide))
@[simp] theorem ltM_int : ltM (.int i) (.int j) = .ok (decide (i < j)) := rfl
@[simp] theorem leM_int : leM (.int i) (.int j) = .ok (decide (i ≤ j)) := rfl
@[simp] theorem gtM_int : gtM (.int i) (.int j) = .ok (decide (j < i)) := rfl
@[simp] theorem geM_int : geM (.int i) (.int j) = .ok (decide (j ≤ i)) := rfl
@[simp] theorem eqM_int : eqM (.int i) (.int j) = .ok (decide (i = j)) := by
  unfold eqM
  rw [if_pos (by simp [pl, dp, pyU, PyData.plain, PyData.depth])]
  simp only [pyU, PyData.eqv]; by_cases h : i = j <;> simp [h]
@[simp] theorem eqM_str : eqM (.str s) (.str t) = .ok (decide (s = t)) := by
  unfold eqM
  rw [if_pos (by simp [pl, dp, pyU, PyData.plain, PyData.depth])]
  simp only [pyU]; rw [Law.Sy.strs_eqv]
@[simp] theorem eqM_bl {a b : Bool} : eqM (.bl a) (.bl b) = .ok (decide (a = b)) := by
  unfold eqM
  rw [if_pos (by simp [pl, dp, pyU, PyData.plain, PyData.depth])]
  have e : PyData.eqv (pyU (.bl a)) (pyU (.bl b)) = decide (a = b) := bl_eqv a b
  rw [e]
@[simp] theorem boolM_bl {b : Bool} : boolM (.bl b) = .ok b := rfl
@[simp] theorem endM_int : endM (.int i) = .ok (some i) := rfl
@[simp] theorem isM_non {x : U} : isM x .non = .ok (isNone x) := by cases x <;> rfl
@[simp] theorem isntM_non {x : U} : isntM x .non = .ok (!isNone x) := by cases x <;> rfl
@[simp] theorem isM_bl {a b : Bool} : isM (.bl a) (.bl b) = .ok (decide (a = b)) := rfl
@[simp] theorem lenM_lst : lenM (.lst us) = .ok (.int us.length) := rfl
@[simp] theorem lenM_fzl : lenM (.fzl us) = .ok (.int us.length) := rfl
@[simp] theorem lenM_tup : lenM (.tup us) = .ok (.int us.length) := rfl
theorem lenM_str (h : s.length ≤ sizeLine) : lenM (.str s) = .ok (.int s.length) := if_pos h
@[simp] theorem iterL_lst : iterL (.lst us) = .ok us := rfl
@[simp] theorem iterL_fzl : iterL (.fzl us) = .ok us := rfl
@[simp] theorem iterT_tup : iterT (.tup us) = .ok us := rfl
@[simp] theorem iterS_str : iterS (.str s) = .ok (s.cps.toList.map fun c => .str ⟨#[c]⟩) := rfl
@[simp] theorem listM_lst : listM (.lst us) = .ok us := rfl
@[simp] theorem listM_fzl : listM (.fzl us) = .ok us := rfl
@[simp] theorem listM_tup : listM (.tup us) = .ok us := rfl
@[simp] theorem tupleM_lst : tupleM (.lst us) = .ok (.tup us) := rfl
@[simp] theorem tupleM_tup : tupleM (.tup us) = .ok (.tup us) := rfl
@[simp] theorem range1M_int (h : -4611686018427387904 ≤ i) (h2 : i < 4611686018427387904) : range1M (.int i) = .ok (rangeU 0 i.toNat) :=
  if_pos (by rw [Bool.and_eq_true, decide_eq_true_eq, decide_eq_true_eq, p62]; exact ⟨h, h2⟩)
theorem range2M_int (h : -4611686018427387904 ≤ i) (h2 : i < 4611686018427387904) (h3 : -4611686018427387904 ≤ j) (h4 : j < 4611686018427387904) : range2M (.int i) (.int j) = .ok (rangeU i (j - i).toNat) :=
  if_pos (by rw [Bool.and_eq_true, Bool.and_eq_true, Bool.and_eq_true, decide_eq_true_eq, decide_eq_true_eq, decide_eq_true_eq, decide_eq_true_eq, p62]; exact ⟨h, h2, h3, h4⟩)
@[simp] theorem isi_tup : isiM (.tup us) "tuple" = .ok (.bl true) := rfl
@[simp] theorem isi_lst : isiM (.lst us) "list" = .ok (.bl true) := rfl
@[simp] theorem isi_bl {b : Bool} : isiM (.bl b) "bool" = .ok (.bl true) := rfl
@[simp] theorem isi_str : isiM (.str s) "str" = .ok (.bl true) := rfl
@[simp] theorem isi_int : isiM (.int i) "int" = .ok (.bl true) := rfl
@[simp] theorem isi_st : isiM (.str s) "tuple" = .ok (.bl false) := rfl
@[simp] theorem isi_ts : isiM (.tup us) "str" = .ok (.bl false) := rfl
@[simp] theorem isi_ib : isiM (.int i) "bool" = .ok (.bl false) := rfl
/-! subscripts -/
theorem ixM_seq {x : U} (hx : seqU x = some us) : ixM x (.int i) = match atI us i with | some u => .ok u | none => .stuck := by
  cases x <;> first | (cases hx; done) | (simp only [seqU, Option.some.injEq] at hx; subst hx; rfl)
theorem ixM_at {u : U} {x : U} (hx : seqU x = some us) (h : atI us i = some u) : ixM x (.int i) = .ok u := by rw [ixM_seq hx, h]
theorem ixM_get {k : Nat} {u : U} {x : U} (hx : seqU x = some us) (h : us[k]? = some u) : ixM x (.int (k : Int)) = .ok u := by
  have hk := (List.getElem?_eq_some_iff.mp h).1
  have e : ixN us.length (k : Int) = some k := by
    unfold L2.ixN
    rw [if_pos (by omega), if_pos (by exact_mod_cast hk)]; simp
  exact ixM_at hx (by unfold L2.atI; rw [e]; exact h)
@[simp] theorem ix_t0 {a : U} : ixM (.tup (a :: us)) (.int 0) = .ok a := ixM_get (k := 0) rfl rfl
@[simp] theorem ix_t1 {a b : U} : ixM (.tup (a :: b :: us)) (.int 1) = .ok b := ixM_get (k := 1) rfl rfl
@[simp] theorem ix_t2 {a b c : U} : ixM (.tup (a :: b :: c :: us)) (.int 2) = .ok c := ixM_get (k := 2) rfl rfl
@[simp] theorem ix_t3 {a b c d : U} : ixM (.tup (a :: b :: c :: d :: us)) (.int 3) = .ok d := ixM_get (k := 3) rfl rfl
@[simp] theorem ix_l0 {a : U} : ixM (.lst (a :: us)) (.int 0) = .ok a := ixM_get (k := 0) rfl rfl
@[simp] theorem ix_l1 {a b : U} : ixM (.lst (a :: b :: us)) (.int 1) = .ok b := ixM_get (k := 1) rfl rfl
@[simp] theorem ix_l2 {a b c : U} : ixM (.lst (a :: b :: c :: us)) (.int 2) = .ok c := ixM_get (k := 2) rfl rfl
/-- the last one -/
@[simp] theorem ix_last {u : U} : ixM (.lst (us ++ [u])) (.int (-1)) = .ok u := by
  refine ixM_at rfl ?_
  unfold L2.atI L2.ixN
  rw [if_neg (by omega), if_pos (by rw [List.length_append]; simp only [List.length_cons, List.length_nil]; omega)]
  have e : (-1 + ((us ++ [u]).length : Int)).toNat = us.length := by rw [List.length_append]; simp only [List.length_cons, List.length_nil]; omega
  rw [e]; simp
/-- an index that is known to be within -/
theorem ixM_any {x : U} (hx : seqU x = some us) (h1 : 0 ≤ i) (h2 : i < us.length) : ∃ u ∈ us, ixM x (.int i) = .ok u := by
  obtain ⟨k, rfl⟩ := Int.eq_ofNat_of_zero_le h1
  have hk : k < us.length := by exact_mod_cast h2
  exact ⟨us[k], List.getElem_mem _, ixM_get hx (List.getElem?_eq_getElem hk)⟩
theorem ixM_im {x : U} {f : Int → U} (hx : seqU x = some us) (h1 : 0 ≤ i) (h2 : i < us.length) (hf : ∀ k : Nat, us[k]? = if k < us.length then some (f k) else none) : ixM x (.int i) = .ok (f i) := by
  obtain ⟨k, rfl⟩ := Int.eq_ofNat_of_zero_le h1
  have hk : k < us.length := by exact_mod_cast h2
  exact ixM_get hx (by rw [hf k, if_pos hk])
/-! lists that are owned -/
theorem appM_ok {x : U} (h : us.length < 10000000) : appM us x = .ok (us ++ [x]) := sz_ok h
@[simp] theorem popM_last {x : U} : popM (us ++ [x]) = .ok (x, us) := by unfold popM; simp
theorem extM_ok (h : us.length + vs.length < 10000000) : extM us (.lst vs) = .ok (us ++ vs) := sz_ok h
@[simp] theorem setM_last {x y : U} : setM (us ++ [x]) (.int (-1)) y = .ok (us ++ [y]) := by
  unfold setM
  have e : ixN (us ++ [x]).length (-1) = some us.length := by
    unfold L2.ixN
    rw [if_neg (by omega), if_pos (by simp only [List.length_append, List.length_cons, List.length_nil]; omega)]
    congr 1
    simp only [List.length_append, List.length_cons, List.length_nil]; omega
  dsimp only; rw [e]; simp
@[simp] theorem gL2_ok {a b : List U} : gL2 (.tup [.lst a, .lst b]) = .ok (a, b) := rfl
end
@[simp] theorem nB_ok {f : U → U → M Bool} {u v : U} : nB f u v = (f u v).bind fun b => .ok (!b) := rfl
@[simp] theorem vB_ok {f : U → U → M Bool} {u v : U} : vB f u v = (f u v).bind fun b => .ok (.bl b) := rfl
/-! total: m comes to something -/
def Ok {α : Type} (m : M α) (P : α → Prop) : Prop := ∃ a, m = .ok a ∧ P a
theorem Ok.bind {α β : Type} {m : M α} {k : α → M β} {P : α → Prop} {Q : β → Prop} (h : Ok m P) (i : ∀ a, P a → Ok (k a) Q) : Ok (m.bind k) Q := by
  obtain ⟨a, rfl, p⟩ := h; exact i a p
theorem Ok.ret {α : Type} {a : α} {P : α → Prop} (h : P a) : Ok (.ok a) P := ⟨a, rfl, h⟩
theorem Ok.of {α : Type} {m : M α} {a : α} {P : α → Prop} (e : m = .ok a) (h : P a) : Ok m P := ⟨a, e, h⟩
theorem Ok.mono {α : Type} {m : M α} {P P' : α → Prop} (h : Ok m P) (i : ∀ a, P a → P' a) : Ok m P' := by
  obtain ⟨a, e, p⟩ := h; exact ⟨a, e, i a p⟩
theorem Ok.calm {α : Type} {m : M α} {P : α → Prop} (h : Ok m P) : Ok m.calm P := by
  obtain ⟨a, rfl, p⟩ := h; exact ⟨a, rfl, p⟩
theorem Ok.eq {α : Type} {m : M α} {a : α} (h : Ok m fun z => z = a) : m = .ok a := by obtain ⟨z, e, rfl⟩ := h; exact e
theorem Ok.ite {α : Type} {c : Bool} {m m' : M α} {P : α → Prop} (h1 : c = true → Ok m P) (h2 : c = false → Ok m' P) : Ok (if c = true then m else m') P := by
  cases c
  · rw [if_neg (by simp)]; exact h2 rfl
  · rw [if_pos rfl]; exact h1 rfl
theorem sz_Ok {α : Type} {n : Nat} {m : M α} {P : α → Prop} (h : n < 10000000) (i : Ok m P) : Ok (sz n m) P := by rw [sz_ok h]; exact i
/-! loops -/
section
variable {σ ρ : Type}
theorem forN_inv {f : σ → U → M σ} (I : Nat → σ → Prop) : ∀ (xs : List U) (n : Nat) (s : σ), I n s → (∀ k x s, n ≤ k → xs[k - n]? = some x → I k s → Ok (f s x) (I (k + 1))) → Ok (forN f xs s) (I (n + xs.length))
  | [], n, s, h, _ => ⟨s, rfl, h⟩
  | x :: xs, n, s, h, i => by
    obtain ⟨s', e, h'⟩ := i n x s (Nat.le_refl _) (by simp) h
    have := forN_inv I xs (n + 1) s' h' fun k x s hk hx hs => i k x s (by omega) (by
      have e : k - n = (k - (n + 1)) + 1 := by omega
      rw [e]; simpa using hx) hs
    obtain ⟨s2, e2, h2⟩ := this
    refine ⟨s2, by rw [forN, e]; exact e2, ?_⟩
    have e3 : n + 1 + xs.length = n + (x :: xs).length := by simp; omega
    rw [e3] at h2; exact h2
/-- .. that keeps a word of its state -/
theorem forN_keep {f : σ → U → M σ} (I : σ → Prop) {xs : List U} {s : σ} (h : I s) (i : ∀ x ∈ xs, ∀ s, I s → Ok (f s x) I) : Ok (forN f xs s) I :=
  forN_inv (fun _ => I) xs 0 s h fun k x s _ hx hs => i x (List.mem_of_getElem? hx) s hs
theorem forC_keep {f : σ → U → M (Ct σ ρ)} (I : σ → Prop) (P : Ct σ ρ → Prop) : ∀ {xs : List U} {s : σ}, I s → (∀ s, I s → P (.nx s)) → (∀ x ∈ xs, ∀ s, I s → Ok (f s x) fun c => match c with | .nx s => I s | .bk s => P (.nx s) | .rt r => P (.rt r)) → Ok (forC f xs s) P
  | [], s, h, hp, _ => ⟨_, rfl, hp s h⟩
  | x :: xs, s, h, hp, i => by
    obtain ⟨c, e, h'⟩ := i x (List.mem_cons_self ..) s h
    cases c with
    | nx s =>
      obtain ⟨c2, e2, h2⟩ := forC_keep I P h' hp (fun x hx s hs => i x (List.mem_cons_of_mem _ hx) s hs)
      exact ⟨c2, by rw [forC, e]; exact e2, h2⟩
    | bk s => exact ⟨_, by rw [forC, e]; rfl, h'⟩
    | rt r => exact ⟨_, by rw [forC, e]; rfl, h'⟩
theorem whN_down {c : σ → M Bool} {f : σ → M σ} (I : σ → Prop) (P : σ → Prop) (v : σ → Nat) (hc : ∀ s, I s → Ok (c s) fun b => if b = true then Ok (f s) (fun s' => I s' ∧ v s' < v s) else P s) : ∀ (n : Nat) (s : σ), I s → v s < n → Ok (whN c f n s) P
  | 0, s, _, h => absurd h (Nat.not_lt_zero _)
  | n + 1, s, hs, h => by
    obtain ⟨b, e, p⟩ := hc s hs
    cases b with
    | false => exact ⟨s, by rw [whN, e]; rfl, p⟩
    | true =>
      obtain ⟨s', e2, p1, p2⟩ := p
      obtain ⟨s2, e3, p3⟩ := whN_down I P v hc n s' p1 (by omega)
      exact ⟨s2, by rw [whN, e, M.bind_ok, if_pos rfl, e2]; exact e3, p3⟩
end
/-! comprehensions -/
theorem mapC_ok {β : Type} {f : U → M U} (g : β → U) (h : β → U) : ∀ {xs : List β}, (∀ x ∈ xs, f (g x) = .ok (h x)) → mapC f (xs.map g) = .ok (xs.map h)
  | [], _ => rfl
  | x :: xs, i => by
    rw [List.map_cons, mapC, i x (List.mem_cons_self ..), mapC_ok g h fun x hx => i x (List.mem_cons_of_mem _ hx)]; rfl
theorem compM_ok {β : Type} {f : U → M U} (g : β → U) (h : β → U) {xs : List β} (hl : xs.length < 10000000) (i : ∀ x ∈ xs, f (g x) = .ok (h x)) : compM f (xs.map g) = .ok (xs.map h) := by
  unfold compM; rw [sz_ok (by rw [List.length_map]; exact hl)]; exact mapC_ok g h i
theorem filC_ok {β : Type} {c : U → M Bool} {f : U → M U} (g : β → U) (p : β → Bool) (h : β → U) : ∀ {xs : List β}, (∀ x ∈ xs, c (g x) = .ok (p x)) → (∀ x ∈ xs, p x = true → f (g x) = .ok (h x)) → filC c f (xs.map g) = .ok ((xs.filter p).map h)
  | [], _, _ => rfl
  | x :: xs, i, j => by
    have ih := filC_ok g p h (fun x hx => i x (List.mem_cons_of_mem _ hx)) fun x hx => j x (List.mem_cons_of_mem _ hx)
    rw [List.map_cons, filC, i x (List.mem_cons_self ..)]
    simp only [M.calm_ok, M.bind_ok]
    cases e : p x with
    | false => rw [if_neg (by simp), ih, List.filter_cons_of_neg (by simp [e])]
    | true => rw [if_pos rfl, j x (List.mem_cons_self ..) e, ih, List.filter_cons_of_pos e]; rfl
theorem compF_ok {β : Type} {c : U → M Bool} {f : U → M U} (g : β → U) (p : β → Bool) (h : β → U) {xs : List β} (hl : xs.length < 10000000) (i : ∀ x ∈ xs, c (g x) = .ok (p x)) (j : ∀ x ∈ xs, p x = true → f (g x) = .ok (h x)) : compF c f (xs.map g) = .ok ((xs.filter p).map h) := by
  unfold compF; rw [sz_ok (by rw [List.length_map]; exact hl)]; exact filC_ok g p h i j
/-- items that are told by a word only -/
theorem mapC_all {β γ : Type} {f : U → M U} (g : β → U) (h : γ → U) (R : β → γ → Prop) : ∀ {xs : List β}, (∀ x ∈ xs, ∃ z, f (g x) = .ok (h z) ∧ R x z) → ∃ zs, mapC f (xs.map g) = .ok (zs.map h) ∧ All2 R xs zs
  | [], _ => ⟨[], rfl, .nil⟩
  | x :: xs, i => by
    obtain ⟨z, e, r⟩ := i x (List.mem_cons_self ..)
    obtain ⟨zs, e2, r2⟩ := mapC_all g h R fun x hx => i x (List.mem_cons_of_mem _ hx)
    exact ⟨z :: zs, by rw [List.map_cons, mapC, e, e2]; rfl, .cons r r2⟩
theorem compM_all {β γ : Type} {f : U → M U} (g : β → U) (h : γ → U) (R : β → γ → Prop) {xs : List β} (hl : xs.length < 10000000) (i : ∀ x ∈ xs, ∃ z, f (g x) = .ok (h z) ∧ R x z) : ∃ zs, compM f (xs.map g) = .ok (zs.map h) ∧ All2 R xs zs := by
  unfold compM; rw [sz_ok (by rw [List.length_map]; exact hl)]; exact mapC_all g h R i
theorem All2.right {β γ : Type} {P : γ → Prop} {xs : List β} {ys : List γ} (h : All2 (fun _ z => P z) xs ys) : ∀ z ∈ ys, P z := by
  induction h with
  | nil => intro z hz; simp at hz
  | cons h1 _ ih =>
    intro z hz
    rcases List.mem_cons.mp hz with rfl | hz
    · exact h1
    · exact ih z hz
/-! sayings -/
theorem pl_su (s : Sy) : pl (su s) = true := by unfold pl; rw [pyU_su]; exact Sy.pv_plain s
theorem dp_su (s : Sy) : dp (su s) ≤ s.ht := by unfold dp; rw [pyU_su]; exact Sy.pv_depth s
theorem eqM_su {s t : Sy} (h : min s.ht t.ht ≤ 190) : eqM (su s) (su t) = .ok (decide (s = t)) := by
  unfold eqM
  have h1 := dp_su s; have h2 := dp_su t
  rw [if_pos (by rw [pl_su, pl_su]; simp only [Bool.true_and, decide_eq_true_eq]; omega), pyU_su, pyU_su, Sy.eqv_pv]
theorem pls_su (ss : List Sy) : PyData.plainAll (pyUs (ss.map su)) = true := by
  induction ss with
  | nil => rfl
  | cons s ss ih => rw [List.map_cons, pyUs, PyData.plainAll, ih, Bool.and_true]; exact pl_su s
theorem dps_su {ss : List Sy} {n : Nat} (h : ∀ s ∈ ss, s.ht ≤ n) : PyData.depthAll (pyUs (ss.map su)) ≤ n := by
  induction ss with
  | nil => simp [pyUs, PyData.depthAll]
  | cons s ss ih =>
    rw [List.map_cons, pyUs, PyData.depthAll]
    have h1 := dp_su s; unfold dp at h1
    have h2 := h s (List.mem_cons_self ..)
    have h3 := ih fun s hs => h s (List.mem_cons_of_mem _ hs)
    omega
/-- == of what bears no dicts and is not deep -/
theorem eqM_py {x y : U} (h1 : pl x = true) (h2 : pl y = true) (h3 : min (dp x) (dp y) ≤ 190) : eqM x y = .ok (PyData.eqv (pyU x) (pyU y)) := by
  unfold eqM; rw [if_pos (by rw [h1, h2]; simpa using h3)]
theorem eqM_rfl {x : U} (h1 : pl x = true) (h3 : dp x ≤ 190) : eqM x x = .ok true := by
  rw [eqM_py h1 h1 (by omega), PySem.SeqAt.eqv_refl_plain _ h1]
theorem pl_lst {us : List U} (h : PyData.plainAll (pyUs us) = true) : pl (.lst us) = true := by unfold pl pyU; rw [PyData.plain]; exact h
theorem dp_lst {us : List U} {n : Nat} (h : PyData.depthAll (pyUs us) ≤ n) : dp (.lst us) ≤ n + 1 := by unfold dp pyU; rw [PyData.depth]; omega
theorem inM_su {s : Sy} {ss : List Sy} {x : U} (hx : itemsL x = some (ss.map su)) (h : s.ht ≤ 190) : inM (su s) x = .ok (decide (s ∈ ss)) := by
  have key : ∀ us, seqU x = some us → us = ss.map su → inM (su s) x = .ok (decide (s ∈ ss)) := by
    intro us hs e
    subst e
    unfold inM
    have hnd : ∀ (ks : List Key) (us : List U), x ≠ .dic ks us := by rintro ks us rfl; cases hx
    have hns : ∀ t, x ≠ .str t := by rintro t rfl; cases hx
    split
    · exact absurd rfl (hns _)
    · exact absurd rfl (hnd _ _)
    · rw [hs]
      dsimp only
      rw [if_pos (by rw [pls_su, pl_su]; simp only [Bool.true_and, decide_eq_true_eq]; have := dp_su s; omega)]
      congr 1
      rw [List.any_map, Bool.eq_iff_iff, List.any_eq_true, decide_eq_true_eq]
      constructor
      · rintro ⟨t, ht, e⟩
        have e : PyData.eqv (pyU (su t)) (pyU (su s)) = true := e
        rw [pyU_su, pyU_su, Sy.eqv_pv, decide_eq_true_eq] at e
        rw [← e]; exact ht
      · intro hm
        exact ⟨s, hm, by show PyData.eqv (pyU (su s)) (pyU (su s)) = true; rw [pyU_su, Sy.eqv_pv]; simp⟩
  cases x <;> simp only [itemsL, Option.some.injEq, reduceCtorEq] at hx <;> subst hx <;> exact key _ rfl rfl
/-! folds -/
section
variable {σ ρ τ β : Type}
theorem forN_fold' {f : σ → U → M σ} (enc : τ → σ) (g : β → U) (step : τ → β → τ) (N : Nat) (I : Nat → τ → Prop) : ∀ (xs : List β) (n : Nat) (s : τ), n + xs.length = N → I n s → (∀ n s x, n < N → I n s → x ∈ xs → f (enc s) (g x) = .ok (enc (step s x)) ∧ I (n + 1) (step s x)) → forN f (xs.map g) (enc s) = .ok (enc (xs.foldl step s))
  | [], _, _, _, _, _ => rfl
  | x :: xs, n, s, hN, h, i => by
    rw [List.length_cons] at hN
    obtain ⟨e, h'⟩ := i n s x (by omega) h (List.mem_cons_self ..)
    rw [List.map_cons, forN, e, List.foldl_cons]
    exact forN_fold' enc g step N I xs (n + 1) (step s x) (by omega) h' fun n s y hn hs hy => i n s y hn hs (List.mem_cons_of_mem _ hy)
theorem forN_fold {f : σ → U → M σ} (enc : τ → σ) (g : β → U) (step : τ → β → τ) (I : Nat → τ → Prop) (xs : List β) (s : τ) (h : I 0 s) (i : ∀ n s x, n < xs.length → I n s → x ∈ xs → f (enc s) (g x) = .ok (enc (step s x)) ∧ I (n + 1) (step s x)) : forN f (xs.map g) (enc s) = .ok (enc (xs.foldl step s)) :=
  forN_fold' enc g step xs.length I xs 0 s (by omega) h i
theorem forC_inv {f : σ → U → M (Ct σ ρ)} (I : Nat → σ → Prop) (P : Ct σ ρ → Prop) (N : Nat) : ∀ (xs : List U) (n : Nat) (s : σ), n + xs.length = N → I n s → (∀ n s, n ≤ N → I n s → P (.nx s)) → (∀ n x s, n < N → x ∈ xs → I n s → Ok (f s x) fun c => match c with | .nx s => I (n + 1) s | .bk s => P (.nx s) | .rt r => P (.rt r)) → Ok (forC f xs s) P
  | [], n, s, hN, h, hp, _ => ⟨_, rfl, hp n s (by simp at hN; omega) h⟩
  | x :: xs, n, s, hN, h, hp, i => by
    rw [List.length_cons] at hN
    obtain ⟨c, e, h'⟩ := i n x s (by omega) (List.mem_cons_self ..) h
    cases c with
    | nx s =>
      obtain ⟨c2, e2, h2⟩ := forC_inv I P N xs (n + 1) s (by omega) h' hp (fun n x s hn hx hs => i n x s hn (List.mem_cons_of_mem _ hx) hs)
      exact ⟨c2, by rw [forC, e]; exact e2, h2⟩
    | bk s => exact ⟨_, by rw [forC, e]; rfl, h'⟩
    | rt r => exact ⟨_, by rw [forC, e]; rfl, h'⟩
end
theorem rangeU_len {lo : Int} {n : Nat} : (rangeU lo n).length = n := by unfold rangeU; simp
theorem rangeU_mem {lo : Int} {n : Nat} {x : U} (h : x ∈ rangeU lo n) : ∃ i : Nat, i < n ∧ x = .int (lo + i) := by
  unfold rangeU at h
  obtain ⟨i, hi, rfl⟩ := List.mem_map.mp h
  exact ⟨i, List.mem_range.mp hi, rfl⟩
/-- a list that is not empty ends with an item -/
theorem snoc_of {β : Type} {xs : List β} (h : xs ≠ []) : ∃ ys y, xs = ys ++ [y] := ⟨xs.dropLast, xs.getLast h, (List.dropLast_concat_getLast h).symm⟩
theorem snoc2_of {β : Type} {xs : List β} (h : 2 ≤ xs.length) : ∃ ys y z, xs = ys ++ [y] ++ [z] := by
  obtain ⟨ys, z, rfl⟩ := snoc_of (xs := xs) (by intro e; subst e; simp at h)
  obtain ⟨ws, y, rfl⟩ := snoc_of (xs := ys) (by intro e; subst e; simp at h)
  exact ⟨ws, y, z, rfl⟩
theorem forC_unit {ρ : Type} {f : Unit → U → M (Ct Unit ρ)} : ∀ {xs : List U}, (∀ x ∈ xs, f () x = .ok (.nx ())) → forC f xs () = .ok (.nx ())
  | [], _ => rfl
  | x :: xs, i => by
    rw [forC, i x (List.mem_cons_self ..), M.bind_ok]
    exact forC_unit fun x hx => i x (List.mem_cons_of_mem _ hx)
theorem pl_tup {us : List U} (h : PyData.plainAll (pyUs us) = true) : pl (.tup us) = true := by unfold pl pyU; rw [PyData.plain]; exact h
theorem dp_tup {us : List U} {n : Nat} (h : PyData.depthAll (pyUs us) ≤ n) : dp (.tup us) ≤ n + 1 := by unfold dp pyU; rw [PyData.depth]; omega
theorem pv_ht {s : Sy} {n : Nat} (h : s.size ≤ n) : s.ht ≤ n := Nat.le_trans (Sy.ht_size s) h
theorem eqM_nil {us : List U} (h : PyData.plainAll (pyUs us) = true) (hn : us ≠ []) : eqM (.lst us) (.lst []) = .ok false := by
  rw [eqM_py (pl_lst h) rfl (by have : dp (.lst []) = 1 := rfl; omega)]
  cases us with
  | nil => exact absurd rfl hn
  | cons a as => rfl
theorem two_pl {a b : List Sy} : PyData.plainAll (pyUs [.lst (a.map su), .lst (b.map su)]) = true := by
  simp only [pyUs, pyU, PyData.plainAll, PyData.plain, pls_su, Bool.and_self]
theorem two_dp {a b : List Sy} {n : Nat} (h : ∀ s ∈ a, s.ht ≤ n) (h2 : ∀ s ∈ b, s.ht ≤ n) : PyData.depthAll (pyUs [.lst (a.map su), .lst (b.map su)]) ≤ n + 1 := by
  have := dps_su h; have := dps_su h2
  simp only [pyUs, pyU, PyData.depthAll, PyData.depth]; omega
theorem Ok.bindw {α β : Type} {m : M α} {k : α → M β} {Q : β → Prop} (h : Ok m fun a => Ok (k a) Q) : Ok (m.bind k) Q := h.bind fun _ h => h
theorem Ok_ok {α : Type} {a : α} {P : α → Prop} : Ok (.ok a) P = P a := propext ⟨fun ⟨_, e, p⟩ => by cases e; exact p, fun h => ⟨a, rfl, h⟩⟩
theorem Ok_ite {α : Type} {c : Bool} {m m' : M α} {P : α → Prop} : Ok (if c = true then m else m') P = ((c = true → Ok m P) ∧ (c = false → Ok m' P)) := by
  cases c <;> simp
theorem Ok_itd {α : Type} {c : Prop} [Decidable c] {m m' : M α} {P : α → Prop} : Ok (if c then m else m') P = ((c → Ok m P) ∧ (¬ c → Ok m' P)) := by
  by_cases h : c <;> simp [h]
theorem Ok_bind {α β : Type} {m : M α} {k : α → M β} {Q : β → Prop} : Ok (m.bind k) Q = Ok m fun a => Ok (k a) Q := by
  apply propext; constructor
  · rintro ⟨b, e, q⟩
    cases m with
    | ok a => exact ⟨a, rfl, b, e, q⟩
    | stuck => cases e
    | err c us => cases e
  · exact Ok.bindw
theorem Ok_calm {α : Type} {m : M α} {P : α → Prop} : Ok m.calm P = Ok m P := by
  apply propext; constructor
  · rintro ⟨a, e, p⟩
    cases m with
    | ok b => exact ⟨a, e, p⟩
    | stuck => cases e
    | err c us => cases e
  · exact Ok.calm
/-- known to be, told as a wish -/
theorem Ok.is {α : Type} {m : M α} {a : α} {P : α → Prop} (e : m = .ok a) (h : P a) : Ok m P := ⟨a, e, h⟩
end Sh

/-! Sh10: sorted lists of sayings, each once. -/
namespace Law
open PySem L2 Pl Sh
/-- rising -/
def Rise (l : List Sy) : Prop := l.Pairwise fun a b => Sy.ltS a b = true
theorem ltS_irr (a : Sy) : Sy.ltS a a = false := by
  cases h : Sy.ltS a a with
  | false => rfl
  | true => have := lexN_asym _ _ h; rw [show lexN (Sy.code a) (Sy.code a) = Sy.ltS a a from rfl, h] at this; exact this
theorem rise_ext {l m : List Sy} (h : Rise l) (h2 : Rise m) (e : ∀ s, s ∈ l ↔ s ∈ m) : l = m := by
  have nd : ∀ {l : List Sy}, Rise l → l.Nodup := fun h => h.imp fun {a b} h e => by subst e; rw [ltS_irr] at h; cases h
  have p : l.Perm m := (List.perm_ext_iff_of_nodup (nd h) (nd h2)).mpr e
  refine List.Perm.eq_of_pairwise (le := fun a b => Sy.ltS a b = true) (fun a b _ _ h g => ?_) h h2 p
  have := lexN_asym _ _ h
  rw [show lexN (Sy.code b) (Sy.code a) = Sy.ltS b a from rfl, g] at this; cases this
theorem onceS_iff {x : Sy} {l : List Sy} : x ∈ onceS l ↔ x ∈ l := by
  refine ⟨onceS_mem, ?_⟩
  have key : ∀ (l acc : List Sy), (x ∈ acc ∨ x ∈ l) → x ∈ l.foldl (fun told one => if told.getLast? = some one then told else told ++ [one]) acc := by
    intro l
    induction l with
    | nil => intro acc h; rcases h with h | h
             · exact h
             · simp at h
    | cons y l ih =>
      intro acc h
      rw [List.foldl_cons]
      apply ih
      rcases h with h | h
      · left; split
        · exact h
        · exact List.mem_append_left _ h
      · rcases List.mem_cons.mp h with rfl | h
        · left; split
          · rename_i e; exact List.mem_of_getLast? e
          · simp
        · exact .inr h
  exact fun h => key l [] (.inr h)
theorem leS_of_not {a b : Sy} (h : leS a b = true) (n : a ≠ b) : Sy.ltS a b = true := by
  cases e : Sy.ltS a b with
  | true => rfl
  | false => exact absurd (leS_anti h (by unfold leS; rw [e]; rfl)) n
theorem once_rise {l : List Sy} (h : l.Pairwise fun a b => leS a b = true) : Rise (onceS l) := by
  have key : ∀ (n : Nat) (l : List Sy), l.length = n → (l.Pairwise fun a b => leS a b = true) → Rise (onceS l) := by
    intro n
    induction n with
    | zero => intro l hl _; rw [List.length_eq_zero_iff.mp hl]; exact List.Pairwise.nil
    | succ n ih =>
      intro l hl h
      obtain ⟨l, x, rfl⟩ := snoc_of (xs := l) (by intro e; subst e; simp at hl)
      rw [List.pairwise_append] at h
      obtain ⟨h1, _, h3⟩ := h
      have ih := ih l (by simpa using hl) h1
      rw [onceS_snoc]
      split
      · exact ih
      · rename_i hne
        refine List.pairwise_append.mpr ⟨ih, List.pairwise_singleton .., fun a ha b hb => ?_⟩
        rw [List.mem_singleton] at hb; subst hb
        refine leS_of_not (h3 a (onceS_mem ha) b (by simp)) fun e => ?_
        subst e
        obtain ⟨ys, z, e2⟩ := snoc_of (xs := onceS l) (by intro e; rw [e] at ha; simp at ha)
        rw [e2] at hne ha ih
        rcases List.mem_append.mp ha with q | q
        · have h4 := (List.pairwise_append.mp ih).2.2 a q z (by simp)
          have h5 := h3 z (onceS_mem (by rw [e2]; simp)) a (by simp)
          unfold leS at h5; rw [h4] at h5; cases h5
        · rw [List.mem_singleton] at q; subst q
          simp at hne
  exact key _ l rfl h
/-- the sayings, sorted, each once -/
def setS (l : List Sy) : List Sy := onceS (sortS l)
theorem setS_rise (l : List Sy) : Rise (setS l) := once_rise (sortS_pw l)
theorem setS_iff {x : Sy} {l : List Sy} : x ∈ setS l ↔ x ∈ l := onceS_iff.trans (sortS_perm l).mem_iff
theorem setS_ext {l m : List Sy} (e : ∀ s, s ∈ l ↔ s ∈ m) : setS l = setS m := rise_ext (setS_rise l) (setS_rise m) fun s => setS_iff.trans ((e s).trans setS_iff.symm)
theorem setS_is {l m : List Sy} (h : Rise m) (e : ∀ s, s ∈ m ↔ s ∈ l) : m = setS l := rise_ext h (setS_rise l) fun s => (e s).trans setS_iff.symm
theorem rise_filter {l : List Sy} (p : Sy → Bool) (h : Rise l) : Rise (l.filter p) := List.Pairwise.filter p h
theorem setS_len (l : List Sy) : (setS l).length ≤ l.length := by
  have := onceS_len (sortS l); have := (sortS_perm l).length_eq; unfold setS; omega
theorem parts_ht {s t : Sy} (h : t ∈ partsL s) : t.ht ≤ s.ht := by
  induction s with
  | no => simp [partsL] at h; subst h; exact Nat.le_refl _
  | lt l => simp [partsL] at h; subst h; exact Nat.le_refl _
  | not a ih => rcases List.mem_cons.mp h with rfl | h
                · exact Nat.le_refl _
                · have := ih h; simp only [Sy.ht]; omega
  | shown a ih => rcases List.mem_cons.mp h with rfl | h
                  · exact Nat.le_refl _
                  · have := ih h; simp only [Sy.ht]; omega
  | bin o a b ih1 ih2 =>
    rcases List.mem_cons.mp h with rfl | h
    · exact Nat.le_refl _
    · rcases List.mem_append.mp h with h | h
      · have := ih1 h; simp only [Sy.ht]; omega
      · have := ih2 h; simp only [Sy.ht]; omega
theorem parts_self (s : Sy) : s ∈ partsL s := by cases s <;> simp [partsL]
def isShown : Sy → Bool
  | .shown _ => true
  | _ => false
end Law
namespace Sh
open PySem L2 Pl Law
@[simp] theorem addM_lst {us vs : List U} (h : us.length + vs.length < 10000000) : addM (.lst us) (.lst vs) = .ok (.lst (us ++ vs)) := sz_ok h
@[simp] theorem slM_tail {us : List U} {a : U} : slM (.tup (a :: us)) (some 1) none = .ok (.tup us) := by
  show M.ok _ = _
  congr 2
  unfold cutU
  have e1 : HT.sIx (a :: us).length 0 (some 1) = 1 := by unfold HT.sIx; simp
  have e2 : HT.sIx (a :: us).length (a :: us).length none = us.length + 1 := by unfold HT.sIx; simp
  rw [e1, e2]; simp
/-- the first word of a saying -/
def wd : Sy → Str
  | .no => "no"
  | .lt _ => "letter"
  | .not _ => "not"
  | .shown _ => "shown"
  | .bin o _ _ => o.s
/-- what stands behind it -/
def tl : Sy → List U
  | .no => []
  | .lt l => [.str l.s]
  | .not a => [su a]
  | .shown a => [su a]
  | .bin _ a b => [su a, su b]
theorem su_tup (s : Sy) : su s = .tup (.str (wd s) :: tl s) := by cases s <;> rfl
@[simp] theorem ix_su0 {s : Sy} : ixM (su s) (.int 0) = .ok (.str (wd s)) := by rw [su_tup]; exact ix_t0
theorem sl_su {s : Sy} : slM (su s) (some 1) none = .ok (.tup (tl s)) := by rw [su_tup]; exact slM_tail
theorem isi_su {s : Sy} : isiM (su s) "tuple" = .ok (.bl true) := by rw [su_tup]; exact isi_tup
theorem isis_su {s : Sy} : isiM (su s) "str" = .ok (.bl false) := by rw [su_tup]; exact isi_ts
@[simp] theorem wd_shown {s : Sy} : (wd s = Str.ofString "shown") = (isShown s = true) := by
  cases s with
  | bin o a b => cases o <;> simp [wd, isShown, Bop.s]
  | _ => simp [wd, isShown]
end Sh
namespace Sh
open PySem L2 Pl Law
/-- lists that are put behind one another -/
theorem forN_ext {f : List U → U → M (List U)} (g : Sy → List Sy) : ∀ (xs : List Sy) (acc : List U), (∀ (acc : List U) (x : Sy), x ∈ xs → acc.length + (g x).length < 10000000 → f acc (su x) = .ok (acc ++ (g x).map su)) → acc.length + (xs.flatMap g).length < 10000000 → forN f (xs.map su) acc = .ok (acc ++ (xs.flatMap g).map su)
  | [], acc, _, _ => by simp [forN]
  | x :: xs, acc, h, hl => by
    rw [List.flatMap_cons, List.length_append] at hl
    rw [List.map_cons, forN, h acc x (by simp) (by omega), M.bind_ok, forN_ext g xs _ (fun acc y hy => h acc y (by simp [hy])) (by rw [List.length_append, List.length_map]; omega)]
    simp
theorem zip_su (xs ys : List Sy) : zipU (xs.map su) (ys.map su) = (xs.zip ys).map fun p => U.tup [su p.1, su p.2] := by
  unfold zipU; rw [List.zipWith_map, List.zip, List.map_zipWith]
@[simp] theorem un2_ok {a b : U} : un2 (.tup [a, b]) = .ok (a, b) := rfl
@[simp] theorem un3_ok {a b c : U} : un3 (.tup [a, b, c]) = .ok (a, b, c) := rfl
@[simp] theorem zipM_lst {us vs : List U} : zipM (.lst us) (.lst vs) = .ok (zipU us vs) := rfl
@[simp] theorem enumM_lst {us : List U} : enumM (.lst us) = .ok (enumU us) := rfl
@[simp] theorem revM_lst {us : List U} : revM (.lst us) = .ok us.reverse := rfl
theorem allM_bls {bs : List Bool} : allM (.lst (bs.map .bl)) = .ok (.bl (bs.all id)) := by
  have : ∀ bs : List Bool, asBls (bs.map .bl) = some bs := by
    intro bs; induction bs with
    | nil => rfl
    | cons b bs ih => rw [List.map_cons, asBls, ih]; rfl
  unfold allM itemsL; dsimp only; rw [this]
theorem anyM_bls {bs : List Bool} : anyM (.lst (bs.map .bl)) = .ok (.bl (bs.any id)) := by
  have : ∀ bs : List Bool, asBls (bs.map .bl) = some bs := by
    intro bs; induction bs with
    | nil => rfl
    | cons b bs ih => rw [List.map_cons, asBls, ih]; rfl
  unfold anyM itemsL; dsimp only; rw [this]
theorem sumM_ints {bs : List Int} : sumM (.lst (bs.map .int)) = .ok (.int bs.sum) := by
  have : ∀ bs : List Int, asInts (bs.map .int) = some bs := by
    intro bs; induction bs with
    | nil => rfl
    | cons b bs ih => rw [List.map_cons, asInts, ih]; rfl
  unfold sumM itemsL; dsimp only; rw [this]
end Sh
namespace Sh
open PySem L2 Pl Law
theorem cut_take {us : List U} {i : Int} (h : 0 ≤ i) : cutU us none (some i) = us.take i.toNat := by
  unfold cutU HT.sIx
  dsimp only
  rw [if_neg (by omega), Nat.sub_zero, List.drop_zero]
  rcases Nat.le_total i.toNat us.length with z | z
  · congr 1; omega
  · rw [List.take_of_length_le z, List.take_of_length_le (by omega)]
theorem cut_drop {us : List U} {i : Int} (h : 0 ≤ i) : cutU us (some i) none = us.drop i.toNat := by
  unfold cutU HT.sIx
  dsimp only
  rw [if_neg (by omega)]
  rcases Nat.le_total i.toNat us.length with z | z
  · rw [show min i.toNat us.length = i.toNat by omega, List.take_of_length_le (by rw [List.length_drop]; omega)]
  · rw [show min i.toNat us.length = us.length by omega, List.drop_of_length_le z]; simp
theorem slM_take {us : List U} {i : Int} (h : 0 ≤ i) : slM (.lst us) none (some i) = .ok (.lst (us.take i.toNat)) := by rw [← cut_take h]; rfl
theorem slM_drop {us : List U} {i : Int} (h : 0 ≤ i) : slM (.lst us) (some i) none = .ok (.lst (us.drop i.toNat)) := by rw [← cut_drop h]; rfl
theorem slnM_take {us : List U} {i : Int} (h : 0 ≤ i) : slnM (.lst us) none (some i) = .ok (us.take i.toNat) := by rw [← cut_take h]; rfl
theorem slnM_drop {us : List U} {i : Int} (h : 0 ≤ i) : slnM (.lst us) (some i) none = .ok (us.drop i.toNat) := by rw [← cut_drop h]; rfl
end Sh
namespace Law
open PySem L2 Pl Sh
/-- put in where it stands -/
def insS (l : List Sy) (x : Sy) : List Sy := l.take (l.filter fun a => Sy.ltS a x).length ++ [x] ++ l.drop (l.filter fun a => Sy.ltS a x).length
theorem ltS_lex {a b c : Sy} (h : Sy.ltS a b = true) (g : Sy.ltS b c = true) : Sy.ltS a c = true := by
  cases e : Sy.ltS a c with
  | true => rfl
  | false =>
    have h1 : Sy.ltS b a = false := lexN_asym _ _ h
    have h2 : Sy.ltS b c = false := Sy.lex_tr (x := Sy.code c) (y := Sy.code a) (z := Sy.code b) e h1
    rw [g] at h2; cases h2
theorem rise_ins : ∀ {l : List Sy} {x : Sy}, Rise l → x ∉ l → Rise (insS l x)
  | [], x, _, _ => by unfold insS; simp [Rise]
  | a :: l, x, h, hx => by
    have ha := List.pairwise_cons.mp h
    have hax : a ≠ x := fun e => hx (by simp [e])
    have hxl : x ∉ l := fun e => hx (by simp [e])
    cases e : Sy.ltS a x with
    | true =>
      have ih := rise_ins ha.2 hxl
      have : insS (a :: l) x = a :: insS l x := by unfold insS; simp [List.filter_cons, e]
      rw [this]
      refine List.pairwise_cons.mpr ⟨fun b hb => ?_, ih⟩
      unfold insS at hb
      rcases List.mem_append.mp hb with hb | hb
      · rcases List.mem_append.mp hb with hb | hb
        · exact ha.1 b (List.mem_of_mem_take hb)
        · rw [List.mem_singleton] at hb; subst hb; exact e
      · exact ha.1 b (List.mem_of_mem_drop hb)
    | false =>
      have hxa : Sy.ltS x a = true := by
        cases e2 : Sy.ltS x a with
        | true => rfl
        | false => exact absurd (Sy.ltS_tot e e2) hax
      have hall : ∀ b ∈ a :: l, Sy.ltS x b = true := fun b hb => by
        rcases List.mem_cons.mp hb with rfl | hb
        · exact hxa
        · exact ltS_lex hxa (ha.1 b hb)
      have hf : (a :: l).filter (fun a => Sy.ltS a x) = [] := List.filter_eq_nil_iff.mpr fun b hb => by
        have := lexN_asym _ _ (hall b hb)
        rw [show lexN (Sy.code b) (Sy.code x) = Sy.ltS b x from rfl] at this
        rw [this]; simp
      unfold insS
      rw [hf]
      exact List.pairwise_cons.mpr ⟨hall, h⟩
theorem ins_iff {l : List Sy} {x y : Sy} : y ∈ insS l x ↔ y = x ∨ y ∈ l := by
  unfold insS
  have := List.take_append_drop (l.filter fun a => Sy.ltS a x).length l
  constructor
  · intro h
    rcases List.mem_append.mp h with h | h
    · rcases List.mem_append.mp h with h | h
      · exact .inr (List.mem_of_mem_take h)
      · exact .inl (by simpa using h)
    · exact .inr (List.mem_of_mem_drop h)
  · rintro (rfl | h)
    · simp
    · rw [← this] at h
      rcases List.mem_append.mp h with h | h
      · simp [h]
      · simp [h]
theorem ins_len {l : List Sy} {x : Sy} : (insS l x).length = l.length + 1 := by
  have := congrArg List.length (List.take_append_drop (l.filter fun a => Sy.ltS a x).length l)
  unfold insS
  simp only [List.length_append, List.length_cons, List.length_nil] at this ⊢; omega
def words : List Str := ["and", "if", "letter", "no", "not", "or", "shown"]
theorem words_lt : ∀ i j : Fin 7, decide ((words[i]).cps.toList < (words[j]).cps.toList) = decide (i.val < j.val) := by decide +kernel
theorem wd_ix (s : Sy) : ∃ h : s.ix < 7, wd s = words[s.ix] := by
  cases s with
  | bin o a b => cases o <;> exact ⟨by simp [Sy.ix], rfl⟩
  | _ => exact ⟨by simp [Sy.ix], rfl⟩
theorem wd_lt (s t : Sy) : decide ((wd s).cps.toList < (wd t).cps.toList) = decide (s.ix < t.ix) := by
  obtain ⟨h1, e1⟩ := wd_ix s
  obtain ⟨h2, e2⟩ := wd_ix t
  rw [e1, e2]
  exact words_lt ⟨s.ix, h1⟩ ⟨t.ix, h2⟩
theorem wd_eq {s t : Sy} : wd s = wd t ↔ s.ix = t.ix := by
  constructor
  · intro h
    have h1 := wd_lt s t; have h2 := wd_lt t s
    rw [h] at h1 h2
    have h3 : ¬ s.ix < t.ix := by intro z; rw [decide_eq_true z] at h1; exact List.lt_irrefl _ (of_decide_eq_true h1)
    have h4 : ¬ t.ix < s.ix := by intro z; rw [decide_eq_true z] at h2; exact List.lt_irrefl _ (of_decide_eq_true h2)
    omega
  · intro h
    obtain ⟨h1, e1⟩ := wd_ix s
    obtain ⟨h2, e2⟩ := wd_ix t
    rw [e1, e2]; congr 1
theorem ltS_ix {s t : Sy} (h : s.ix ≠ t.ix) : Sy.ltS s t = decide (s.ix < t.ix) := by
  cases s with
  | bin o a b => cases o <;> cases t with
    | bin o' a' b' => cases o' <;> simp_all [Sy.ltS, Sy.code, lexN, Sy.ix]
    | _ => simp_all [Sy.ltS, Sy.code, lexN, Sy.ix]
  | _ => cases t with
    | bin o' a' b' => cases o' <;> simp_all [Sy.ltS, Sy.code, lexN, Sy.ix]
    | _ => simp_all [Sy.ltS, Sy.code, lexN, Sy.ix]
theorem ltS_bin {o : Bop} {a b c d : Sy} : Sy.ltS (.bin o a b) (.bin o c d) = if a = c then Sy.ltS b d else Sy.ltS a c := by
  unfold Sy.ltS
  rw [Sy.code, Sy.code, lexN, if_pos rfl, Sy.code_app]; rfl
theorem ltS_not {a b : Sy} : Sy.ltS (.not a) (.not b) = Sy.ltS a b := Sy.ltS_kid 4 a b
theorem ltS_shown {a b : Sy} : Sy.ltS (.shown a) (.shown b) = Sy.ltS a b := Sy.ltS_kid 6 a b
end Law
namespace Sh
open PySem L2 Pl Law
@[simp] theorem ltM_str {s t : Str} : ltM (.str s) (.str t) = .ok (decide (s.cps.toList < t.cps.toList)) := rfl
theorem rng_2 {n : Nat} (h : n ≤ 1000) : range2M (.int 1) (.int n) = .ok (rangeU 1 (n - 1)) := by
  rw [range2M_int (by decide) (by decide) (by omega) (by omega)]; congr 2; omega
end Sh
namespace Sh
open PySem L2 Pl Law
theorem rng11 : range2M (.int 1) (.int 1) = .ok [] := rng_2 (n := 1) (by decide)
theorem rng12 : range2M (.int 1) (.int 2) = .ok [.int 1] := rng_2 (n := 2) (by decide)
theorem rng13 : range2M (.int 1) (.int 3) = .ok [.int 1, .int 2] := rng_2 (n := 3) (by decide)
theorem lts_lt : ∀ l m : Lt, decide (l.s.cps.toList < m.s.cps.toList) = decide (l.ix < m.ix) := by
  intro l m; cases l <;> cases m <;> decide +kernel
theorem ltS_lt {l m : Lt} : Sy.ltS (.lt l) (.lt m) = decide (l.ix < m.ix) := by cases l <;> cases m <;> decide +kernel
end Sh

/-! Sh11: index; dicts. -/
namespace Sh
open PySem L2 Pl PyProof.Rows Law
def findU (us : List U) (y : U) : Option Nat := us.findIdx? fun x => PyData.eqv (pyU x) (pyU y)
/-- xs.index(y), s.index(t) -/
def indexM (x y : U) : M U := match x with
  | .str a => match y with
    | .str b => match Builtin.Str.occurrences a b 0 a.length 1 with
      | i :: _ => .ok (.int i)
      | [] => .stuck
    | _ => .stuck
  | x => match itemsL x with
    | some us => if SeqAt.shaped (.list (pyUs us)) && SeqAt.shaped (pyU y) then match findU us y with
        | some j => .ok (.int j)
        | none => .stuck
      else .stuck
    | none => .stuck
/-- a dict's keys and what stands under them -/
abbrev Dc := List Key × List U
def putM (d : Dc) (k v : U) : M Dc := match keyU k with
  | some c => sz d.1.length (.ok (putKs d.1 c, putDs d.1 d.2 c v))
  | none => .stuck
section
variable {κ : Kl} {C : Pl.Ctx} {E : ER} {Γ : Pl.Env} {Λ : Cells} {P : D → Cells → Prop} {pos apos cpos p : Pos} {o e f : Expr}
theorem ems_put {ks : List Key} {us : List U} {k : Key} {u : U} : ems κ (putDs ks us k u) = putDs ks (ems κ us) k (em κ u) := by
  unfold putDs
  split
  · rw [ems_map, ems_map, List.zip_map_right, List.map_map, List.map_map]
    refine List.map_congr_left fun q _ => ?_
    simp only [Function.comp, Prod.map, id]
    split <;> rfl
  · rw [ems_app]; rfl
theorem lst_shaped {d : PyData} (h : SeqAt.shaped d = true) : d.plain = true   := PyData.plain_of_canLay0 d (SeqAt.canLay_of_shaped h)
/-- x.index(y) of a list -/
theorem we_indexM (h : WE C E Γ Λ o fun x Λ1 => ∃ us, lstD Λ1 x = some (ems κ us) ∧ WE C E Γ Λ1 e fun y Λ2 => ∃ v, Vw κ Λ2 y v ∧ lstD Λ2 x = some (ems κ us) ∧ wp (indexM (.lst us) v) (fun z => P (em κ z) Λ2) Tr)
    (ho : plainO o = true := by rfl) (he : plainE e = true := by rfl) (hl : (apos.endLine == cpos.line) = true := by rfl) : WE C E Γ Λ (.Call (.Attribute o "index" apos) [e] [] cpos) P := fun X F W is tk => by
  have hu := is.u200
  refine pe_imp (pe_bm PySem.F.plainAttrs_list PySem.F.slot_list_index PySem.F.type_list_index (mt_indexD (by omega)) pe_U (pa_cons pe_U pa_nil (star_plain he)) (base_plain ho) (few1 he) hl (star_plain he) rfl) fun σ H Q ⟨B, α, S, q, er⟩ => ?_
  refine WE.use h is tk S er fun x Λ1 vx B1 α1 H1 p1 S1 e1 f1 r1 => ?_
  obtain ⟨us, hx, p1⟩ := p1
  obtain ⟨a, vs, rfl, g1, g2⟩ := S1.seqL r1 hx
  refine ⟨.inl ⟨rfl, _, by rw [is.K]; exact g1⟩, ?_⟩
  refine WE.use p1 is tk S1 (er.mono e1) fun y Λ2 vy B2 α2 H2 p2 S2 e2 f2 r2 => ?_
  obtain ⟨v, hv, hx2, p⟩ := p2
  unfold indexM at p
  dsimp only [itemsL] at p
  split at p
  · rename_i hs
    rw [Bool.and_eq_true] at hs
    split at p
    · rename_i j hj
      obtain ⟨h1, h2, h3⟩ := List.findIdx?_eq_some_iff_getElem.mp hj
      have p : P (.int (j : Nat)) Λ2 := p
      have hp1 := lst_shaped hs.1
      have hp2 := lst_shaped hs.2
      have r1' := r1.mono e2 f2
      refine ⟨a, vy, pyU v, pyUs us, j, pyU us[j], rfl, rfl, ?_, ?_, hs.1, hs.2, ?_, h2, ?_, q _ Λ2 _ B2 α2 H2 p S2 (e1.trans e2) (f1.trans f2) (by unfold Rep; rfl)⟩
      · obtain ⟨a', ws, ea, k1, k2⟩ := S2.seqL r1' hx2
        cases ea
        have hall : PyData.plainAll (pys (ems κ us)) = true := by rw [pys_ems]; rw [PyData.plain] at hp1; exact hp1
        have := Dp.lst k1 (Reps.dp S2.bh _ _ hall k2)
        rw [pys_ems] at this; rw [is.K]; exact this
      · have hv' : py (vw Λ2 y) = pyU v := by rw [hv, py_em]
        have := S2.dp r2 (by rw [hv']; exact hp2)
        rw [hv'] at this; rw [is.K]; exact this
      · rw [pyUs_map, List.getElem?_map, List.getElem?_eq_getElem h1]; rfl
      · intro m z hm hz
        rw [pyUs_map, List.getElem?_map, List.getElem?_eq_getElem (Nat.lt_trans hm h1)] at hz
        cases hz
        have := h3 m hm
        simpa using this
    · exact p.elim
  · exact p.elim
/-- s.index(t) of a text -/
theorem we_sindexM (h : WE C E Γ Λ o fun x Λ1 => ∃ a, x = .str a ∧ WE C E Γ Λ1 e fun y Λ2 => ∃ v, Vw κ Λ2 y v ∧ wp (indexM (.str a) v) (fun z => P (em κ z) Λ2) Tr)
    (ho : plainO o = true := by rfl) (he : plainE e = true := by rfl) (hl : (apos.endLine == cpos.line) = true := by rfl) : WE C E Γ Λ (.Call (.Attribute o "index" apos) [e] [] cpos) P := fun X F W is tk => by
  refine pe_imp (pe_bm PySem.F.plainAttrs_str PySem.F.slot_str_index PySem.F.type_str_index mt_sindex pe_U (pa_cons pe_U pa_nil (star_plain he)) (base_plain ho) (few1 he) hl (star_plain he) rfl) fun σ H Q ⟨B, α, S, q, er⟩ => ?_
  refine WE.use h is tk S er fun x Λ1 vx B1 α1 H1 p1 S1 e1 f1 r1 => ?_
  obtain ⟨a, rfl, p1⟩ := p1
  unfold Rep at r1
  subst r1
  refine ⟨rfl, ?_⟩
  refine WE.use p1 is tk S1 (er.mono e1) fun y Λ2 vy B2 α2 H2 p2 S2 e2 f2 r2 => ?_
  obtain ⟨v, hv, p⟩ := p2
  unfold indexM at p
  dsimp only at p
  split at p
  · rename_i b
    split at p
    · rename_i i rest ho
      have e3 := hv.atom (by simp) (by simp) (by simp)
      subst e3
      rw [em] at r2; unfold Rep at r2; subst r2
      exact ⟨a, b, i, rest, rfl, rfl, ho, q _ Λ2 _ B2 α2 H2 p S2 (e1.trans e2) (f1.trans f2) (by unfold Rep; rfl)⟩
    · exact p.elim
  · exact p.elim
/-- d.get(k, z) -/
theorem we_getM (h : WE C E Γ Λ o fun x Λ1 => ∃ ks us, vw Λ1 x = .dic ks (ems κ us) ∧ WE C E Γ Λ1 e fun y Λ2 => WE C E Γ Λ2 f fun z Λ3 => ∃ v w, Vw κ Λ3 y v ∧ z = em κ w ∧ vw Λ3 x = .dic ks (ems κ us) ∧ wp (getdM (.dic ks us) v w) (fun z => P (em κ z) Λ3) Tr)
    (ho : plainO o = true := by rfl) (he : plainE e = true := by rfl) (hf : plainE f = true := by rfl) (hl : (apos.endLine == cpos.line) = true := by rfl) : WE C E Γ Λ (.Call (.Attribute o "get" apos) [e, f] [] cpos) P :=
  we_dget2 (we_mono h fun x Λ1 ⟨ks, us, hx, h⟩ => ⟨ks, _, hx, we_mono h fun y Λ2 h => we_mono h fun z Λ3 ⟨v, w, hv, hz, hx3, p⟩ => by
    subst hz
    unfold getdM at p
    dsimp only at p
    split at p
    · rename_i c hc
      refine ⟨c, key_of hv hc, hx3, ?_⟩
      have p : P (em κ ((uLook ks us c).getD w)) Λ3 := p
      rw [uLook_em]
      cases e : uLook ks us c with
      | none => rw [e] at p; exact p
      | some d => rw [e] at p; exact p
    · exact p.elim⟩) ho he hf hl
variable {R : Rs} {pos' : Pos} {i : Expr}
/-- d[k] = v, d owned -/
theorem ws_putM (n : Nat) (h : WE C R.er Γ Λ e fun d Λ1 => WE C R.er Γ Λ1 o fun x Λ2 => WE C R.er Γ Λ2 i fun y Λ3 => x = .loc n ∧ ∃ (dc : Dc) (u j : U), d = em κ u ∧ Vw κ Λ3 y j ∧ Λ3[n]? = some (.dic dc.1 (ems κ dc.2)) ∧ wp (putM dc j u) (fun z => R.nx Γ (Λ3.set n (.dic z.1 (ems κ z.2)))) Tr)
    (hc : noComp e = true := by rfl) : WS C Γ Λ (.Assign [.Subscript o i pos'] e pos) R :=
  ws_dput (we_mono h fun d Λ1 h => we_mono h fun x Λ2 h => we_mono h fun y Λ3 ⟨hx, dc, u, j, hd, hy, hn, p⟩ => by
    subst hx; subst hd
    unfold putM at p
    split at p
    · rename_i c hc
      obtain ⟨p1, p2⟩ := wp_sz p
      have p2 : R.nx Γ (Λ3.set n (.dic (putKs dc.1 c) (ems κ (putDs dc.1 dc.2 c u)))) := p2
      rw [ems_put] at p2
      exact ⟨n, _, _, c, rfl, key_of hy hc, hn, p1, p2⟩
    · exact p.elim) hc
theorem finP {α : Type} {Q : α → Prop} {Eh : Str → List U → Prop} {n : Nat} {y : D} {k : Dc → M α} {P : Dc → Prop} (dc : Dc) (u j : U) (hy : Vw κ Λ y j) (hn : Λ[n]? = some (.dic dc.1 (ems κ dc.2))) (h : wp ((putM dc j u).bind k) Q Eh) (i : ∀ z, wp (k z) Q Eh → P z) : ∃ (dc : Dc) (v w : U), em κ u = em κ v ∧ Vw κ Λ y w ∧ Λ[n]? = some (.dic dc.1 (ems κ dc.2)) ∧ wp (putM dc w v) P Tr := ⟨dc, u, j, rfl, hy, hn, fin0 h i⟩
end
/-- a dict that was owned is seen from now on -/
theorem wss_freezeD {C : Pl.Ctx} {Γ : Pl.Env} {Λ : Cells} {R : Rs} {st : List Stmt} (n : Nat) (ks : List Key) (ds : List D) (hm0 : C.m ≤ n) (hn : Λ[n]? = some (.dic ks ds)) (Γ' : Pl.Env) (hl : Γ'.length = Γ.length) (hΓ : ∀ (i : Nat) (d : D), Γ'[i]? = some (some d) → Γ[i]? = some (some d) ∨ (Γ[i]? = some (some (.loc n)) ∧ d = .dic ks ds)) (h : WSs C Γ' (Λ.set n .gone) st R) : WSs C Γ Λ st R := fun X F W is hm tk => by
  refine pss_imp pss_U fun Dn σ H ⟨B, α, S, q⟩ => ?_
  obtain ⟨a, q1, q2, q3, vs, q4, q5, q6⟩ := S.ce n _ hn (by simp)
  have h0 : F.H0 a = none := by
    rcases q3 with z | z
    · exact z
    · exfalso
      obtain ⟨i, hi⟩ := List.getElem?_of_mem z
      have hi' := pre_get S.pf hi
      have : i = n := (List.getElem?_inj (List.getElem?_eq_some_iff.mp hi').1 S.nd).mp (hi'.trans q1.symm)
      have := (List.getElem?_eq_some_iff.mp hi).1
      omega
  have hx : Ex B (upd B a (.dK (ks.zip vs))) := Ex.new q2
  have nl : n < Λ.length := (List.getElem?_eq_some_iff.mp hn).1
  refine WSs.use h is hm tk (B := upd B a (.dK (ks.zip vs))) (α := α) ⟨S.bb.trans hx, fun b u hb => ?_, fun b u hb => ?_, S.kp, S.dm, S.pf, S.nd, by simp [S.al], fun m c hc hg => ?_, S.ah, fun i d hi => ?_, by rw [hl]; exact S.ln⟩ (q.mono hx)
  · by_cases e : b = a
    · subst e; rw [upd_same] at hb; rw [← hb]; exact q4
    · rw [upd_ne e] at hb; exact S.bh b u hb
  · by_cases e : b = a
    · subst e; exact .inr h0
    · rw [upd_ne e] at hb; exact S.fr b u hb
  · by_cases e : n = m
    · subst e
      rw [List.getElem?_set_self nl] at hc
      cases hc
      exact absurd rfl hg
    · rw [List.getElem?_set_ne e] at hc
      obtain ⟨b, k1, k2, k3, k4⟩ := S.ce m c hc hg
      have hba : b ≠ a := fun z => by
        subst z
        exact e ((List.getElem?_inj (by rw [S.al]; exact nl) S.nd).mp (q1.trans k1.symm))
      exact ⟨b, k1, by rw [upd_ne hba]; exact k2, k3, k4.mono hx (List.prefix_refl _) fun u z => z⟩
  · rcases hΓ i d hi with z | ⟨z, rfl⟩
    · obtain ⟨v, k1, k2⟩ := S.sl i d z
      exact ⟨v, k1, k2.mono hx (List.prefix_refl _)⟩
    · obtain ⟨v, k1, k2⟩ := S.sl i _ z
      unfold Rep at k2
      obtain ⟨a', rfl, k3⟩ := k2
      rw [q1] at k3; cases k3
      exact ⟨_, k1, by unfold Rep; exact ⟨a, vs, rfl, .inl upd_same, q5.mono hx (List.prefix_refl _), q6⟩⟩
theorem freezeMD {κ : Kl} {C : Pl.Ctx} {Γ : Pl.Env} {Λ : Cells} {R : Rs} {st : List Stmt} (n j : Nat) (dc : Dc) (hm0 : C.m ≤ n) (hn : Λ[n]? = some (.dic dc.1 (ems κ dc.2))) (hg : Γ[j]? = some (some (.loc n))) (h : WSs C (Γ.set j (some (em κ (.dic dc.1 dc.2)))) (Λ.set n .gone) st R) : WSs C Γ Λ st R :=
  wss_freezeD n dc.1 (ems κ dc.2) hm0 hn _ (by simp) (fun i d hi => by
    by_cases e : j = i
    · subst e
      rw [List.getElem?_set_self (List.getElem?_eq_some_iff.mp hg).1] at hi
      cases hi
      exact .inr ⟨hg, rfl⟩
    · rw [List.getElem?_set_ne e] at hi
      exact .inl hi) h
end Sh
namespace Sh
open PySem L2 Pl PyProof.Rows Law
section
variable {κ : Kl} {Λ : Cells} {α : Type} {Q : α → Prop} {Eh : Str → List U → Prop} {x : D}
def asD : U → M Dc
  | .dic ks us => .ok (ks, us)
  | _ => .stuck
@[simp] theorem asD_ok {ks : List Key} {us : List U} : asD (.dic ks us) = .ok (ks, us) := rfl
theorem asLst {u : U} {k : List U → M α} {P : List U → Prop} (hx : Vw κ Λ x u) (h : wp ((iterL u).bind k) Q Eh) (i : ∀ us, wp (k us) Q Eh → lstD Λ x = some (ems κ us) → P us) : ∃ us, lstD Λ x = some (ems κ us) ∧ P us := by
  replace h := wp_bind h
  unfold iterL at h
  split at h
  · rename_i us e
    exact ⟨us, items_of hx e, i us h (items_of hx e)⟩
  · exact h.elim
theorem asDic {u : U} {k : Dc → M α} {P : List Key → List U → Prop} (hx : Vw κ Λ x u) (h : wp ((asD u).bind k) Q Eh) (i : ∀ ks us, vw Λ x = .dic ks (ems κ us) → wp (k (ks, us)) Q Eh → P ks us) : ∃ ks us, vw Λ x = .dic ks (ems κ us) ∧ P ks us := by
  replace h := wp_bind h
  unfold asD at h
  split at h
  · rename_i ks us
    exact ⟨ks, us, hx, i ks us hx h⟩
  · exact h.elim
end
end Sh
namespace Law
open PySem L2 Pl Sh
def isLt : Sy → Bool
  | .lt _ => true
  | _ => false
theorem canLay_su : ∀ s : Sy, (pyU (su s)).canLay0 = true
  | .no => by show (PyData.tuple [.str "no"]).canLay0 = true; decide +kernel
  | .lt l => by cases l <;> (show (PyData.tuple [.str "letter", .str _]).canLay0 = true) <;> decide +kernel
  | .not a => by
    have h : PyData.canLay0 (.str "not") = true := by decide +kernel
    show (PyData.tuple [.str "not", pyU (su a)]).canLay0 = true
    simp only [PyData.canLay0, PyData.canLayAll0, canLay_su a, Bool.and_true]
    simpa only [PyData.canLay0] using h
  | .shown a => by
    have h : PyData.canLay0 (.str "shown") = true := by decide +kernel
    show (PyData.tuple [.str "shown", pyU (su a)]).canLay0 = true
    simp only [PyData.canLay0, PyData.canLayAll0, canLay_su a, Bool.and_true]
    simpa only [PyData.canLay0] using h
  | .bin o a b => by
    have h : ∀ o : Bop, PyData.canLay0 (.str o.s) = true := by intro o; cases o <;> decide +kernel
    have h := h o
    show (PyData.tuple [.str o.s, pyU (su a), pyU (su b)]).canLay0 = true
    simp only [PyData.canLay0, PyData.canLayAll0, canLay_su a, canLay_su b, Bool.and_true]
    simpa only [PyData.canLay0] using h
theorem canLay_lt (l : Lt) : (pyU (ltU l)).canLay0 = true := by cases l <;> (show (PyData.str _).canLay0 = true) <;> decide +kernel
/-- a letter or a saying, not deep -/
def Th (n : Nat) (u : U) : Prop := (∃ l : Lt, u = ltU l) ∨ ∃ s : Sy, u = su s ∧ s.ht ≤ n
theorem Th.lay {n : Nat} {u : U} (h : Th n u) : (pyU u).canLay0 = true ∧ (pyU u).depth ≤ n ∧ pl u = true := by
  rcases h with ⟨l, rfl⟩ | ⟨s, rfl, hs⟩
  · exact ⟨canLay_lt l, Nat.zero_le _, by cases l <;> rfl⟩
  · have := dp_su s; unfold dp at this
    exact ⟨canLay_su s, by omega, pl_su s⟩
theorem Th.lays {n : Nat} : ∀ {us : List U}, (∀ u ∈ us, Th n u) → PyData.canLayAll0 (pyUs us) = true ∧ PyData.depthAll (pyUs us) ≤ n
  | [], _ => ⟨rfl, Nat.zero_le _⟩
  | u :: us, h => by
    obtain ⟨h1, h2, _⟩ := (h u (List.mem_cons_self ..)).lay
    obtain ⟨h3, h4⟩ := Th.lays fun u hu => h u (List.mem_cons_of_mem _ hu)
    rw [pyUs]
    exact ⟨by rw [PyData.canLayAll0, h1, h3]; rfl, by rw [PyData.depthAll]; omega⟩
theorem Th.refl {n : Nat} {u : U} (h : Th n u) : PyData.eqv (pyU u) (pyU u) = true := PySem.SeqAt.eqv_refl_plain _ h.lay.2.2
/-- what is within is found -/
theorem index_in {n : Nat} {us : List U} {x : U} (h : ∀ u ∈ us, Th n u) (hn : n ≤ 60) (hx : x ∈ us) : ∃ j : Nat, j < us.length ∧ indexM (.lst us) x = .ok (.int j) := by
  obtain ⟨h1, h2⟩ := Th.lays h
  obtain ⟨h3, h4, _⟩ := (h x hx).lay
  have hs : (SeqAt.shaped (.list (pyUs us)) && SeqAt.shaped (pyU x)) = true := by
    unfold SeqAt.shaped
    rw [Bool.and_eq_true, Bool.and_eq_true, Bool.and_eq_true, decide_eq_true_eq, decide_eq_true_eq]
    exact ⟨⟨by rw [PyData.canLay0]; exact h1, by rw [PyData.depth]; omega⟩, h3, by omega⟩
  cases e : findU us x with
  | none =>
    have := List.findIdx?_eq_none_iff.mp e x hx
    rw [(h x hx).refl] at this; cases this
  | some j =>
    refine ⟨j, (List.findIdx?_eq_some_iff_getElem.mp e).1, ?_⟩
    unfold indexM
    simp only [itemsL]
    rw [if_pos hs, e]
def ltsOf (s : Sy) : List Lt := [Lt.p, .q, .r].filter fun l => decide (Sy.lt l ∈ partsL s)
theorem mem_ltsOf {s : Sy} {l : Lt} : l ∈ ltsOf s ↔ Sy.lt l ∈ partsL s := by
  unfold ltsOf
  rw [List.mem_filter, decide_eq_true_eq]
  exact ⟨fun h => h.2, fun h => ⟨by cases l <;> simp, h⟩⟩
theorem ltsOf_pw (s : Sy) : (ltsOf s).Pairwise fun a b => leL a b = true := List.Pairwise.filter _ (by decide)
theorem ltsOf_nd (s : Sy) : (ltsOf s).Nodup := List.Pairwise.filter _ (by decide)
theorem ltsOf_len (s : Sy) : (ltsOf s).length ≤ 3 := List.length_filter_le _ _
theorem ltsOf_rise (s : Sy) : Rise ((ltsOf s).map Sy.lt) :=
  List.Pairwise.sublist ((List.filter_sublist (l := [Lt.p, .q, .r])).map Sy.lt) (by decide +kernel)
def litU : Sy → U
  | .lt l => ltU l
  | _ => .non
theorem ltsOf_eq (s : Sy) : (setS (partsL s)).filter isLt = (ltsOf s).map Sy.lt := by
  refine rise_ext (rise_filter isLt (setS_rise _)) (ltsOf_rise s) fun x => ?_
  rw [List.mem_filter, setS_iff, List.mem_map]
  constructor
  · rintro ⟨h1, h2⟩
    cases x with
    | lt l => exact ⟨l, mem_ltsOf.mpr h1, rfl⟩
    | _ => cases h2
  · rintro ⟨l, hl, rfl⟩
    exact ⟨mem_ltsOf.mp hl, rfl⟩
theorem sortL_is {l ls : List Lt} (h : l.Pairwise fun a b => leL a b = true) (nd : l.Nodup) (nd2 : ls.Nodup) (e : ∀ x, x ∈ l ↔ x ∈ ls) : sortL ls = l :=
  (sortL_uniq ((List.perm_ext_iff_of_nodup nd nd2).mpr e) h).symm
theorem sortS_rise {l : List Sy} (nd : l.Nodup) : Rise (sortS l) := by
  have h1 := sortS_pw l
  have h2 : (sortS l).Nodup := (sortS_perm l).nodup_iff.mpr nd
  exact (h1.and h2).imp fun {a b} h => leS_of_not h.1 h.2
theorem inM_lt {l : Lt} {ls : List Lt} : inM (ltU l) (.lst (ls.map ltU)) = .ok (decide (l ∈ ls)) := by
  have hp : PyData.plainAll (pyUs (ls.map ltU)) = true := by
    induction ls with
    | nil => rfl
    | cons a ls ih => rw [List.map_cons, pyUs, PyData.plainAll, ih, Bool.and_true]; cases a <;> rfl
  unfold inM
  dsimp only [seqU]
  have e : dp (ltU l) = 0 := by cases l <;> rfl
  have e2 : pl (ltU l) = true := by cases l <;> rfl
  rw [if_pos (by rw [hp, e2, e]; simp)]
  congr 1
  rw [List.any_map, Bool.eq_iff_iff, List.any_eq_true, decide_eq_true_eq]
  have key : ∀ t : Lt, PyData.eqv (pyU (ltU t)) (pyU (ltU l)) = decide (t = l) := fun t => by
    show PyData.eqv (.str t.s) (.str l.s) = _
    rw [Sy.strs_eqv]; congr 1; exact propext Sy.lt_s_inj
  constructor
  · rintro ⟨t, ht, e⟩
    have e : PyData.eqv (pyU (ltU t)) (pyU (ltU l)) = true := e
    rw [key, decide_eq_true_eq] at e; rw [← e]; exact ht
  · intro hm
    exact ⟨l, hm, by show PyData.eqv (pyU (ltU l)) (pyU (ltU l)) = true; rw [key]; simp⟩
end Law

/-! Sh12: classes: made, their fields, their methods. -/
namespace Sh
open PySem L2 Pl PyProof.Rows Law
/-- a class of the module with plain fields -/
structure ClsAt (K : PySem.W.Frag) (mg : Str → Option Value) (x : Str) (Cl : Addr) (ns : List Str) : Prop where
  gl : mg x = some (.ref Cl)
  cl : Cls K Cl
  nf : ∀ f ∈ ns, NoAttr K Cl f
structure MethAt (K : PySem.W.Frag) (Cl : Addr) (m qual : Str) (st : Stmt) (ps : List Str) : Prop where
  ex : ∃ f fd, Fun K m qual st f fd ∧ Meth K Cl m f ∧ ∀ us : List Value, us.length = ps.length → bindArgs fd ⟨us, []⟩ = pure (ps.zip us)
structure InitAt (K : PySem.W.Frag) (Cl : Addr) (qual : Str) (st : Stmt) (ps : List Str) : Prop where
  ex : ∃ f fd, Fun K "__init__" qual st f fd ∧ Mk K Cl f ∧ ∀ us : List Value, us.length = ps.length → bindArgs fd ⟨us, []⟩ = pure (ps.zip us)
theorem methAt_mk {K : PySem.W.Frag} {Cl : Addr} {m qual : Str} {st : Stmt} {ps : List Str} {f : Addr} {oc : Value} {od an : Option Addr} {osl : Array (Option Value)} {kV doc pm cdv ct : Value}
    (hb : ∀ (kV doc pm : Value) (an : Option Addr) (cdv ct : Value) (us : List Value), us.length = ps.length → bindArgs (PySem.W.fnOf m qual (defArgs st) (defBody st) (defScope st) .none kV doc pm an cdv ct) ⟨us, []⟩ = pure (ps.zip us))
    (a : PySem.W.findIn K (.ref Cl) m = some (some (.ref f))) (l : K.lookup f = some ⟨oc, od, .func (PySem.W.fnOf m qual (defArgs st) (defBody st) (defScope st) .none kV doc pm an cdv ct), osl⟩) (c : PySem.W.codeIn K cdv qual = true) (k : PySem.W.keepIn K (.ref f) = true) (i : PySem.W.isFn K (.ref f) = true) :
    MethAt K Cl m qual st ps := ⟨f, _, fun_mk l c k, ⟨a, i, k⟩, fun us hl => hb kV doc pm an cdv ct us hl⟩
theorem initAt_mk {K : PySem.W.Frag} {Cl : Addr} {qual : Str} {st : Stmt} {ps : List Str} {f : Addr} {oc : Value} {od an : Option Addr} {osl : Array (Option Value)} {kV doc pm cdv ct : Value}
    (hb : ∀ (kV doc pm : Value) (an : Option Addr) (cdv ct : Value) (us : List Value), us.length = ps.length → bindArgs (PySem.W.fnOf "__init__" qual (defArgs st) (defBody st) (defScope st) .none kV doc pm an cdv ct) ⟨us, []⟩ = pure (ps.zip us))
    (a : PySem.W.findIn K (.ref Cl) "__init__" = some (some (.ref f))) (l : K.lookup f = some ⟨oc, od, .func (PySem.W.fnOf "__init__" qual (defArgs st) (defBody st) (defScope st) .none kV doc pm an cdv ct), osl⟩) (c : PySem.W.codeIn K cdv qual = true) (k : PySem.W.keepIn K (.ref f) = true) (i : PySem.W.isFn K (.ref f) = true)
    (mk : PySem.W.makesIn K Cl = true) (kc : PySem.W.keepIn K (.ref Cl) = true) :
    InitAt K Cl qual st ps := ⟨f, _, fun_mk l c k, ⟨mk, a, i, kc⟩, fun us hl => hb kV doc pm an cdv ct us hl⟩
/-- a method's promise, an __init__'s -/
structure Mt (P : Program) (w : World) (K : PySem.W.Frag) (mg : Str → Option Value) (base : Heap) (k : Nat) (Cl : Addr) (m : Str) (n : Nat) (S : Pl.Spec) : Prop where
  ex : ∃ f fd ps, FnOk P w K mg base (L2.CX P w) k f fd ps (spOf K n S) ∧ Meth K Cl m f ∧ Binds K fd ps []
structure It (P : Program) (w : World) (K : PySem.W.Frag) (mg : Str → Option Value) (base : Heap) (k : Nat) (Cl : Addr) (n : Nat) (S : Pl.Spec) : Prop where
  ex : ∃ f fd ps, FnOk P w K mg base (L2.CX P w) k f fd ps (spOf K n S) ∧ Mk K Cl f ∧ Binds K fd ps []
abbrev mt (C : Pl.Ctx) := Mt C.P C.w C.K C.mg C.base
abbrev it (C : Pl.Ctx) := It C.P C.w C.K C.mg C.base
theorem passF {X : Cx} {P : Program} {w : World} : Passes (L2.CX P w) X fun _ _ _ => False := fun pins σ H s e s' I hc => by
  obtain ⟨_, _, _, _, _, _, _, _, _, _, _, _, z⟩ := hc
  exact z.elim
section
variable {K : PySem.W.Frag} {F : Fm} {B : Hp} {α : List Addr} {Γ : Pl.Env} {Λ : Cells} {σ : L2.St} {H : Hp}
theorem sat_ins (S : Sat K F B α Γ Λ σ H) {x : D} {v : V} {Cl : Addr} {ns : List Str} {ds : List D} (r : Rep K B α x v) (e : vw Λ x = .ins Cl ns ds) : ∃ a dx vs, v = .ref a ∧ H a = some (.ins Cl dx (ns.zip vs)) ∧ Reps K B α ds vs ∧ ns.length = ds.length := by
  cases x with
  | ins C' ns' ds' =>
    cases e
    unfold Rep at r
    obtain ⟨a, dx, vs, rfl, h1, h2, h3⟩ := r
    exact ⟨a, dx, vs, rfl, S.bh _ _ h1, h2, h3⟩
  | loc n =>
    unfold Rep at r
    obtain ⟨a, rfl, ha⟩ := r
    unfold vw at e
    dsimp only at e
    split at e
    · cases e
    · cases e
    · rename_i C' ns' ds' hc
      cases e
      obtain ⟨a', q1, q2, q3, dx, vs, q4, q5, q6⟩ := S.ce n _ hc (by simp)
      rw [ha] at q1; cases q1
      exact ⟨a, dx, vs, rfl, q4, q5, q6⟩
    · cases e
  | _ => cases e
theorem look_rep {f : Str} : ∀ {ns : List Str} {ds : List D} {vs : List V} {d : D}, Reps K B α ds vs → (ns.zip ds).lookup f = some d → ∃ v, (ns.zip vs).lookup f = some v ∧ Rep K B α d v
  | [], _, _, _, _, h => by simp at h
  | a :: ns, [], _, _, _, h => by simp at h
  | a :: ns, e :: ds, vs, d, r, h => by
    unfold Reps at r
    obtain ⟨v, vs', rfl, r1, r2⟩ := r
    rw [List.zip_cons_cons, List.lookup_cons] at h ⊢
    split at h
    · cases h; exact ⟨v, rfl, r1⟩
    · exact look_rep r2 h
theorem look_none {f : Str} : ∀ {ns : List Str} {vs : List V}, f ∉ ns → (ns.zip vs).lookup f = none
  | [], _, _ => by simp
  | a :: ns, [], _ => by simp
  | a :: ns, v :: vs, h => by
    rw [List.zip_cons_cons, List.lookup_cons]
    have : (f == a) = false := by simpa using fun e => h (by simp [e])
    rw [this]
    exact look_none fun z => h (by simp [z])
end
section
variable {κ : Kl} {C : Pl.Ctx} {E : ER} {Γ : Pl.Env} {Λ : Cells} {pos p apos pos' : Pos} {o e : Expr} {es : List Expr} {f : Str}
/-- e.f -/
theorem we_fld {Cl : Addr} {P : D → Cells → Prop} (hc : Cls C.K Cl) (hn : NoAttr C.K Cl f) (h : WE C E Γ Λ e fun x Λ1 => ∃ ns ds d, vw Λ1 x = .ins Cl ns ds ∧ (ns.zip ds).lookup f = some d ∧ P d Λ1) (ho : plainO e = true := by rfl) : WE C E Γ Λ (.Attribute e f pos) P := fun X F W is tk => by
  refine pe_imp (pe_fld pe_U (base_plain ho)) fun σ H Q ⟨B, α, S, q, er⟩ => ?_
  refine WE.use h is tk S er fun x Λ1 v B1 α1 H1 p1 S1 e1 f1 r1 => ?_
  obtain ⟨ns, ds, d, hx, hl, hp⟩ := p1
  obtain ⟨a, dx, vs, rfl, g1, g2, g3⟩ := sat_ins S1 r1 hx
  obtain ⟨u, h1, h2⟩ := look_rep (ns := ns) g2 hl
  exact ⟨a, Cl, dx, _, u, rfl, g1, by rw [is.K]; exact hc, by rw [is.K]; exact hn, h1, q d Λ1 u B1 α1 H1 hp S1 e1 f1 h2⟩
/-- what a callee without cells hands back -/
theorem callS0 {F : Fm} {B : Hp} {α : List Addr} {σ : L2.St} {H : Hp} {us : List U} {vs : List V} {n : Nat} {S : Pl.Spec} {Q : VK} {Pr : Res → Prop} (T : Sat C.K F B α Γ Λ σ H) (r : Reps C.K B α (ems κ us) vs) (hl : us.length = n)
    (h : S (ems κ us) [] (fun r Λ' => Λ' = [] ∧ Pr r) fun _ _ => False) (m : Mono S)
    (q : ∀ r v B' H', Pr r → Sat C.K F B' α Γ Λ σ H' → Ex B B' → ResAt C.K ⟨H, B, []⟩ B' [] H' v r → Q v H') : spOf C.K n S (vs ++ []) H Q fun _ _ _ => False := by
  refine ⟨⟨H, B, []⟩, ems κ us, [], by rw [List.append_nil, r.length, ems_len, hl], rfl, T.enter, by rw [List.append_nil]; exact Reps.nl _ vs (nls_em us) r, m _ _ _ _ _ _ h (fun r Λ' p v H' B' α' T' ra => ?_) fun err Λ' p => p.elim⟩
  obtain ⟨rfl, p⟩ := p
  have e := T'.nil_al
  subst e
  exact q r v B' H' p (T.back T') T'.bb ra
/-- o.m(e, ..) -/
theorem methT {Cl : Addr} {m : Str} {k n : Nat} {S : Pl.Spec} {Pr : Res → Cells → Prop} {pl : PySem.Env → Sem Bool} (G : mt C k Cl m n S) (hk : k ≤ C.k) (hc : Cls C.K Cl) (hm : Mono S)
    (h : WE C E Γ Λ o fun x Λ1 => ∃ u ns ds, x = em κ u ∧ vw Λ1 x = .ins Cl ns ds ∧ m ∉ ns ∧ WA C E Γ Λ1 (e :: es) fun ds Λ2 => ∃ us, ds = ems κ us ∧ us.length + 1 = n ∧ S (ems κ (u :: us)) [] (fun r Λ' => Λ' = [] ∧ Pr r Λ2) fun _ _ => False)
    (he : plainE e = true) (hes : es.all plainE = true)
    (ht : ∀ env, eval (.Call (.Attribute o m apos) (e :: es) [] pos) env = (do
      let ov ← eval o env
      standAt apos.atName
      let (f, first) ← holding [ov] (getMethod ov m (pl env))
      callWith pos f first (backTo pos (starEach (e :: es) env)) (backToKw pos (keywordEach [] env)))) : ∀ X F W, C.Is X → Takes X W → PE X (.Call (.Attribute o m apos) (e :: es) [] pos) fun σ H Q => ∃ B α, Sat C.K F B α Γ Λ σ H ∧
      (∀ r v Λ' B' α' H' B0 H0, Pr r Λ' → Sat C.K F B' α' Γ Λ' σ H' → Ex B B' → α <+: α' → ResAt C.K ⟨H0, B0, []⟩ B' [] H' v r → (∀ a, H0 a = none → F.H0 a = none ∧ a ∉ α') → Q v H') ∧ ErOk C.K F W B σ Γ E := fun X F W is tk => by
  obtain ⟨f', fd, ps, h1, h2, h3⟩ := G.ex
  have e1 := is.prog; have e2 := is.w; have e3 := is.K; have e4 := is.mg; have e5 := is.base
  refine pe_imp (pe_meth (E := fun _ _ _ => False) (dvs := []) (ds := []) (pl := pl X.env) pe_U (by rw [e3]; exact hc) (by rw [e3]; exact h2) (by rw [e1, e2, e3, e4, e5]; exact h1) (is.room.mono hk) (by rw [e3]; exact h3) .nil
    passF pa_U (star_plain he) (back_plain hes) (ht _)) fun σ H Q ⟨B, α, T, q, er⟩ => ?_
  refine WE.use h is tk T er fun x Λ1 v B1 α1 H1 p1 T1 x1 f1 r1 => ?_
  obtain ⟨u, ns, ds, hxe, hx, hmn, p1⟩ := p1
  obtain ⟨a, dx, ws, rfl, g1, g2, g3⟩ := sat_ins T1 r1 hx
  refine ⟨a, dx, _, rfl, g1, look_none hmn, ?_⟩
  refine WA.use p1 is tk T1 (er.mono x1) fun ds2 Λ2 vs B2 α2 H2 p2 T2 x2 f2 r2 => ?_
  obtain ⟨us, hu, hl, s2⟩ := p2
  subst hu; subst hxe
  have rr : Reps C.K B2 α2 (ems κ (u :: us)) (.ref a :: vs) := .cons (r1.mono x2 f2) r2
  refine callS0 (κ := κ) (us := u :: us) (n := n) T2 rr hl s2 hm fun r v B' H' p' T' x' ra => ?_
  exact q r v Λ2 B' α2 H' B2 H2 p' T' ((x1.trans x2).trans x') (f1.trans f2) ra fun b hb => ⟨T2.dm b hb, fun hm => (T2.ah b hm).1 hb⟩
theorem we_methV {Cl : Addr} {m : Str} {k n : Nat} {P : D → Cells → Prop} {g : List U → M U} {pl : PySem.Env → Sem Bool} (G : mt C k Cl m n (spV κ n g)) (hk : k ≤ C.k) (hc : Cls C.K Cl)
    (h : WE C E Γ Λ o fun x Λ1 => ∃ u ns ds, x = em κ u ∧ vw Λ1 x = .ins Cl ns ds ∧ m ∉ ns ∧ WA C E Γ Λ1 (e :: es) fun ds Λ2 => ∃ us, ds = ems κ us ∧ us.length + 1 = n ∧ wp (g (u :: us)) (fun z => P (em κ z) Λ2) no)
    (he : plainE e = true := by rfl) (hes : es.all plainE = true := by rfl)
    (ht : ∀ env, eval (.Call (.Attribute o m apos) (e :: es) [] pos) env = (do
      let ov ← eval o env
      standAt apos.atName
      let (f, first) ← holding [ov] (getMethod ov m (pl env))
      callWith pos f first (backTo pos (starEach (e :: es) env)) (backToKw pos (keywordEach [] env))) := by intro _; rfl) : WE C E Γ Λ (.Call (.Attribute o m apos) (e :: es) [] pos) P := fun X F W is tk =>
  pe_imp (methT (κ := κ) (Pr := fun r Λ' => ∃ z, r = .val (em κ z) ∧ P (em κ z) Λ') G hk hc spV_mono (we_mono h fun x Λ1 ⟨u, ns, ds, a1, a2, a3, a4⟩ => ⟨u, ns, ds, a1, a2, a3, wa_mono a4 fun ds Λ2 ⟨us, b1, b2, b3⟩ => ⟨us, b1, b2, rfl, u :: us, rfl, by simpa using b2, wp_mono b3 (fun z hz => ⟨rfl, z, rfl, hz⟩) fun _ _ h => h.elim⟩⟩) he hes ht X F W is tk)
    fun σ H Q ⟨B, α, S, q, er⟩ => ⟨B, α, S, fun r v Λ' B' α' H' B0 H0 ⟨z, hr, p⟩ S' x f ra nw => by
      subst hr
      exact q _ Λ' v B' α' H' p S' x f (Rep.mono (Ex.refl _) List.nil_prefix _ v ra), er⟩
theorem wn_methN {Cl : Addr} {m : Str} {k n : Nat} {P : List D → Cells → Prop} {g : List U → M (List U)} {pl : PySem.Env → Sem Bool} (G : mt C k Cl m n (spN κ n g)) (hk : k ≤ C.k) (hc : Cls C.K Cl)
    (h : WE C E Γ Λ o fun x Λ1 => ∃ u ns ds, x = em κ u ∧ vw Λ1 x = .ins Cl ns ds ∧ m ∉ ns ∧ WA C E Γ Λ1 (e :: es) fun ds Λ2 => ∃ us, ds = ems κ us ∧ us.length + 1 = n ∧ wp (g (u :: us)) (fun z => P (ems κ z) Λ2) no)
    (he : plainE e = true := by rfl) (hes : es.all plainE = true := by rfl)
    (ht : ∀ env, eval (.Call (.Attribute o m apos) (e :: es) [] pos) env = (do
      let ov ← eval o env
      standAt apos.atName
      let (f, first) ← holding [ov] (getMethod ov m (pl env))
      callWith pos f first (backTo pos (starEach (e :: es) env)) (backToKw pos (keywordEach [] env))) := by intro _; rfl) : WN C E Γ Λ (.Call (.Attribute o m apos) (e :: es) [] pos) P := fun X F W is tk =>
  pe_imp (methT (κ := κ) (Pr := fun r Λ' => ∃ z, r = .new (ems κ z) ∧ P (ems κ z) Λ') G hk hc spN_mono (we_mono h fun x Λ1 ⟨u, ns, ds, a1, a2, a3, a4⟩ => ⟨u, ns, ds, a1, a2, a3, wa_mono a4 fun ds Λ2 ⟨us, b1, b2, b3⟩ => ⟨us, b1, b2, rfl, u :: us, rfl, by simpa using b2, wp_mono b3 (fun z hz => ⟨rfl, z, rfl, hz⟩) fun _ _ h => h.elim⟩⟩) he hes ht X F W is tk)
    fun σ H Q ⟨B, α, S, q, er⟩ => ⟨B, α, S, fun r v Λ' B' α' H' B0 H0 ⟨z, hr, p⟩ S' x f ra nw => by
      subst hr
      obtain ⟨pa, ws, rfl, q1, q2, q3, q4, q5⟩ := ra
      exact q _ Λ' pa ws B' α' H' p S' x f q1 q2 (nw pa q3).1 (nw pa q3).2 (q5.mono (Ex.refl _) List.nil_prefix), er⟩
/-- o.m() -/
theorem methT0 {Cl : Addr} {m : Str} {k : Nat} {S : Pl.Spec} {Pr : Res → Cells → Prop} {pl : PySem.Env → Sem Bool} (G : mt C k Cl m 1 S) (hk : k ≤ C.k) (hc : Cls C.K Cl) (hm : Mono S)
    (h : WE C E Γ Λ o fun x Λ1 => ∃ u ns ds, x = em κ u ∧ vw Λ1 x = .ins Cl ns ds ∧ m ∉ ns ∧ S (ems κ [u]) [] (fun r Λ' => Λ' = [] ∧ Pr r Λ1) fun _ _ => False)
    (ht : ∀ env, eval (.Call (.Attribute o m apos) [] [] pos) env = (do
      let ov ← eval o env
      standAt apos.atName
      let (f, first) ← holding [ov] (getMethod ov m (pl env))
      callWith pos f first (backTo pos (starEach [] env)) (backToKw pos (keywordEach [] env)))) : ∀ X F W, C.Is X → Takes X W → PE X (.Call (.Attribute o m apos) [] [] pos) fun σ H Q => ∃ B α, Sat C.K F B α Γ Λ σ H ∧
      (∀ r v Λ' B' α' H' B0 H0, Pr r Λ' → Sat C.K F B' α' Γ Λ' σ H' → Ex B B' → α <+: α' → ResAt C.K ⟨H0, B0, []⟩ B' [] H' v r → (∀ a, H0 a = none → F.H0 a = none ∧ a ∉ α') → Q v H') ∧ ErOk C.K F W B σ Γ E := fun X F W is tk => by
  obtain ⟨f', fd, ps, h1, h2, h3⟩ := G.ex
  have e1 := is.prog; have e2 := is.w; have e3 := is.K; have e4 := is.mg; have e5 := is.base
  refine pe_imp (pe_meth0 (E := fun _ _ _ => False) (dvs := []) (ds := []) (pl := pl X.env) pe_U (by rw [e3]; exact hc) (by rw [e3]; exact h2) (by rw [e1, e2, e3, e4, e5]; exact h1) (is.room.mono hk) (by rw [e3]; exact h3) .nil
    passF (ht _)) fun σ H Q ⟨B, α, T, q, er⟩ => ?_
  refine WE.use h is tk T er fun x Λ1 v B1 α1 H1 p1 T1 x1 f1 r1 => ?_
  obtain ⟨u, ns, ds, hxe, hx, hmn, s2⟩ := p1
  obtain ⟨a, dx, ws, rfl, g1, g2, g3⟩ := sat_ins T1 r1 hx
  subst hxe
  refine ⟨a, dx, _, rfl, g1, look_none hmn, ?_⟩
  have rr : Reps C.K B1 α1 (ems κ [u]) [.ref a] := .one r1
  refine callS0 (κ := κ) (us := [u]) (n := 1) (vs := [.ref a]) T1 rr rfl s2 hm fun r v B' H' p' T' x' ra => ?_
  exact q r v Λ1 B' α1 H' B1 H1 p' T' (x1.trans x') f1 ra fun b hb => ⟨T1.dm b hb, fun hm => (T1.ah b hm).1 hb⟩
theorem wn_methN0 {Cl : Addr} {m : Str} {k : Nat} {P : List D → Cells → Prop} {g : List U → M (List U)} {pl : PySem.Env → Sem Bool} (G : mt C k Cl m 1 (spN κ 1 g)) (hk : k ≤ C.k) (hc : Cls C.K Cl)
    (h : WE C E Γ Λ o fun x Λ1 => ∃ u ns ds, x = em κ u ∧ vw Λ1 x = .ins Cl ns ds ∧ m ∉ ns ∧ wp (g [u]) (fun z => P (ems κ z) Λ1) no)
    (ht : ∀ env, eval (.Call (.Attribute o m apos) [] [] pos) env = (do
      let ov ← eval o env
      standAt apos.atName
      let (f, first) ← holding [ov] (getMethod ov m (pl env))
      callWith pos f first (backTo pos (starEach [] env)) (backToKw pos (keywordEach [] env))) := by intro _; rfl) : WN C E Γ Λ (.Call (.Attribute o m apos) [] [] pos) P := fun X F W is tk =>
  pe_imp (methT0 (κ := κ) (Pr := fun r Λ' => ∃ z, r = .new (ems κ z) ∧ P (ems κ z) Λ') G hk hc spN_mono (we_mono h fun x Λ1 ⟨u, ns, ds, a1, a2, a3, b3⟩ => ⟨u, ns, ds, a1, a2, a3, rfl, [u], rfl, rfl, wp_mono b3 (fun z hz => ⟨rfl, z, rfl, hz⟩) fun _ _ h => h.elim⟩) ht X F W is tk)
    fun σ H Q ⟨B, α, S, q, er⟩ => ⟨B, α, S, fun r v Λ' B' α' H' B0 H0 ⟨z, hr, p⟩ S' x f ra nw => by
      subst hr
      obtain ⟨pa, ws, rfl, q1, q2, q3, q4, q5⟩ := ra
      exact q _ Λ' pa ws B' α' H' p S' x f q1 q2 (nw pa q3).1 (nw pa q3).2 (q5.mono (Ex.refl _) List.nil_prefix), er⟩
/-- what an __init__ promises: the new thing is handed, its one field is set -/
def spI (κ : Kl) (n : Nat) (Cl : Addr) (f : Str) (g : List U → M U) : Pl.Spec := fun ds Λ Q _ => Λ = [.ins Cl [] []] ∧ ∃ us, ds = .loc 0 :: ems κ us ∧ us.length + 1 = n ∧ wp (g us) (fun z => Q (.val .non) [.ins Cl [f] [em κ z]]) no
theorem spI_mono {n : Nat} {Cl : Addr} {f : Str} {g : List U → M U} : Mono (spI κ n Cl f g) := fun ds Λ Q Q' E E' ⟨h0, us, h1, h2, h3⟩ i j => ⟨h0, us, h1, h2, wp_mono h3 (fun z h => i _ _ h) fun c es h => h⟩
theorem spI_none {n : Nat} {Cl : Addr} {f : Str} {g : List U → M U} (hf : ∀ us, g us = .stuck) (ds : List D) (Λ : Cells) (Q : Res → Cells → Prop) (E : Err → Cells → Prop) : ¬ spI κ n Cl f g ds Λ Q E := fun ⟨_, us, _, _, h⟩ => by rw [hf] at h; exact h
/-- C(e, ..): a new thing, owned -/
theorem we_make {Cl : Addr} {x : Str} {k n : Nat} {f : Str} {P : D → Cells → Prop} {g : List U → M U} (G : it C k Cl n (spI κ n Cl f g)) (hk : k + 1 ≤ C.k) (hj : GlAt C x) (hg : C.mg x = some (.ref Cl))
    (h : WA C E Γ Λ (e :: es) fun ds Λ1 => ∃ us, ds = ems κ us ∧ us.length + 1 = n ∧ wp (g us) (fun z => P (.loc Λ1.length) (Λ1 ++ [.ins Cl [f] [em κ z]])) no)
    (he : plainE e = true := by rfl) (hes : es.all plainE = true := by rfl) (hdb : (x == ("__debug__" : Str)) = false := by decide) : WE C E Γ Λ (.Call (.Name x p) (e :: es) [] pos) P := fun X F W is tk => by
  obtain ⟨f', fd, ps, h1, h2, h3⟩ := G.ex
  have e1 := is.prog; have e2 := is.w; have e3 := is.K; have e4 := is.mg; have e5 := is.base
  refine pe_imp (pe_make (E := fun _ _ _ => False) (dvs := []) (ds := []) (by rw [e3]; exact h2) (by rw [e1, e2, e3, e4, e5]; exact h1) (is.room.mono hk) (is.gl hj) (by rw [e4]; exact hg) (by rw [e3]; exact h3) .nil
    passF pa_U hdb (star_plain he) (back_plain hes)) fun σ H Q ⟨B, α, T, q, er⟩ => ?_
  refine WA.use h is tk T er fun ds Λ1 vs B1 α1 H1 p1 T1 x1 f1 r1 => ?_
  obtain ⟨us, hu, hl, s1⟩ := p1
  subst hu
  intro y dx hy hdx ne
  have hex : Ex H1 (upd (upd H1 dx (.own y)) y (.ins Cl dx [])) := (Ex.new hdx).trans (Ex.new (by rw [upd_ne (fun z => ne z.symm)]; exact hy))
  have T2 := T1.own (p := y) (c := .ins Cl [] []) hy hex (by rw [upd_same]; simp) fun α' _ => ⟨dx, [], upd_same, .nil, rfl⟩
  have hca : cellsAt (Λ1 ++ [.ins Cl [] []]) [Λ1.length] = [.ins Cl [] []] := by simp [cellsAt]
  have hh : Hand (Λ1 ++ [.ins Cl [] []]) [Λ1.length] := ⟨by simp, fun n hn => by simp at hn; subst hn; simp, by rw [hca]; rfl⟩
  have hα : (α1 ++ [y])[Λ1.length]? = some y := by rw [← T1.al, List.getElem?_append_right (Nat.le_refl _)]; simp
  have had : adsAt (α1 ++ [y]) [Λ1.length] = [y] := by simp [adsAt, hα]
  have rr : Reps C.K B1 [y] (.loc 0 :: ems κ us) (.ref y :: vs) := .cons (by unfold Rep; exact ⟨y, rfl, rfl⟩) (Reps.nl _ vs (nls_em us) r1)
  refine ⟨⟨upd (upd H1 dx (.own y)) y (.ins Cl dx []), B1, adsAt (α1 ++ [y]) [Λ1.length]⟩, .loc 0 :: ems κ us, cellsAt (Λ1 ++ [.ins Cl [] []]) [Λ1.length], ?_, rfl, T2.enterC hh, ?_, hca, us, rfl, hl, wp_mono s1 (fun z hz v H2 B' α' T' ra => ?_) fun _ _ h => h.elim⟩
  · rw [List.append_nil, List.length_cons, r1.length, ems_len, hl]
  · rw [List.append_nil, had]; exact rr
  · have S2 := T2.backC hh T' (by show (nl (em κ z) && true && true) = true; rw [nl_em]; rfl)
    have ha' : α'.length = 1 := T'.al
    have e6 : adsB (α1 ++ [y]) [Λ1.length] α' = α1 ++ [y] := by
      unfold adsB
      rw [List.drop_of_length_le (by simp [ha']), List.append_nil]
    have e7 : putB (Λ1 ++ [.ins Cl [] []]) [Λ1.length] [.ins Cl [f] [em κ z]] = Λ1 ++ [.ins Cl [f] [em κ z]] := by
      simp [putB, setAll]
    rw [e6, e7] at S2
    have hv : v = .non := by unfold ResAt Rep at ra; exact ra
    refine ⟨hv, q _ _ _ B' _ H2 hz S2 (x1.trans T'.bb) (f1.trans (List.prefix_append _ _)) ?_⟩
    unfold Rep
    exact ⟨y, rfl, hα⟩
variable {R : Rs}
/-- self.f = e, the first field -/
theorem ws_fld {Cl : Addr} {pos2 : Pos} (hc : Cls C.K Cl) (hn : NoAttr C.K Cl f) (h : WE C R.er Γ Λ e fun d Λ1 => WE C R.er Γ Λ1 o fun x Λ2 => ∃ n, x = .loc n ∧ Λ2[n]? = some (.ins Cl [] []) ∧ R.nx Γ (Λ2.set n (.ins Cl [f] [d])))
    (hs : ∀ env, swapsWith e (some (.Attribute o f pos2)) pos.line env = pure false := by intro _; rfl) : WS C Γ Λ (.Assign [.Attribute o f pos2] e pos) R := fun X F W is hm tk => by
  refine ps_imp (L2.ps_fld pe_U pe_U (hs _)) fun Dn σ H ⟨B, α, S, q⟩ => ?_
  refine WE.use h is tk S q.er.at fun d Λ1 v B1 α1 H1 p1 S1 e1 f1 r1 => ?_
  refine WE.use p1 is tk S1 (q.er.mono e1).at fun x Λ2 vx B2 α2 H2 p2 S2 e2 f2 r2 => ?_
  obtain ⟨n, rfl, hn2, p⟩ := p2
  unfold Rep at r2
  obtain ⟨a, rfl, ha⟩ := r2
  obtain ⟨a', q1, q2, q3, dx, vs, q4, q5, q6⟩ := S2.ce n _ hn2 (by simp)
  rw [ha] at q1; cases q1
  have hvs : vs = [] := by unfold Reps at q5; exact q5
  subst hvs
  refine ⟨a, Cl, dx, [], rfl, q4, by rw [is.K]; exact hc, by rw [is.K]; exact hn, by simp, ?_⟩
  exact q.nx Γ _ B2 α2 σ _ p (S2.put ha q2 ⟨dx, [v], upd_same, .one (r1.mono e2 f2), rfl⟩) (e1.trans e2)
end
/-- a thing that was owned is seen from now on -/
theorem freezeMI {κ : Kl} {C : Pl.Ctx} {Γ : Pl.Env} {Λ : Cells} {R : Rs} {st : List Stmt} (n j : Nat) (c : Str) (us : List U) (hm0 : C.m ≤ n) (ns : List Str) (hf : κ.fs c = ns) (hn : Λ[n]? = some (.ins (κ.ad c) ns (ems κ us))) (hg : Γ[j]? = some (some (.loc n))) (h : WSs C (Γ.set j (some (em κ (.ins c us)))) (Λ.set n .gone) st R) : WSs C Γ Λ st R := fun X F W is hm tk => by
  subst hf
  refine pss_imp pss_U fun Dn σ H ⟨B, α, S, q⟩ => ?_
  obtain ⟨a, q1, q2, q3, dx, vs, q4, q5, q6⟩ := S.ce n _ hn (by simp)
  have h0 : F.H0 a = none := by
    rcases q3 with z | z
    · exact z
    · exfalso
      obtain ⟨i, hi⟩ := List.getElem?_of_mem z
      have hi' := pre_get S.pf hi
      have : i = n := (List.getElem?_inj (List.getElem?_eq_some_iff.mp hi').1 S.nd).mp (hi'.trans q1.symm)
      have := (List.getElem?_eq_some_iff.mp hi).1
      have hm : F.α0.length ≤ C.m := hm
      omega
  have hx : Ex B (upd B a (.ins (κ.ad c) dx ((κ.fs c).zip vs))) := Ex.new q2
  have nl : n < Λ.length := (List.getElem?_eq_some_iff.mp hn).1
  refine WSs.use h is hm tk (B := upd B a (.ins (κ.ad c) dx ((κ.fs c).zip vs))) (α := α) ⟨S.bb.trans hx, fun b u hb => ?_, fun b u hb => ?_, S.kp, S.dm, S.pf, S.nd, by simp [S.al], fun m c' hc hg' => ?_, S.ah, fun i d hi => ?_, by simpa using S.ln⟩ (q.mono hx)
  · by_cases e : b = a
    · subst e; rw [upd_same] at hb; rw [← hb]; exact q4
    · rw [upd_ne e] at hb; exact S.bh b u hb
  · by_cases e : b = a
    · subst e; exact .inr h0
    · rw [upd_ne e] at hb; exact S.fr b u hb
  · by_cases e : n = m
    · subst e
      rw [List.getElem?_set_self nl] at hc
      cases hc
      exact absurd rfl hg'
    · rw [List.getElem?_set_ne e] at hc
      obtain ⟨b, k1, k2, k3, k4⟩ := S.ce m c' hc hg'
      have hba : b ≠ a := fun z => by
        subst z
        exact e ((List.getElem?_inj (by rw [S.al]; exact nl) S.nd).mp (q1.trans k1.symm))
      exact ⟨b, k1, by rw [upd_ne hba]; exact k2, k3, k4.mono hx (List.prefix_refl _) fun u z => z⟩
  · by_cases e : j = i
    · subst e
      rw [List.getElem?_set_self (List.getElem?_eq_some_iff.mp hg).1] at hi
      cases hi
      obtain ⟨v, k1, k2⟩ := S.sl j _ hg
      unfold Rep at k2
      obtain ⟨a', rfl, k3⟩ := k2
      rw [q1] at k3; cases k3
      refine ⟨_, k1, ?_⟩
      show Rep _ _ _ (.ins (κ.ad c) (κ.fs c) (ems κ us)) _
      unfold Rep
      exact ⟨a, dx, vs, rfl, upd_same, q5.mono hx (List.prefix_refl _), q6⟩
    · rw [List.getElem?_set_ne e] at hi
      obtain ⟨v, k1, k2⟩ := S.sl i d hi
      exact ⟨v, k1, k2.mono hx (List.prefix_refl _)⟩
/-! defs of classes -/
section
variable {κ : Kl} {G : Gl} {Cl : Addr}
abbrev Glmt (G : Gl) := Mt G.P G.w G.K G.mg G.base
abbrev Glit (G : Gl) := It G.P G.w G.K G.mg G.base
theorem MethAt.fn {m qual : Str} {st : Stmt} {ps : List Str} (h : MethAt G.K Cl m qual st ps) {k : Nat} {S : Pl.Spec} (H : ∀ (f : Addr) (fd : FuncData), Fun G.K m qual st f fd → FnOk G.P G.w G.K G.mg G.base (L2.CX G.P G.w) k f fd ps (spOf G.K ps.length S)) : Glmt G k Cl m ps.length S := by
  obtain ⟨f, fd, h1, h2, h3⟩ := h.ex
  exact ⟨f, fd, ps, H f fd h1, h2, .all h3⟩
theorem InitAt.fn {qual : Str} {st : Stmt} {ps : List Str} (h : InitAt G.K Cl qual st ps) {k : Nat} {S : Pl.Spec} (H : ∀ (f : Addr) (fd : FuncData), Fun G.K "__init__" qual st f fd → FnOk G.P G.w G.K G.mg G.base (L2.CX G.P G.w) k f fd ps (spOf G.K ps.length S)) : Glit G k Cl ps.length S := by
  obtain ⟨f, fd, h1, h2, h3⟩ := h.ex
  exact ⟨f, fd, ps, H f fd h1, h2, .all h3⟩
/-- a method of pure data -/
theorem meth_V {m qual : Str} {st : Stmt} {ps : List Str} (h : MethAt G.K Cl m qual st ps) {N : List Str} {vs ls : List Bool} {gl : List Str} {k : Nat} {f : List U → M U} (sc : FnScope N ps (defScope st)) (good : goodC N (defScope st) vs ls gl = true)
    (hb : ∀ us, us.length = ps.length → ∀ Q Eh, wp (f us) Q Eh → WSs (G.cx N (defScope st) vs ls gl k 0) (Γ0 N (ems κ us)) [] (defBody st) ⟨fun _ _ => Q .non, rtV κ Q, fun _ _ => False, fun _ _ => False, erM κ Eh⟩) : Glmt G (k + 1) Cl m ps.length (spV κ ps.length f) :=
  h.fn fun fa fd F => fn_okC F sc (G.cx N (defScope st) vs ls gl k 0) ⟨rfl, rfl, rfl, rfl, rfl, rfl, rfl, rfl⟩ (good_by good) (fun ds Λ Q E ⟨h, _⟩ => by subst h; exact Nat.le_refl _) fun ds Λ Q E hl ⟨h0, us, h1, h2, h3⟩ => by
    subst h0; subst h1
    refine wss_mono (hb us h2 _ _ h3) ⟨fun Γ Λ p => ?_, fun r Λ p => ?_, fun _ _ z => z, fun _ _ z => z, fun e Γ Λ p => ?_⟩
    · exact ⟨0, Nat.le_refl _, rfl, .inl ⟨rfl, p⟩⟩
    · rcases p with ⟨u, rfl, q⟩ | ⟨n, ks, us, rfl, q1, q2⟩
      · exact ⟨0, Nat.le_refl _, rfl, .inl ⟨ltD_nl _ (nl_em u), q⟩⟩
      · exact ⟨0, Nat.le_refl _, rfl, .inr (.inr ⟨n, ks, _, Nat.zero_le _, rfl, q1, nls_em us, q2⟩)⟩
    · obtain ⟨c, es, rfl, q⟩ := p
      exact ⟨nlE_errD, rfl, q⟩
theorem meth_N {m qual : Str} {st : Stmt} {ps : List Str} (h : MethAt G.K Cl m qual st ps) {N : List Str} {vs ls : List Bool} {gl : List Str} {k : Nat} {f : List U → M (List U)} (sc : FnScope N ps (defScope st)) (good : goodC N (defScope st) vs ls gl = true)
    (hb : ∀ us, us.length = ps.length → ∀ Q Eh, wp (f us) Q Eh → WSs (G.cx N (defScope st) vs ls gl k 0) (Γ0 N (ems κ us)) [] (defBody st) ⟨fun _ _ => False, rtL κ Q, fun _ _ => False, fun _ _ => False, erM κ Eh⟩) : Glmt G (k + 1) Cl m ps.length (spN κ ps.length f) :=
  h.fn fun fa fd F => fn_okC F sc (G.cx N (defScope st) vs ls gl k 0) ⟨rfl, rfl, rfl, rfl, rfl, rfl, rfl, rfl⟩ (good_by good) (fun ds Λ Q E ⟨h, _⟩ => by subst h; exact Nat.le_refl _) fun ds Λ Q E hl ⟨h0, us, h1, h2, h3⟩ => by
    subst h0; subst h1
    refine wss_mono (hb us h2 _ _ h3) ⟨fun Γ Λ p => p.elim, fun r Λ p => ?_, fun _ _ z => z, fun _ _ z => z, fun e Γ Λ p => ?_⟩
    · rcases p with ⟨u, rfl, q⟩ | ⟨n, us, rfl, q1, q2⟩
      · exact ⟨0, Nat.le_refl _, rfl, .inl ⟨nls_em u, q⟩⟩
      · exact ⟨0, Nat.le_refl _, rfl, .inr (.inl ⟨n, _, Nat.zero_le _, rfl, q1, nls_em us, q2⟩)⟩
    · obtain ⟨c, es, rfl, q⟩ := p
      exact ⟨nlE_errD, rfl, q⟩
/-- an __init__ -/
theorem init_I {qual : Str} {st : Stmt} {ps : List Str} (h : InitAt G.K Cl qual st ps) {N : List Str} {vs ls : List Bool} {gl : List Str} {k : Nat} {f : Str} {g : List U → M U} (sc : FnScope N ps (defScope st)) (good : goodC N (defScope st) vs ls gl = true)
    (hb : ∀ us, us.length + 1 = ps.length → ∀ Q, wp (g us) Q no → WSs (G.cx N (defScope st) vs ls gl k 1) (Γ0 N (.loc 0 :: ems κ us)) [.ins Cl [] []] (defBody st) ⟨fun _ Λ' => ∃ z, Λ'[0]? = some (.ins Cl [f] [em κ z]) ∧ Q z, fun _ _ => False, fun _ _ => False, fun _ _ => False, ER.none⟩) : Glit G (k + 1) Cl ps.length (spI κ ps.length Cl f g) :=
  h.fn fun fa fd F => fn_okC F sc (G.cx N (defScope st) vs ls gl k 1) ⟨rfl, rfl, rfl, rfl, rfl, rfl, rfl, rfl⟩ (good_by good) (fun ds Λ Q E ⟨h, _⟩ => by subst h; exact Nat.le_refl _) fun ds Λ Q E hl ⟨h0, us, h1, h2, h3⟩ => by
    subst h0; subst h1
    refine wss_mono (hb us h2 _ h3) ⟨fun Γ Λ p => ?_, fun r Λ p => p.elim, fun _ _ z => z, fun _ _ z => z, fun e Γ Λ p => p.elim⟩
    obtain ⟨z, q1, q2⟩ := p
    have e : Λ.take 1 = [.ins Cl [f] [em κ z]] := by
      cases Λ with
      | nil => simp at q1
      | cons c Λ => simp at q1; subst q1; rfl
    refine ⟨1, Nat.le_refl _, by rw [e]; show (nl (em κ z) && true && true) = true; rw [nl_em]; rfl, .inl ⟨rfl, ?_⟩⟩
    rw [e]; exact q2
end
end Sh

/-! Sh13: a loop over a list of owned lists, its body one expression. -/
namespace Sh
open PySem L2 Pl PyProof.Rows Law
def LoopE (C : Pl.Ctx) (tg : Expr) (vs : List Nat) (e : Expr) (R : Rs) : List Nat → Pl.Env → Cells → Prop
  | [], Γ, Λ => R.nx Γ Λ
  | n :: ns, Γ, Λ => WG C Γ Λ tg (.loc n) vs fun Γ' => WE C R.er Γ' Λ e fun _ Λ' => LoopE C tg vs e R ns Γ' Λ'
section
variable {C : Pl.Ctx} {Γ : Pl.Env} {Λ : Cells} {R : Rs} {pos pos2 : Pos}
theorem ws_forE {tg iter e : Expr} (vs : List Nat) (h : WE C R.er Γ Λ iter fun d Λ' => ∃ ns : List Nat, d = .lst (ns.map .loc) ∧ LoopE C tg vs e R ns Γ Λ') (hc : noComp e = true := by rfl)
    (hs : ∀ (env : PySem.Env) x, foldedSetIterable iter env x = pure x := by intro _ _; rfl) : WS C Γ Λ (.For tg iter [.Expr e pos2] [] pos) R := fun X F W is hm tk => by
  refine ps_imp (ps_for is.po is.calm (pi_list pe_U) pg_U (pss_one (ps_expr pe_U (noSwap hc))) (hs X.env)) fun Dn σ H ⟨B, α, S, q⟩ => ?_
  refine WE.use h is tk S q.er.at fun d Λ' v B' α' H' p S' e0 f0 r => ?_
  obtain ⟨ns, rfl, p⟩ := p
  unfold Rep at r
  obtain ⟨a, xs, rfl, hB, rs⟩ := r
  have hlen : xs.length = ns.length := by rw [rs.length, List.length_map]
  refine ⟨a, rfl, ⟨xs, by rw [is.K]; exact SqL.of (S'.bh _ _ hB)⟩, ?_⟩
  refine ⟨fun i m σ1 H1 => m = ns.length - i ∧ i ≤ ns.length ∧ ∃ B1 α1 Γ1 Λ1, Sat C.K F B1 α1 Γ1 Λ1 σ1 H1 ∧ Ex B' B1 ∧ α' <+: α1 ∧ LoopE C tg vs e R (ns.drop i) Γ1 Λ1, ⟨_, rfl, Nat.zero_le _, B', α', Γ, Λ', S', Ex.refl _, List.prefix_refl _, p⟩, ?_⟩
  rintro i m σ1 H1 ⟨rfl, hi, B1, α1, Γ1, Λ1, S1, e1, f1, lp⟩
  have hq : SqL X.K H1 a xs := by rw [is.K]; exact SqL.of (S1.bh _ _ (e1 _ _ hB))
  by_cases hlt : i < ns.length
  · obtain ⟨xi, hxi⟩ : ∃ xi, xs[i]? = some xi := ⟨_, List.getElem?_eq_getElem (by omega)⟩
    refine .inr ⟨⟨xs, xi, hq, hxi⟩, fun σ2 H2 => i + 1 ≤ ns.length ∧ ∃ B2 α2 Γ2 Λ2, Sat C.K F B2 α2 Γ2 Λ2 σ2 H2 ∧ Ex B' B2 ∧ α' <+: α2 ∧ LoopE C tg vs e R (ns.drop (i + 1)) Γ2 Λ2, fun σ2 H2 ⟨h1, h2⟩ => ⟨ns.length - (i + 1), by omega, rfl, h1, h2⟩, fun x H2 y => ?_⟩
    obtain ⟨rfl, y⟩ := y
    have hx := y xs hq
    rw [hxi] at hx; cases hx
    have r2 : Rep C.K B1 α1 (.loc ns[i]) xi := by
      have := rs.get (i := i) (d := .loc ns[i]) (by rw [List.getElem?_map, List.getElem?_eq_getElem hlt]; rfl)
      obtain ⟨v, h1, h2⟩ := this
      rw [hxi] at h1; cases h1
      exact h2.mono e1 f1
    rw [List.drop_eq_getElem_cons hlt] at lp
    refine ⟨_, lp X F is, B1, α1, S1, r2, fun Γ3 σ3 p3 S3 ag => ?_⟩
    refine WE.use p3 is tk S3 ((q.er.mono e0).mono e1).at fun d Λ4 v B4 α4 H4 hr S4 e4 f4 _ => ?_
    exact ⟨hlt, B4, α4, Γ3, Λ4, S4, e1.trans e4, f1.trans f4, hr⟩
  · have e' : i = ns.length := by omega
    subst e'
    rw [List.drop_length] at lp
    exact .inl ⟨⟨xs, hq, by omega⟩, q.nx Γ1 Λ1 B1 α1 σ1 H1 lp S1 (e0.trans e1)⟩
end
end Sh
namespace Sh
open PySem L2 Pl PyProof.Rows Law
section
variable {κ : Kl} {C : Pl.Ctx} {E : ER} {Γ : Pl.Env} {Λ : Cells} {pos : Pos} {a b : Expr} {P : D → Cells → Prop}
theorem dvs_get {ds : List D} : ∀ {us : List U} {i : Nat} {u : U}, dvs Λ ds = ems κ us → us[i]? = some u → ∃ d, ds[i]? = some d ∧ Vx κ Λ d u := by
  induction ds with
  | nil => intro us i u h e; cases us with
    | nil => simp at e
    | cons _ _ => cases h
  | cons d ds ih =>
    intro us i u h e
    cases us with
    | nil => cases h
    | cons w us =>
      rw [dvs, ems, List.cons.injEq] at h
      cases i with
      | zero => simp at e; subst e; exact ⟨d, rfl, h.1⟩
      | succ i => exact ih h.2 (by simpa using e)
theorem dvs_len {ds : List D} : ∀ {us : List U}, dvs Λ ds = ems κ us → ds.length = us.length := by
  induction ds with
  | nil => intro us h; cases us with
    | nil => rfl
    | cons _ _ => cases h
  | cons d ds ih => intro us h; cases us with
    | nil => cases h
    | cons u us => rw [dvs, ems, List.cons.injEq] at h; simp [ih h.2]
theorem ixX_m {α : Type} {Q : α → Prop} {Eh : Str → List U → Prop} {k : U → M α} {x y : D} {P' : D → Prop} (ds : List D) (us : List U) (v : U) (hd : seqD Λ x = some ds) (hx : dvs Λ ds = ems κ us) (hy : Vw κ Λ y v) (h : wp ((ixM (.lst us) v).bind k) Q Eh) (i : ∀ d z, Vx κ Λ d z → wp (k z) Q Eh → P' d) : ∃ ds i d, seqD Λ x = some ds ∧ y = .int i ∧ atI ds i = some d ∧ P' d := by
  replace h := wp_bind h
  unfold ixM at h
  split at h
  · rename_i e; cases e
  · rename_i j e
    dsimp only [seqU] at h
    split at h
    · rename_i w hw
      have hy2 := hy.atom (by simp) (by simp) (by simp)
      subst hy2
      unfold L2.atI at hw
      cases hn : ixN us.length j with
      | none => rw [hn] at hw; cases hw
      | some n =>
        rw [hn] at hw
        obtain ⟨d, h1, h2⟩ := dvs_get hx hw
        exact ⟨ds, j, d, hd, rfl, by unfold L2.atI; rw [dvs_len hx, hn]; exact h1, i d w h2 h⟩
    · exact h.elim
  · exact h.elim
end
end Sh
namespace Sh
open PySem L2 Pl PyProof.Rows Law
/-! classes in the text -/
/-- the one field of a thing of the class c -/
def fldM (c : Str) : U → M U
  | .ins c' [k] => if c' = c then .ok k else .stuck
  | _ => .stuck
@[simp] theorem fldM_ok {c : Str} {k : U} : fldM c (.ins c [k]) = .ok k := if_pos rfl
section
variable {κ : Kl} {Λ : Cells} {α : Type} {Q : α → Prop} {Eh : Str → List U → Prop} {c f : Str} {u : U} {k : U → M α}
theorem fldM_is {P : U → Prop} {E : Str → List U → Prop} (h : wp (fldM c u) P E) : ∃ z, u = .ins c [z] ∧ P z := by
  unfold fldM at h
  split at h
  · split at h
    · rename_i e; subst e; exact ⟨_, rfl, h⟩
    · exact h.elim
  · exact h.elim
theorem vw_ins {z : U} (hf : κ.fs c = [f]) : vw Λ (em κ (.ins c [z])) = .ins (κ.ad c) [f] [em κ z] := by rw [vw_em, em, hf]; rfl
theorem methO {m : Str} {A : U → Prop} (u : U) (hf : κ.fs c = [f]) (hm : m ∉ [f]) (h : wp ((fldM c u).bind k) Q Eh) (i : ∀ z, wp (k z) Q Eh → A u) : ∃ u' ns ds, em κ u = em κ u' ∧ vw Λ (em κ u) = .ins (κ.ad c) ns ds ∧ m ∉ ns ∧ A u' := by
  obtain ⟨z, rfl, h2⟩ := fldM_is (wp_bind h)
  exact ⟨_, _, _, rfl, vw_ins hf, hm, i z h2⟩
theorem fldO {P : D → Prop} (u : U) (hf : κ.fs c = [f]) (h : wp ((fldM c u).bind k) Q Eh) (i : ∀ z, wp (k z) Q Eh → P (em κ z)) : ∃ ns ds d, vw Λ (em κ u) = .ins (κ.ad c) ns ds ∧ (ns.zip ds).lookup f = some d ∧ P d := by
  obtain ⟨z, rfl, h2⟩ := fldM_is (wp_bind h)
  exact ⟨_, _, _, vw_ins hf, by simp, i z h2⟩
theorem finKm {β : Type} {m : M β} {k : β → M α} {P : β → Prop} (h : wp (m.calm.bind k) Q Eh) (i : ∀ z, wp (k z) Q Eh → P z) : wp m P no := wp_mono (wp_calm (wp_bind h)) i fun _ _ h => h
end
section
variable {G : Gl} {Cl : Addr}
theorem MethAt.none {m qual : Str} {st : Stmt} {ps : List Str} (h : MethAt G.K Cl m qual st ps) {k : Nat} {S : Pl.Spec} (hS : ∀ ds Λ Q E, ¬ S ds Λ Q E) : Glmt G k Cl m ps.length S :=
  h.fn fun f fd F => ⟨fun vs H Q E ⟨_, _, _, _, _, _, _, z⟩ => absurd z (hS _ _ _ _), fun A outer s H args us vs Q E _ _ _ _ ⟨_, _, _, _, _, _, _, z⟩ => absurd z (hS _ _ _ _)⟩
theorem InitAt.none {qual : Str} {st : Stmt} {ps : List Str} (h : InitAt G.K Cl qual st ps) {k : Nat} {S : Pl.Spec} (hS : ∀ ds Λ Q E, ¬ S ds Λ Q E) : Glit G k Cl ps.length S :=
  h.fn fun f fd F => ⟨fun vs H Q E ⟨_, _, _, _, _, _, _, z⟩ => absurd z (hS _ _ _ _), fun A outer s H args us vs Q E _ _ _ _ ⟨_, _, _, _, _, _, _, z⟩ => absurd z (hS _ _ _ _)⟩
end
/-- a text of the module -/
def StrAt (mg : Str → Option Value) (x : Str) (s : Str) : Prop := ∃ t, mg x = some (.str s t)
section
variable {κ : Kl} {C : Pl.Ctx} {E : ER} {Γ : Pl.Env} {Λ : Cells} {P : D → Cells → Prop} {pos apos cpos : Pos} {o e : Expr}
theorem we_gstr {x s : Str} (hj : GlAt C x) (hm : StrAt C.mg x s) (h : P (.str s) Λ) (hd : (x == ("__debug__" : Str)) = false := by decide) : WE C E Γ Λ (.Name x pos) P := fun X F W is tk => by
  obtain ⟨t, hm⟩ := hm
  refine pe_imp (pe_glob (v := .str s) (is.gl hj) (by rw [is.mg]; exact hm) ⟨t, rfl⟩ hd) fun σ H Q ⟨B, α, S, q, er⟩ => ?_
  exact q _ Λ _ B α H h S (Ex.refl B) (List.prefix_refl _) (by unfold Rep; rfl)
def IntAt (mg : Str → Option Value) (x : Str) (i : Int) : Prop := ∃ t, mg x = some (.int i t)
theorem we_gint {x : Str} {i : Int} (hj : GlAt C x) (hm : IntAt C.mg x i) (h : P (.int i) Λ) (hd : (x == ("__debug__" : Str)) = false := by decide) : WE C E Γ Λ (.Name x pos) P := fun X F W is tk => by
  obtain ⟨t, hm⟩ := hm
  refine pe_imp (pe_glob (v := .int i) (is.gl hj) (by rw [is.mg]; exact hm) ⟨t, rfl⟩ hd) fun σ H Q ⟨B, α, S, q, er⟩ => ?_
  exact q _ Λ _ B α H h S (Ex.refl B) (List.prefix_refl _) (by unfold Rep; rfl)
def asStrs : List U → Option (List Str)
  | [] => some []
  | .str s :: us => (asStrs us).map (s :: ·)
  | _ => none
/-- s.join(xs) -/
def joinM (x y : U) : M U := match x with
  | .str a => match itemsL y with
    | some us => match asStrs us with
      | some ys => if (ys.map (·.length)).sum + ys.length * a.length ≤ 1000000 then .ok (.str (Txt.join a ys)) else .stuck
      | none => .stuck
    | none => .stuck
  | _ => .stuck
theorem strs_em : ∀ {us : List U} {ys : List Str}, asStrs us = some ys → ems κ us = ys.map .str
  | [], ys, e => by cases e; rfl
  | .str i :: us, ys, e => by
    simp only [asStrs, Option.map_eq_some_iff] at e
    obtain ⟨ms, e1, rfl⟩ := e
    rw [ems, strs_em e1]; rfl
theorem strs_rep {K : PySem.W.Frag} {B : Hp} {α : List Addr} : ∀ {ys : List Str} {vs : List V}, Reps K B α (ys.map .str) vs → vs = ys.map V.str
  | [], _, h => by unfold Reps at h; exact h
  | y :: ys, _, h => by
    rw [List.map_cons] at h
    unfold Reps at h
    obtain ⟨v, r, rfl, h1, h2⟩ := h
    unfold Rep at h1
    rw [h1, strs_rep h2]; rfl
theorem we_joinM (h : WE C E Γ Λ o fun x Λ1 => ∃ a, x = .str a ∧ WE C E Γ Λ1 e fun y Λ2 => ∃ v, Vw κ Λ2 y v ∧ wp (joinM (.str a) v) (fun z => P (em κ z) Λ2) Tr)
    (ho : plainO o = true := by rfl) (he : plainE e = true := by rfl) (hl : (apos.endLine == cpos.line) = true := by rfl) : WE C E Γ Λ (.Call (.Attribute o "join" apos) [e] [] cpos) P := fun X F W is tk => by
  refine pe_imp (pe_join pe_U pe_U (star_plain he) (base_plain ho) hl) fun σ H Q ⟨B, α, S, q, er⟩ => ?_
  refine WE.use h is tk S er fun x Λ1 vx B1 α1 H1 p1 S1 e1 f1 r1 => ?_
  obtain ⟨a, rfl, p1⟩ := p1
  unfold Rep at r1
  subst r1
  refine ⟨⟨a, rfl⟩, ?_⟩
  refine WE.use p1 is tk S1 (er.mono e1) fun y Λ2 vy B2 α2 H2 p2 S2 e2 f2 r2 => ?_
  obtain ⟨v, hv, p⟩ := p2
  unfold joinM at p
  dsimp only at p
  split at p
  · rename_i us hu
    split at p
    · rename_i ys hy
      split at p
      · rename_i hle
        obtain ⟨b, ws, rfl, g1, g2⟩ := S2.seqL r2 (items_of hv hu)
        rw [strs_em hy] at g2
        rw [strs_rep g2] at g1
        exact ⟨a, b, ys, rfl, rfl, .inl (by rw [is.K]; exact g1), by omega, q _ Λ2 _ B2 α2 H2 p S2 (e1.trans e2) (f1.trans f2) (by show Rep _ _ _ (.str _) _; unfold Rep; rfl)⟩
      · exact p.elim
    · exact p.elim
  · exact p.elim
end
end Sh

/-! Sh14: zip of a text with a list. -/
namespace Sh
open PySem L2 Pl PyProof.Rows Law
/-- the signs of x and the list at b, in new pairs -/
def Itzs (K : PySem.W.Frag) (x : Str) (b : Addr) : L2.It :=
  ⟨fun i H => i < x.cps.size ∧ ∃ (ys : List V) (y : V), SqL K H b ys ∧ ys[i]? = some y,
    fun i H v H' => ∃ T c y, v = .ref T ∧ H T = none ∧ H' = upd H T (.tup [.str ⟨#[c]⟩, y]) ∧ x.cps[i]? = some c ∧ ∀ ys, SqL K H b ys → ys[i]? = some y,
    fun i H => ∃ ys : List V, SqL K H b ys ∧ ((x.cps.size = i ∧ i ≤ ys.length) ∨ (ys.length = i ∧ i ≤ x.cps.size))⟩
section
variable {P : Program} {w : World} {K : PySem.W.Frag} {elts : List Expr} {kk : Nat} {tpos : Pos} {b z TI TO i1 i2 : Addr} {x : Str} {tx : Tok}
theorem sepS (D : ZipApart z TI TO i1 i2 b b) : ZipSep2 z TI TO i1 i2 [i1] [i2, b] where
  TIz := D.TIz
  TOz := D.TOz
  TITO := D.TITO
  TIi1 := D.TIi1
  mem1 := List.mem_singleton_self _
  zf1 := fun h => D.i1z (List.mem_singleton.mp h).symm
  Tf1 := fun h => D.TOi1 (List.mem_singleton.mp h)
  TIi2 := D.TIi2
  mem2 := List.mem_cons_self
  zf2 := fun h => by
    rcases List.mem_cons.mp h with q | q
    · exact D.i2z q.symm
    · exact D.l1z (List.mem_singleton.mp q).symm
  Tf2 := fun h => by
    rcases List.mem_cons.mp h with q | q
    · exact D.TOi2 q
    · exact D.l1TO (List.mem_singleton.mp q).symm
  sep1_2 := fun h => by
    rcases List.mem_cons.mp h with q | q
    · exact D.i12 q
    · exact D.l1i1 (List.mem_singleton.mp q).symm
  sep2_1 := fun h => D.i12 (List.mem_singleton.mp h).symm
theorem turn_zipS (D : ZipApart z TI TO i1 i2 b b) : Turn P w K (.Tuple elts kk tpos) (Itzs K x b) [z, TI, TO, i1, i2] z
    (fun i h => IsZip h z TI TO .none ∧ IsPair h TI (.ref i1) (.ref i2) ∧ (∃ p q, IsPair h TO p q) ∧ h.IsStrIter i1 (strIterType x) x tx i ∧ h.IsListIter i2 b i) where
  mem := List.mem_cons_self
  obj := fun i h ⟨zz, zTI, ⟨p, q, zTO⟩, ⟨oa, ea, _, da⟩, ⟨ob, eb, _, db⟩⟩ c hc => by
    simp only [List.mem_cons, List.not_mem_nil, or_false] at hc
    rcases hc with e | e | e | e | e <;> rw [e]
    · exact ⟨_, zz, fun v q => nomatch q⟩
    · exact ⟨_, zTI, fun v q => nomatch q⟩
    · exact ⟨_, zTO, fun v q => nomatch q⟩
    · exact ⟨oa, ea, fun v q => by rw [da] at q; cases q⟩
    · exact ⟨ob, eb, fun v q => by rw [db] at q; cases q⟩
  keep := fun i h h' ⟨zz, zTI, ⟨p, q, zTO⟩, ⟨oa, ea, ra⟩, zl⟩ k =>
    ⟨k z (by simp) _ zz, k TI (by simp) _ zTI, ⟨p, q, k TO (by simp) _ zTO⟩, ⟨oa, k i1 (by simp) _ ea, ra⟩, zl.at fun o e => k i2 (by simp) o e⟩
  item := by
    intro X hP hw hK hc i pins s σ H E I hf st hg
    subst hP hw hK
    obtain ⟨zz, zTI, ⟨p, q, zTO⟩, za, zl⟩ := st
    obtain ⟨hi, ys, y, hb, hy⟩ := hg
    obtain ⟨items, rv, pl, _⟩ := I.list hb
    obtain ⟨u, hu, ru⟩ := rv.get hy
    have hd : X.A.in1.handled = none := I.ok.hd hc
    have below : z < s.heap.objs.size := Heap.lt_size zz
    have hlen : i < items.toArray.size := by
      have := (List.getElem?_eq_some_iff.mp hu).1
      simpa using this
    refine wpAny_pyNext_zipD2_item (sepS D) (.text hd i1 x tx) (.list hd i2 b D.l1i2 items.toArray) zz zTI zTO za ⟨zl, pl.isList⟩ hi hlen fun x1 x2 h1 tk g1 g2 zz1 zTO1 za1 zl1 zT hsz hk => ?_
    obtain ⟨c, t1, hc1, rfl⟩ := g1
    have e2 : x2 = u := by
      have : items.toArray[i]? = some u := by simpa using hu
      exact Option.some.inj (g2.symm.trans this)
    subst e2
    refine ⟨_, rfl, wpAny_letOwnedTupleGo_zip (s := { s with heap := h1, toks := tk }) zz1 fun h2 zz2 sb => ?_⟩
    have zT2 : h2.get? s.heap.objs.size = some { cls := .type "tuple", data := .seq #[.str ⟨#[c]⟩ t1, x2] } := (sb.2 _ (Nat.ne_of_gt below)).trans zT
    have fresh : ObjOk X.prog X.w (upd H s.heap.objs.size (.tup [.str ⟨#[c]⟩, y])) h2 s.heap.objs.size (.tup [.str ⟨#[c]⟩, y]) :=
      ⟨by show 2 ≤ sizeLine; decide, [.str ⟨#[c]⟩ t1, x2], .cons ⟨t1, rfl⟩ (.cons ru .nil), ⟨_, zT2, rfl, _, rfl⟩⟩
    have I2 : Inv X pins σ (upd H s.heap.objs.size (.tup [.str ⟨#[c]⟩, y])) { s with heap := h2, toks := tk } :=
      I.turnedNew (ch := [z, TI, TO, i1, i2]) (fun d o nb e => by
        simp only [List.mem_cons, List.not_mem_nil, or_false, not_or] at nb
        exact (sb.2 d nb.1).trans (hk d o nb.1 nb.2.2.1 nb.2.2.2.1 nb.2.2.2.2 e)) hf (Nat.le_refl _) fresh
    refine ⟨.ref s.heap.objs.size, _, I2, rfl, ⟨_, c, y, rfl, I.hok.fresh (Nat.le_refl _), rfl, hc1, fun l hl => by rw [I.list_inj hl hb]; exact hy⟩, ⟨zz2, ?_, ⟨_, _, (sb.2 _ D.TOz).trans zTO1⟩, ?_, ?_⟩, fun d hd2 => ?_⟩
    · exact (sb.2 _ D.TIz).trans (hk _ _ D.TIz D.TITO D.TIi1 D.TIi2 zTI)
    · obtain ⟨o, e, r⟩ := za1
      exact ⟨o, (sb.2 _ D.i1z).trans e, r⟩
    · exact zl1.1.at fun o e => (sb.2 _ D.i2z).trans e
    · have lt : d < s.heap.objs.size := by
        simp only [List.mem_cons, List.not_mem_nil, or_false] at hd2
        rcases hd2 with e | e | e | e | e <;> rw [e]
        · exact below
        · exact Heap.lt_size zTI
        · exact Heap.lt_size zTO
        · obtain ⟨_, e1, _⟩ := za; exact Heap.lt_size e1
        · obtain ⟨_, e1, _⟩ := zl; exact Heap.lt_size e1
      rw [upd_ne (Nat.ne_of_lt lt)]
      exact (hf d hd2).1
  done := by
    intro X hP hw hK hc i pins s σ H E I hf st hg
    subst hP hw hK
    obtain ⟨zz, zTI, ⟨p, q, zTO⟩, za, zl⟩ := st
    obtain ⟨ys, hb, hend⟩ := hg
    obtain ⟨items, rv, pl, _⟩ := I.list hb
    have hl := rv.length
    have hd : X.A.in1.handled = none := I.ok.hd hc
    have sz : items.toArray.size = ys.length := by simp [hl]
    refine wpAny_pyNext_zipD2_end (sepS D) (.text hd i1 x tx) (.list hd i2 b D.l1i2 items.toArray) zz zTI zTO za ⟨zl, pl.isList⟩ (by omega) (by omega) (by omega) fun h1 tk hk => ⟨rfl, ?_⟩
    exact I.turnedL (ch := [z, TI, TO, i1, i2]) (fun d o nb e => by
      simp only [List.mem_cons, List.not_mem_nil, or_false, not_or] at nb
      exact hk d o nb.1 nb.2.2.1 nb.2.2.2.1 nb.2.2.2.2 e) hf
  self := fun A i s Q E st h => wpAny_pyIter_zip st.1 h
end
def iZipS (K : PySem.W.Frag) (ta : TA) : TI := fun σ H R => ta σ H fun vs H1 => ∃ x b ys, vs = [.str x, .ref b] ∧ SqL K H1 b ys ∧ R (Itzs K x b) H1
theorem pi_zipS {X : Cx} {e e2 : Expr} {ta : TA} {p pos tpos : Pos} {elts : List Expr} {kk : Nat} (hg : Gl X "zip") (hm : X.mg "zip" = none) (ha : PA X [e, e2] ta)
    (hs : starEach [e, e2] X.env = (false, eval e X.env) :: starEach [e2] X.env) (hpl : (backTo pos (starEach [e2] X.env)).any (·.1) = false) :
    PI X (.Tuple elts kk tpos) (.Call (.Name "zip" p) [e, e2] [] pos) (iZipS X.K ta) := ⟨fun pins s σ H R I h => by
  refine Call_ (ld_blt I hg hm PyProof.Rows.boot_zip (PyProof.Rows.callWith_type1 (thn (ha.run pos pins s σ H _ I h) fun us s1 ⟨vs, H1, I1, r1, q1⟩ => ?_) hs hpl))
  obtain ⟨x, b, ys, rfl, hb, q⟩ := q1
  cases r1 with
  | cons r rr => cases rr with
    | cons r' rr =>
      cases rr
      obtain ⟨tx, rfl⟩ := r
      cases r'
      obtain ⟨items, rv, pl, _⟩ := I1.list hb
      refine zip_begins2 (begins_text x tx) (begins_list b items.toArray) trivial pl.isList fun h1 zz zTI zTO za zl hsz hk => wpAny_pyIter_zip zz ?_
      have I2 : Inv X pins σ H1 { s1 with heap := h1 } := I1.kept (t' := s1.toks) hk
      have D : ZipApart (s1.heap.objs.size + 4) (s1.heap.objs.size + 2) (s1.heap.objs.size + 3) s1.heap.objs.size (s1.heap.objs.size + 1) b b := PySem.W.ktu_apart _ _ _ pl.lt pl.lt
      refine ⟨_, [s1.heap.objs.size + 4, s1.heap.objs.size + 2, s1.heap.objs.size + 3, s1.heap.objs.size, s1.heap.objs.size + 1], _, _, H1, rfl, I2, turn_zipS (x := x) (tx := tx) D, ⟨zz, zTI, ⟨_, _, zTO⟩, ⟨_, za, rfl, rfl⟩, ⟨_, zl, rfl, rfl⟩⟩, fun c hcm => ?_, q⟩
      have le : s1.heap.objs.size ≤ c := by
        simp only [List.mem_cons, List.not_mem_nil, or_false] at hcm
        rcases hcm with e | e | e | e | e <;> rw [e] <;> first | exact Nat.le_add_right _ _ | exact Nat.le_refl _
      exact I1.fpOk le (I1.hok.fresh le)⟩
section
variable {K : PySem.W.Frag} {B : Hp}
def zipSD (x : Str) (ds : List D) : List D := List.zipWith (fun a b => .tup [a, b]) (signsD x) ds
theorem signsD_len (x : Str) : (signsD x).length = x.cps.size := by unfold signsD; simp
theorem itzs_ok {b : Addr} {x : Str} {vs : List V} {ds : List D} (h : SqL K B b vs) (r : Reps K B [] ds vs) : ItsOk K B (Itzs K x b) ((zipSD x ds).take (min x.cps.size ds.length)) where
  go := fun i H hi e => by
    have hi : i < min x.cps.size ds.length := by simp [zipSD, signsD_len] at hi; omega
    have hv : i < vs.length := by rw [r.length]; omega
    exact ⟨by omega, vs, vs[i], e.sqL h, List.getElem?_eq_getElem hv⟩
  stop := fun H e => ⟨vs, e.sqL h, by
    have hl : ((zipSD x ds).take (min x.cps.size ds.length)).length = min x.cps.size ds.length := by simp [zipSD, signsD_len]
    rw [hl]
    have := r.length
    omega⟩
  yld := fun i H v H' d hd e y => by
    obtain ⟨T, c, w, rfl, hT, rfl, hc, hw⟩ := y
    have hw := hw vs (e.sqL h)
    rw [List.getElem?_take] at hd
    split at hd
    · unfold zipSD at hd
      rw [List.getElem?_zipWith] at hd
      split at hd
      · rename_i p q h3 h4
        cases hd
        unfold signsD at h3
        rw [List.getElem?_map, Array.getElem?_toList, hc] at h3
        cases h3
        exact .inr ⟨T, _, _, rfl, hT, rfl, rfl, .cons (by unfold Rep; rfl) (.one (Reps.at r h4 hw))⟩
      · cases hd
    · cases hd
end
/-- zip(text, list) -/
def signsU (s : Str) : List U := s.cps.toList.map fun c => .str ⟨#[c]⟩
def zipSM (x y : U) : M (List U) := match x with
  | .str s => match itemsL y with
    | some vs => .ok (List.zipWith (fun a b => .tup [a, b]) (signsU s) vs)
    | none => .stuck
  | _ => .stuck
section
variable {κ : Kl} {C : Pl.Ctx} {E : ER} {Γ : Pl.Env} {Λ : Cells} {Pn : List D → Cells → Prop} {pos p tpos : Pos} {e e2 tg : Expr} {elts : List Expr} {kk : Nat}
theorem signs_ems (s : Str) : ems κ (signsU s) = signsD s := by unfold signsU signsD; rw [ems_map, List.map_map]; rfl
theorem wi_zipS (hj : GlAt C "zip") (hm : C.mg "zip" = none) (h : WE C E Γ Λ e fun x Λ1 => WE C E Γ Λ1 e2 fun y Λ2 => ∃ u w, x = em κ u ∧ y = em κ w ∧ wp (zipSM u w) (fun z => Pn (ems κ z) Λ2) Tr) (he : plainE e = true := by rfl) (he2 : plainE e2 = true := by rfl) : WI C E Γ Λ (.Tuple elts kk tpos) (.Call (.Name "zip" p) [e, e2] [] pos) Pn := fun X F W is tk => by
  refine pi_imp (pi_zipS (is.gl hj) (by rw [is.mg]; exact hm) (pa_cons pe_U (pa_cons pe_U pa_nil (star_plain he2)) (star_plain he)) (by rw [star_plain he]) (by rw [star_plain he2]; rfl)) fun σ H R ⟨B, α, S, q, er⟩ => ?_
  refine WE.use h is tk S er fun x Λ1 v B1 α1 H1 p1 S1 e1 f1 r1 => ?_
  refine WE.use p1 is tk S1 (er.mono e1) fun y Λ2 w B2 α2 H2 p2 S2 e2' f2 r2 => ?_
  obtain ⟨u, w', rfl, rfl, h⟩ := p2
  unfold zipSM at h
  split at h
  · rename_i s
    split at h
    · rename_i vs hv
      have h : Pn (ems κ (List.zipWith (fun a b => .tup [a, b]) (signsU s) vs)) Λ2 := h
      obtain ⟨b, ys, rfl, g1, g2⟩ := seqV hv r2
      rw [em] at r1
      unfold Rep at r1
      subst r1
      refine ⟨s, b, ys, rfl, by rw [is.K]; exact S2.bh.sqL g1, ?_⟩
      rw [is.K]
      refine q _ Λ2 _ B2 α2 H2 h S2 (e1.trans e2') (f1.trans f2) ?_
      have key : ems κ (List.zipWith (fun a b => .tup [a, b]) (signsU s) vs) = (zipSD s (ems κ vs)).take (min s.cps.size (ems κ vs).length) := by
        have h1 := zip_ems (κ := κ) (signsU s) vs
        unfold zipU zipD at h1
        rw [h1, signs_ems]
        unfold zipSD
        rw [List.take_of_length_le]
        simp [signsD_len]
      rw [key]
      exact itzs_ok g1 (Reps.nl _ ys (nls_em vs) g2)
    · exact h.elim
  · exact h.elim
end
end Sh

/-! Sh15: things of one of several classes; a def read off a class; what is owned looked at by an expression that gives a bare thing. -/
namespace Sh
open PySem L2 Pl PyProof.Rows Law
section
variable {X : Cx} {CX : CXT} {E : XK} {o e : Expr} {es : List Expr} {m : Str} {pos apos : Pos} {ta : TE} {t : TA} {pl : Sem Bool}
theorem pe_methP (he : PE X o ta) (hx : Passes CX X E) (ha : PA X (e :: es) t)
    (hst : starEach (e :: es) X.env = (false, eval e X.env) :: starEach es X.env) (hpl : (backTo pos (starEach es X.env)).any (·.1) = false)
    (ht : eval (.Call (.Attribute o m apos) (e :: es) [] pos) X.env = (do
      let ov ← eval o X.env
      standAt apos.atName
      let (f, first) ← holding [ov] (getMethod ov m pl)
      callWith pos f first (backTo pos (starEach (e :: es) X.env)) (backToKw pos (keywordEach [] X.env)))) :
    PE X (.Call (.Attribute o m apos) (e :: es) [] pos) fun σ H Q => ta σ H fun x H1 => ∃ C f k fd ps sp a dx fs, x = .ref a ∧ Cls X.K C ∧ Meth X.K C m f ∧ FnOk X.prog X.w X.K X.mg X.base CX k f fd ps sp ∧ Room k X.A ∧ Binds X.K fd ps [] ∧
      H1 a = some (.ins C dx fs) ∧ fs.lookup m = none ∧ t σ H1 fun vs H2 => sp ((.ref a :: vs) ++ []) H2 Q E := ⟨fun pins s σ H Q I h => by
  refine PySem.W.methodCall_KW (pl := pl) (thn (he.run pins s σ H _ I h) fun u s1 ⟨x, H1, I1, rx, C, f, k, fd, ps, sp, a, dx, fs, ex, c, hm, F, hr, hb, ea, l, q⟩ => ?_) ht
  subst ex
  obtain rfl : u = Value.ref a := rx
  refine getmeth_ok I1 ea c hm l (PySem.W.callWith_K (first := [.ref a]) (h₀ := X.base) I.ok.mod.kin hm.kp (thn (ha.run pos pins s1 σ H1 _ I1 q) fun us s2 ⟨vs, H2, I2, r, q2⟩ => ⟨I2.kIn, ?_⟩) hst hpl)
  exact run_fn (us := .ref a :: us) (vs := .ref a :: vs) F hr hb .nil hx I2 (.cons rfl r) q2⟩
theorem pe_methP0 (he : PE X o ta) (hx : Passes CX X E)
    (ht : eval (.Call (.Attribute o m apos) [] [] pos) X.env = (do
      let ov ← eval o X.env
      standAt apos.atName
      let (f, first) ← holding [ov] (getMethod ov m pl)
      callWith pos f first (backTo pos (starEach [] X.env)) (backToKw pos (keywordEach [] X.env)))) :
    PE X (.Call (.Attribute o m apos) [] [] pos) fun σ H Q => ta σ H fun x H1 => ∃ C f k fd ps sp a dx fs, x = .ref a ∧ Cls X.K C ∧ Meth X.K C m f ∧ FnOk X.prog X.w X.K X.mg X.base CX k f fd ps sp ∧ Room k X.A ∧ Binds X.K fd ps [] ∧
      H1 a = some (.ins C dx fs) ∧ fs.lookup m = none ∧ sp ([.ref a] ++ []) H1 Q E := ⟨fun pins s σ H Q I h => by
  refine PySem.W.methodCall_KW (pl := pl) (thn (he.run pins s σ H _ I h) fun u s1 ⟨x, H1, I1, rx, C, f, k, fd, ps, sp, a, dx, fs, ex, c, hm, F, hr, hb, ea, l, q⟩ => ?_) ht
  subst ex
  obtain rfl : u = Value.ref a := rx
  exact getmeth_ok I1 ea c hm l (PySem.W.callWith_K0 (first := [.ref a]) I1.kIn hm.kp (run_fn (us := [.ref a]) (vs := [.ref a]) F hr hb .nil hx I1 (.cons rfl .nil) q))⟩
/-- a def read off a class, called -/
theorem pe_cfn {C f : Addr} {mc : Value} {k : Nat} {fd : FuncData} {ps : List Str} {sp : Sp} (he : PE X o ta) (r : ClX.CRead X.K C mc) (hf : PySem.W.findCls X.K (.ref C) mc m = some (.val (.ref f))) (kp : PySem.W.keepIn X.K (.ref f) = true)
    (F : FnOk X.prog X.w X.K X.mg X.base CX k f fd ps sp) (hr : Room k X.A) (hb : Binds X.K fd ps []) (hx : Passes CX X E) (ha : PA X (e :: es) t)
    (hst : starEach (e :: es) X.env = (false, eval e X.env) :: starEach es X.env) (hpl : (backTo pos (starEach es X.env)).any (·.1) = false)
    (ht : eval (.Call (.Attribute o m apos) (e :: es) [] pos) X.env = (do
      let ov ← eval o X.env
      standAt apos.atName
      let (f, first) ← holding [ov] (getMethod ov m pl)
      callWith pos f first (backTo pos (starEach (e :: es) X.env)) (backToKw pos (keywordEach [] X.env)))) :
    PE X (.Call (.Attribute o m apos) (e :: es) [] pos) fun σ H Q => ta σ H fun x H1 => x = .ref C ∧ t σ H1 fun vs H2 => sp (vs ++ []) H2 Q E := ⟨fun pins s σ H Q I h => by
  refine PySem.W.methodCall_KW (pl := pl) (thn (he.run pins s σ H _ I h) fun u s1 ⟨x, H1, I1, rx, ex, q⟩ => ?_) ht
  subst ex
  obtain rfl : u = Value.ref C := rx
  refine PySem.W.method_cls I1.kIn r.ga (PySem.W.cls_value I1.kIn r.rd hf rfl ?_)
  refine PySem.W.callWith_K (first := []) (h₀ := X.base) I.ok.mod.kin kp (thn (ha.run pos pins _ σ H1 _ (I1.tok _) q) fun us s2 ⟨vs, H2, I2, r, q2⟩ => ⟨I2.kIn, ?_⟩) hst hpl
  exact run_fn (us := us) (vs := vs) F hr hb .nil hx I2 r q2⟩
end
/-- the classes cs of the module: each with the one field f -/
def KlsOk (K : PySem.W.Frag) (κ : Kl) (cs : List Str) (f : Str) : Prop := ∀ c ∈ cs, Cls K (κ.ad c) ∧ NoAttr K (κ.ad c) f ∧ κ.fs c = [f]
/-- the one field of a thing of one of the classes cs -/
def fldP (cs : List Str) : U → M U
  | .ins c [k] => if cs.contains c = true then .ok k else .stuck
  | _ => .stuck
theorem fldP_ok {cs : List Str} {c : Str} {k : U} (h : cs.contains c = true) : fldP cs (.ins c [k]) = .ok k := if_pos h
theorem fldP_is {cs : List Str} {u : U} {P : U → Prop} {E : Str → List U → Prop} (h : wp (fldP cs u) P E) : ∃ c z, u = .ins c [z] ∧ c ∈ cs ∧ P z := by
  unfold fldP at h
  split at h
  · split at h
    · rename_i hc; exact ⟨_, _, rfl, by simpa using hc, h⟩
    · exact h.elim
  · exact h.elim
section
variable {κ : Kl} {C : Pl.Ctx} {E : ER} {Γ : Pl.Env} {Λ : Cells} {pos p apos pos' : Pos} {o e : Expr} {es : List Expr} {f m : Str} {cs : List Str} {k n : Nat}
theorem finPf {α : Type} {Q : α → Prop} {Eh : Str → List U → Prop} {u : U} {kk : U → M α} {P : U → Prop} (h : wp ((fldP cs u).bind kk) Q Eh) (i : ∀ z, wp (kk z) Q Eh → P z) : wp (fldP cs u) P no := by
  obtain ⟨c, z, rfl, hc, h⟩ := fldP_is (wp_bind h)
  rw [fldP_ok (by simpa using hc)]
  exact i z h
theorem we_fldP {P : D → Cells → Prop} (hk : KlsOk C.K κ cs f) (h : WE C E Γ Λ e fun x Λ1 => ∃ u, x = em κ u ∧ wp (fldP cs u) (fun z => P (em κ z) Λ1) no) (ho : plainO e = true := by rfl) : WE C E Γ Λ (.Attribute e f pos) P := fun X F W is tk => by
  refine pe_imp (pe_fld pe_U (base_plain ho)) fun σ H Q ⟨B, α, S, q, er⟩ => ?_
  refine WE.use h is tk S er fun x Λ1 v B1 α1 H1 p1 S1 e1 f1 r1 => ?_
  obtain ⟨u, rfl, p1⟩ := p1
  obtain ⟨c, z, rfl, hc, hp⟩ := fldP_is p1
  obtain ⟨h1, h2, h3⟩ := hk c hc
  have hv : vw Λ1 (em κ (.ins c [z])) = .ins (κ.ad c) [f] [em κ z] := vw_ins h3
  obtain ⟨a, dx, vs, rfl, g1, g2, g3⟩ := sat_ins S1 r1 hv
  obtain ⟨y, k1, k2⟩ := look_rep (ns := [f]) (f := f) (d := em κ z) g2 (by simp)
  exact ⟨a, κ.ad c, dx, _, y, rfl, g1, by rw [is.K]; exact h1, by rw [is.K]; exact h2, k1, q _ Λ1 y B1 α1 H1 hp S1 e1 f1 k2⟩
theorem methP {S : Pl.Spec} {Pr : Res → Cells → Prop} {pl : PySem.Env → Sem Bool} (G : ∀ c ∈ cs, mt C k (κ.ad c) m n S) (hk : k ≤ C.k) (hK : KlsOk C.K κ cs f) (hmf : m ≠ f) (hm : Mono S)
    (h : WE C E Γ Λ o fun x Λ1 => ∃ u, x = em κ u ∧ wp (fldP cs u) (fun _ => WA C E Γ Λ1 (e :: es) fun ds Λ2 => ∃ us, ds = ems κ us ∧ us.length + 1 = n ∧ S (ems κ (u :: us)) [] (fun r Λ' => Λ' = [] ∧ Pr r Λ2) fun _ _ => False) no)
    (he : plainE e = true) (hes : es.all plainE = true)
    (ht : ∀ env, eval (.Call (.Attribute o m apos) (e :: es) [] pos) env = (do
      let ov ← eval o env
      standAt apos.atName
      let (f, first) ← holding [ov] (getMethod ov m (pl env))
      callWith pos f first (backTo pos (starEach (e :: es) env)) (backToKw pos (keywordEach [] env)))) : ∀ X F W, C.Is X → Takes X W → PE X (.Call (.Attribute o m apos) (e :: es) [] pos) fun σ H Q => ∃ B α, Sat C.K F B α Γ Λ σ H ∧
      (∀ r v Λ' B' α' H' B0 H0, Pr r Λ' → Sat C.K F B' α' Γ Λ' σ H' → Ex B B' → α <+: α' → ResAt C.K ⟨H0, B0, []⟩ B' [] H' v r → (∀ a, H0 a = none → F.H0 a = none ∧ a ∉ α') → Q v H') ∧ ErOk C.K F W B σ Γ E := fun X F W is tk => by
  have e1 := is.prog; have e2 := is.w; have e3 := is.K; have e4 := is.mg; have e5 := is.base
  refine pe_imp (pe_methP (CX := L2.CX C.P C.w) (E := fun _ _ _ => False) (pl := pl X.env) pe_U passF pa_U (star_plain he) (back_plain hes) (ht _)) fun σ H Q ⟨B, α, T, q, er⟩ => ?_
  refine WE.use h is tk T er fun x Λ1 v B1 α1 H1 p1 T1 x1 f1 r1 => ?_
  obtain ⟨u, rfl, p1⟩ := p1
  obtain ⟨c, z, rfl, hc, p1⟩ := fldP_is p1
  obtain ⟨k1, k2, k3⟩ := hK c hc
  obtain ⟨f', fd, ps, h1, h2, h3⟩ := (G c hc).ex
  have hv : vw Λ1 (em κ (.ins c [z])) = .ins (κ.ad c) [f] [em κ z] := vw_ins k3
  obtain ⟨a, dx, ws, rfl, g1, g2, g3⟩ := sat_ins T1 r1 hv
  refine ⟨κ.ad c, f', k, fd, ps, _, a, dx, _, rfl, by rw [e3]; exact k1, by rw [e3]; exact h2, by rw [e1, e2, e3, e4, e5]; exact h1, is.room.mono hk, by rw [e3]; exact h3, g1, look_none (by simpa using hmf), ?_⟩
  refine WA.use p1 is tk T1 (er.mono x1) fun ds2 Λ2 vs B2 α2 H2 p2 T2 x2 f2 r2 => ?_
  obtain ⟨us, hu, hl, s2⟩ := p2
  subst hu
  have rr : Reps C.K B2 α2 (ems κ (.ins c [z] :: us)) (.ref a :: vs) := .cons (r1.mono x2 f2) r2
  refine callS0 (κ := κ) (us := .ins c [z] :: us) (n := n) T2 rr hl s2 hm fun r v B' H' p' T' x' ra => ?_
  exact q r v Λ2 B' α2 H' B2 H2 p' T' ((x1.trans x2).trans x') (f1.trans f2) ra fun b hb => ⟨T2.dm b hb, fun hm => (T2.ah b hm).1 hb⟩
theorem methP0 {S : Pl.Spec} {Pr : Res → Cells → Prop} {pl : PySem.Env → Sem Bool} (G : ∀ c ∈ cs, mt C k (κ.ad c) m 1 S) (hk : k ≤ C.k) (hK : KlsOk C.K κ cs f) (hmf : m ≠ f) (hm : Mono S)
    (h : WE C E Γ Λ o fun x Λ1 => ∃ u, x = em κ u ∧ wp (fldP cs u) (fun _ => S (ems κ [u]) [] (fun r Λ' => Λ' = [] ∧ Pr r Λ1) fun _ _ => False) no)
    (ht : ∀ env, eval (.Call (.Attribute o m apos) [] [] pos) env = (do
      let ov ← eval o env
      standAt apos.atName
      let (f, first) ← holding [ov] (getMethod ov m (pl env))
      callWith pos f first (backTo pos (starEach [] env)) (backToKw pos (keywordEach [] env)))) : ∀ X F W, C.Is X → Takes X W → PE X (.Call (.Attribute o m apos) [] [] pos) fun σ H Q => ∃ B α, Sat C.K F B α Γ Λ σ H ∧
      (∀ r v Λ' B' α' H' B0 H0, Pr r Λ' → Sat C.K F B' α' Γ Λ' σ H' → Ex B B' → α <+: α' → ResAt C.K ⟨H0, B0, []⟩ B' [] H' v r → (∀ a, H0 a = none → F.H0 a = none ∧ a ∉ α') → Q v H') ∧ ErOk C.K F W B σ Γ E := fun X F W is tk => by
  have e1 := is.prog; have e2 := is.w; have e3 := is.K; have e4 := is.mg; have e5 := is.base
  refine pe_imp (pe_methP0 (CX := L2.CX C.P C.w) (E := fun _ _ _ => False) (pl := pl X.env) pe_U passF (ht _)) fun σ H Q ⟨B, α, T, q, er⟩ => ?_
  refine WE.use h is tk T er fun x Λ1 v B1 α1 H1 p1 T1 x1 f1 r1 => ?_
  obtain ⟨u, rfl, p1⟩ := p1
  obtain ⟨c, z, rfl, hc, s2⟩ := fldP_is p1
  obtain ⟨k1, k2, k3⟩ := hK c hc
  obtain ⟨f', fd, ps, h1, h2, h3⟩ := (G c hc).ex
  have hv : vw Λ1 (em κ (.ins c [z])) = .ins (κ.ad c) [f] [em κ z] := vw_ins k3
  obtain ⟨a, dx, ws, rfl, g1, g2, g3⟩ := sat_ins T1 r1 hv
  refine ⟨κ.ad c, f', k, fd, ps, _, a, dx, _, rfl, by rw [e3]; exact k1, by rw [e3]; exact h2, by rw [e1, e2, e3, e4, e5]; exact h1, is.room.mono hk, by rw [e3]; exact h3, g1, look_none (by simpa using hmf), ?_⟩
  have rr : Reps C.K B1 α1 (ems κ [.ins c [z]]) [.ref a] := .one r1
  refine callS0 (κ := κ) (us := [.ins c [z]]) (n := 1) (vs := [.ref a]) T1 rr rfl s2 hm fun r v B' H' p' T' x' ra => ?_
  exact q r v Λ1 B' α1 H' B1 H1 p' T' (x1.trans x') f1 ra fun b hb => ⟨T1.dm b hb, fun hm => (T1.ah b hm).1 hb⟩
abbrev MethT (pl : PySem.Env → Sem Bool) (o : Expr) (m : Str) (apos : Pos) (es : List Expr) (pos : Pos) : Prop := ∀ env, eval (.Call (.Attribute o m apos) es [] pos) env = (do
      let ov ← eval o env
      standAt apos.atName
      let (f, first) ← holding [ov] (getMethod ov m (pl env))
      callWith pos f first (backTo pos (starEach es env)) (backToKw pos (keywordEach [] env)))
theorem we_mV {P : D → Cells → Prop} {g : List U → M U} {pl : PySem.Env → Sem Bool} (G : ∀ c ∈ cs, mt C k (κ.ad c) m n (spV κ n g)) (hk : k ≤ C.k) (hK : KlsOk C.K κ cs f) (hmf : m ≠ f)
    (h : WE C E Γ Λ o fun x Λ1 => ∃ u, x = em κ u ∧ wp (fldP cs u) (fun _ => WA C E Γ Λ1 (e :: es) fun ds Λ2 => ∃ us, ds = ems κ us ∧ us.length + 1 = n ∧ wp (g (u :: us)) (fun z => P (em κ z) Λ2) no) no)
    (he : plainE e = true := by rfl) (hes : es.all plainE = true := by rfl) (ht : MethT pl o m apos (e :: es) pos := by intro _; rfl) : WE C E Γ Λ (.Call (.Attribute o m apos) (e :: es) [] pos) P := fun X F W is tk =>
  pe_imp (methP (κ := κ) (Pr := fun r Λ' => ∃ z, r = .val (em κ z) ∧ P (em κ z) Λ') G hk hK hmf spV_mono (we_mono h fun x Λ1 ⟨u, a1, a2⟩ => ⟨u, a1, wp_mono a2 (fun _ a4 => wa_mono a4 fun ds Λ2 ⟨us, b1, b2, b3⟩ => ⟨us, b1, b2, rfl, u :: us, rfl, by simpa using b2, wp_mono b3 (fun z hz => ⟨rfl, z, rfl, hz⟩) fun _ _ h => h.elim⟩) fun _ _ h => h⟩) he hes ht X F W is tk)
    fun σ H Q ⟨B, α, S, q, er⟩ => ⟨B, α, S, fun r v Λ' B' α' H' B0 H0 ⟨z, hr, p⟩ S' x f ra nw => by
      subst hr
      exact q _ Λ' v B' α' H' p S' x f (Rep.mono (Ex.refl _) List.nil_prefix _ v ra), er⟩
theorem wn_mN {P : List D → Cells → Prop} {g : List U → M (List U)} {pl : PySem.Env → Sem Bool} (G : ∀ c ∈ cs, mt C k (κ.ad c) m n (spN κ n g)) (hk : k ≤ C.k) (hK : KlsOk C.K κ cs f) (hmf : m ≠ f)
    (h : WE C E Γ Λ o fun x Λ1 => ∃ u, x = em κ u ∧ wp (fldP cs u) (fun _ => WA C E Γ Λ1 (e :: es) fun ds Λ2 => ∃ us, ds = ems κ us ∧ us.length + 1 = n ∧ wp (g (u :: us)) (fun z => P (ems κ z) Λ2) no) no)
    (he : plainE e = true := by rfl) (hes : es.all plainE = true := by rfl) (ht : MethT pl o m apos (e :: es) pos := by intro _; rfl) : WN C E Γ Λ (.Call (.Attribute o m apos) (e :: es) [] pos) P := fun X F W is tk =>
  pe_imp (methP (κ := κ) (Pr := fun r Λ' => ∃ z, r = .new (ems κ z) ∧ P (ems κ z) Λ') G hk hK hmf spN_mono (we_mono h fun x Λ1 ⟨u, a1, a2⟩ => ⟨u, a1, wp_mono a2 (fun _ a4 => wa_mono a4 fun ds Λ2 ⟨us, b1, b2, b3⟩ => ⟨us, b1, b2, rfl, u :: us, rfl, by simpa using b2, wp_mono b3 (fun z hz => ⟨rfl, z, rfl, hz⟩) fun _ _ h => h.elim⟩) fun _ _ h => h⟩) he hes ht X F W is tk)
    fun σ H Q ⟨B, α, S, q, er⟩ => ⟨B, α, S, fun r v Λ' B' α' H' B0 H0 ⟨z, hr, p⟩ S' x f ra nw => by
      subst hr
      obtain ⟨pa, ws, rfl, q1, q2, q3, q4, q5⟩ := ra
      exact q _ Λ' pa ws B' α' H' p S' x f q1 q2 (nw pa q3).1 (nw pa q3).2 (q5.mono (Ex.refl _) List.nil_prefix), er⟩
theorem we_mV0 {P : D → Cells → Prop} {g : List U → M U} {pl : PySem.Env → Sem Bool} (G : ∀ c ∈ cs, mt C k (κ.ad c) m 1 (spV κ 1 g)) (hk : k ≤ C.k) (hK : KlsOk C.K κ cs f) (hmf : m ≠ f)
    (h : WE C E Γ Λ o fun x Λ1 => ∃ u, x = em κ u ∧ wp (fldP cs u) (fun _ => wp (g [u]) (fun z => P (em κ z) Λ1) no) no) (ht : MethT pl o m apos [] pos := by intro _; rfl) : WE C E Γ Λ (.Call (.Attribute o m apos) [] [] pos) P := fun X F W is tk =>
  pe_imp (methP0 (κ := κ) (Pr := fun r Λ' => ∃ z, r = .val (em κ z) ∧ P (em κ z) Λ') G hk hK hmf spV_mono (we_mono h fun x Λ1 ⟨u, a1, a2⟩ => ⟨u, a1, wp_mono a2 (fun _ b3 => ⟨rfl, [u], rfl, rfl, wp_mono b3 (fun z hz => ⟨rfl, z, rfl, hz⟩) fun _ _ h => h.elim⟩) fun _ _ h => h⟩) ht X F W is tk)
    fun σ H Q ⟨B, α, S, q, er⟩ => ⟨B, α, S, fun r v Λ' B' α' H' B0 H0 ⟨z, hr, p⟩ S' x f ra nw => by
      subst hr
      exact q _ Λ' v B' α' H' p S' x f (Rep.mono (Ex.refl _) List.nil_prefix _ v ra), er⟩
theorem wn_mN0 {P : List D → Cells → Prop} {g : List U → M (List U)} {pl : PySem.Env → Sem Bool} (G : ∀ c ∈ cs, mt C k (κ.ad c) m 1 (spN κ 1 g)) (hk : k ≤ C.k) (hK : KlsOk C.K κ cs f) (hmf : m ≠ f)
    (h : WE C E Γ Λ o fun x Λ1 => ∃ u, x = em κ u ∧ wp (fldP cs u) (fun _ => wp (g [u]) (fun z => P (ems κ z) Λ1) no) no) (ht : MethT pl o m apos [] pos := by intro _; rfl) : WN C E Γ Λ (.Call (.Attribute o m apos) [] [] pos) P := fun X F W is tk =>
  pe_imp (methP0 (κ := κ) (Pr := fun r Λ' => ∃ z, r = .new (ems κ z) ∧ P (ems κ z) Λ') G hk hK hmf spN_mono (we_mono h fun x Λ1 ⟨u, a1, a2⟩ => ⟨u, a1, wp_mono a2 (fun _ b3 => ⟨rfl, [u], rfl, rfl, wp_mono b3 (fun z hz => ⟨rfl, z, rfl, hz⟩) fun _ _ h => h.elim⟩) fun _ _ h => h⟩) ht X F W is tk)
    fun σ H Q ⟨B, α, S, q, er⟩ => ⟨B, α, S, fun r v Λ' B' α' H' B0 H0 ⟨z, hr, p⟩ S' x f ra nw => by
      subst hr
      obtain ⟨pa, ws, rfl, q1, q2, q3, q4, q5⟩ := ra
      exact q _ Λ' pa ws B' α' H' p S' x f q1 q2 (nw pa q3).1 (nw pa q3).2 (q5.mono (Ex.refl _) List.nil_prefix), er⟩
end
/-! a def read off a class, called with the thing that is being made -/
structure CAt (K : PySem.W.Frag) (mg : Str → Option Value) (x m qual : Str) (st : Stmt) (ps : List Str) : Prop where
  ex : ∃ Cl mc f fd, mg x = some (.ref Cl) ∧ ClX.CRead K Cl mc ∧ PySem.W.findCls K (.ref Cl) mc m = some (.val (.ref f)) ∧ PySem.W.keepIn K (.ref f) = true ∧ Fun K m qual st f fd ∧ ∀ us : List Value, us.length = ps.length → bindArgs fd ⟨us, []⟩ = pure (ps.zip us)
structure Cfn (P : Program) (w : World) (K : PySem.W.Frag) (mg : Str → Option Value) (base : Heap) (k : Nat) (x m : Str) (n : Nat) (S : Pl.Spec) : Prop where
  ex : ∃ Cl mc f fd ps, mg x = some (.ref Cl) ∧ ClX.CRead K Cl mc ∧ PySem.W.findCls K (.ref Cl) mc m = some (.val (.ref f)) ∧ PySem.W.keepIn K (.ref f) = true ∧ FnOk P w K mg base (L2.CX P w) k f fd ps (spOf K n S) ∧ Binds K fd ps []
abbrev cfn (C : Pl.Ctx) := Cfn C.P C.w C.K C.mg C.base
abbrev Glct (G : Gl) := Cfn G.P G.w G.K G.mg G.base
section
variable {κ : Kl} {C : Pl.Ctx} {E : ER} {Γ : Pl.Env} {Λ : Cells} {pos p apos : Pos} {e : Expr} {es : List Expr} {f m x : Str} {k n : Nat} {G : Gl}
theorem CAt.fn {qual : Str} {st : Stmt} {ps : List Str} (h : CAt G.K G.mg x m qual st ps) {S : Pl.Spec} (H : ∀ (f : Addr) (fd : FuncData), Fun G.K m qual st f fd → FnOk G.P G.w G.K G.mg G.base (L2.CX G.P G.w) k f fd ps (spOf G.K ps.length S)) : Glct G k x m ps.length S := by
  obtain ⟨Cl, mc, f, fd, h1, h2, h3, h4, h5, h6⟩ := h.ex
  exact ⟨Cl, mc, f, fd, ps, h1, h2, h3, h4, H f fd h5, .all h6⟩
theorem CAt.none {qual : Str} {st : Stmt} {ps : List Str} (h : CAt G.K G.mg x m qual st ps) {S : Pl.Spec} (hS : ∀ ds Λ Q E, ¬ S ds Λ Q E) : Glct G k x m ps.length S :=
  h.fn fun f fd F => ⟨fun vs H Q E ⟨_, _, _, _, _, _, _, z⟩ => absurd z (hS _ _ _ _), fun A outer s H args us vs Q E _ _ _ _ ⟨_, _, _, _, _, _, _, z⟩ => absurd z (hS _ _ _ _)⟩
theorem we_cinit {Cl : Addr} {P : D → Cells → Prop} {g : List U → M U} {pl : PySem.Env → Sem Bool} (G : cfn C k x m n (spI κ n Cl f g)) (hk : k ≤ C.k) (hj : GlAt C x)
    (h : WA C E Γ Λ (e :: es) fun ds Λ1 => ∃ us, ds = .loc 0 :: ems κ us ∧ us.length + 1 = n ∧ Λ1[0]? = some (.ins Cl [] []) ∧ wp (g us) (fun z => P .non (Λ1.set 0 (.ins Cl [f] [em κ z]))) no)
    (he : plainE e = true := by rfl) (hes : es.all plainE = true := by rfl) (hdb : (x == ("__debug__" : Str)) = false := by decide) (ht : MethT pl (.Name x p) m apos (e :: es) pos := by intro _; rfl) : WE C E Γ Λ (.Call (.Attribute (.Name x p) m apos) (e :: es) [] pos) P := fun X F W is tk => by
  obtain ⟨Cx, mc, f', fd, ps, h1, h2, h3, h4, h5, h6⟩ := G.ex
  have e1 := is.prog; have e2 := is.w; have e3 := is.K; have e4 := is.mg; have e5 := is.base
  refine pe_imp (pe_cfn (CX := L2.CX C.P C.w) (E := fun _ _ _ => False) (pl := pl X.env) (pe_glob (v := .ref Cx) (is.gl hj) (by rw [e4]; exact h1) rfl hdb) (by rw [e3]; exact h2) (by rw [e3]; exact h3) (by rw [e3]; exact h4) (by rw [e1, e2, e3, e4, e5]; exact h5) (is.room.mono hk) (by rw [e3]; exact h6) passF pa_U
    (star_plain he) (back_plain hes) (ht _)) fun σ H Q ⟨B, α, T, q, er⟩ => ?_
  refine ⟨rfl, ?_⟩
  refine WA.use h is tk T er fun ds Λ1 vs B1 α1 H1 p1 T1 x1 f1 r1 => ?_
  obtain ⟨us, rfl, hl, h0, s1⟩ := p1
  have hlen : 0 < Λ1.length := (List.getElem?_eq_some_iff.mp h0).1
  have hca : cellsAt Λ1 [0] = [.ins Cl [] []] := by simp [cellsAt, h0]
  have hh : Hand Λ1 [0] := ⟨by simp, fun n hn => by simp at hn; subst hn; exact hlen, by rw [hca]; rfl⟩
  have hg : gI [0] Λ1.length 0 = 0 := by simp [gI]
  refine call_spC (W := fun _ _ _ _ => False) (E' := ER.none) (ls := [0]) (ds' := .loc 0 :: ems κ us) (Pr := fun r Λ' => r = .val .non ∧ P .non Λ') T1 r1 hh (by show _ = ren _ (.loc 0) :: rens _ _; rw [rens_ems, ren, hg]) (by show (ltD _ (.loc 0) && ltDs _ _) = true; rw [ltDs_ems]; rfl) (by rw [List.length_cons, ems_len, hl])
    ⟨hca, us, rfl, hl, wp_mono s1 (fun z hz => ⟨by show (nl (em κ z) && true && true) = true; rw [nl_em]; rfl, rfl, ?_⟩) fun _ _ h => h⟩ (spI_mono _ _) (fun _ _ _ _ _ _ _ z => z.elim) fun r v Λ' B' α' α'' H' ⟨hr, hp⟩ T' x' f' ra _ _ => ?_
  · have : putB Λ1 [0] [.ins Cl [f] [em κ z]] = Λ1.set 0 (.ins Cl [f] [em κ z]) := by simp [putB, setAll]
    rw [this]; exact hz
  · subst hr
    have hv : v = .non := by unfold ResAt Rep at ra; exact ra
    subst hv
    exact q _ Λ' _ B' α' H' hp T' (x1.trans x') (f1.trans f') (by unfold Rep; rfl)
/-- the __init__ of a class, called by that of another one -/
theorem init_C {x qual : Str} {st : Stmt} {ps : List Str} (h : CAt G.K G.mg x m qual st ps) {N : List Str} {vs ls : List Bool} {gl : List Str} {k : Nat} {f : Str} {Cl : Addr} {g : List U → M U} (sc : FnScope N ps (defScope st)) (good : goodC N (defScope st) vs ls gl = true)
    (hb : ∀ us, us.length + 1 = ps.length → ∀ Q, wp (g us) Q no → WSs (G.cx N (defScope st) vs ls gl k 1) (Γ0 N (.loc 0 :: ems κ us)) [.ins Cl [] []] (defBody st) ⟨fun _ Λ' => ∃ z, Λ'[0]? = some (.ins Cl [f] [em κ z]) ∧ Q z, fun _ _ => False, fun _ _ => False, fun _ _ => False, ER.none⟩) : Glct G (k + 1) x m ps.length (spI κ ps.length Cl f g) :=
  h.fn fun fa fd F => fn_okC F sc (G.cx N (defScope st) vs ls gl k 1) ⟨rfl, rfl, rfl, rfl, rfl, rfl, rfl, rfl⟩ (good_by good) (fun ds Λ Q E ⟨h, _⟩ => by subst h; exact Nat.le_refl _) fun ds Λ Q E hl ⟨h0, us, h1, h2, h3⟩ => by
    subst h0; subst h1
    refine wss_mono (hb us h2 _ h3) ⟨fun Γ Λ ⟨z, q1, q2⟩ => ?_, fun r Λ p => p.elim, fun _ _ z => z, fun _ _ z => z, fun e Γ Λ p => p.elim⟩
    have e : Λ.take 1 = [.ins Cl [f] [em κ z]] := by
      cases Λ with
      | nil => simp at q1
      | cons c Λ => simp at q1; subst q1; rfl
    exact ⟨1, Nat.le_refl _, by rw [e]; show (nl (em κ z) && true && true) = true; rw [nl_em]; rfl, .inl ⟨rfl, by rw [e]; exact q2⟩⟩
end
/-! ### an expression that gives a bare thing sees what is owned -/
inductive ThE (κ : Kl) (Λ : Cells) : Pl.Env → Pl.Env → Prop where
  | nil : ThE κ Λ [] []
  | no {o : Option D} {Γ Γ' : Pl.Env} (h : ThE κ Λ Γ Γ') : ThE κ Λ (o :: Γ) (none :: Γ')
  | so {d : D} {u : U} {Γ Γ' : Pl.Env} (h : fv Λ d = em κ u) (h2 : ThE κ Λ Γ Γ') : ThE κ Λ (some d :: Γ) (some (em κ u) :: Γ')
theorem ThE.len {κ : Kl} {Λ : Cells} {Γ Γ' : Pl.Env} (h : ThE κ Λ Γ Γ') : Γ'.length = Γ.length := by
  induction h with
  | nil => rfl
  | no _ ih => simp [ih]
  | so _ _ ih => simp [ih]
theorem ThE.get {κ : Kl} {Λ : Cells} {Γ Γ' : Pl.Env} (h : ThE κ Λ Γ Γ') : ∀ (i : Nat) (d' : D), Γ'[i]? = some (some d') → ∃ d u, Γ[i]? = some (some d) ∧ fv Λ d = em κ u ∧ d' = em κ u := by
  induction h with
  | nil => intro i d' e; simp at e
  | no _ ih => intro i d' e; cases i with
    | zero => simp at e
    | succ i => simpa using ih i d' (by simpa using e)
  | so h _ ih => intro i d' e; cases i with
    | zero => simp at e; exact ⟨_, _, rfl, h, e.symm⟩
    | succ i => simpa using ih i d' (by simpa using e)
section
variable {κ : Kl} {C : Pl.Ctx} {E : ER} {Γ Γ' : Pl.Env} {Λ : Cells} {e : Expr}
theorem sat_thawE {K : PySem.W.Frag} {F : Fm} {B : Hp} {α : List Addr} {σ : L2.St} {H : Hp} (S : Sat K F B α Γ Λ σ H) (t : ThE κ Λ Γ Γ') : Sat K ⟨H, thaw B α H, []⟩ (thaw B α H) [] Γ' [] σ H :=
  { sat_thaw S with
    sl := fun i d hi => by
      obtain ⟨d0, u, h1, h2, rfl⟩ := t.get i d hi
      obtain ⟨v, k1, k2⟩ := S.sl i d0 h1
      exact ⟨v, k1, by rw [← h2]; exact rep_fv S d0 v (by rw [h2]; exact nl_em u) k2⟩
    ln := by rw [t.len]; exact S.ln }
theorem sat_backE {K : PySem.W.Frag} {F : Fm} {B B' : Hp} {α α' : List Addr} {Λ' : Cells} {σ : L2.St} {H H' : Hp} (S : Sat K F B α Γ Λ σ H) (T : Sat K ⟨H, thaw B α H, []⟩ B' α' Γ' Λ' σ H') : Sat K F B α Γ Λ σ H' :=
  have kp : ∀ a o, H a = some o → H' a = some o := fun a o h => T.kp a o h (by simp)
  { S with
    bh := (thaw_ex.trans T.bb).trans T.bh
    kp := fun a o h h2 => kp a o (S.kp a o h h2)
    dm := fun a h => S.dm a (T.dm a h)
    ce := fun n c h hg => by
      obtain ⟨a, q1, q2, q3, q4⟩ := S.ce n c h hg
      exact ⟨a, q1, q2, q3, q4.mono (Ex.refl _) (List.prefix_refl _) (kp a)⟩
    ah := fun a ha => ⟨fun e => by have := (S.ah a ha).1; exact this (T.dm a e), (S.ah a ha).2⟩ }
theorem we_thawM {α : Type} {Q : α → Prop} {Eh : Str → List U → Prop} {m : M U} {k : U → M α} {P : D → Cells → Prop} (t : ThE κ Λ Γ Γ') (h : wp (m.calm.bind fun z => (atomM z).bind k) Q Eh)
    (hi : ∀ Q1 : U → Prop, wp m Q1 no → WE C ER.none Γ' [] e fun d _ => ∃ z, d = em κ z ∧ Q1 z) (hk : ∀ z, wp (k z) Q Eh → P (em κ z) Λ) : WE C E Γ Λ e P := fun X F W is tk => by
  refine pe_imp pe_U fun σ H Q2 ⟨B, α, S, q, er⟩ => ?_
  have h1 : wp m (fun z => wp ((atomM z).bind k) Q Eh) no := wp_calm (wp_bind h)
  refine WE.use (hi _ h1) is tk (sat_thawE S t) (fun _ _ _ _ _ _ _ z => z.elim) fun d Λ' v B' α' H' p S' x f r => ?_
  obtain ⟨z, rfl, p⟩ := p
  have S2 := sat_backE S S'
  have p := wp_bind p
  have fin : ∀ u : U, wp (k u) Q Eh → Rep C.K B α (em κ u) v → Q2 v H' := fun u hp hr => q _ Λ v B α H' (hk u hp) S2 (Ex.refl _) (List.prefix_refl _) hr
  cases z <;> first
    | exact fin _ p (by unfold em at r ⊢; unfold Rep at r ⊢; exact r)
    | exact p.elim
/-- all of them bare -/
def bare : U → Bool
  | .non => true
  | .bl _ => true
  | .int _ => true
  | .str _ => true
  | _ => false
def atomsM (us : List U) : M (List U) := if us.all bare = true then .ok us else .stuck
theorem atomsM_ok {us : List U} (h : us.all bare = true) : atomsM us = .ok us := if_pos h
theorem reps_bare {K : PySem.W.Frag} {B B' : Hp} {α α' : List Addr} : ∀ {us : List U} {vs : List V}, us.all bare = true → Reps K B α (ems κ us) vs → Reps K B' α' (ems κ us) vs
  | [], _, _, h => by unfold ems Reps at h ⊢; exact h
  | u :: us, vs, hb, h => by
    rw [List.all_cons, Bool.and_eq_true] at hb
    unfold ems Reps at h
    obtain ⟨v, r, rfl, h1, h2⟩ := h
    unfold ems Reps
    refine ⟨v, r, rfl, ?_, reps_bare hb.2 h2⟩
    cases u <;> first
      | (cases hb.1; done)
      | (unfold em at h1 ⊢; unfold Rep at h1 ⊢; exact h1)
theorem wn_thawM {α : Type} {Q : α → Prop} {Eh : Str → List U → Prop} {m : M (List U)} {k : List U → M α} {P : List D → Cells → Prop} (t : ThE κ Λ Γ Γ') (h : wp (m.calm.bind fun z => (atomsM z).bind k) Q Eh)
    (hi : ∀ Q1 : List U → Prop, wp m Q1 no → WN C ER.none Γ' [] e fun ds _ => ∃ z, ds = ems κ z ∧ Q1 z) (hk : ∀ z, wp (k z) Q Eh → P (ems κ z) Λ) : WN C E Γ Λ e P := fun X F W is tk => by
  refine pe_imp pe_U fun σ H Q2 ⟨B, α, S, q, er⟩ => ?_
  have h1 : wp m (fun z => wp ((atomsM z).bind k) Q Eh) no := wp_calm (wp_bind h)
  refine WN.use (hi _ h1) is tk (sat_thawE S t) (fun _ _ _ _ _ _ _ z => z.elim) fun ds Λ' pa vs B' α' H' p S' x f q1 q2 q3 q4 q5 => ?_
  obtain ⟨z, rfl, p⟩ := p
  have S2 := sat_backE S S'
  have p := wp_bind p
  unfold atomsM at p
  split at p
  · rename_i hb
    have hn : H pa = none := q3
    refine q _ Λ pa vs B α H' (hk z p) S2 (Ex.refl _) (List.prefix_refl _) q1 ?_ (S.dm pa hn) (fun hm => (S.ah pa hm).1 hn) (reps_bare hb q5)
    cases hBp : B pa with
    | none => rfl
    | some ob => rw [S.bh pa ob hBp] at hn; cases hn
  · exact p.elim
end
/-! ### the facts of classes, out of the text -/
def adOf (mg : Str → Option Value) (x : Str) : Addr := match mg x with
  | some (.ref a) => a
  | _ => 0
section
variable {K : PySem.W.Frag} {mg : Str → Option Value} {x : Str} {C : Addr}
theorem adOf_eq (h : mg x = some (.ref C)) : adOf mg x = C := by unfold adOf; rw [h]
theorem gAt (h : mg x = some (.ref C)) : mg x = some (.ref (adOf mg x)) := by rw [adOf_eq h]; exact h
theorem kAt {f : Str} {fs : Str → List Str} {hp : Heap} (KX : K.In hp) (h : mg x = some (.ref C)) (pg : PySem.W.plainGet K C Str.empty = true) (hd : PySem.W.hasDictIn K C = true) (po : PySem.W.plainOver K C = true) (sa : PySem.W.findIn K (.ref C) "__setattr__" = some (some (.builtin "object.__setattr__"))) (nf : PySem.W.findIn K (.ref C) f = some none) (hf : fs x = [f]) :
    Cls K (adOf mg x) ∧ NoAttr K (adOf mg x) f ∧ fs x = [f] := by rw [adOf_eq h]; exact ⟨⟨pg, hd, po, sa⟩, nf, hf⟩
theorem mAt {m qual : Str} {st : Stmt} {ps : List Str} {f : Addr} {oc : Value} {od an : Option Addr} {osl : Array (Option Value)} {kV doc pm cdv ct : Value} {hp : Heap} (KX : K.In hp) (h : mg x = some (.ref C))
    (hb : ∀ (kV doc pm : Value) (an : Option Addr) (cdv ct : Value) (us : List Value), us.length = ps.length → bindArgs (PySem.W.fnOf m qual (defArgs st) (defBody st) (defScope st) .none kV doc pm an cdv ct) ⟨us, []⟩ = pure (ps.zip us))
    (a : PySem.W.findIn K (.ref C) m = some (some (.ref f))) (l : K.lookup f = some ⟨oc, od, .func (PySem.W.fnOf m qual (defArgs st) (defBody st) (defScope st) .none kV doc pm an cdv ct), osl⟩) (c : PySem.W.codeIn K cdv qual = true) (k : PySem.W.keepIn K (.ref f) = true) (i : PySem.W.isFn K (.ref f) = true) :
    MethAt K (adOf mg x) m qual st ps := by rw [adOf_eq h]; exact methAt_mk hb a l c k i
theorem iAt {qual : Str} {st : Stmt} {ps : List Str} {f : Addr} {oc : Value} {od an : Option Addr} {osl : Array (Option Value)} {kV doc pm cdv ct : Value} {hp : Heap} (KX : K.In hp) (h : mg x = some (.ref C))
    (hb : ∀ (kV doc pm : Value) (an : Option Addr) (cdv ct : Value) (us : List Value), us.length = ps.length → bindArgs (PySem.W.fnOf "__init__" qual (defArgs st) (defBody st) (defScope st) .none kV doc pm an cdv ct) ⟨us, []⟩ = pure (ps.zip us))
    (a : PySem.W.findIn K (.ref C) "__init__" = some (some (.ref f))) (l : K.lookup f = some ⟨oc, od, .func (PySem.W.fnOf "__init__" qual (defArgs st) (defBody st) (defScope st) .none kV doc pm an cdv ct), osl⟩) (c : PySem.W.codeIn K cdv qual = true) (k : PySem.W.keepIn K (.ref f) = true) (i : PySem.W.isFn K (.ref f) = true)
    (mk : PySem.W.makesIn K C = true) (kc : PySem.W.keepIn K (.ref C) = true) : InitAt K (adOf mg x) qual st ps := by rw [adOf_eq h]; exact initAt_mk hb a l c k i mk kc
theorem cAt {m qual : Str} {st : Stmt} {ps : List Str} {f : Addr} {oc : Value} {od an : Option Addr} {osl : Array (Option Value)} {kV doc pm cdv ct : Value} {hp : Heap} (KX : K.In hp) (h : mg x = some (.ref C))
    (hb : ∀ (kV doc pm : Value) (an : Option Addr) (cdv ct : Value) (us : List Value), us.length = ps.length → bindArgs (PySem.W.fnOf m qual (defArgs st) (defBody st) (defScope st) .none kV doc pm an cdv ct) ⟨us, []⟩ = pure (ps.zip us))
    (rd : PySem.W.readsIn K C (.type "type") = true) (ga : PySem.W.specialIn K (.ref C) "__getattribute__" = some (some (.builtin "type.__getattribute__"))) (a : PySem.W.findCls K (.ref C) (.type "type") m = some (.val (.ref f)))
    (l : K.lookup f = some ⟨oc, od, .func (PySem.W.fnOf m qual (defArgs st) (defBody st) (defScope st) .none kV doc pm an cdv ct), osl⟩) (c : PySem.W.codeIn K cdv qual = true) (k : PySem.W.keepIn K (.ref f) = true) : CAt K mg x m qual st ps :=
  ⟨C, .type "type", f, _, h, ⟨rd, ga⟩, a, k, fun_mk l c k, fun us hl => hb kV doc pm an cdv ct us hl⟩
end
theorem strAt_mk {K : PySem.W.Frag} {h : Heap} {mg : Str → Option Value} {x s : Str} {t : Tok} (X : K.In h) (G : h.Ns mainGlobals mg) (a : PySem.W.nsIn K mainGlobals x = some (some (.str s t))) : StrAt mg x s := ⟨t, PySem.W.mg_of X G a⟩
theorem intAt_mk {K : PySem.W.Frag} {h : Heap} {mg : Str → Option Value} {x : Str} {i : Int} {t : Tok} (X : K.In h) (G : h.Ns mainGlobals mg) (a : PySem.W.nsIn K mainGlobals x = some (some (.int i t))) : IntAt mg x i := ⟨t, PySem.W.mg_of X G a⟩
section
variable {κ : Kl} {C : Pl.Ctx} {Γ : Pl.Env} {Λ : Cells} {tg : Expr} {ws : List Nat} {Pg : Pl.Env → Prop} {α : Type} {Q : α → Prop} {Eh : Str → List U → Prop}
theorem tg2x {k : U × U → M α} (u : U) (h : wp ((un2 u).bind k) Q Eh) (i : ∀ a b, u = .tup [a, b] → wp (k (a, b)) Q Eh → WG C Γ Λ tg (.tup [em κ a, em κ b]) ws Pg) : WG C Γ Λ tg (em κ u) ws Pg := by
  have h2 := wp_bind h
  unfold un2 at h2
  split at h2
  · rename_i a b
    exact i a b rfl h
  · exact h2.elim
theorem un2_wp {k : U × U → M α} {a b : U} (h : wp ((un2 (.tup [a, b])).bind k) Q Eh) : wp (k (a, b)) Q Eh := h
end
end Sh

/-! Sh16: what is owned, handed to a def that hands back bare things and tuples of such; things made with what is owned. -/
namespace Sh
open PySem L2 Pl PyProof.Rows Law
/-- bare things and tuples of such -/
def imm : U → Bool
  | .non => true
  | .bl _ => true
  | .int _ => true
  | .str _ => true
  | .tup us => imms us
  | _ => false
where imms : List U → Bool
  | [] => true
  | u :: us => imm u && imms us
def immM (u : U) : M U := if imm u = true then .ok u else .stuck
def immsM (us : List U) : M (List U) := if imm.imms us = true then .ok us else .stuck
theorem immM_ok {u : U} (h : imm u = true) : immM u = .ok u := if_pos h
theorem immsM_ok {us : List U} (h : imm.imms us = true) : immsM us = .ok us := if_pos h
@[simp] theorem immM_int {i : Int} : immM (.int i) = .ok (.int i) := rfl
@[simp] theorem immM_bl {i : Bool} : immM (.bl i) = .ok (.bl i) := rfl
theorem imms_of {us : List U} (h : ∀ u ∈ us, imm u = true) : imm.imms us = true := by
  induction us with
  | nil => rfl
  | cons u us ih => rw [imm.imms, h u (List.mem_cons_self ..), ih fun v hv => h v (List.mem_cons_of_mem _ hv)]; rfl
/-- objects that can be changed -/
def mutO : HO → Bool
  | .lst _ => true
  | .dK _ => true
  | .ins _ _ _ => true
  | _ => false
/-- what is owned is seen, too -/
def thw (B : Hp) (α : List Addr) (H : Hp) : Hp := fun a => match B a with
  | some o => some o
  | none => if a ∈ α then (match H a with
    | some o => if mutO o = true then some o else none
    | none => none) else none
section
variable {K : PySem.W.Frag} {F : Fm} {B : Hp} {α : List Addr} {Γ : Pl.Env} {Λ : Cells} {σ : L2.St} {H : Hp}
theorem thw_ex : Ex B (thw B α H) := fun a o h => by unfold thw; rw [h]
theorem thw_cell {a : Addr} {o : HO} (h : B a = none) (m : a ∈ α) (e : H a = some o) (ho : mutO o = true) : thw B α H a = some o := by
  unfold thw; rw [h]; dsimp only; rw [if_pos m, e]; dsimp only; rw [if_pos ho]
theorem thw_cases {a : Addr} {o : HO} (h : thw B α H a = some o) : B a = some o ∨ (B a = none ∧ a ∈ α ∧ H a = some o ∧ mutO o = true) := by
  unfold thw at h
  split at h
  · rename_i u hu; cases h; exact .inl hu
  · rename_i hB
    split at h
    · rename_i hm
      split at h
      · rename_i u hu
        split at h
        · rename_i ho; cases h; exact .inr ⟨hB, hm, hu, ho⟩
        · cases h
      · cases h
    · cases h
mutual
theorem repw (S : Sat K F B α Γ Λ σ H) : ∀ (d : D) (v : V), nl (fv Λ d) = true → Rep K B α d v → Rep K (thw B α H) [] (fv Λ d) v
  | .non, _, _, h => by unfold Rep at h; subst h; unfold fv Rep; rfl
  | .bl _, _, _, h => by unfold Rep at h; subst h; unfold fv Rep; rfl
  | .int _, _, _, h => by unfold Rep at h; subst h; unfold fv Rep; rfl
  | .str _, _, _, h => by unfold Rep at h; subst h; unfold fv Rep; rfl
  | .raw _, _, _, h => by unfold Rep at h; subst h; unfold fv Rep; rfl
  | .ins C ns ds, v, hn, h => Rep.mono thw_ex (List.prefix_refl _) _ v (Rep.nl _ v hn h)
  | .dic ks ds, v, hn, h => Rep.mono thw_ex (List.prefix_refl _) _ v (Rep.nl _ v hn h)
  | .exc C ns ds, v, hn, h => Rep.mono thw_ex (List.prefix_refl _) _ v (Rep.nl _ v hn h)
  | .loc n, v, hn, h => by
    unfold Rep at h
    obtain ⟨a, rfl, ha⟩ := h
    unfold fv at hn ⊢
    split at hn
    · rename_i ds hc
      obtain ⟨b, q1, q2, q3, vs, q4, q5⟩ := S.ce n _ hc (by simp)
      rw [ha] at q1; cases q1
      unfold Rep
      exact ⟨a, vs, rfl, thw_cell q2 (List.mem_of_getElem? ha) q4 rfl, (Reps.nl ds vs hn q5).mono thw_ex (List.prefix_refl _)⟩
    · rename_i ks ds hc
      obtain ⟨b, q1, q2, q3, vs, q4, q5, q6⟩ := S.ce n _ hc (by simp)
      rw [ha] at q1; cases q1
      unfold Rep
      exact ⟨a, vs, rfl, .inl (thw_cell q2 (List.mem_of_getElem? ha) q4 rfl), (Reps.nl ds vs hn q5).mono thw_ex (List.prefix_refl _), q6⟩
    · cases hn
  | .tup ds, v, hn, h => by
    unfold Rep at h
    obtain ⟨a, vs, rfl, h1, h2⟩ := h
    show Rep _ _ _ (.tup (fvs Λ ds)) _
    unfold Rep
    exact ⟨a, vs, rfl, thw_ex.sqT h1, repsw S ds vs hn h2⟩
  | .lst ds, v, hn, h => by
    unfold Rep at h
    obtain ⟨a, vs, rfl, h1, h2⟩ := h
    show Rep _ _ _ (.lst (fvs Λ ds)) _
    unfold Rep
    exact ⟨a, vs, rfl, thw_ex _ _ h1, repsw S ds vs hn h2⟩
  | .fzl ds, v, hn, h => by
    unfold Rep at h
    obtain ⟨a, vs, rfl, h1, h2⟩ := h
    show Rep _ _ _ (.fzl (fvs Λ ds)) _
    unfold Rep
    exact ⟨a, vs, rfl, thw_ex.sqL h1, repsw S ds vs hn h2⟩
theorem repsw (S : Sat K F B α Γ Λ σ H) : ∀ (ds : List D) (vs : List V), nls (fvs Λ ds) = true → Reps K B α ds vs → Reps K (thw B α H) [] (fvs Λ ds) vs
  | [], _, _, h => by unfold Reps at h; subst h; unfold fvs Reps; rfl
  | d :: ds, vs, hn, h => by
    unfold Reps at h
    obtain ⟨v, r, rfl, h1, h2⟩ := h
    have hn : (nl (fv Λ d) && nls (fvs Λ ds)) = true := hn
    rw [Bool.and_eq_true] at hn
    show Reps _ _ _ (fv Λ d :: fvs Λ ds) _
    unfold Reps
    exact ⟨v, r, rfl, repw S d v hn.1 h1, repsw S ds r hn.2 h2⟩
end
theorem thw_sub (S : Sat K F B α Γ Λ σ H) : Ex (thw B α H) H := fun a o h => by
  rcases thw_cases h with z | ⟨_, _, z, _⟩
  · exact S.bh a o z
  · exact z
open Classical in
/-- what a callee that saw what is owned leaves behind: its new things, and those of X -/
noncomputable def nwB (B H B' H2 : Hp) (X : Addr → Prop) : Hp := fun a => match B a with
  | some o => some o
  | none => if H a = none ∧ (B' a ≠ none ∨ X a) then H2 a else none
variable {H1 B' H2 : Hp} {α' α0 : List Addr} {Γ' : Pl.Env} {Λ' : Cells} {σ' : L2.St} {X : Addr → Prop}
theorem nw_ex : Ex B (nwB B H B' H2 X) := fun a o h => by unfold nwB; rw [h]
theorem nw_new {a : Addr} {o : HO} (hB : B a = none) (h : H a = none) (x : B' a ≠ none ∨ X a) (e : H2 a = some o) : nwB B H B' H2 X a = some o := by
  unfold nwB; rw [hB]; dsimp only; rw [if_pos ⟨h, x⟩]; exact e
theorem nw_cases {a : Addr} {o : HO} (h : nwB B H B' H2 X a = some o) : B a = some o ∨ (B a = none ∧ H a = none ∧ H2 a = some o) := by
  unfold nwB at h
  split at h
  · rename_i u hu; cases h; exact .inl hu
  · rename_i hB
    split at h
    · rename_i hc; exact .inr ⟨hB, hc.1, h⟩
    · cases h
theorem sat_nw (S : Sat K F B α Γ Λ σ H) (hx : Ex H H1) (hα : ∀ a ∈ α0, H a = none) (T : Sat K ⟨H1, thw B α H, α0⟩ B' α' Γ' Λ' σ' H2) : Sat K F (nwB B H B' H2 X) α Γ Λ σ H2 :=
  have kp : ∀ a o, H a = some o → H2 a = some o := fun a o h => T.kp a o (hx a o h) fun hm => by rw [hα a hm] at h; cases h
  have nn : ∀ a, H2 a = none → H a = none := fun a h => by
    cases e : H a with
    | none => rfl
    | some o => rw [kp a o e] at h; cases h
  { S with
    bb := S.bb.trans nw_ex
    bh := fun a o h => by
      rcases nw_cases h with z | ⟨_, _, z⟩
      · exact kp a o (S.bh a o z)
      · exact z
    fr := fun a o h => by
      rcases nw_cases h with z | ⟨_, z, _⟩
      · exact S.fr a o z
      · exact .inr (S.dm a z)
    kp := fun a o h h2 => kp a o (S.kp a o h h2)
    dm := fun a h => S.dm a (nn a h)
    ce := fun n c h hg => by
      obtain ⟨a, q1, q2, q3, q4⟩ := S.ce n c h hg
      refine ⟨a, q1, ?_, q3, q4.mono nw_ex (List.prefix_refl _) (kp a)⟩
      cases e : nwB B H B' H2 X a with
      | none => rfl
      | some o =>
        exfalso
        rcases nw_cases e with z | ⟨_, z, _⟩
        · rw [q2] at z; cases z
        · exact (S.ah a (List.mem_of_getElem? q1)).1 z
    ah := fun a ha => ⟨fun e => (S.ah a ha).1 (nn a e), (S.ah a ha).2⟩
    sl := fun i d hi => by
      obtain ⟨v, k1, k2⟩ := S.sl i d hi
      exact ⟨v, k1, k2.mono nw_ex (List.prefix_refl _)⟩ }
theorem sqT_nw (S : Sat K F B α Γ Λ σ H) (hx : Ex H H1) (T : Sat K ⟨H1, thw B α H, α0⟩ B' α' Γ' Λ' σ' H2) {a : Addr} {vs : List V} (h : SqT K B' a vs) : SqT K (nwB B H B' H2 X) a vs := by
  have key : ∀ o, B' a = some o → mutO o = false → nwB B H B' H2 X a = some o := fun o ho hm => by
    rcases T.fr a o ho with z | z
    · rcases thw_cases z with z | ⟨_, _, _, z⟩
      · exact nw_ex a o z
      · rw [hm] at z; cases z
    · have hn : H a = none := by
        cases e : H a with
        | none => rfl
        | some u => have z : H1 a = none := z
                    rw [hx a u e] at z; cases z
      have hB : B a = none := by
        cases e : B a with
        | none => rfl
        | some u => rw [S.bh a u e] at hn; cases hn
      exact nw_new hB hn (.inl (by rw [ho]; simp)) (T.bh a o ho)
  rcases h with (h | ⟨o, h⟩) | h
  · exact .inl (.inl (key _ h rfl))
  · exact .inl (.inr ⟨o, key _ h rfl⟩)
  · exact .inr h
mutual
theorem rep_imm {κ : Kl} {α'' : List Addr} (S : Sat K F B α Γ Λ σ H) (hx : Ex H H1) (T : Sat K ⟨H1, thw B α H, α0⟩ B' α' Γ' Λ' σ' H2) : ∀ (u : U) (v : V) {αx : List Addr}, imm u = true → Rep K B' αx (em κ u) v → Rep K (nwB B H B' H2 X) α'' (em κ u) v
  | .non, v, _, _, h => by unfold em Rep at h ⊢; exact h
  | .bl _, v, _, _, h => by unfold em Rep at h ⊢; exact h
  | .int _, v, _, _, h => by unfold em Rep at h ⊢; exact h
  | .str _, v, _, _, h => by unfold em Rep at h ⊢; exact h
  | .tup us, v, _, hi, h => by
    unfold em Rep at h
    obtain ⟨a, vs, rfl, h1, h2⟩ := h
    unfold em Rep
    exact ⟨a, vs, rfl, sqT_nw S hx T h1, reps_imm S hx T us vs hi h2⟩
  | .lst _, v, _, hi, _ => by cases hi
  | .fzl _, v, _, hi, _ => by cases hi
  | .dic _ _, v, _, hi, _ => by cases hi
  | .ins _ _, v, _, hi, _ => by cases hi
  | .exc _ _, v, _, hi, _ => by cases hi
theorem reps_imm {κ : Kl} {α'' : List Addr} (S : Sat K F B α Γ Λ σ H) (hx : Ex H H1) (T : Sat K ⟨H1, thw B α H, α0⟩ B' α' Γ' Λ' σ' H2) : ∀ (us : List U) (vs : List V) {αx : List Addr}, imm.imms us = true → Reps K B' αx (ems κ us) vs → Reps K (nwB B H B' H2 X) α'' (ems κ us) vs
  | [], vs, _, _, h => by unfold ems Reps at h ⊢; exact h
  | u :: us, vs, _, hi, h => by
    have hi : (imm u && imm.imms us) = true := hi
    rw [Bool.and_eq_true] at hi
    unfold ems Reps at h
    obtain ⟨v, r, rfl, h1, h2⟩ := h
    unfold ems Reps
    exact ⟨v, r, rfl, rep_imm S hx T u v hi.1 h1, reps_imm S hx T us r hi.2 h2⟩
end
end
section
variable {κ : Kl} {C : Pl.Ctx} {E : ER} {Γ Γ' : Pl.Env} {Λ : Cells} {e : Expr}
theorem sat_thwE {K : PySem.W.Frag} {F : Fm} {B : Hp} {α : List Addr} {σ : L2.St} {H : Hp} (S : Sat K F B α Γ Λ σ H) (t : ThE κ Λ Γ Γ') : Sat K ⟨H, thw B α H, []⟩ (thw B α H) [] Γ' [] σ H where
  bb := Ex.refl _
  bh := thw_sub S
  fr := fun a o h => .inl h
  kp := fun a o h _ => h
  dm := fun a h => h
  pf := List.prefix_refl _
  nd := List.nodup_nil
  al := rfl
  ce := fun n c h => by simp at h
  ah := fun a h => by simp at h
  sl := fun i d hi => by
    obtain ⟨d0, u, h1, h2, rfl⟩ := t.get i d hi
    obtain ⟨v, k1, k2⟩ := S.sl i d0 h1
    exact ⟨v, k1, by rw [← h2]; exact repw S d0 v (by rw [h2]; exact nl_em u) k2⟩
  ln := by rw [t.len]; exact S.ln
theorem we_thawI {α : Type} {Q : α → Prop} {Eh : Str → List U → Prop} {m : M U} {k : U → M α} {P : D → Cells → Prop} (t : ThE κ Λ Γ Γ') (h : wp (m.calm.bind fun z => (immM z).bind k) Q Eh)
    (hi : ∀ Q1 : U → Prop, wp m Q1 no → WE C ER.none Γ' [] e fun d _ => ∃ z, d = em κ z ∧ Q1 z) (hk : ∀ z, wp (k z) Q Eh → P (em κ z) Λ) : WE C E Γ Λ e P := fun X F W is tk => by
  refine pe_imp pe_U fun σ H Q2 ⟨B, α, S, q, er⟩ => ?_
  have h1 : wp m (fun z => wp ((immM z).bind k) Q Eh) no := wp_calm (wp_bind h)
  refine WE.use (hi _ h1) is tk (sat_thwE S t) (fun _ _ _ _ _ _ _ z => z.elim) fun d Λ' v B' α' H' p T x f r => ?_
  obtain ⟨z, rfl, p⟩ := p
  have p := wp_bind p
  unfold immM at p
  split at p
  · rename_i hz
    have S2 := sat_nw (X := fun _ => False) S (Ex.refl H) (by simp) T
    exact q _ Λ v _ α H' (hk z p) S2 nw_ex (List.prefix_refl _) (rep_imm S (Ex.refl H) T z v hz r)
  · exact p.elim
theorem wn_thawI {α : Type} {Q : α → Prop} {Eh : Str → List U → Prop} {m : M (List U)} {k : List U → M α} {P : List D → Cells → Prop} (t : ThE κ Λ Γ Γ') (h : wp (m.calm.bind fun z => (immsM z).bind k) Q Eh)
    (hi : ∀ Q1 : List U → Prop, wp m Q1 no → WN C ER.none Γ' [] e fun ds _ => ∃ z, ds = ems κ z ∧ Q1 z) (hk : ∀ z, wp (k z) Q Eh → P (ems κ z) Λ) : WN C E Γ Λ e P := fun X F W is tk => by
  refine pe_imp pe_U fun σ H Q2 ⟨B, α, S, q, er⟩ => ?_
  have h1 : wp m (fun z => wp ((immsM z).bind k) Q Eh) no := wp_calm (wp_bind h)
  refine WN.use (hi _ h1) is tk (sat_thwE S t) (fun _ _ _ _ _ _ _ z => z.elim) fun ds Λ' pa vs B' α' H' p T x f q1 q2 q3 q4 q5 => ?_
  obtain ⟨z, rfl, p⟩ := p
  have p := wp_bind p
  unfold immsM at p
  split at p
  · rename_i hb
    have hn : H pa = none := q3
    have S2 := sat_nw (X := fun _ => False) S (Ex.refl H) (by simp) T
    refine q _ Λ pa vs _ α H' (hk z p) S2 nw_ex (List.prefix_refl _) q1 ?_ (S.dm pa hn) (fun hm => (S.ah pa hm).1 hn) (reps_imm S (Ex.refl H) T z vs hb q5)
    cases hB : nwB B H B' H' (fun _ => False) pa with
    | none => rfl
    | some ob =>
      exfalso
      unfold nwB at hB
      split at hB
      · rename_i u hu; rw [S.bh pa u hu] at hn; cases hn
      · split at hB
        · rename_i hc
          rcases hc.2 with z | z
          · exact z q2
          · exact z
        · cases hB
  · exact p.elim
end
/-! ### __init__: the field is a new list -/
def spI2 (κ : Kl) (n : Nat) (Cl : Addr) (f : Str) (g : List U → M (List U)) : Pl.Spec := fun ds Λ Q _ => Λ = [.ins Cl [] []] ∧ ∃ us, ds = .loc 0 :: ems κ us ∧ us.length + 1 = n ∧ wp (g us) (fun z => Q (.val .non) [.ins Cl [f] [.loc 1], .lst (ems κ z)]) no
section
variable {κ : Kl}
theorem spI2_mono {n : Nat} {Cl : Addr} {f : Str} {g : List U → M (List U)} : Mono (spI2 κ n Cl f g) := fun ds Λ Q Q' E E' ⟨h0, us, h1, h2, h3⟩ i j => ⟨h0, us, h1, h2, wp_mono h3 (fun z h => i _ _ h) fun c es h => h⟩
theorem spI2_none {n : Nat} {Cl : Addr} {f : Str} {g : List U → M (List U)} (hf : ∀ us, g us = .stuck) (ds : List D) (Λ : Cells) (Q : Res → Cells → Prop) (E : Err → Cells → Prop) : ¬ spI2 κ n Cl f g ds Λ Q E := fun ⟨_, us, _, _, h⟩ => by rw [hf] at h; exact h
end
theorem fn_okI {P : Program} {w : World} {K : PySem.W.Frag} {mg : Str → Option Value} {base : Heap} {x qual : Str} {st : Stmt} {f : Addr} {fd : FuncData} {N ps : List Str} {k : Nat} {κ : Kl} {Cl : Addr} {fl : Str} {g : List U → M (List U)} (F : Fun K x qual st f fd) (sc : FnScope N ps (defScope st)) (C : Pl.Ctx)
    (hC : C.P = P ∧ C.w = w ∧ C.K = K ∧ C.mg = mg ∧ C.base = base ∧ C.N = N ∧ C.sc = defScope st ∧ C.k = k) (good : C.Good) (hm : 1 ≤ C.m)
    (hb : ∀ us, us.length + 1 = ps.length → ∀ Q, wp (g us) Q no → WSs C (Γ0 N (.loc 0 :: ems κ us)) [.ins Cl [] []] (defBody st) ⟨fun _ Λ' => ∃ z, Λ'[0]? = some (.ins Cl [fl] [.loc 1]) ∧ Λ'[1]? = some (.lst (ems κ z)) ∧ Q z, fun _ _ => False, fun _ _ => False, fun _ _ => False, ER.none⟩) : FnOk P w K mg base (L2.CX P w) (k + 1) f fd ps (spOf K ps.length (spI2 κ ps.length Cl fl g)) := by
  obtain ⟨rfl, rfl, rfl, rfl, rfl, rfl, hsc, rfl⟩ := hC
  refine F.okX sc (fun vs H Q E h => by obtain ⟨_, _, _, h, _⟩ := h; exact h) fun cdv A outer s H vs Q E hr h => ?_
  obtain ⟨Fm', ds, Λ, hl, hH, T, r, sp⟩ := h
  obtain ⟨hΛ, us, hus, hul, hg⟩ := sp
  subst hΛ; subst hus
  have hds : (D.loc 0 :: ems κ us).length = ps.length := by rw [← r.length]; exact hl
  let X := cxOf (L2.CX C.P C.w) C.P C.w C.K C.mg C.base C.N qual (defScope st) f cdv A outer s H E
  have is : C.Is X := ⟨rfl, rfl, rfl, rfl, rfl, rfl, hsc.symm, rfl, hr, fun _ _ _ _ => .inl rfl, good, passes_of rfl, fun _ => ⟨rfl, rfl, rfl⟩⟩
  have tk : Takes X (fun c d _ H => E c d H) := takes_of rfl rfl rfl rfl
  have hN : ps.length ≤ C.N.length := by have := congrArg List.length sc.pre; rw [List.length_take] at this; omega
  have T' : Sat C.K Fm' Fm'.B0 Fm'.α0 (Γ0 C.N (.loc 0 :: ems κ us)) [.ins Cl [] []] (L2.start C.N vs) H := by
    refine T.env ?_ fun i d hi => ?_
    · unfold Γ0 L2.start
      simp only [List.length_append, List.length_map, List.length_replicate]
      omega
    · unfold Γ0 at hi
      by_cases hlt : i < (D.loc 0 :: ems κ us).length
      · rw [List.getElem?_append_left (by simpa using hlt), List.getElem?_map] at hi
        cases q : (D.loc 0 :: ems κ us)[i]? with
        | none => rw [q] at hi; cases hi
        | some e =>
          rw [q] at hi
          cases hi
          obtain ⟨v, h1, h2⟩ := r.get q
          refine ⟨v, ?_, h2⟩
          unfold L2.start
          rw [List.getElem?_append_left (by have := (List.getElem?_eq_some_iff.mp h1).1; simpa using this), List.getElem?_map, h1]
          rfl
      · rw [List.getElem?_append_right (by simpa using hlt), List.getElem?_replicate] at hi
        split at hi <;> cases hi
  have hal : Fm'.α0.length = 1 := T.al
  refine ⟨_, hb us (by omega) _ hg X Fm' _ is (by rw [hal]; exact hm) tk, Fm'.B0, Fm'.α0, T', ⟨fun Γ' Λ' B' α' σ' H' h S' e => ?_, fun r Λ' v Γ' B' α' σ' H' h => h.elim, fun Γ' Λ' B' α' σ' H' h => h.elim, fun Γ' Λ' B' α' σ' H' h => h.elim, fun err Γ' Λ' B' α' σ' H' c dx h => h.elim⟩⟩
  obtain ⟨z, h0, h1, hq⟩ := h
  refine hq .non H' B' (α'.take 2) ?_ (by unfold ResAt Rep; rfl)
  have hlen : 2 ≤ Λ'.length := by have := (List.getElem?_eq_some_iff.mp h1).1; omega
  refine { S' with pf := ?_, nd := S'.nd.sublist (List.take_sublist _ _), al := by rw [List.length_take, S'.al]; show min 2 Λ'.length = 2; omega, ce := fun n c h hg' => ?_, ah := fun a ha => S'.ah a (List.mem_of_mem_take ha), sl := fun i d h => by simp at h, ln := rfl }
  · obtain ⟨t, ht⟩ := S'.pf
    rw [← ht, List.take_append, List.take_of_length_le (by omega)]
    exact List.prefix_append _ _
  · match n, h with
    | 0, h =>
      cases h
      obtain ⟨a, q1, q2, q3, q4⟩ := S'.ce 0 _ h0 (by simp)
      obtain ⟨dx, vs, k1, k2, k3⟩ := q4
      exact ⟨a, by rw [List.getElem?_take_of_lt (by omega)]; exact q1, q2, q3, dx, vs, k1, by
        unfold Reps at k2 ⊢
        obtain ⟨v, r', e1, e2, e3⟩ := k2
        refine ⟨v, r', e1, reps_take rfl e2, ?_⟩
        unfold Reps at e3 ⊢; exact e3, k3⟩
    | 1, h =>
      cases h
      obtain ⟨a, q1, q2, q3, vs, k1, k2⟩ := S'.ce 1 _ h1 (by simp)
      exact ⟨a, by rw [List.getElem?_take_of_lt (by omega)]; exact q1, q2, q3, vs, k1, Reps.nl _ vs (nls_em z) k2⟩
    | n + 2, h => simp at h
section
variable {κ : Kl} {G : Gl} {Cl : Addr} {x m : Str} {N : List Str} {vs ls : List Bool} {gl : List Str} {k : Nat} {f : Str} {g : List U → M (List U)} {qual : Str} {st : Stmt} {ps : List Str}
theorem init_I2 (h : InitAt G.K Cl qual st ps) (sc : FnScope N ps (defScope st)) (good : goodC N (defScope st) vs ls gl = true)
    (hb : ∀ us, us.length + 1 = ps.length → ∀ Q, wp (g us) Q no → WSs (G.cx N (defScope st) vs ls gl k 1) (Γ0 N (.loc 0 :: ems κ us)) [.ins Cl [] []] (defBody st) ⟨fun _ Λ' => ∃ z, Λ'[0]? = some (.ins Cl [f] [.loc 1]) ∧ Λ'[1]? = some (.lst (ems κ z)) ∧ Q z, fun _ _ => False, fun _ _ => False, fun _ _ => False, ER.none⟩) : Glit G (k + 1) Cl ps.length (spI2 κ ps.length Cl f g) :=
  h.fn fun fa fd F => fn_okI F sc (G.cx N (defScope st) vs ls gl k 1) ⟨rfl, rfl, rfl, rfl, rfl, rfl, rfl, rfl⟩ (good_by good) (Nat.le_refl _) hb
theorem init_C2 (h : CAt G.K G.mg x m qual st ps) (sc : FnScope N ps (defScope st)) (good : goodC N (defScope st) vs ls gl = true)
    (hb : ∀ us, us.length + 1 = ps.length → ∀ Q, wp (g us) Q no → WSs (G.cx N (defScope st) vs ls gl k 1) (Γ0 N (.loc 0 :: ems κ us)) [.ins Cl [] []] (defBody st) ⟨fun _ Λ' => ∃ z, Λ'[0]? = some (.ins Cl [f] [.loc 1]) ∧ Λ'[1]? = some (.lst (ems κ z)) ∧ Q z, fun _ _ => False, fun _ _ => False, fun _ _ => False, ER.none⟩) : Glct G (k + 1) x m ps.length (spI2 κ ps.length Cl f g) :=
  h.fn fun fa fd F => fn_okI F sc (G.cx N (defScope st) vs ls gl k 1) ⟨rfl, rfl, rfl, rfl, rfl, rfl, rfl, rfl⟩ (good_by good) (Nat.le_refl _) hb
end
section
variable {κ : Kl} {C : Pl.Ctx} {E : ER} {Γ : Pl.Env} {Λ : Cells} {pos p apos : Pos} {e : Expr} {es : List Expr} {f m x c : Str} {k n : Nat}
/-- the base class's __init__, called with the thing that is being made -/
theorem we_cinit2 {Cl : Addr} {P : D → Cells → Prop} {g : List U → M (List U)} {pl : PySem.Env → Sem Bool} (G : cfn C k x m n (spI2 κ n Cl f g)) (hk : k ≤ C.k) (hj : GlAt C x)
    (h : WA C E Γ Λ (e :: es) fun ds Λ1 => ∃ us, ds = .loc 0 :: ems κ us ∧ us.length + 1 = n ∧ Λ1 = [.ins Cl [] []] ∧ wp (g us) (fun z => P .non [.ins Cl [f] [.loc 1], .lst (ems κ z)]) no)
    (he : plainE e = true := by rfl) (hes : es.all plainE = true := by rfl) (hdb : (x == ("__debug__" : Str)) = false := by decide) (ht : MethT pl (.Name x p) m apos (e :: es) pos := by intro _; rfl) : WE C E Γ Λ (.Call (.Attribute (.Name x p) m apos) (e :: es) [] pos) P := fun X F W is tk => by
  obtain ⟨Cx, mc, f', fd, ps, h1, h2, h3, h4, h5, h6⟩ := G.ex
  have e1 := is.prog; have e2 := is.w; have e3 := is.K; have e4 := is.mg; have e5 := is.base
  refine pe_imp (pe_cfn (CX := L2.CX C.P C.w) (E := fun _ _ _ => False) (pl := pl X.env) (pe_glob (v := .ref Cx) (is.gl hj) (by rw [e4]; exact h1) rfl hdb) (by rw [e3]; exact h2) (by rw [e3]; exact h3) (by rw [e3]; exact h4) (by rw [e1, e2, e3, e4, e5]; exact h5) (is.room.mono hk) (by rw [e3]; exact h6) passF pa_U
    (star_plain he) (back_plain hes) (ht _)) fun σ H Q ⟨B, α, T, q, er⟩ => ?_
  refine ⟨rfl, ?_⟩
  refine WA.use h is tk T er fun ds Λ1 vs B1 α1 H1 p1 T1 x1 f1 r1 => ?_
  obtain ⟨us, rfl, hl, rfl, s1⟩ := p1
  refine ⟨⟨H1, B1, α1⟩, .loc 0 :: ems κ us, [.ins Cl [] []], by rw [List.append_nil, r1.length, List.length_cons, ems_len, hl], rfl, T1.rebase.noEnv, by rw [List.append_nil]; exact r1, rfl, us, rfl, hl, wp_mono s1 (fun z hz v H' B' α' T' ra => ?_) fun _ _ h => h⟩
  have hv : v = .non := by unfold ResAt Rep at ra; exact ra
  subst hv
  have T3 : Sat C.K ⟨H1, B1, α1⟩ B' α' Γ [.ins Cl [f] [.loc 1], .lst (ems κ z)] σ H' := T'.env T1.ln fun i d hi => by
    obtain ⟨v, k1, k2⟩ := T1.sl i d hi
    exact ⟨v, k1, k2.mono T'.bb T'.pf⟩
  exact q .non _ .non B' α' H' hz (T1.unbase T3) (x1.trans T'.bb) (f1.trans T'.pf) (by unfold Rep; rfl)
/-- C(e, ..): a new thing, seen at once; what is owned may be handed -/
theorem we_makeF {P : D → Cells → Prop} {g : List U → M (List U)} (G : it C k (κ.ad c) n (spI2 κ n (κ.ad c) f g)) (hk : k + 1 ≤ C.k) (hj : GlAt C x) (hg : C.mg x = some (.ref (κ.ad c))) (hf : κ.fs c = [f])
    (h : WA C E Γ Λ (e :: es) fun ds Λ1 => ∃ us, fvs Λ1 ds = ems κ us ∧ us.length + 1 = n ∧ wp (g us) (fun z => imm.imms z = true ∧ P (em κ (.ins c [.lst z])) Λ1) no)
    (he : plainE e = true := by rfl) (hes : es.all plainE = true := by rfl) (hdb : (x == ("__debug__" : Str)) = false := by decide) : WE C E Γ Λ (.Call (.Name x p) (e :: es) [] pos) P := fun X F W is tk => by
  obtain ⟨f', fd, ps, h1, h2, h3⟩ := G.ex
  have e1 := is.prog; have e2 := is.w; have e3 := is.K; have e4 := is.mg; have e5 := is.base
  refine pe_imp (pe_make (E := fun _ _ _ => False) (dvs := []) (ds := []) (by rw [e3]; exact h2) (by rw [e1, e2, e3, e4, e5]; exact h1) (is.room.mono hk) (is.gl hj) (by rw [e4]; exact hg) (by rw [e3]; exact h3) .nil
    passF pa_U hdb (star_plain he) (back_plain hes)) fun σ H Q ⟨B, α, T, q, er⟩ => ?_
  refine WA.use h is tk T er fun ds Λ1 vs B1 α1 H1 p1 T1 x1 f1 r1 => ?_
  obtain ⟨us, hu, hl, s1⟩ := p1
  intro y dx hy hdx ne
  have hex : Ex H1 (upd (upd H1 dx (.own y)) y (.ins (κ.ad c) dx [])) := (Ex.new hdx).trans (Ex.new (by rw [upd_ne (fun z => ne z.symm)]; exact hy))
  have hty : thw B1 α1 H1 y = none := by
    cases e : thw B1 α1 H1 y with
    | none => rfl
    | some o => rw [thw_sub T1 y o e] at hy; cases hy
  have S0 : Sat C.K ⟨upd (upd H1 dx (.own y)) y (.ins (κ.ad c) dx []), thw B1 α1 H1, [y]⟩ (thw B1 α1 H1) [y] [] [.ins (κ.ad c) [] []] [] (upd (upd H1 dx (.own y)) y (.ins (κ.ad c) dx [])) :=
    { bb := Ex.refl _, bh := (thw_sub T1).trans hex, fr := fun a o h => .inl h, kp := fun a o h _ => h, dm := fun a h => h, pf := List.prefix_refl _, nd := by simp, al := rfl
      ce := fun i cc hc hgn => by
        match i, hc with
        | 0, hc => cases hc; exact ⟨y, rfl, hty, .inr (List.mem_singleton_self _), dx, [], upd_same, .nil, rfl⟩
        | i + 1, hc => simp at hc
      ah := fun a ha => by rw [List.mem_singleton] at ha; subst ha; exact ⟨by rw [upd_same]; simp, .inr (List.mem_singleton_self _)⟩
      sl := fun i d h => by simp at h
      ln := rfl }
  have rr : Reps C.K (thw B1 α1 H1) [y] (.loc 0 :: ems κ us) (.ref y :: vs) := .cons (by unfold Rep; exact ⟨y, rfl, rfl⟩) (Reps.nl _ vs (nls_em us) (by rw [← hu]; exact repsw T1 ds vs (by rw [hu]; exact nls_em us) r1))
  have hdl : ds.length = us.length := by rw [← fvs_len (Λ := Λ1), hu, ems_len]
  refine ⟨⟨upd (upd H1 dx (.own y)) y (.ins (κ.ad c) dx []), thw B1 α1 H1, [y]⟩, .loc 0 :: ems κ us, [.ins (κ.ad c) [] []], by rw [List.append_nil, List.length_cons, r1.length, hdl, hl], rfl, S0, by rw [List.append_nil]; exact rr, rfl, us, rfl, hl, wp_mono s1 (fun z ⟨hz, hp⟩ v H2 B' α' T' ra => ?_) fun _ _ h => h.elim⟩
  have hv : v = .non := by unfold ResAt Rep at ra; exact ra
  refine ⟨hv, ?_⟩
  have hal : α'.length = 2 := T'.al
  obtain ⟨a0, q1, q2, q3, dx', ws, q4, q5, q6⟩ := T'.ce 0 _ rfl (by simp)
  obtain ⟨a1, k1, k2, k3, zs, k4, k5⟩ := T'.ce 1 _ rfl (by simp)
  have hy0 : a0 = y := by
    obtain ⟨t, ht⟩ := T'.pf
    have : ([y] ++ t)[0]? = α'[0]? := by rw [show [y] ++ t = α' from ht]
    rw [q1] at this
    exact (Option.some.inj this).symm
  subst hy0
  have hne : a1 ≠ a0 := fun e => by
    subst e
    have := (List.getElem?_inj (by omega) T'.nd).mp (k1.trans q1.symm)
    cases this
  have hn1 : H1 a1 = none := by
    rcases k3 with z' | z'
    · cases e : H1 a1 with
      | none => rfl
      | some o => have z' : upd (upd H1 dx (.own a0)) a0 (.ins (κ.ad c) dx []) a1 = none := z'
                  rw [hex a1 o e] at z'; cases z'
    · exact absurd (List.mem_singleton.mp z') hne
  have nB : ∀ a, H1 a = none → B1 a = none := fun a h => by
    cases e : B1 a with
    | none => rfl
    | some o => rw [T1.bh a o e] at h; cases h
  have hws : ws = [.ref a1] := by
    unfold Reps at q5
    obtain ⟨v', r', e1', e2', e3'⟩ := q5
    unfold Reps at e3'
    unfold Rep at e2'
    obtain ⟨a', ev, ea⟩ := e2'
    rw [k1] at ea; cases ea
    rw [e1', e3', ev]
  subst hws
  have S2 := sat_nw (X := fun a => a = a0 ∨ a = a1) T1 hex (fun a ha => by rw [List.mem_singleton] at ha; subst ha; exact hy) T'
  refine q _ Λ1 _ _ α1 H2 hp S2 (x1.trans nw_ex) f1 ?_
  show Rep _ _ _ (.ins (κ.ad c) (κ.fs c) [.lst (ems κ z)]) _
  rw [hf]
  unfold Rep
  refine ⟨a0, dx', [.ref a1], rfl, nw_new (nB _ hy) hy (.inr (.inl rfl)) q4, .one ?_, rfl⟩
  unfold Rep
  exact ⟨a1, zs, rfl, nw_new (nB _ hn1) hn1 (.inr (.inr rfl)) k4, reps_imm T1 hex T' z zs hz k5⟩
variable {R : Rs} {o : Expr}
/-- self.f = e, e a new list -/
theorem ws_fld2 {Cl : Addr} {pos2 : Pos} (hc : Cls C.K Cl) (hn : NoAttr C.K Cl f) (h : WE C R.er Γ Λ e fun d Λ1 => WE C R.er Γ Λ1 o fun x Λ2 => ∃ n, x = .loc n ∧ Λ2[n]? = some (.ins Cl [] []) ∧ R.nx Γ (Λ2.set n (.ins Cl [f] [d])))
    (hs : ∀ env, swapsWith e (some (.Attribute o f pos2)) pos.line env = pure false := by intro _; rfl) : WS C Γ Λ (.Assign [.Attribute o f pos2] e pos) R := ws_fld hc hn h hs
theorem finKi {α : Type} {Q : α → Prop} {Eh : Str → List U → Prop} {m : M (List U)} {k : List U → M α} {P : List U → Prop} (h : wp (m.calm.bind fun z => (immsM z).bind k) Q Eh) (i : ∀ z, wp (k z) Q Eh → P z) : wp m (fun z => imm.imms z = true ∧ P z) no :=
  wp_mono (wp_calm (wp_bind h)) (fun z h => by
    have h := wp_bind h
    unfold immsM at h
    split at h
    · rename_i hz; exact ⟨hz, i z h⟩
    · exact h.elim) fun _ _ h => h
end
end Sh

/-! Sh17: list(reversed(x)), list(range(..)), x.reverse(), isinstance(x, C). -/
namespace Sh
open PySem PySem.Spec L2 Pl PyProof.Rows Law
section
variable {prog : Program} {w : World} {A : Around} {E : Value → Shared → Prop} {s : Shared}
theorem extend_rev {R : Result → Shared → Prop} {it l S : Addr} {items : Array Value} {res : Value} {c0 : Nat} (hh : A.handled = none) (hit : s.heap.IsRevIter it l ((items.size : Int) - 1)) (hl : s.heap.IsList l items) (hne : l ≠ it) (hn : items.size ≤ sizeLine)
    (hS : s.heap.get? S = some { cls := .type "list", data := .seq #[] c0 }) (hSi : S ≠ it) (hSl : S ≠ l)
    (hR : ∀ h' tk acc' c', (∀ b o, b ≠ S → b ≠ it → s.heap.get? b = some o → h'.get? b = some o) → h'.get? S = some { cls := .type "list", dict := none, data := .seq acc' c', slots := #[] } → ItemsOf (fun i v => items[items.size - 1 - i]? = some v) acc' items.size → R (.ok (.ret res)) { s with heap := h', toks := tk }) :
    wpAny (model prog w) A.in1 (Builtin.List.listExtendWith (.ref S) (.ref it) res)
      (fun fin s' => match fin with | .done f => R (.ok f) s' | .again c' => c'.quiet = true ∧ codeAny (model prog w) A c' R s') (fun e s' => R (.error e) s') s := by
  have W := (Walks.listRev (prog := prog) (w := w) (A := A.in1) hh it l hne items).toS
  have hSf : S ∉ [it, l] := by simp only [List.mem_cons, List.not_mem_nil, or_false, not_or]; exact ⟨hSi, hSl⟩
  have hT : s.TypeIs (.ref it) "list_reverseiterator" := Heap.IsRevIter.typeIs hit
  have k1 : Builtin.List.listSameRef (.ref S) (.ref it) = false := by simp [Builtin.List.listSameRef, hSi]
  unfold Builtin.List.listExtendWith
  refine wpAny_bind (wpAny_typeOf hT ?_)
  rw [if_neg (by rw [k1]; decide)]
  refine wpAny_bind (wpAny_pyIter_revIter hit (wpAny_bind (wpAny_holding ?_)))
  unfold Builtin.List.listLengthHint
  refine wpAny_bind (wpAny_specialOf hT RT.nolen_lri ?_)
  show wpAny _ A.in1 (specialOf (Value.ref it) (Str.ofString "__length_hint__") >>= _) _ _ _
  refine wpAny_bind (wpAny_specialOf hT RT.hint_lri ?_)
  generalize hid : ("list_reverseiterator.__length_hint__" : String) = id0
  wp_delta
  rw [show splitId id0 = some ("list_reverseiterator", "__length_hint__") from by subst hid; decide +kernel]
  subst hid
  refine wpAny_bind (wpAny_isInstance (b := true) hT (by rw [isSubtype_type]; kernel_rfl) (wpAny_pure ?_))
  rw [if_neg (by decide)]
  have z0 : ((items.size : Nat) : Int) - 1 - ((0 : Nat) : Int) = (items.size : Int) - 1 := by omega
  refine wpAny_pure ⟨plainId_quiet F.plain_extend_loop _, codeAny_extend_loopS W hn S hSf res items.size 0 _ #[] c0 rfl (Nat.zero_le _) ⟨Nat.zero_le _, by rw [z0]; exact hit, hl⟩ hS (ItemsOf.nil _) fun s' acc' c' hm hS' hacc => ?_⟩
  rw [Moved.eq_with hm]
  refine hR s'.heap s'.toks acc' c' (fun b o hb hb2 e => hm.heap b o (fun hmem => ?_) e) hS' hacc
  rcases List.mem_cons.mp hmem with z | z
  · exact hb z
  · exact hb2 (List.mem_singleton.mp z)
theorem call_list_rev {it l : Addr} {items : Array Value} {Q : Value → Shared → Prop} (hh : A.handled = none) (hit : s.heap.IsRevIter it l ((items.size : Int) - 1)) (hl : s.heap.IsList l items) (hne : l ≠ it) (hn : items.size ≤ sizeLine)
    (hQ : ∀ h' tk acc' c', (∀ b o, b ≠ it → s.heap.get? b = some o → h'.get? b = some o) → h'.get? s.heap.objs.size = some { cls := .type "list", dict := none, data := .seq acc' c', slots := #[] } →
      ItemsOf (fun i v => items[items.size - 1 - i]? = some v) acc' items.size → Q (.ref s.heap.objs.size) { s with heap := h', toks := tk }) :
    wpAny (model prog w) A (call (.type "list") [.ref it]) Q E s := by
  obtain ⟨oi, hoi, _⟩ := id hit
  obtain ⟨ol, hol, _⟩ := id hl
  have hSi : s.heap.objs.size ≠ it := Nat.ne_of_gt (Heap.lt_size hoi)
  have hSl : s.heap.objs.size ≠ l := Nat.ne_of_gt (Heap.lt_size hol)
  refine callType_codes (Q₁ := fun obj s₁ => obj = .ref s.heap.objs.size ∧ s₁ = { s with heap := s.heap.push { cls := .type "list", data := .seq #[] } }) F.called_list (F.typeCall_list_1 _) F.entry_list_init
    (code_list_new _ ⟨rfl, rfl⟩) fun obj s₁ h₁ => ?_
  obtain ⟨rfl, rfl⟩ := h₁
  have hS : (s.heap.push { cls := .type "list", data := .seq #[] }).get? s.heap.objs.size = some { cls := .type "list", data := .seq #[] } := Heap.get?_push_size _ rfl
  refine ⟨⟨_, hS, rfl⟩, F.args_list_init_2 _ _, ?_⟩
  show wpAny _ A.in1.in1 (do let old ← Builtin.List.listItems (.ref s.heap.objs.size); Builtin.List.listUpdate (.ref s.heap.objs.size) (fun _ => #[]); letGo old.toList.reverse; Builtin.List.listExtendWith (.ref s.heap.objs.size) (.ref it) .none) _ _ _
  refine wpAny_bind ?_
  unfold Builtin.List.listItems
  refine wpAny_bind (wpAny_seqItems hS rfl (wpAny_pure ?_))
  show wpAny _ A.in1.in1 (updateSeq s.heap.objs.size (fun _ => #[]) >>= fun _ => letGo (#[] : Array Value).toList.reverse >>= fun _ => Builtin.List.listExtendWith (.ref s.heap.objs.size) (.ref it) .none) _ _ _
  refine wpAny_bind (wpAny_updateSeq hS rfl ?_)
  have hS2 := Heap.get?_update_self (Obj.mapSeq (fun _ => (#[] : Array Value))) hS rfl
  have oth : ∀ b o, b ≠ s.heap.objs.size → s.heap.get? b = some o → ((s.heap.push { cls := .type "list", data := .seq #[] }).update s.heap.objs.size (Obj.mapSeq (fun _ => (#[] : Array Value)))).get? b = some o :=
    fun b o hb e => (Heap.get?_update_other _ _ (Ne.symm hb)).trans (Heap.get?_push_of_some _ e)
  refine wpAny_bind (wpAny_letGo ?_)
  refine extend_rev (A := A.in1) (s := { s with heap := (s.heap.push { cls := .type "list", data := .seq #[] }).update s.heap.objs.size (Obj.mapSeq (fun _ => (#[] : Array Value))) }) hh (hit.at fun o e => oth it o (Ne.symm hSi) e) (hl.at fun o e => oth l o (Ne.symm hSl) e) hne hn hS2 hSi hSl fun h' tk acc' c' hk hS' hacc => ?_
  exact ⟨rfl, hQ h' tk acc' c' (fun b o hb e => hk b o (Nat.ne_of_lt (Heap.lt_size e)) hb (oth b o (Nat.ne_of_lt (Heap.lt_size e)) e)) hS' hacc⟩
end
/-- list(reversed(x)), x a list: a new list -/
def tLstRev (K : PySem.W.Frag) (te : TE) : TE := fun σ H Q => te σ H fun v H1 => ∃ (a : Addr) (xs : List V), v = .ref a ∧ SqL K H1 a xs ∧ ∀ q, H1 q = none → Q (.ref q) (upd H1 q (.lst xs.reverse))
theorem pe_lstRev {X : Cx} {e : Expr} {te : TE} {p p2 pos pos2 : Pos} (hc : X.calm = true) (hg : Gl X "list") (hm : X.mg "list" = none) (hg2 : Gl X "reversed") (hm2 : X.mg "reversed" = none) (he : PE X e te)
    (hs : starEach [e] X.env = (false, eval e X.env) :: starEach [] X.env) (hs2 : starEach [.Call (.Name "reversed" p2) [e] [] pos2] X.env = (false, eval (.Call (.Name "reversed" p2) [e] [] pos2) X.env) :: starEach [] X.env) :
    PE X (.Call (.Name "list" p) [.Call (.Name "reversed" p2) [e] [] pos2] [] pos) (tLstRev X.K te) := ⟨fun pins s σ H Q I h => by
  refine Call_ (ld_blt I hg hm boot_list (PyProof.Rows.callWith_type1 (args_cons (Call_ (ld_blt I hg2 hm2 PyProof.Rows.boot_reversed (PyProof.Rows.callWith_type1 (args_cons (thn (he.run pins s σ H _ I h) fun u s1 ⟨v, H1, I1, r1, q1⟩ => args_nil ?_) hs) hs rfl))) hs2) hs2 rfl))
  obtain ⟨a, xs, rfl, hq, q⟩ := q1
  obtain rfl : u = Value.ref a := r1
  obtain ⟨its, rv, pl, hz⟩ := I1.list hq
  refine call_reversed_list pl.isList (args_nil ?_)
  have I2 : Inv X pins σ H1 { s1 with heap := s1.heap.push (revObj a ((its.toArray.size : Int) - 1)) } := I1.kept (t' := s1.toks) fun b o e => Heap.get?_push_of_some _ e
  obtain ⟨f0, f1, f2, f3, f4, f5⟩ := I1.fpOk (H' := H1) (b := s1.heap.objs.size) (Nat.le_refl _) (I1.hok.fresh (Nat.le_refl _))
  have hl := pl.isList
  have hne : a ≠ s1.heap.objs.size := Nat.ne_of_lt pl.lt
  have hn : its.toArray.size ≤ sizeLine := by rw [List.size_toArray, ← rv.length]; exact hz
  have z1 : (s1.heap.push (revObj a ((its.toArray.size : Int) - 1))).objs.size = s1.heap.objs.size + 1 := Heap.size_push ..
  refine call_list_rev (s := { s1 with heap := s1.heap.push (revObj a ((its.toArray.size : Int) - 1)) }) (I1.ok.hd hc) ⟨_, Heap.get?_push_size _ rfl, rfl, rfl⟩ (hl.push _) hne hn fun h' tk acc c' hk hg hi => ?_
  dsimp only at hg
  have new : ObjOk X.prog X.w (upd H1 (s1.heap.push (revObj a ((its.toArray.size : Int) - 1))).objs.size (.lst xs.reverse)) h' (s1.heap.push (revObj a ((its.toArray.size : Int) - 1))).objs.size (.lst xs.reverse) :=
    ⟨by rw [List.length_reverse]; exact hz, acc.toList, c', RT.vals_rev rv hi, by rw [Array.toArray_toList]; exact hg⟩
  have I3 := I2.turnedNew (t' := tk) (h' := h') (ch := [s1.heap.objs.size]) (fun b o hb e => hk b o (fun z => hb (by simp [z])) e) (fun b hb => by rw [List.mem_singleton] at hb; subst hb; exact ⟨f0, f1, f2, f3, f4, f5⟩) (Nat.le_refl _) new
  exact ⟨.ref _, _, I3, rfl, q _ (I2.hok.fresh (Nat.le_refl _))⟩⟩
theorem reps_app {K : PySem.W.Frag} {B : Hp} {α : List Addr} {es : List D} {ws : List V} (h2 : Reps K B α es ws) : ∀ {ds : List D} {vs : List V}, Reps K B α ds vs → Reps K B α (ds ++ es) (vs ++ ws)
  | [], vs, h => by unfold Reps at h; subst h; exact h2
  | d :: ds, vs, h => by
    unfold Reps at h
    obtain ⟨v, r, rfl, a, b⟩ := h
    exact .cons a (reps_app h2 b)
theorem reps_rev {K : PySem.W.Frag} {B : Hp} {α : List Addr} : ∀ {ds : List D} {vs : List V}, Reps K B α ds vs → Reps K B α ds.reverse vs.reverse
  | [], vs, h => by unfold Reps at h; subst h; exact .nil
  | d :: ds, vs, h => by
    unfold Reps at h
    obtain ⟨v, r, rfl, a, b⟩ := h
    rw [List.reverse_cons, List.reverse_cons]
    exact reps_app (.one a) (reps_rev b)
section
variable {κ : Kl} {C : Pl.Ctx} {E : ER} {Γ : Pl.Env} {Λ : Cells} {pos p p2 pos2 apos cpos : Pos} {e e2 o : Expr}
/-- list(reversed(..)) -/
theorem wn_lrevM {P : List D → Cells → Prop} (hj : GlAt C "list") (hm : C.mg "list" = none) (hj2 : GlAt C "reversed") (hm2 : C.mg "reversed" = none) (h : WE C E Γ Λ e fun x Λ1 => ∃ u, x = em κ u ∧ wp (revM u) (fun z => P (ems κ z) Λ1) Tr) (he : plainE e = true := by rfl) :
    WN C E Γ Λ (.Call (.Name "list" p) [.Call (.Name "reversed" p2) [e] [] pos2] [] pos) P := fun X F W is tk => by
  refine pe_imp (pe_lstRev is.calm (is.gl hj) (by rw [is.mg]; exact hm) (is.gl hj2) (by rw [is.mg]; exact hm2) pe_U (star_plain he) (star_plain rfl)) fun σ H Q ⟨B, α, S, q, er⟩ => ?_
  refine WE.use h is tk S er fun d Λ' v B' α' H' p S' x f r => ?_
  obtain ⟨u, rfl, h⟩ := p
  unfold revM at h
  split at h
  · rename_i us hu
    have h : P (ems κ us.reverse) Λ' := h
    obtain ⟨a, vs, rfl, h1, h2⟩ := seqV hu r
    refine ⟨a, vs, rfl, by rw [is.K]; exact S'.bh.sqL h1, fun b hb => ?_⟩
    have S2 := S'.grow (H' := upd H' b (.lst vs.reverse)) (Ex.new hb)
    have hB : B' b = none := S'.bh.back hb
    refine q _ Λ' b _ B' α' _ h S2 x f upd_same hB (S'.dm b hb) (fun hm => (S'.ah b hm).1 hb) ?_
    rw [ems_map, List.map_reverse, ← ems_map]
    exact reps_rev h2
  · exact h.elim
/-- list(range(a)), list(range(a, b)) -/
def lrg1M : U → M (List U)
  | .int n => if decide (-(2 ^ 62) ≤ n) && decide (n ≤ 16777216) then .ok (rangeU 0 n.toNat) else .stuck
  | _ => .stuck
def lrg2M : U → U → M (List U)
  | .int l, .int n => if (decide (0 ≤ l) && decide (l ≤ 16777216)) && (decide (0 ≤ n) && decide (n ≤ 16777216)) then .ok (rangeU l (n - l).toNat) else .stuck
  | _, _ => .stuck
theorem rg_reps {K : PySem.W.Frag} {B : Hp} {α : List Addr} (a b : Int) : Reps K B α (ems κ (rangeU a (b - a).toNat)) (rgV a b) := by
  unfold rangeU rgV
  generalize (b - a).toNat = n
  rw [ems_map, List.map_map]
  generalize List.range n = l
  induction l with
  | nil => unfold List.map Reps; rfl
  | cons i l ih =>
    rw [List.map_cons, List.map_cons]
    exact .cons (by show Rep _ _ _ (.int _) _; unfold Rep; rfl) ih
theorem fin_rg {P : List D → Cells → Prop} {X : Cx} {F : Fm} {W : WX} {B : Hp} {α : List Addr} {σ : L2.St} {H : Hp} {Q : VK} {a b : Int} (S : Sat C.K F B α Γ Λ σ H) (hp : P (ems κ (rangeU a (b - a).toNat)) Λ)
    (q : ∀ ds Λ' p vs B' α' H', P ds Λ' → Sat C.K F B' α' Γ Λ' σ H' → Ex B B' → α <+: α' → H' p = some (.lst vs) → B' p = none → F.H0 p = none → p ∉ α' → Reps C.K B' α' ds vs → Q (.ref p) H') (x : Addr) (hx : H x = none) : Q (.ref x) (upd H x (.lst (rgV a b))) :=
  q _ Λ x _ B α _ hp (S.grow (Ex.new hx)) (Ex.refl _) (List.prefix_refl _) upd_same (S.bh.back hx) (S.dm x hx) (fun hm => (S.ah x hm).1 hx) (rg_reps a b)
theorem wn_lrg1M {P : List D → Cells → Prop} (hj : GlAt C "list") (hm : C.mg "list" = none) (hj2 : GlAt C "range") (hm2 : C.mg "range" = none) (h : WE C E Γ Λ e fun x Λ1 => ∃ u, Vw κ Λ1 x u ∧ wp (lrg1M u) (fun z => P (ems κ z) Λ1) Tr) (he : plainE e = true := by rfl) :
    WN C E Γ Λ (.Call (.Name "list" p) [.Call (.Name "range" p2) [e] [] pos2] [] pos) P := fun X F W is tk => by
  refine pe_imp (pe_listRg is.calm (is.gl hj) (by rw [is.mg]; exact hm) (prg_1 (is.gl hj2) (by rw [is.mg]; exact hm2) pe_U (star_plain he)) (star_plain rfl)) fun σ H Q ⟨B, α, S, q, er⟩ => ?_
  refine WE.use h is tk S er fun d Λ' v B' α' H' p' S' x f r => ?_
  obtain ⟨u, hu, h⟩ := p'
  unfold lrg1M at h
  split at h
  · rename_i n
    split at h
    · rename_i hb
      rw [Bool.and_eq_true, decide_eq_true_eq, decide_eq_true_eq, p62] at hb
      have e0 := hu.atom (by simp) (by simp) (by simp)
      subst e0
      rw [em] at r; unfold Rep at r; subst r
      have h : P (ems κ (rangeU 0 n.toNat)) Λ' := h
      refine ⟨n, rfl, ⟨by rw [p62]; omega, by rw [p62]; omega, by rw [p62]; omega, by rw [p62]; omega, by omega⟩, ?_⟩
      exact fin_rg (C := C) (X := X) (W := W) (P := P) S' (by rw [Int.sub_zero]; exact h) fun ds Λ' p vs B'' α'' H' a b c => q ds Λ' p vs B'' α'' H' a b (x.trans c) ∘ (f.trans ·)
    · exact h.elim
  · exact h.elim
theorem wn_lrg2M {P : List D → Cells → Prop} (hj : GlAt C "list") (hm : C.mg "list" = none) (hj2 : GlAt C "range") (hm2 : C.mg "range" = none) (h : WE C E Γ Λ e fun x Λ1 => WE C E Γ Λ1 e2 fun y Λ2 => ∃ u v, Vw κ Λ2 x u ∧ Vw κ Λ2 y v ∧ wp (lrg2M u v) (fun z => P (ems κ z) Λ2) Tr) (he : plainE e = true := by rfl) (he2 : plainE e2 = true := by rfl) :
    WN C E Γ Λ (.Call (.Name "list" p) [.Call (.Name "range" p2) [e, e2] [] pos2] [] pos) P := fun X F W is tk => by
  refine pe_imp (pe_listRg is.calm (is.gl hj) (by rw [is.mg]; exact hm) (prg_2 (is.gl hj2) (by rw [is.mg]; exact hm2) pe_U pe_U (star_plain he) (star_plain he2) (by rw [star_plain he2]; rfl)) (star_plain rfl)) fun σ H Q ⟨B, α, S, q, er⟩ => ?_
  refine WE.use h is tk S er fun d Λ1 v B1 α1 H1 p1 S1 x1 f1 r1 => ?_
  refine WE.use p1 is tk S1 (er.mono x1) fun d2 Λ2 v2 B2 α2 H2 p' S2 x2 f2 r2 => ?_
  obtain ⟨u, w, hu, hw, h⟩ := p'
  unfold lrg2M at h
  split at h
  · rename_i l n
    split at h
    · rename_i hb
      rw [Bool.and_eq_true, Bool.and_eq_true, Bool.and_eq_true, decide_eq_true_eq, decide_eq_true_eq, decide_eq_true_eq, decide_eq_true_eq] at hb
      have e0 := hu.atom (by simp) (by simp) (by simp)
      have e1 := hw.atom (by simp) (by simp) (by simp)
      subst e0; subst e1
      rw [em] at r1 r2; unfold Rep at r1 r2; subst r1; subst r2
      have h : P (ems κ (rangeU l (n - l).toNat)) Λ2 := h
      refine ⟨l, n, rfl, rfl, RgOk.of_le hb.1.1 hb.2.2 hb.1.2 hb.2.1, ?_⟩
      exact fin_rg (C := C) (X := X) (W := W) (P := P) S2 h fun ds Λ' p vs B'' α'' H' a b c => q ds Λ' p vs B'' α'' H' a b ((x1.trans x2).trans c) ∘ ((f1.trans f2).trans ·)
    · exact h.elim
  · exact h.elim
/-- x.reverse(), x owned -/
theorem we_revcM (n : Nat) {P : D → Cells → Prop} (h : WE C E Γ Λ o fun x Λ1 => x = .loc n ∧ ∃ us : List U, Λ1[n]? = some (.lst (ems κ us)) ∧ P .non (Λ1.set n (.lst (ems κ us.reverse))))
    (ho : plainO o = true := by rfl) (hl : (apos.endLine == cpos.line) = true := by rfl) : WE C E Γ Λ (.Call (.Attribute o "reverse" apos) [] [] cpos) P := fun X F W is tk => by
  refine pe_imp (pe_bm0 PySem.F.plainAttrs_list PySem.F.slot_list_reverse PySem.F.type_list_reverse mt_reverse pe_U (base_plain ho) hl) fun σ H Q ⟨B, α, S, q, er⟩ => ?_
  refine WE.use h is tk S er fun x Λ1 vx B1 α1 H1 p1 S1 e1 f1 r1 => ?_
  obtain ⟨rfl, us, hn, p⟩ := p1
  obtain ⟨a, vs, rfl, g1, g2, g3, g4⟩ := S1.cellL r1 hn
  refine ⟨.inl ⟨rfl, _, by exact SqL.of g3⟩, a, vs, rfl, rfl, g3, ?_⟩
  exact q _ _ _ B1 α1 _ p (S1.put g1 g2 ⟨vs.reverse, upd_same, by rw [ems_map, List.map_reverse, ← ems_map]; exact reps_rev g4⟩) e1 f1 (by unfold Rep; rfl)
/-- isinstance(x, T), x a thing of the class at Ci -/
structure IsiC (K : PySem.W.Frag) (Ci Ct : Addr) : Prop where
  cl : Cls K Ci
  ha : PySem.W.findIn K (.ref Ci) "__class__" = some (some (.builtin "object.__class__"))
  hn : PySem.W.specialIn K (.builtin "object.__class__") "__get__" = some (some (.builtin "getset_descriptor.__get__"))
  htk : PySem.W.takesIn K (.builtin "object.__class__") = some true
  hm : PySem.W.mroIn K Ci (.type "object") = some true
  me : PySem.W.kitOne K (.ref Ci) (.ref Ct) = some true
def isCM (cs : List Str) : U → M U
  | .ins c _ => if cs.contains c = true then .ok (.bl true) else .stuck
  | _ => .stuck
theorem isCM_ok {cs : List Str} {c : Str} {us : List U} (h : cs.contains c = true) : isCM cs (.ins c us) = .ok (.bl true) := if_pos h
theorem call_isCt {X : Cx} {T : Addr} : CallR X (.builtin "isinstance") fun xs H Q => ∃ a Ci dx fs, xs = [.ref a, .ref T] ∧ H a = some (.ins Ci dx fs) ∧ Cls X.K Ci ∧ PySem.W.findIn X.K (.ref Ci) "__class__" = some (some (.builtin "object.__class__")) ∧
    PySem.W.specialIn X.K (.builtin "object.__class__") "__get__" = some (some (.builtin "getset_descriptor.__get__")) ∧ PySem.W.takesIn X.K (.builtin "object.__class__") = some true ∧ PySem.W.mroIn X.K Ci (.type "object") = some true ∧ PySem.W.kitOne X.K (.ref Ci) (.ref T) = some true ∧ Q (.bl true) H := by
  intro pins s σ H xs us Q I r h
  obtain ⟨a, Ci, dx, fs, rfl, ha, h1, h2, h3, h4, h5, h6, q⟩ := h
  obtain ⟨u, w', rfl, ru, rw'⟩ := vals2 r
  cases rw'
  exact isinst_ok I ru (TyOf.ins ha h1 h2 h3 h4 h5) h6 fun tk => ⟨.bl true, H, I.tok _, rfl, q⟩
theorem we_isCM {P : D → Cells → Prop} {cs : List Str} {x : Str} {Ct : Addr} (hj : GlAt C "isinstance") (hm : C.mg "isinstance" = none) (hj2 : GlAt C x) (hg : C.mg x = some (.ref Ct)) (hK : ∀ c ∈ cs, IsiC C.K (κ.ad c) Ct)
    (h : WE C E Γ Λ e fun d Λ1 => ∃ u, d = em κ u ∧ wp (isCM cs u) (fun z => P (em κ z) Λ1) Tr) (he : plainE e = true := by rfl) (hd : (x == ("__debug__" : Str)) = false := by decide) : WE C E Γ Λ (.Call (.Name "isinstance" p) [e, .Name x p2] [] pos) P := fun X F W is tk => by
  have key : ∀ {u : U} {Q : U → Prop}, wp (isCM cs u) Q Tr → ∃ c us, u = .ins c us ∧ c ∈ cs ∧ Q (.bl true) := fun {u Q} h => by
    unfold isCM at h
    split at h
    · split at h
      · rename_i hc; exact ⟨_, _, rfl, by simpa using hc, h⟩
      · exact h.elim
    · exact h.elim
  refine pe_imp (pe_callB (call_isCt (T := Ct)) (is.gl hj) (by rw [is.mg]; exact hm) boot_isinstance (pa_cons pe_U (pa_cons (pe_glob (v := .ref Ct) (is.gl hj2) (by rw [is.mg]; exact hg) rfl hd) pa_nil (star_plain rfl)) (star_plain he)) (he := by rw [star_plain he]) (hpl := by rw [star_plain rfl]; rfl)) fun σ H Q ⟨B, α, S, q, er⟩ => ?_
  refine WE.use h is tk S er fun d Λ1 v B1 α1 H1 p1 S1 x1 f1 r1 => ?_
  obtain ⟨u, rfl, p1⟩ := p1
  obtain ⟨c, us, rfl, hc, hp⟩ := key p1
  have k := hK c hc
  have hr : Rep C.K B1 α1 (.ins (κ.ad c) (κ.fs c) (ems κ us)) v := r1
  unfold Rep at hr
  obtain ⟨a, dx, vs, rfl, g1, g2, g3⟩ := hr
  refine ⟨a, κ.ad c, dx, _, rfl, S1.bh _ _ g1, by rw [is.K]; exact k.cl, by rw [is.K]; exact k.ha, by rw [is.K]; exact k.hn, by rw [is.K]; exact k.htk, by rw [is.K]; exact k.hm, by rw [is.K]; exact k.me, ?_⟩
  exact q _ Λ1 _ B1 α1 H1 hp S1 x1 f1 (by show Rep _ _ _ (.bl true) _; unfold Rep; rfl)
end
theorem isiAt {K : PySem.W.Frag} {mg : Str → Option Value} {x y : Str} {Cx Cy : Addr} {hp : Heap} (KX : K.In hp) (h : mg x = some (.ref Cx)) (h2 : mg y = some (.ref Cy)) (pg : PySem.W.plainGet K Cx Str.empty = true) (hd : PySem.W.hasDictIn K Cx = true) (po : PySem.W.plainOver K Cx = true) (sa : PySem.W.findIn K (.ref Cx) "__setattr__" = some (some (.builtin "object.__setattr__")))
    (ha : PySem.W.findIn K (.ref Cx) "__class__" = some (some (.builtin "object.__class__"))) (hn : PySem.W.specialIn K (.builtin "object.__class__") "__get__" = some (some (.builtin "getset_descriptor.__get__"))) (ht : PySem.W.takesIn K (.builtin "object.__class__") = some true)
    (hm : PySem.W.mroIn K Cx (.type "object") = some true) (me : PySem.W.kitOne K (.ref Cx) (.ref Cy) = some true) : IsiC K (adOf mg x) (adOf mg y) := by
  rw [adOf_eq h, adOf_eq h2]; exact ⟨⟨pg, hd, po, sa⟩, ha, hn, ht, hm, me⟩
/-- dict(d) -/
def dcopyM : U → M U
  | .dic ks us => if ks.length = us.length then .ok (.dic ks us) else .stuck
  | _ => .stuck
theorem we_dcopyM {κ : Kl} {C : Pl.Ctx} {E : ER} {Γ : Pl.Env} {Λ : Cells} {pos p : Pos} {e : Expr} {P : D → Cells → Prop} (hj : GlAt C "dict") (hm : C.mg "dict" = none) (h : Op1 κ C E Γ Λ e dcopyM P) (he : plainE e = true := by rfl) : WE C E Γ Λ (.Call (.Name "dict" p) [e] [] pos) P :=
  we_dcopy hj hm (we_mono h fun x Λ1 ⟨u, hx, h⟩ => by
    unfold dcopyM at h
    split at h
    · rename_i ks us
      split at h
      · rename_i hl
        exact ⟨ks, ems κ us, hx, by rw [ems_len, hl], h⟩
      · exact h.elim
    · exact h.elim) he
end Sh

/-! Sh18: refusals: raise, try, what was caught. -/
namespace L2
open PySem PySem.Spec PyProof.Rows
section
variable {X : Cx} {pins : List (Addr × Obj)} {σ : St} {H : Hp} {s : Shared}
/-- X(), X an own exception class without own __init__ -/
theorem pmk_own0 {C : Addr} {bmB : List Value} {B newId initId : String} {x : Str} {p pos : Pos} (F : ExcBaseFacts B newId initId bmB) (q : PySem.W.excIn X.K C bmB newId = true) (gC : X.mg x = some (.ref C))
    (kC : PySem.W.keepIn X.K (.ref C) = true) (r : Raises X (.ref C)) (hg : Gl X x) (hdb : (x == ("__debug__" : Str)) = false) :
    PMk X (.Call (.Name x p) [] [] pos) (fun σ H Q => Q (.ref C) none H) := by
  intro pins s σ H Q I h
  refine wpAny_Call_Name_kw (ld_glob I hg gC ?_ hdb)
  refine PySem.W.callWith_K0 (first := []) I.kIn kC ?_
  show wpAny _ _ (call (.ref C) []) _ _ _
  obtain ⟨bm, N, nm, qn, bs, hdct, sn, sub, ab, col, dd, k0, k1, k2, k3, k5, mN, hC, hN, hni, T⟩ := exc_obj I.kIn q
  refine wpAny_call_exc_subT F T hC hN hni (fun h' e hm => ?_) (Nat.zero_le _)
  exact mk_of I hm r h (I.hok.gone hm.new)
theorem excHO_ok {P : Program} {w : World} {h : Heap} {C a : Addr} {d : Option Addr} {oe : Obj} {vs : Array Value} (e : h.get? a = some oe) (z : Zc (.ref C) d oe) (hd : oe.data = .fields vs) : ObjOk P w H h a (Pl.excHO C a d) :=
  ⟨⟨oe, vs, e, z, hd⟩, ⟨oe, e⟩, fun _ _ ⟨o, v, q, r⟩ k => ⟨o, v, k o q, r⟩⟩
/-- an exception that was caught is tracked -/
theorem Inv.track {a C : Addr} {d : Option Addr} {oe : Obj} {vs : Array Value} (I : Inv X pins σ H s) (ha : s.heap.get? a = some oe) (hz : Zc (.ref C) d oe) (hd : oe.data = .fields vs) (na : H a = none) (n0 : X.s_0.heap.get? a = none) (nL : a ≠ X.env.locals)
    (nP : ∀ p ∈ X.pn ++ pins, p.1 ≠ a) : Inv X pins σ (upd H a (Pl.excHO C a d)) s := by
  have ne0 : ∀ b o, X.s_0.heap.get? b = some o → b ≠ a := fun b o e z => by rw [z, n0] at e; cases e
  have neS : ∀ b u, H b = some u → b ≠ a := fun b u e z => by rw [z, na] at e; cases e
  have neC : ∀ x c, X.env.cells.lookup x = some c → c ≠ a := fun x c e z => by
    obtain ⟨v, o, ho, hc⟩ := I.cell x c e
    rw [z, ha] at ho; cases ho
    rw [hd] at hc; cases hc
  refine ⟨I.ok, I.os, I.bare, ⟨fun b o e n hb hq => I.base.keep b o e n hb hq, fun b o e n hb hq => I.base.slot b o e n hb hq, fun b o e n hq => ?_, fun b o e hq => I.base.there b o e hq, fun b xs e => ?_, fun b o u e => ?_, fun b ps e => ?_⟩, I.loc, I.cell, ?_, fun x c e => ?_, fun p hp => ?_, fun b u e => ?_, I.len⟩
  · rw [upd_ne (ne0 b o e)]; exact I.base.free b o e n hq
  · have q := I.base.tups b xs e
    rw [upd_ne (neS b _ q)]; exact q
  · have q := I.base.frzs b o u e
    rw [upd_ne (neS b _ q)]; exact q
  · obtain ⟨m, q⟩ := I.base.tbls b ps e
    exact ⟨m, by rw [upd_ne (neS b _ q)]; exact q⟩
  · rw [upd_ne (Ne.symm nL)]; exact I.free
  · rw [upd_ne (neC x c e)]; exact I.freeC x c e
  · obtain ⟨e, n, r⟩ := I.pin p hp
    exact ⟨e, by rw [upd_ne (nP p hp)]; exact n, r⟩
  · by_cases hb : b = a
    · subst hb
      rw [upd_same] at e; cases e
      exact excHO_ok ha hz hd
    · rw [upd_ne hb] at e
      refine (I.hok b u e).stay (fun c v hc q => q) (fun c q => ?_) fun c xs q => ?_
      · rw [upd_ne (neS c _ q)]; exact q
      · rw [upd_ne (neS c _ q)]; exact q
end
/-- what the clause 'except x as n: y = n' wishes of an exception of the body: n's slot is i, y's j -/
def wNote (K : PySem.W.Frag) (c : Value) (i j : Nat) (D : Ends) : WX := fun cls d σ H =>
  PySem.W.exmOne K cls c = some true ∧ ∃ C, cls = .ref C ∧ ∀ a, H a = none → D.nx (((σ.set i (some (.ref a))).set j (some (.ref a))).set i none) (upd H a (Pl.excHO C a d))
section
variable {X : Cx} {x n y : Str} {c : Value} {i j : Nat} {body : List Stmt} {np np2 yp apos pos pos' : Pos} {tb : WX → TS}
theorem ps_try_note (hex : X.ex = []) (hs : X.stack = X.env :: X.outer) (hf : X.env.frame = some X.env.locals) (hN : X.N.Nodup) (hi : X.N[i]? = some n) (hln : X.env.kindOf n = some .local) (hj : X.N[j]? = some y) (hlj : X.env.kindOf y = some .local) (hij : i ≠ j) (hc : Names X x c)
    (hnd : (n == ("__debug__" : Str)) = false) (hnc : (n == ("__classdict__" : Str)) = false)
    (hb : ∀ (W : WX) (pn : List (Addr × Obj)) (xe : Value → Shared → Prop), Takes (X.tr pn xe) W → PassesOwn (model X.prog X.w) X.A X.env xe → PSs (X.tr pn xe) body (tb W)) :
    PS X (.Try body [.ExceptHandler (some (.Name x np)) (some n) [.Assign [.Name y yp] (.Name n np2) apos] pos'] [] [] pos) (fun D σ H => tb (wNote X.K c i j D) D σ H) := by
  refine ⟨fun pins s σ H D I h => ?_⟩
  have ok := I.ok
  have hfr : X.A.frames = some (X.env :: X.outer) := by rw [ok.frames, hs]
  have hloc : Loc X.env.scope n := .inl hln
  refine wpAny_Try_except ?_
  refine wpAny_mono ((hb (wNote X.K c i j D) (X.pn ++ pins) (fun e s₁ => wpAny (model X.prog X.w) X.A (noteFrame e X.env) (fun _ s₂ => wpAny (model X.prog X.w) X.A (setFlight e none) (fun _ s₃ =>
    wpAny (model X.prog X.w) X.A (handleBy e X.env [.ExceptHandler (some (.Name x np)) (some n) [.Assign [.Name y yp] (.Name n np2) apos] pos']) (SP X pins D) X.xe s₃) X.xe s₂) X.xe s₁) (fun u s' xx => ?_) PassesOwn.looking).run [] s σ H D (I.toTry _) h) (fun f s1 hsp => ?_) (fun e s1 he => he)
  · -- the catch
    obtain ⟨a, B, sI, pins', σ', H', cls, d, rfl, J', nb, up, sky, na, os, ag, hb1, C, rfl, hyes⟩ := xx
    have J : Inv X pins σ' H' sI := J'.ofTry ok
    have sky' : Sky B (X.env :: X.outer) a (Zc (.ref C) d) X.env.locals s'.heap := by rw [← hs]; exact sky
    show wpAny (model X.prog X.w) X.A (noteFrame (.ref a) X.env) _ _ _
    refine Sky.land Zc.steady hfr hf sky' fun h3 fl3 up3 => ?_
    have J3 : Inv X pins σ' H' { s' with heap := h3 } := J.landed nb fl3.1 (up.trans up3) os ag
    obtain ⟨oe3, vs3, he3, hz3, hd3⟩ := fl3.there
    have notFr : ∀ {h : Heap} {o : Obj} {vs : Array Value}, h.FunFrames B (X.env :: X.outer) → h.get? a = some o → o.data = .fields vs → a ∉ frs (X.env :: X.outer) := fun {h o vs} ff e dd hm => by
      obtain ⟨_, o', e', hnf⟩ := ff.mem hm
      rw [e] at e'; cases e'
      exact hnf _ dd
    have nfr := notFr fl3.2.2.1 he3 hd3
    have nL : a ≠ X.env.locals := fun z => nfr (List.mem_filterMap.mpr ⟨X.env, List.mem_cons_self, by rw [hf, z]⟩)
    have nF : a ∉ X.fs := fun hm => by
      obtain ⟨e, he, q⟩ := List.mem_filterMap.mp hm
      exact nfr (List.mem_filterMap.mpr ⟨e, List.mem_cons_of_mem _ he, q⟩)
    have nI : sI.heap.get? a = none := by
      cases q : sI.heap.get? a with
      | none => rfl
      | some o =>
        have z := nb a o q (by rw [hs]; exact nfr)
        rw [fl3.2.1] at z; cases z
    have nP : ∀ p ∈ X.pn ++ pins, p.1 ≠ a := fun p hp z => by
      have e := (J.pin p hp).1
      rw [z, nI] at e; cases e
    have n0 : X.s_0.heap.get? a = none := by
      cases q : X.s_0.heap.get? a with
      | none => rfl
      | some o =>
        obtain ⟨o', z⟩ := J.base.there a o q (by show a ∉ X.ex; rw [hex]; exact fun z => nomatch z)
        rw [nI] at z; cases z
    have S3 := J3.suite he3 hd3 na nL nF
    refine wpAny_handleBy_cons (codeAny_handlers_test ?_) (by intro q; cases q)
    have LT : PySem.W.Looks (model X.prog X.w) h3 (typeOf (.ref a)) (.ref C) := fun A Q E s k q => wpAny_typeOf_ref (k _ _ he3) (by rw [hz3.1]; exact q)
    have LM := PySem.W.exm_one (M := model X.prog X.w) (J3.kIn) LT hb1
    have test : ∀ {Q : Value → Shared → Prop} {E : Value → Shared → Prop}, Q c { s' with heap := h3 } → wpAny (model X.prog X.w) (X.A.mark (some (.ref a))) (eval (.Name x np) X.env) Q E { s' with heap := h3 } := fun {Q E} q => by
      obtain ⟨hg, hdbg, hm | ⟨hm, hv, hnn⟩⟩ := hc
      · exact ld_glob (X := X.suite a ((a, oe3) :: (X.pn ++ pins))) S3 hg hm q hdbg
      · exact ld_blt (X := X.suite a ((a, oe3) :: (X.pn ++ pins))) S3 hg hm hv q hnn hdbg
    refine test (LM.here ?_)
    refine codeAny_handlers_suite_as ?_
    refine HandSPX.lands_againZ fl3 fun h4 fl4 up4 => ?_
    have J4 : Inv X pins σ' H' { s' with heap := h4 } := J.landed nb fl4.1 ((up.trans up3).trans up4) os ag
    obtain ⟨oe4, vs4, he4, hz4, hd4⟩ := fl4.there
    have S4 := J4.suite he4 hd4 na nL nF
    refine store_ok (X := X.suite a ((a, oe4) :: (X.pn ++ pins))) (v := .ref a) S4 hN hi hloc rfl (fun s5 S5 => ?_) (.inr hln)
    have hlen : i < σ'.length := by rw [J.len]; exact (List.getElem?_eq_some_iff.mp hi).1
    have hp : PSs (X.suite a ((a, oe4) :: (X.pn ++ pins))) [.Assign [.Name y yp] (.Name n np2) apos] _ := pss_one (ps_set hN hj (.inl hlj) (pe_var hi (.inl hln) hnd hnc) rfl (.inr hlj))
    refine wpAny_mono (hp.run [] s5 _ H' { nx := fun σ6 H6 => σ6 = (σ'.set i (some (.ref a))).set j (some (.ref a)) ∧ H6 = H', rt := fun _ _ => False, bk := fun _ _ => False, ct := fun _ _ => False } S5 ?_) (fun f s6 hsp => ?_) (fun _ _ z => False.elim z)
    · exact ⟨.ref a, List.getElem?_set_self hlen, rfl, rfl⟩
    cases f with
    | next =>
      obtain ⟨σ6, H6, S6, e1, e2⟩ := hsp
      subst e1; subst e2
      have he6 := (S6.pin (a, oe4) (List.mem_append_left _ List.mem_cons_self)).1
      have J6 := (S6.unsuite ok).track he6 hz4 hd4 na n0 nL nP
      exact gone_ok J6 hN hi hln fun s7 J7 => ⟨_, _, J7, hyes a na⟩
    | brk => obtain ⟨σ6, H6, S6, z⟩ := hsp; exact z.elim
    | cont => obtain ⟨σ6, H6, S6, z⟩ := hsp; exact z.elim
    | ret u => obtain ⟨v6, σ6, H6, S6, r6, z⟩ := hsp; exact z.elim
  · cases f with
    | next =>
      obtain ⟨σ', H', J', q⟩ := hsp
      exact wpAny_execs_nil ⟨σ', H', J'.ofTry ok, q⟩
    | brk =>
      obtain ⟨σ', H', J', q⟩ := hsp
      exact ⟨σ', H', J'.ofTry ok, q⟩
    | cont =>
      obtain ⟨σ', H', J', q⟩ := hsp
      exact ⟨σ', H', J'.ofTry ok, q⟩
    | ret u =>
      obtain ⟨v, σ', H', J', r, q⟩ := hsp
      exact ⟨v, σ', H', J'.ofTry ok, r, q⟩
end
end L2

/-! Sh19: refusals in the pure reading. -/
namespace Pl
open PySem L2 PyProof.Rows
/-- the datum of an exception that was caught -/
def excD (C : Addr) (e : Err) : D := match e.fs with
  | none => .exc C [] []
  | some (ns, ds) => .exc C ns ds
section
variable {K : PySem.W.Frag} {F : Fm} {B B' : Hp} {α α' : List Addr} {Γ : Env} {Λ : Cells} {σ : L2.St} {H H' : Hp}
theorem Sat.unset {i : Nat} (S : Sat K F B α Γ Λ σ H) : Sat K F B α (Γ.set i none) Λ (σ.set i none) H := by
  refine S.env (by simpa using S.ln) fun k d h => ?_
  by_cases e : i = k
  · subst e
    by_cases hl : i < Γ.length
    · rw [List.getElem?_set_self hl] at h; cases h
    · rw [List.getElem?_eq_none (by simpa using hl)] at h; cases h
  · rw [List.getElem?_set_ne e] at h ⊢
    exact S.sl k d h
/-- a thing of the heap that is new is seen -/
theorem Sat.seeIf {p : Addr} {o : HO} (S : Sat K F B α Γ Λ σ H) (hp : H p = some o) (h : B p = none → F.H0 p = none ∧ p ∉ α) : ∃ B1, Sat K F B1 α Γ Λ σ H ∧ Ex B B1 ∧ B1 p = some o := by
  cases e : B p with
  | none => exact ⟨_, S.see hp e (h e).1 (h e).2, Ex.new e, upd_same⟩
  | some u =>
    have := S.bh p u e
    rw [hp] at this; cases this
    exact ⟨B, S, Ex.refl B, e⟩
theorem Sat.caught {e : Err} {C a : Addr} {d : Option Addr} (S : Sat K F B α Γ Λ σ H) (ea : ErrAt K F B α H e (.ref C) d) (ha : H a = none) : ∃ B1, Sat K F B1 α Γ Λ σ (upd H a (excHO C a d)) ∧ Ex B B1 ∧ Rep K B1 α (excD C e) (.ref a) := by
  obtain ⟨_, e2⟩ := ea
  unfold excD
  cases hf : e.fs with
  | none =>
    rw [hf] at e2
    have hB : B a = none := S.bh.back ha
    refine ⟨_, S.lay ha, Ex.new hB, ?_⟩
    unfold Rep
    exact ⟨a, d, [], rfl, upd_same, .nil, rfl, (fun _ => rfl), fun dx q => by rw [e2] at q; cases q⟩
  | some z =>
    obtain ⟨ns, ds⟩ := z
    rw [hf] at e2
    obtain ⟨p, vs, q1, q2, q3, q4, q5⟩ := e2
    obtain ⟨B1, S1, x1, h1⟩ := S.seeIf q2 q5
    have hB : B1 a = none := S1.bh.back ha
    have x2 : Ex B1 (upd B1 a (excHO C a d)) := Ex.new hB
    refine ⟨_, S1.lay ha, x1.trans x2, ?_⟩
    dsimp only
    unfold Rep
    exact ⟨a, d, vs, rfl, upd_same, q3.mono (x1.trans x2) (List.prefix_refl _), q4, (fun z => by rw [q1] at z; cases z), fun dx q => by rw [q1] at q; cases q; exact x2 _ _ h1⟩
end
theorem set_note {α : Type} {l : List α} {i j : Nat} {r s : α} (h : i ≠ j) : ((l.set i r).set j s).set i r = (l.set j s).set i r := by
  rw [List.set_comm _ _ h, List.set_set]
theorem set_note2 {α : Type} {l : List α} {i j : Nat} {r s t : α} (h : i ≠ j) : ((l.set i r).set j s).set i t = (l.set j s).set i t := by
  rw [List.set_comm _ _ h, List.set_set]
section
variable {C : Ctx} {Γ : Env} {Λ : Cells} {R : Rs} {x n y : Str} {CA : Addr} {i j : Nat} {body : List Stmt} {np np2 yp apos pos pos' : Pos}
/-- try: body / except x as n: y = n -/
theorem ws_tryNote (ht : C.tp = true) (hi : C.N[i]? = some n) (hln : C.sc.names.lookup n = some .local) (hj : C.N[j]? = some y) (hlj : C.sc.names.lookup y = some .local) (hij : i ≠ j) (hg : GlAt C x) (hm : C.mg x = some (.ref CA))
    (h : WSs C Γ Λ body { R with er := fun e Γ' Λ' => ∃ C1, e.cls = .ref C1 ∧ PySem.W.exmOne C.K (.ref C1) (.ref CA) = some true ∧ R.nx ((Γ'.set j (some (excD C1 e))).set i none) Λ' })
    (hd : (x == ("__debug__" : Str)) = false := by decide) (hnd : (n == ("__debug__" : Str)) = false := by decide) (hnc : (n == ("__classdict__" : Str)) = false := by decide) :
    WS C Γ Λ (.Try body [.ExceptHandler (some (.Name x np)) (some n) [.Assign [.Name y yp] (.Name n np2) apos] pos'] [] [] pos) R := fun X F W is hm' tk => by
  obtain ⟨h1, h2, h3⟩ := is.tp ht
  have e1 := is.K
  refine ps_imp (ps_try_note (i := i) (j := j) (c := .ref CA) h3 h1 h2 is.nd (is.ni hi) (by show X.env.scope.names.lookup n = _; rw [is.sc]; exact hln) (is.ni hj) (by show X.env.scope.names.lookup y = _; rw [is.sc]; exact hlj) hij
    ⟨is.gl hg, hd, .inl (by rw [is.mg]; exact hm)⟩ hnd hnc fun W' pn xe tk' po => h (X.tr pn xe) F W' ⟨is.prog, is.w, is.K, is.mg, is.base, is.N, is.sc, is.calm, is.room, is.fn, is.good, po, is.tp⟩ hm' tk') fun D σ H ⟨B, α, S, q⟩ => ?_
  refine ⟨B, α, S, q.nx, q.rt, q.bk, q.ct, fun err Γ' Λ' B' α' σ' H' c dx r S' e ea => ?_⟩
  obtain ⟨C1, hc, hx, r⟩ := r
  have ec : c = .ref C1 := by rw [← hc]; exact ea.1
  subst ec
  refine ⟨by rw [e1]; exact hx, C1, rfl, fun a ha => ?_⟩
  obtain ⟨B1, S1, x1, r1⟩ := S'.caught ea ha
  rw [set_note2 hij]
  exact q.nx _ Λ' B1 α' _ _ r (S1.set r1).unset (e.trans x1)
/-- raise x() -/
theorem ws_raise0 (hg : GlAt C x) (hm : C.mg x = some (.ref CA)) (hq : PySem.W.excIn C.K CA [.type "ValueError", .type "Exception", .type "BaseException", .type "object"] "ValueError.__new__" = true) (hk : PySem.W.keepIn C.K (.ref CA) = true)
    (hb : PySem.W.subIn C.K (.ref CA) (.type "BaseException") = some true) (ht : PySem.W.typeIn C.K (.ref CA) = some (.type "type")) (h : R.er ⟨.ref CA, none⟩ Γ Λ) (hd : (x == ("__debug__" : Str)) = false := by decide) :
    WS C Γ Λ (.Raise (some (.Call (.Name x np) [] [] pos)) none pos') R := fun X F W is hm' tk => by
  have e1 := is.K; have e2 := is.mg
  refine ps_imp (ps_raise is.calm tk (pmk_own0 PySem.F.excBase_ValueError (by rw [e1]; exact hq) (by rw [e2]; exact hm) (by rw [e1]; exact hk) (raises_own (by rw [e1]; exact hb) (by rw [e1]; exact ht)) (is.gl hg) hd)) fun D σ H ⟨B, α, S, q⟩ => ?_
  exact q.er ⟨.ref CA, none⟩ Γ Λ B α σ H (.ref CA) none h S (Ex.refl B) ⟨rfl, rfl⟩
end
end Pl
namespace Sh
open PySem L2 Pl PyProof.Rows
/-- k1 behind what goes well; refusals of the classes cs (each with its number of fields) are caught -/
def tryK {α σ : Type} (cs : List (Str × Nat)) (m : M σ) (k1 : σ → M α) (k2 : Str → List U → M α) : M α := match m with
  | .ok s => k1 s
  | .err c us => if cs.contains (c, us.length) then k2 c us else .stuck
  | .stuck => .stuck
@[simp] theorem tryK_ok {α σ : Type} {cs : List (Str × Nat)} {k1 : σ → M α} {k2 : Str → List U → M α} (a : σ) : tryK cs (.ok a) k1 k2 = k1 a := rfl
@[simp] theorem tryK_err {α σ : Type} {cs : List (Str × Nat)} {k1 : σ → M α} {k2 : Str → List U → M α} (c : Str) (us : List U) : tryK cs (.err c us) k1 k2 = if cs.contains (c, us.length) then k2 c us else .stuck := rfl
/-- .. at this state -/
def EIa (κ : Kl) (Eh : Str → List U → Prop) (E : ER) (Γ : Pl.Env) (Λ : Cells) : Prop := ∀ c us, Eh c us → E (errD κ c us) Γ Λ
theorem EI.at {κ : Kl} {Eh : Str → List U → Prop} {E : ER} {Γ : Pl.Env} {Λ : Cells} (h : EI κ Eh E) : EIa κ Eh E Γ Λ := fun c us q => h c us Γ Λ q
/-- .. where the first m cells are told -/
def EIm (κ : Kl) (m : Nat) (Eh : Str → List U → Prop) (E : ER) : Prop := ∀ c us Γ Λ, m ≤ Λ.length → (Λ.take m).all nlC = true → Eh c us → E (errD κ c us) Γ Λ
theorem EIm.at {κ : Kl} {m : Nat} {Eh : Str → List U → Prop} {E : ER} {Γ : Pl.Env} {Λ : Cells} (h : EIm κ m Eh E) (h1 : m ≤ Λ.length) (h2 : (Λ.take m).all nlC = true) : EIa κ Eh E Γ Λ := fun c us q => h c us Γ Λ h1 h2 q
theorem EI.m {κ : Kl} {m : Nat} {Eh : Str → List U → Prop} {E : ER} (h : EI κ Eh E) : EIm κ m Eh E := fun c us Γ Λ _ _ q => h c us Γ Λ q
/-- the wish of a try's body -/
def erT (κ : Kl) (Eh : Str → List U → Prop) (Γ : Pl.Env) (Λ : Cells) : ER := fun e Γ' Λ' => Γ' = Γ ∧ Λ' = Λ ∧ ∃ c us, e = errD κ c us ∧ Eh c us
theorem EIa.erT {κ : Kl} {Eh : Str → List U → Prop} {Γ : Pl.Env} {Λ : Cells} : EIa κ Eh (erT κ Eh Γ Λ) Γ Λ := fun c us h => ⟨rfl, rfl, c, us, rfl, h⟩
theorem excD_err {κ : Kl} {c : Str} {us : List U} (h : (κ.fs c).length = us.length) : excD (κ.ad c) (errD κ c us) = em κ (.exc c us) := by
  unfold excD errD
  dsimp only
  cases e : κ.fs c with
  | nil =>
    rw [e] at h
    have : us = [] := List.length_eq_zero_iff.mp h.symm
    subst this
    show D.exc _ [] [] = em κ (.exc c [])
    rw [em, e]; rfl
  | cons a b =>
    show D.exc _ _ _ = _
    rw [em, e]
theorem finFt {α β : Type} {κ : Kl} {Q : α → Prop} {Eh : Str → List U → Prop} {n : Nat} {f : List U → M β} {E : ER} {Γ : Pl.Env} {Λ : Cells} {ds : List D} {k : β → M α} {P : β → Prop} (us : List U) (hd : ds = ems κ us) (hn : us.length = n) (hE : EIa κ Eh E Γ Λ) (h : wp ((f us).bind k) Q Eh) (i : ∀ z, wp (k z) Q Eh → P z) : ∃ us, ds = ems κ us ∧ us.length = n ∧ wp (f us) P (fun c es => E (errD κ c es) Γ Λ) :=
  ⟨us, hd, hn, wp_mono (wp_bind h) i fun c es h => hE _ _ h⟩
/-- a class of refusals that a def raises without fields -/
structure ExcK (K : PySem.W.Frag) (mg : Str → Option Value) (κ : Kl) (c : Str) : Prop where
  g : mg c = some (.ref (κ.ad c))
  q : PySem.W.excIn K (κ.ad c) [.type "ValueError", .type "Exception", .type "BaseException", .type "object"] "ValueError.__new__" = true
  k : PySem.W.keepIn K (.ref (κ.ad c)) = true
  b : PySem.W.subIn K (.ref (κ.ad c)) (.type "BaseException") = some true
  t : PySem.W.typeIn K (.ref (κ.ad c)) = some (.type "type")
  f : κ.fs c = []
section
variable {κ : Kl} {C : Pl.Ctx} {E : ER} {Γ : Pl.Env} {Λ : Cells} {R : Rs} {pos pos' np : Pos} {x n y : Str} {Eh : Str → List U → Prop}
theorem errD0 {c : Str} (h : κ.fs c = []) : errD κ c [] = ⟨.ref (κ.ad c), none⟩ := by unfold errD; rw [h]
theorem ws_raiseM {α : Type} {Q : α → Prop} (hg : GlAt C x) (T : ExcK C.K C.mg κ x) (hE : EIa κ Eh R.er Γ Λ) (h : wp (M.err x [] : M α) Q Eh) (hd : (x == ("__debug__" : Str)) = false := by decide) :
    WS C Γ Λ (.Raise (some (.Call (.Name x np) [] [] pos)) none pos') R :=
  ws_raise0 hg T.g T.q T.k T.b T.t (by rw [← errD0 T.f]; exact hE x [] h) hd
theorem tryK_key {α σ : Type} {Q : α → Prop} {cs : List (Str × Nat)} {m : M σ} {k1 : σ → M α} {k2 : Str → List U → M α} (h : wp (tryK cs m k1 k2) Q Eh) : wp m (fun st => wp (k1 st) Q Eh) (fun c us => (c, us.length) ∈ cs ∧ wp (k2 c us) Q Eh) := by
  unfold tryK at h
  cases m with
  | stuck => exact h
  | ok a => exact h
  | err c us =>
    dsimp only at h
    split at h
    · rename_i hc
      exact ⟨List.contains_iff_mem.mp hc, h⟩
    · exact h.elim
theorem ws_tryK {α σ : Type} {Q : α → Prop} {CA : Addr} {body : List Stmt} {np2 yp apos : Pos} (i j : Nat) (sh : σ → Pl.Env → Cells → Prop) (cs : List (Str × Nat)) (ht : C.tp = true) (hi : C.N[i]? = some n) (hln : C.sc.names.lookup n = some .local) (hj : C.N[j]? = some y) (hlj : C.sc.names.lookup y = some .local) (hij : i ≠ j) (hg : GlAt C x) (hm : C.mg x = some (.ref CA))
    (hx : ∀ c ∈ cs, PySem.W.exmOne C.K (.ref (κ.ad c.1)) (.ref CA) = some true ∧ (κ.fs c.1).length = c.2) {m : M σ} {k1 : σ → M α} {k2 : Str → List U → M α} (h : wp (tryK cs m k1 k2) Q Eh)
    (h1 : ∀ Q' E', wp m Q' E' → EIa κ E' (erT κ E' Γ Λ) Γ Λ → WSs C Γ Λ body { R with nx := fun Γ Λ => ∃ st, sh st Γ Λ ∧ Q' st, er := erT κ E' Γ Λ })
    (h3 : ∀ st Γ Λ, sh st Γ Λ → wp (k1 st) Q Eh → R.nx Γ Λ) (h2 : ∀ c us, wp (k2 c us) Q Eh → R.nx ((Γ.set j (some (em κ (.exc c us)))).set i none) Λ)
    (hd1 : (x == ("__debug__" : Str)) = false := by decide) (hnd : (n == ("__debug__" : Str)) = false := by decide) (hnc : (n == ("__classdict__" : Str)) = false := by decide) :
    WS C Γ Λ (.Try body [.ExceptHandler (some (.Name x np)) (some n) [.Assign [.Name y yp] (.Name n np2) apos] pos'] [] [] pos) R := by
  refine ws_tryNote ht hi hln hj hlj hij hg hm (wss_mono (h1 _ _ (tryK_key h) EIa.erT) ⟨fun Γ Λ ⟨st, a, b⟩ => h3 st Γ Λ a b, fun _ _ z => z, fun _ _ z => z, fun _ _ z => z, fun e Γ' Λ' z => ?_⟩) hd1 hnd hnc
  obtain ⟨rfl, rfl, c, us, rfl, hc, hw⟩ := z
  obtain ⟨g1, g2⟩ := hx _ hc
  refine ⟨κ.ad c, rfl, g1, ?_⟩
  rw [excD_err g2]
  exact h2 c us hw
/-- try: body / except x: return a truth -/
theorem ws_tryRet {α σ : Type} {Q : α → Prop} {CA : Addr} {body : List Stmt} {b : Bool} {jj : Nat} {rp cp : Pos} (sh : σ → Pl.Env → Cells → Prop) (cs : List (Str × Nat)) (ht : C.tp = true) (hg : GlAt C x) (hm : C.mg x = some (.ref CA))
    (hx : ∀ c ∈ cs, PySem.W.exmOne C.K (.ref (κ.ad c.1)) (.ref CA) = some true ∧ (κ.fs c.1).length = c.2) {m : M σ} {k1 : σ → M α} {k2 : Str → List U → M α} (h : wp (tryK cs m k1 k2) Q Eh)
    (h1 : ∀ Q' E', wp m Q' E' → EIa κ E' (erT κ E' Γ Λ) Γ Λ → WSs C Γ Λ body { R with nx := fun Γ Λ => ∃ st, sh st Γ Λ ∧ Q' st, er := erT κ E' Γ Λ })
    (h3 : ∀ st Γ Λ, sh st Γ Λ → wp (k1 st) Q Eh → R.nx Γ Λ) (h2 : ∀ c us, wp (k2 c us) Q Eh → R.rt (.val (.bl b)) Λ)
    (hd1 : (x == ("__debug__" : Str)) = false := by decide) :
    WS C Γ Λ (.Try body [.ExceptHandler (some (.Name x np)) none [.Return (some (.Constant (.bool b) jj cp)) rp] pos'] [] [] pos) R := fun X F W is hm' tk => by
  obtain ⟨t1, t2, t3⟩ := is.tp ht
  have e1 := is.K
  refine ps_imp (ps_try_only (Wout := fun _ _ _ _ => False) (c := .ref CA) t1 t2 ⟨is.gl hg, hd1, .inl (by rw [is.mg]; exact hm)⟩ takes0
    (fun W' pn xe tk' po => (h1 _ _ (tryK_key h) EIa.erT) (X.tr pn xe) F W' ⟨is.prog, is.w, is.K, is.mg, is.base, is.N, is.sc, is.calm, is.room, is.fn, is.good, po, is.tp⟩ hm' tk')
    (fun a oe cls d pn _ _ => pss_one (ps_ret pe_bl))) fun D σ H ⟨B, α, S, q⟩ => ?_
  refine ⟨B, α, S, fun Γ' Λ' B' α' σ' H' r => ?_, q.rt, q.bk, q.ct, fun err Γ' Λ' B' α' σ' H' c dx r S' e ea => ?_⟩
  · obtain ⟨st, r1, r2⟩ := r
    exact q.nx Γ' Λ' B' α' σ' H' (h3 st Γ' Λ' r1 r2)
  · obtain ⟨rfl, rfl, c1, us, rfl, hc, hw⟩ := r
    obtain ⟨g1, g2⟩ := hx _ hc
    have ec : c = .ref (κ.ad c1) := ea.1
    subst ec
    refine ⟨true, by rw [e1]; exact g1, fun _ a ha => ?_, fun z => Bool.noConfusion z⟩
    exact q.rt (.val (.bl b)) Λ' (.bl b) Γ' B' α' σ' H' (h2 c1 us hw) S' e (by show Rep C.K B' α' (.bl b) _; unfold Rep; rfl)
/-- try: body / except x: y = None -/
theorem ws_trySet {α σ : Type} {Q : α → Prop} {CA : Addr} {body : List Stmt} {jj : Nat} {rp cp yp : Pos} (j : Nat) (sh : σ → Pl.Env → Cells → Prop) (cs : List (Str × Nat)) (ht : C.tp = true) (hj : C.N[j]? = some y) (hlj : C.sc.names.lookup y = some .local) (hg : GlAt C x) (hm : C.mg x = some (.ref CA))
    (hx : ∀ c ∈ cs, PySem.W.exmOne C.K (.ref (κ.ad c.1)) (.ref CA) = some true ∧ (κ.fs c.1).length = c.2) {m : M σ} {k1 : σ → M α} {k2 : Str → List U → M α} (h : wp (tryK cs m k1 k2) Q Eh)
    (h1 : ∀ Q' E', wp m Q' E' → EIa κ E' (erT κ E' Γ Λ) Γ Λ → WSs C Γ Λ body { R with nx := fun Γ Λ => ∃ st, sh st Γ Λ ∧ Q' st, er := erT κ E' Γ Λ })
    (h3 : ∀ st Γ Λ, sh st Γ Λ → wp (k1 st) Q Eh → R.nx Γ Λ) (h2 : ∀ c us, wp (k2 c us) Q Eh → R.nx (Γ.set j (some .non)) Λ)
    (hd1 : (x == ("__debug__" : Str)) = false := by decide) :
    WS C Γ Λ (.Try body [.ExceptHandler (some (.Name x np)) none [.Assign [.Name y yp] (.Constant .none jj cp) rp] pos'] [] [] pos) R := fun X F W is hm' tk => by
  obtain ⟨t1, t2, t3⟩ := is.tp ht
  have e1 := is.K
  have hly : X.env.kindOf y = some .local := by show X.env.scope.names.lookup y = _; rw [is.sc]; exact hlj
  refine ps_imp (ps_try_only (Wout := fun _ _ _ _ => False) (c := .ref CA) t1 t2 ⟨is.gl hg, hd1, .inl (by rw [is.mg]; exact hm)⟩ takes0
    (fun W' pn xe tk' po => (h1 _ _ (tryK_key h) EIa.erT) (X.tr pn xe) F W' ⟨is.prog, is.w, is.K, is.mg, is.base, is.N, is.sc, is.calm, is.room, is.fn, is.good, po, is.tp⟩ hm' tk')
    (fun a oe cls d pn _ _ => pss_one (ps_set (i := j) is.nd (is.ni hj) (.inl hly) pe_non rfl (.inr hly)))) fun D σ H ⟨B, α, S, q⟩ => ?_
  refine ⟨B, α, S, fun Γ' Λ' B' α' σ' H' r => ?_, q.rt, q.bk, q.ct, fun err Γ' Λ' B' α' σ' H' c dx r S' e ea => ?_⟩
  · obtain ⟨st, r1, r2⟩ := r
    exact q.nx Γ' Λ' B' α' σ' H' (h3 st Γ' Λ' r1 r2)
  · obtain ⟨rfl, rfl, c1, us, rfl, hc, hw⟩ := r
    obtain ⟨g1, g2⟩ := hx _ hc
    have ec : c = .ref (κ.ad c1) := ea.1
    subst ec
    refine ⟨true, by rw [e1]; exact g1, fun _ a ha => ?_, fun z => Bool.noConfusion z⟩
    exact q.nx _ _ B' α' _ H' (h2 c1 us hw) (S'.set (by unfold Rep; rfl)) e
end
/-! ### defs that are handed cells and may refuse -/
def spE (κ : Kl) {α γ β : Type} (mu : Bool) (Dd : α → List D) (L : α → Cells) (f : α → M γ) (g : γ → M β) (R : β → Res) (L' : α → β → Cells) : Pl.Spec := fun ds Λ Q E => ∃ a, ds = Dd a ∧ Λ = L a ∧ wp (f a) (fun z => wp (g z) (fun w => Q (R w) (L' a w)) no)
  (fun c us => ∀ Λ', Λ'.length = (L a).length → Λ'.all nlC = true → (mu = false → Λ' = L a) → E (errD κ c us) Λ')
section
variable {κ : Kl} {mu : Bool} {α γ β : Type} {Dd : α → List D} {L : α → Cells} {f : α → M γ} {g : γ → M β} {R : β → Res} {L' : α → β → Cells}
theorem spE_mono : Mono (spE κ mu Dd L f g R L') := fun ds Λ Q Q' E E' ⟨a, h1, h2, h3⟩ i j => ⟨a, h1, h2, wp_mono h3 (fun z h => wp_mono h (fun w h => i _ _ h) fun _ _ h => h) fun c us h Λ' a b d => j _ _ (h Λ' a b d)⟩
theorem spE_none (hf : ∀ a, f a = .stuck) (ds : List D) (Λ : Cells) (Q : Res → Cells → Prop) (E : Err → Cells → Prop) : ¬ spE κ mu Dd L f g R L' ds Λ Q E := fun ⟨a, _, _, h⟩ => by rw [hf] at h; exact h
theorem setAll_all : ∀ {Λ : Cells} {ls : List Nat} {cs : Cells}, Λ.all nlC = true → cs.all nlC = true → (setAll Λ ls cs).all nlC = true
  | _, [], _, h, _ => by cases ‹Cells› <;> exact h
  | _, _ :: _, [], h, _ => h
  | Λ, n :: ls, c :: cs, h, k => by
    rw [List.all_cons, Bool.and_eq_true] at k
    show (setAll (Λ.set n c) ls cs).all nlC = true
    refine setAll_all ?_ k.2
    rw [List.all_eq_true] at h ⊢
    intro x hx
    rcases List.mem_or_eq_of_mem_set hx with z | z
    · exact h x z
    · rw [z]; exact k.1
end
end Sh

/-! Sh20: what was caught is asked: isinstance, fields; calls with cells that refuse. -/
namespace L2
open PySem PySem.Spec PyProof.Rows
section
variable {X : Cx}
theorem exc_inst {pins : List (Addr × Obj)} {σ : St} {H : Hp} {s : Shared} {a C : Addr} {d : Option Addr} (I : Inv X pins σ H s) (ha : H a = some (Pl.excHO C a d)) (hd : ∀ dx, d = some dx → ∃ fs, H dx = some (.xd fs)) :
    ∃ oe od, PySem.W.InstAt s.heap a oe C od ∧ oe.dict = d ∧ ∀ dx, d = some dx → ∃ o, od = some o ∧ s.heap.get? dx = some o := by
  obtain ⟨⟨oe, vs, h1, hz, h2⟩, _⟩ := I.hok a _ ha
  have no : PySem.W.notCls oe = true := by unfold PySem.W.notCls; rw [h2] <;> rfl
  cases hd' : d with
  | none => exact ⟨oe, none, ⟨h1, hz.1, no, by rw [hz.2, hd']; trivial⟩, by rw [hz.2, hd'], fun dx z => by cases z⟩
  | some dx =>
    obtain ⟨fs, ea⟩ := hd dx hd'
    obtain ⟨mA, hns, hr⟩ := I.hok dx _ ea
    obtain ⟨od, ho, hl⟩ := lookIn_ns hns
    exact ⟨oe, some od, ⟨h1, hz.1, no, by rw [hz.2, hd']; exact ho⟩, by rw [hz.2, hd'], fun dx' z => by cases z; exact ⟨od, rfl, ho⟩⟩
theorem call_isExc : CallR X (.builtin "isinstance") fun xs H Q => ∃ (a C : Addr) (d : Option Addr) (c : V) (cv : Value) (b : Bool), xs = [.ref a, c] ∧ H a = some (Pl.excHO C a d) ∧ (∀ dx, d = some dx → ∃ fs, H dx = some (.xd fs)) ∧ ExcC X.K C ∧ (∀ u, RelV c u → u = cv) ∧ PySem.W.kitOne X.K (.ref C) cv = some b ∧ Q (.bl b) H := by
  intro pins s σ H xs us Q I r h
  obtain ⟨a, C, d, c, cv, b, rfl, ha, hd, T, hcv, e, q⟩ := h
  cases r with
  | cons rx rr =>
    cases rr with
    | cons rt rr =>
      cases rr
      cases rx
      have ec := hcv _ rt
      subst ec
      obtain ⟨oe, od, J, _, _⟩ := exc_inst I ha hd
      obtain ⟨cd, hc, _⟩ := PySem.W.any_some T.hd
      exact PySem.W.kia_one (PySem.W.kitx_exc (by rw [hc]; rfl) T.hg T.hk T.hs T.ha T.hn T.ht T.hm) I.kIn J e (fun z => nomatch z) fun tk => ⟨.bl b, H, I.kept (t' := tk) fun _ _ z => z, rfl, q⟩
/-- x.f of an exception that was caught -/
theorem pe_xfA {e : Expr} {te : TE} {n : Str} {pos : Pos} (he : PE X e te) (hb : attributeBase e n X.env (eval e X.env) = eval e X.env := by rfl) :
    PE X (.Attribute e n pos) (fun σ H Q => te σ H fun x H1 => ∃ (a C dd : Addr) (fs : List (Str × V)) (v : V), x = .ref a ∧ H1 a = some (Pl.excHO C a (some dd)) ∧ H1 dd = some (.xd fs) ∧ XfC X.K C ∧ PySem.W.findIn X.K (.ref C) n = some none ∧ fs.lookup n = some v ∧ Q v H1) := by
  refine ⟨fun pins s σ H Q I h => ?_⟩
  refine attr_of hb (thn (he.run pins s σ H _ I h) fun u s1 hh => ?_)
  obtain ⟨x, H1, I1, rx, a, C, dd, fs, v, ex, hx, ea, T, hno, l, q⟩ := hh
  subst ex
  obtain rfl : u = Value.ref a := rx
  obtain ⟨⟨oe, vs, h1, hz, h2⟩, _⟩ := I1.hok a _ hx
  obtain ⟨mA, hns, hr⟩ := I1.hok dd _ ea
  obtain ⟨od, ho, hl⟩ := lookIn_ns hns
  obtain ⟨u, hu, ru⟩ := RelO.some_of (v := v) (o := mA n) (by rw [← l]; exact hr n)
  have J : PySem.W.InstAt s1.heap a oe C (some od) := ⟨h1, hz.1, by unfold PySem.W.notCls; rw [h2] <;> rfl, by rw [hz.2]; exact ho⟩
  exact HandSPX.exc_get I1.kIn J T.ga T.gg T.exC (PySem.W.findObj_own T.hdC hno rfl (by rw [hl, hu])) (handed_of ru) ⟨v, H1, I1.tok _, ru, q⟩
end
end L2
namespace Sh
open PySem L2 Pl PyProof.Rows
/-- isinstance(x, T) of what was caught: the answer by the class -/
def isEM (tbl : List (Str × Bool)) : U → M U
  | .exc c _ => match tbl.lookup c with
    | some b => .ok (.bl b)
    | none => .stuck
  | _ => .stuck
/-- x.f of what was caught -/
def excF (c : Str) : U → M U
  | .exc c' [v] => if c' = c then .ok v else .stuck
  | _ => .stuck
structure ExcF (K : PySem.W.Frag) (κ : Kl) (c f : Str) : Prop where
  x : XfC K (κ.ad c)
  n : PySem.W.findIn K (.ref (κ.ad c)) f = some none
  f : κ.fs c = [f]
theorem lookup_mem {β : Type} {c : Str} {b : β} : ∀ {tbl : List (Str × β)}, tbl.lookup c = some b → (c, b) ∈ tbl
  | [], h => by cases h
  | (k, v) :: r, h => by
    rw [List.lookup_cons] at h
    split at h
    · rename_i e
      cases h
      have : c = k := by simpa using e
      subst this
      exact List.mem_cons_self
    · exact List.mem_cons_of_mem _ (lookup_mem h)
section
variable {κ : Kl} {C : Pl.Ctx} {E : ER} {Γ : Pl.Env} {Λ : Cells} {pos p p2 : Pos} {x : Str} {e : Expr} {P : D → Cells → Prop} {Eh : Str → List U → Prop}
theorem isE_key {tbl : List (Str × Bool)} {u : U} {Q : U → Prop} (h : wp (isEM tbl u) Q Tr) : ∃ c us b, u = .exc c us ∧ (c, b) ∈ tbl ∧ Q (.bl b) := by
  unfold isEM at h
  split at h
  · rename_i c us
    split at h
    · rename_i b hb
      exact ⟨c, us, b, rfl, lookup_mem hb, h⟩
    · exact h.elim
  · exact h.elim
theorem rep_exc {K : PySem.W.Frag} {B H : Hp} {α : List Addr} {c : Str} {us : List U} {v : V} (x : Ex B H) (h : Rep K B α (em κ (.exc c us)) v) : ∃ a d, v = .ref a ∧ H a = some (excHO (κ.ad c) a d) ∧ ∀ dx, d = some dx → ∃ fs, H dx = some (.xd fs) := by
  have hr : Rep K B α (.exc (κ.ad c) (κ.fs c) (ems κ us)) v := h
  unfold Rep at hr
  obtain ⟨a, d, vs, rfl, g1, g2, g3, g5, g4⟩ := hr
  exact ⟨a, d, rfl, x _ _ g1, fun dx z => ⟨_, x _ _ (g4 dx z)⟩⟩
theorem we_isEM {tbl : List (Str × Bool)} {Ct : Addr} (hj : GlAt C "isinstance") (hm : C.mg "isinstance" = none) (hj2 : GlAt C x) (hg : C.mg x = some (.ref Ct)) (hK : ∀ q ∈ tbl, ExcC C.K (κ.ad q.1) ∧ PySem.W.kitOne C.K (.ref (κ.ad q.1)) (.ref Ct) = some q.2)
    (h : WE C E Γ Λ e fun d Λ1 => ∃ u, d = em κ u ∧ wp (isEM tbl u) (fun z => P (em κ z) Λ1) Tr) (he : plainE e = true := by rfl) (hd : (x == ("__debug__" : Str)) = false := by decide) : WE C E Γ Λ (.Call (.Name "isinstance" p) [e, .Name x p2] [] pos) P := fun X F W is tk => by
  refine pe_imp (pe_callB call_isExc (is.gl hj) (by rw [is.mg]; exact hm) boot_isinstance (pa_cons pe_U (pa_cons (pe_glob (v := .ref Ct) (is.gl hj2) (by rw [is.mg]; exact hg) rfl hd) pa_nil (star_plain rfl)) (star_plain he)) (he := by rw [star_plain he]) (hpl := back_plain rfl)) fun σ H Q ⟨B, α, S, q, er⟩ => ?_
  refine WE.use h is tk S er fun d Λ1 v B1 α1 H1 p1 S1 x1 f1 r1 => ?_
  obtain ⟨u, rfl, p1⟩ := p1
  obtain ⟨c, us, b, rfl, hc, hp⟩ := isE_key p1
  obtain ⟨k1, k2⟩ := hK _ hc
  obtain ⟨a, d, rfl, g1, g2⟩ := rep_exc S1.bh r1
  refine ⟨a, κ.ad c, d, .ref Ct, .ref Ct, b, rfl, g1, g2, by rw [is.K]; exact k1, fun u z => z, by rw [is.K]; exact k2, ?_⟩
  exact q _ Λ1 _ B1 α1 H1 hp S1 x1 f1 (by show Rep _ _ _ (.bl b) _; unfold Rep; rfl)
theorem we_isEB {tbl : List (Str × Bool)} {Tn : String} (hj : GlAt C "isinstance") (hm : C.mg "isinstance" = none) (hj2 : GlAt C x) (hm2 : C.mg x = none) (hv : bootBuiltins x = some (.type Tn)) (hK : ∀ q ∈ tbl, ExcC C.K (κ.ad q.1) ∧ PySem.W.kitOne C.K (.ref (κ.ad q.1)) (.type Tn) = some q.2)
    (h : WE C E Γ Λ e fun d Λ1 => ∃ u, d = em κ u ∧ wp (isEM tbl u) (fun z => P (em κ z) Λ1) Tr) (he : plainE e = true := by rfl) (hn : x ≠ "__name__" := by decide) (hd : (x == ("__debug__" : Str)) = false := by decide) : WE C E Γ Λ (.Call (.Name "isinstance" p) [e, .Name x p2] [] pos) P := fun X F W is tk => by
  refine pe_imp (pe_callB call_isExc (is.gl hj) (by rw [is.mg]; exact hm) boot_isinstance (pa_cons pe_U (pa_cons (pe_bltn (is.gl hj2) (by rw [is.mg]; exact hm2) hv (v := .ty Tn) rfl hn hd) pa_nil (star_plain rfl)) (star_plain he)) (he := by rw [star_plain he]) (hpl := back_plain rfl)) fun σ H Q ⟨B, α, S, q, er⟩ => ?_
  refine WE.use h is tk S er fun d Λ1 v B1 α1 H1 p1 S1 x1 f1 r1 => ?_
  obtain ⟨u, rfl, p1⟩ := p1
  obtain ⟨c, us, b, rfl, hc, hp⟩ := isE_key p1
  obtain ⟨k1, k2⟩ := hK _ hc
  obtain ⟨a, d, rfl, g1, g2⟩ := rep_exc S1.bh r1
  refine ⟨a, κ.ad c, d, .ty Tn, .type Tn, b, rfl, g1, g2, by rw [is.K]; exact k1, fun u z => z, by rw [is.K]; exact k2, ?_⟩
  exact q _ Λ1 _ B1 α1 H1 hp S1 x1 f1 (by show Rep _ _ _ (.bl b) _; unfold Rep; rfl)
theorem we_excF {c f : Str} (T : ExcF C.K κ c f) (h : WE C E Γ Λ e fun d Λ1 => ∃ u, d = em κ u ∧ wp (excF c u) (fun z => P (em κ z) Λ1) Tr) (hb : ∀ env : PySem.Env, attributeBase e f env (eval e env) = eval e env := by intro _; rfl) : WE C E Γ Λ (.Attribute e f pos) P := fun X F W is tk => by
  refine pe_imp (pe_xfA pe_U (hb X.env)) fun σ H Q ⟨B, α, S, q, er⟩ => ?_
  refine WE.use h is tk S er fun d Λ1 v B1 α1 H1 p1 S1 x1 f1 r1 => ?_
  obtain ⟨u, rfl, p1⟩ := p1
  have key : ∃ w, u = .exc c [w] ∧ P (em κ w) Λ1 := by
    unfold excF at p1
    split at p1
    · split at p1
      · rename_i e; subst e; exact ⟨_, rfl, p1⟩
      · exact p1.elim
    · exact p1.elim
  obtain ⟨w, rfl, hp⟩ := key
  have hr : Rep C.K B1 α1 (.exc (κ.ad c) (κ.fs c) (ems κ [w])) v := r1
  rw [T.f] at hr
  unfold Rep at hr
  obtain ⟨a, d, vs, rfl, g1, g2, g3, g7, g4⟩ := hr
  unfold ems at g2
  unfold Reps at g2
  obtain ⟨v1, r, rfl, g5, g6⟩ := g2
  cases d with
  | none => cases g7 rfl
  | some dd =>
    have ex : List.lookup f (([f] : List Str).zip (v1 :: r)) = some v1 := by
      show List.lookup f ((f, v1) :: ([] : List Str).zip r) = some v1
      rw [List.lookup_cons_self]
    exact ⟨a, κ.ad c, dd, _, v1, rfl, S1.bh _ _ g1, S1.bh _ _ (g4 dd rfl), by rw [is.K]; exact T.x, by rw [is.K]; exact T.n, ex, q _ Λ1 _ B1 α1 H1 hp S1 x1 f1 g5⟩
end
/-! ### calls with cells that may refuse -/
section
variable {κ : Kl} {mu : Bool} {α γ β : Type} {Dd : α → List D} {L : α → Cells} {f : α → M γ} {g : γ → M β} {R : β → Res} {L' : α → β → Cells} {C : Pl.Ctx} {E : ER} {Γ : Pl.Env} {Λ : Cells} {Eh : Str → List U → Prop}
/-- what a call with cells wishes of a refusal -/
def EIp (κ : Kl) (mu : Bool) (Eh : Str → List U → Prop) (E : ER) (Γ : Pl.Env) (Λ : Cells) (ls : List Nat) (L0 : Cells) : Prop := ∀ c us Λ', Λ'.length = L0.length → Λ'.all nlC = true → (mu = false → Λ' = L0) → Eh c us → E (errD κ c us) Γ (putB Λ ls Λ')
theorem EI.p {ls : List Nat} {L0 : Cells} (h : EI κ Eh E) : EIp κ mu Eh E Γ Λ ls L0 := fun c us Λ' _ _ _ q => h c us _ _ q
theorem EIa.p {ls : List Nat} {L0 : Cells} (h : EIa κ Eh E Γ Λ) (e : putB Λ ls L0 = Λ) : EIp κ false Eh E Γ Λ ls L0 := fun c us Λ' _ _ z q => by rw [z rfl, e]; exact h c us q
theorem putB_len {ls : List Nat} {Λ' : Cells} : Λ.length ≤ (putB Λ ls Λ').length := by
  unfold putB
  rw [List.length_append, setAll_length]; omega
theorem putB_nl {ls : List Nat} {Λ' : Cells} (h : Λ.all nlC = true) (h' : Λ'.all nlC = true) : (putB Λ ls Λ').all nlC = true := by
  unfold putB
  rw [List.all_append, Bool.and_eq_true]
  rw [List.all_eq_true] at h'
  refine ⟨setAll_all h (List.all_eq_true.mpr fun x hx => h' x (List.mem_of_mem_take hx)), List.all_eq_true.mpr fun x hx => h' x (List.mem_of_mem_drop hx)⟩
theorem EIm.p {m : Nat} {ls : List Nat} {L0 : Cells} (h : EIm κ m Eh E) (hm : m ≤ Λ.length) (hn : Λ.all nlC = true) : EIp κ mu Eh E Γ Λ ls L0 := fun c us Λ' _ n _ q => h c us _ _ (Nat.le_trans hm putB_len) (by
  have := putB_nl (ls := ls) hn n
  rw [List.all_eq_true] at this ⊢
  exact fun x hx => this x (List.mem_of_mem_take hx)) q
theorem kcE {n : Nat} {ds : List D} {Pr : Res → Cells → Prop} (ls : List Nat) (a : α) (r2 : β → Res) (Λ2 : β → Cells) (h0 : Hand Λ ls) (h1 : ds = rens (gI ls Λ.length) (Dd a)) (h2 : ltDs ls.length (Dd a) = true) (h3 : (Dd a).length = n) (h4 : cellsAt Λ ls = L a)
    (h5 : ∀ w, (L' a w).all nlC = true) (h6 : ∀ w, match R w with | .val d => r2 w = .val (ren (gI ls Λ.length) d) | .new ds => nls ds = true ∧ r2 w = .new ds) (h7 : ∀ w, putB Λ ls (L' a w) = Λ2 w) (hE : EIp κ mu Eh E Γ Λ ls (L a))
    (h : wp (f a) (fun z => wp (g z) (fun w => Pr (r2 w) (Λ2 w)) no) Eh) : CallC n (spE κ mu Dd L f g R L') E Γ Λ ds Pr := by
  refine ⟨ls, Dd a, h0, h1, h2, h3, a, rfl, h4, wp_mono h (fun z h => wp_mono h (fun w h => ⟨h5 w, ?_⟩) fun _ _ h => h) fun c us q Λ' l nl z => ⟨nl, nlE_errD, hE c us Λ' l nl z q⟩⟩
  have h6 := h6 w
  rw [h7]
  cases e : R w with
  | val d => rw [e] at h6; dsimp only at h6 ⊢; rw [← h6]; exact h
  | new ds => rw [e] at h6; dsimp only at h6 ⊢; rw [← h6.2]; exact ⟨h6.1, h⟩
theorem finKE {m : M γ} {g : γ → M β} {δ : Type} {Q : δ → Prop} {k : β → M δ} {P : β → Prop} (h : wp (m.bind fun z => (g z).calm.bind k) Q Eh) (i : ∀ w, wp (k w) Q Eh → P w) : wp m (fun z => wp (g z) P no) Eh :=
  wp_mono (wp_bind h) (fun z h => wp_mono (wp_calm (wp_bind h)) i fun _ _ h => h) fun _ _ h => h
theorem finKE1 {m : M γ} {δ : Type} {Q : δ → Prop} {k : γ → M δ} {P : γ → Prop} (h : wp (m.bind k) Q Eh) (i : ∀ w, wp (k w) Q Eh → P w) : wp m (fun z => wp (M.ok z) P no) Eh :=
  wp_mono (wp_bind h) (fun z h => i z h) fun _ _ h => h
/-- the refusals that a def with cells may leave with -/
def erK (κ : Kl) (mu : Bool) (L0 : Cells) (Eh : Str → List U → Prop) : ER := fun e _ Λ' => ∃ c us, e = errD κ c us ∧ Eh c us ∧ L0.length ≤ Λ'.length ∧ (Λ'.take L0.length).all nlC = true ∧ (mu = false → Λ'.take L0.length = L0)
theorem EIm.erK {L0 : Cells} : EIm κ L0.length Eh (erK κ true L0 Eh) := fun c us Γ Λ h1 h2 q => ⟨c, us, rfl, q, h1, h2, fun z => Bool.noConfusion z⟩
/-- .. where the cells stay -/
def EIz (κ : Kl) (L0 : Cells) (Eh : Str → List U → Prop) (E : ER) : Prop := ∀ c us Γ Λ, L0.length ≤ Λ.length → Λ.take L0.length = L0 → L0.all nlC = true → Eh c us → E (errD κ c us) Γ Λ
theorem EIz.erK {L0 : Cells} : EIz κ L0 Eh (erK κ false L0 Eh) := fun c us Γ Λ h1 h2 h3 q => ⟨c, us, rfl, q, h1, by rw [h2]; exact h3, fun _ => h2⟩
theorem EIz.at {L0 : Cells} (h : EIz κ L0 Eh E) (h1 : L0.length ≤ Λ.length) (h2 : Λ.take L0.length = L0) (h3 : L0.all nlC = true) : EIa κ Eh E Γ Λ := fun c us q => h c us Γ Λ h1 h2 h3 q
theorem def_E {G : Gl} (mu : Bool) {x : Str} {st : Stmt} {ps : List Str} {qn : Str} (h : DefAt G.K G.mg x st ps qn) {N : List Str} {vs ls : List Bool} {gl : List Str} {k : Nat} (m : Nat) (sc : FnScope N ps (defScope st)) (good : goodC N (defScope st) vs ls gl = true)
    (hm : ∀ a, (L a).length ≤ m)
    (hb : ∀ a Q Eh, wp (f a) (fun z => wp (g z) Q no) Eh → WSs (G.cx N (defScope st) vs ls gl k m) (Γ0 N (Dd a)) (L a) (defBody st) ⟨fun _ Λ' => rtK (L a) R (L' a) Q (.val .non) Λ', rtK (L a) R (L' a) Q, fun _ _ => False, fun _ _ => False, erK κ mu (L a) Eh⟩) : G.fn (k + 1) x ps.length (spE κ mu Dd L f g R L') :=
  def_okC (m := m) h sc good (fun ds Λ Q E ⟨a, _, h, _⟩ => by subst h; exact hm a) fun ds Λ Q E hl ⟨a, h1, h2, h3⟩ => by
    subst h1; subst h2
    have key : ∀ r Λ', rtK (L a) R (L' a) (fun w => Q (R w) (L' a w)) r Λ' → rtY (L a) Q r Λ' := fun r Λ' ⟨w, q, m, a1, a2, a3⟩ => by
      refine ⟨m, a1, a2, ?_⟩
      rcases a3 with ⟨b1, b2, b3⟩ | ⟨n, ds, c1, c2, c3, c4, c5, c6⟩ | ⟨n, ks, ds, c1, c2, c3, c4, c5, c6⟩
      · exact .inl ⟨b1, by rw [b2, b3]; exact q⟩
      · exact .inr (.inl ⟨n, ds, c1, c2, c3, c4, by rw [c5, c6]; exact q⟩)
      · exact .inr (.inr ⟨n, ks, ds, c1, c2, c3, c4, by rw [c5, c6]; exact q⟩)
    refine wss_mono (hb a _ _ h3) ⟨fun Γ Λ p => key _ _ p, fun r Λ p => key _ _ p, fun _ _ z => z, fun _ _ z => z, fun e Γ Λ p => ?_⟩
    obtain ⟨c, us, rfl, q, l1, l2, l3⟩ := p
    exact ⟨nlE_errD, l2, q _ (by rw [List.length_take]; omega) l2 l3⟩
end
end Sh

/-! Sh21: calls without arguments. -/
namespace Sh
open PySem L2 Pl PyProof.Rows
theorem boot_VE : bootBuiltins "ValueError" = some (.type "ValueError") := by decide +kernel
section
variable {κ : Kl} {C : Pl.Ctx} {E : ER} {Γ : Pl.Env} {Λ : Cells} {pos p : Pos}
theorem we_call0M {k : Nat} {x : Str} {P : D → Cells → Prop} {S : Pl.Spec} (G : C.fn k x 0 S) (hk : k ≤ C.k) (hj : GlAt C x) (m : Mono S) (h : S [] [] (fun r Λ' => Λ' = [] ∧ ∃ d, r = .val d ∧ P d Λ) fun err Λ' => Λ' = [] ∧ E err Γ Λ)
    (hdb : (x == ("__debug__" : Str)) = false := by decide) : WE C E Γ Λ (.Call (.Name x p) [] [] pos) P := fun X F W is tk => by
  obtain ⟨f, fd, ps, h1, h2, h3, h4, h5⟩ := G.ex
  have e1 := is.prog; have e2 := is.w; have e3 := is.K; have e4 := is.mg; have e5 := is.base
  refine pe_imp (pe_call0S (E' := fun σ c dx H' => W c dx σ H') (by rw [e1, e2, e3, e4, e5]; exact h1) (is.room.mono hk) (is.gl hj) (by rw [e4]; exact h2) (by rw [e3]; exact h3) (by rw [e3]; exact h4)
    (fun σ => by rw [← e1, ← e2]; exact passAt tk σ) hdb) fun σ H Q ⟨B, α, T, q, er⟩ => ?_
  have := call_sp (S := S) (Pr := fun r => ∃ d, r = .val d ∧ P d Λ) (E' := E) (n := 0) (ds := []) (vs := []) (Q := Q) T .nil rfl rfl h (m [] []) er fun r v B' H' p' T' x' ra => by
    obtain ⟨d, rfl, p'⟩ := p'
    exact q d Λ v B' α H' p' T' x' (List.prefix_refl _) (Rep.mono (Ex.refl _) List.nil_prefix d v ra)
  exact this
theorem we_callV0 {k : Nat} {x : Str} {P : D → Cells → Prop} {f : List U → M U} (G : C.fn k x 0 (spV κ 0 f)) (hk : k ≤ C.k) (hj : GlAt C x) (h : ∃ us, ([] : List D) = ems κ us ∧ us.length = 0 ∧ wp (f us) (fun z => P (em κ z) Λ) (fun c es => E (errD κ c es) Γ Λ))
    (hdb : (x == ("__debug__" : Str)) = false := by decide) : WE C E Γ Λ (.Call (.Name x p) [] [] pos) P := by
  obtain ⟨us, h1, h2, h3⟩ := h
  exact we_call0M G hk hj spV_mono ⟨rfl, us, h1, h2, wp_mono h3 (fun z h => ⟨rfl, _, rfl, h⟩) fun c es h => ⟨rfl, h⟩⟩ hdb
end
/-! what the text tells of the classes of refusals -/
section
variable {K : PySem.W.Frag} {mg : Str → Option Value} {x y : Str} {Cx Cy : Addr} {fs : Str → List Str}
theorem excAt {hp : Heap} (KX : K.In hp) (h : mg x = some (.ref Cx)) (xq : PySem.W.excIn K Cx [.type "ValueError", .type "Exception", .type "BaseException", .type "object"] "ValueError.__new__" = true) (k : PySem.W.keepIn K (.ref Cx) = true)
    (b : PySem.W.subIn K (.ref Cx) (.type "BaseException") = some true) (t : PySem.W.typeIn K (.ref Cx) = some (.type "type")) (f : fs x = []) : ExcK K mg ⟨adOf mg, fs⟩ x := by
  have e : adOf mg x = Cx := adOf_eq h
  refine ⟨?_, ?_, ?_, ?_, ?_, f⟩
  · show mg x = some (.ref (adOf mg x)); rw [e]; exact h
  · show PySem.W.excIn K (adOf mg x) _ _ = _; rw [e]; exact xq
  · show PySem.W.keepIn K (.ref (adOf mg x)) = _; rw [e]; exact k
  · show PySem.W.subIn K (.ref (adOf mg x)) _ = _; rw [e]; exact b
  · show PySem.W.typeIn K (.ref (adOf mg x)) = _; rw [e]; exact t
theorem excCAt {hp : Heap} (KX : K.In hp) (h : mg x = some (.ref Cx)) (hg : PySem.W.findIn K (.ref Cx) "__getattribute__" = some (some (.builtin "BaseException.__getattribute__"))) (hk : PySem.W.findIn K (.ref Cx) "__getattr__" = some none) (hs : PySem.W.subIn K (.ref Cx) (.type "BaseException") = some true)
    (hd : PySem.W.hasDictIn K Cx = true) (ha : PySem.W.findIn K (.ref Cx) "__class__" = some (some (.builtin "object.__class__"))) (hn : PySem.W.specialIn K (.builtin "object.__class__") "__get__" = some (some (.builtin "getset_descriptor.__get__")))
    (ht : PySem.W.takesIn K (.builtin "object.__class__") = some true) (hm : PySem.W.mroIn K Cx (.type "object") = some true) : ExcC K (adOf mg x) := by rw [adOf_eq h]; exact ⟨hg, hk, hs, hd, ha, hn, ht, hm⟩
theorem kitXX {b : Bool} {hp : Heap} (KX : K.In hp) (h : mg x = some (.ref Cx)) (h2 : mg y = some (.ref Cy)) (me : PySem.W.kitOne K (.ref Cx) (.ref Cy) = some b) : PySem.W.kitOne K (.ref (adOf mg x)) (.ref (adOf mg y)) = some b := by rw [adOf_eq h, adOf_eq h2]; exact me
theorem kitXT {b : Bool} {T : String} {hp : Heap} (KX : K.In hp) (h : mg x = some (.ref Cx)) (me : PySem.W.kitOne K (.ref Cx) (.type T) = some b) : PySem.W.kitOne K (.ref (adOf mg x)) (.type T) = some b := by rw [adOf_eq h]; exact me
theorem exmXX {hp : Heap} (KX : K.In hp) (h : mg x = some (.ref Cx)) (h2 : mg y = some (.ref Cy)) (h1 : PySem.W.subIn K (.ref Cy) (.type "BaseException") = some true) (hd : PySem.W.hasDictIn K Cy = true) (ht : PySem.W.typeIn K (.ref Cy) = some (.type "type")) (h4 : PySem.W.subIn K (.ref Cx) (.ref Cy) = some true) :
    PySem.W.exmOne K (.ref (adOf mg x)) (.ref (adOf mg y)) = some true := by rw [adOf_eq h, adOf_eq h2]; exact PySem.W.exm_ref h1 hd ht h4
theorem excFAt {f : Str} {hp : Heap} (KX : K.In hp) (h : mg x = some (.ref Cx)) (ga : PySem.W.findIn K (.ref Cx) "__getattribute__" = some (some (.builtin "BaseException.__getattribute__"))) (gg : PySem.W.findIn K (.ref Cx) "__getattr__" = some none) (hs : PySem.W.subIn K (.ref Cx) (.type "BaseException") = some true)
    (hd : PySem.W.hasDictIn K Cx = true) (nf : PySem.W.findIn K (.ref Cx) f = some none) (e : fs x = [f]) : ExcF K ⟨adOf mg, fs⟩ x f := by
  have e2 : adOf mg x = Cx := adOf_eq h
  refine ⟨?_, ?_, e⟩
  · show XfC K (adOf mg x); rw [e2]; exact ⟨ga, gg, hs, hd⟩
  · show PySem.W.findIn K (.ref (adOf mg x)) f = some none; rw [e2]; exact nf
end
end Sh

/-! Sh22: {k: v}. -/
namespace Pl
open PySem L2
section
variable {C : Ctx} {E : ER} {Γ : Env} {Λ : Cells} {pos : Pos}
theorem we_disp1 {k v : Expr} {P : D → Cells → Prop} (h : WE C ER.none Γ Λ k fun d Λ' => Λ' = Λ ∧ ∃ s, d = .str s ∧ WE C ER.none Γ Λ v fun e Λ2 => Λ2 = Λ ∧ P (.dic [.inr s] [e]) Λ) : WE C E Γ Λ (.Dict [some k] [v] pos) P := fun X F W is tk => by
  refine pe_imp (pe_disp (pps_cons pe_U pe_U pps_nil) rfl rfl (by simp) (Nat.le_of_ble_eq_true rfl)) fun σ H Q ⟨B, α, S, q, er⟩ => ?_
  intro p hp
  have hpα : p ∉ α := fun ha => (S.ah p ha).1 hp
  have S1 := S.grow (Ex.new (o := .dK []) hp)
  show UE X k σ (upd H p (.dK [])) _
  refine WE.use h is tk S1.rebase (fun err Λ' B' α' H' c dx e => e.elim) fun d Λ' x B1 α1 H1 p1 T1 e1 f1 r1 => ?_
  obtain ⟨rfl, s, rfl, p1⟩ := p1
  have ea := pre_len f1 (by rw [S.al, T1.al])
  subst ea
  show UE X v σ H1 _
  refine WE.use p1 is tk T1 (fun err Λ' B' α' H' c dx e => e.elim) fun d2 Λ2 y B2 α2 H2 p2 T2 e2 f2 r2 => ?_
  obtain ⟨rfl, p2⟩ := p2
  have ea2 := pre_len f2 (by rw [T2.al, T1.al])
  subst ea2
  have S2 := S1.unbase T2
  have hH : H2 p = some (.dK []) := T2.kp p _ upd_same hpα
  have hB : B2 p = none := by
    cases z : B2 p with
    | none => rfl
    | some o =>
      rcases T2.fr p o z with w | w
      · have w : B p = some o := w
        rw [S.bh.back hp] at w; cases w
      · have w : upd H p (.dK []) p = none := w
        rw [upd_same] at w; cases w
  have ex : x = V.str s := by unfold Rep at r1; exact r1
  subst ex
  refine ⟨hH, [(.inr s, y)], rfl, Nat.le_of_ble_eq_true rfl, ?_⟩
  have S3 := (S2.poke hB (S.dm p hp) hpα (o := .dK [(.inr s, y)])).see upd_same hB (S.dm p hp) hpα
  have hx : Ex B2 (upd B2 p (.dK [(.inr s, y)])) := Ex.new hB
  refine q _ _ _ _ _ _ p2 S3 ((e1.trans e2).trans hx) (List.prefix_refl _) ?_
  show Rep C.K _ _ (.dic _ _) (.ref p)
  unfold Rep
  exact ⟨p, [y], rfl, .inl upd_same, (Reps.one r2).mono hx (List.prefix_refl _), rfl⟩
end
end Pl
namespace Pl
open PySem L2
section
variable {C : Ctx} {Γ : Env} {Λ : Cells} {pos : Pos} {P : Env → Prop}
/-- a, b = xs of a list -/
theorem wg_lst {es : List Expr} {k : Nat} {ds : List D} {vs : List Nat} (h : WGs C Γ Λ es ds vs P) (hl : es.length = ds.length) (hp : es.all plainT = true := by rfl) : WG C Γ Λ (.Tuple es k pos) (.lst ds) vs P := fun X F is => by
  refine pg_imp (pg_lst is.calm pgs_U (n := ds.length) (by rw [each_len, hl]) (each_star hp)) fun v σ H Q ⟨B, α, S, r, q⟩ => ?_
  unfold Rep at r
  obtain ⟨a, us, rfl, h1, h2⟩ := r
  exact ⟨a, us, rfl, .inl (.inl (S.bh _ _ h1)), h2.length, _, h X F is, B, α, S, h2, q⟩
end
end Pl
namespace Sh
open PySem L2 Pl PyProof.Rows
def un2l : U → M (U × U)
  | .lst [a, b] => .ok (a, b)
  | _ => .stuck
theorem tg2l {κ : Kl} {C : Pl.Ctx} {Γ : Pl.Env} {Λ : Cells} {tg : Expr} {α : Type} {Q : α → Prop} {Eh : Str → List U → Prop} {ws : List Nat} {Pg : Pl.Env → Prop} {k : U × U → M α} (u : U) (h : wp ((un2l u).bind k) Q Eh) (i : ∀ a b, wp (k (a, b)) Q Eh → WG C Γ Λ tg (.lst [em κ a, em κ b]) ws Pg) : WG C Γ Λ tg (em κ u) ws Pg := by
  replace h := wp_bind h
  unfold un2l at h
  split at h
  · exact i _ _ h
  · exact h.elim
@[simp] theorem un2l_ok {a b : U} : un2l (.lst [a, b]) = .ok (a, b) := rfl
end Sh

/-! Sh23: a str that is put down once or not at all. -/
namespace Pl
open PySem L2
theorem op_mul_str {X : Cx} : OpR X (binaryOp .Mult) (fun x y H Q => ∃ i n, x = .str i ∧ y = .int n ∧ ((n = 0 ∧ Q (.str "") H) ∨ (n = 1 ∧ Q (.str i) H))) := by
  intro pins s σ H x y v u Q I rx ry h
  obtain ⟨i, n, rfl, rfl, q⟩ := h
  obtain ⟨t, rfl⟩ := rx
  obtain ⟨t', rfl⟩ := ry
  have hn : n = 0 ∨ n = 1 := q.imp (·.1) (·.1)
  refine SB.mul ⟨by rcases hn with rfl | rfl <;> decide, fun h1 h2 => ?_, fun h1 h2 => ?_⟩ (fun t' tk => ?_)
  · rcases hn with rfl | rfl
    · exact absurd (by decide) h1
    · cases h2
  · rcases hn with rfl | rfl
    · exact absurd (by decide) h1
    · cases h2
  · rcases q with ⟨rfl, q⟩ | ⟨rfl, q⟩
    · exact ⟨.str "", H, I.tok _, ⟨_, rfl⟩, q⟩
    · exact ⟨.str i, H, I.tok _, ⟨_, rfl⟩, q⟩
def smulP (x y : D) (P : D → Prop) : Prop := match x, y with
  | .str s, .int n => (n = 0 ∧ P (.str "")) ∨ (n = 1 ∧ P (.str s))
  | _, _ => False
section
variable {C : Ctx} {E : ER} {Γ : Env} {Λ : Cells} {P : D → Cells → Prop} {pos : Pos} {a b : Expr}
theorem we_smul (h : WE C E Γ Λ a fun x Λ1 => WE C E Γ Λ1 b fun y Λ2 => smulP x y fun d => P d Λ2) : WE C E Γ Λ (.BinOp a .Mult b pos) P :=
  we_opK (fun X is => op_mul_str) (we_mono h fun x Λ1 p => we_mono p fun y Λ2 q => by
    intro F B α σ H vx vy Q S rx ry k
    unfold smulP at q
    split at q
    · rename_i s n
      unfold Rep at rx ry
      have keep : ∀ {z : Str}, P (.str z) Λ2 → Q (.str z) H := fun {z} p => k _ Λ2 _ B α H p S (Ex.refl B) (List.prefix_refl _) (by unfold Rep; rfl)
      exact ⟨s, n, rx, ry, q.imp (fun ⟨e, p⟩ => ⟨e, keep p⟩) (fun ⟨e, p⟩ => ⟨e, keep p⟩)⟩
    · exact q.elim)
end
end Pl
namespace Sh
open PySem L2 Pl PyProof.Rows
def smulM (x y : U) : M U := match x, y with
  | .str s, .int n => if n = 0 then .ok (.str "") else if n = 1 then .ok (.str s) else .stuck
  | _, _ => .stuck
section
variable {κ : Kl} {C : Pl.Ctx} {E : ER} {Γ : Pl.Env} {Λ : Cells} {P : D → Cells → Prop} {pos : Pos} {a b : Expr}
theorem smulP_m {α : Type} {x y : D} {a b : U} {k : U → M α} {Q : α → Prop} {Eh : Str → List U → Prop} {P : D → Prop} (hx : Vw κ Λ x a) (hy : Vw κ Λ y b) (h : wp ((smulM a b).bind k) Q Eh) (i : ∀ z, wp (k z) Q Eh → P (em κ z)) : smulP x y P := by
  replace h := wp_bind h
  unfold smulM at h
  split at h
  · have e1 := hx.atom (by simp) (by simp) (by simp); have e2 := hy.atom (by simp) (by simp) (by simp)
    subst e1; subst e2
    split at h
    · rename_i hn
      exact .inl ⟨hn, i _ h⟩
    · split at h
      · rename_i hn
        exact .inr ⟨hn, i _ h⟩
      · exact h.elim
  · exact h.elim
theorem we_smulM (h : Op2 κ C E Γ Λ a b smulM P) : WE C E Γ Λ (.BinOp a .Mult b pos) P := we_smul (we_mono h fun x Λ1 h => we_mono h fun y Λ2 ⟨u, v, hx, hy, h⟩ => smulP_m (P := fun d => P d Λ2) hx hy (wp_ret h) fun z h => h)
end
@[simp] theorem smulM_0 {s : Str} : smulM (.str s) (.int 0) = .ok (.str "") := rfl
@[simp] theorem smulM_1 {s : Str} : smulM (.str s) (.int 1) = .ok (.str s) := rfl
end Sh

/-! Sh24: a tuple of the module. -/
namespace Sh
open PySem L2 Pl PyProof.Rows
/-- the module's tuple of one text -/
def TupAt (K : PySem.W.Frag) (mg : Str → Option Value) (x : Str) (s : Str) : Prop := ∃ a, mg x = some (.ref a) ∧ ∀ H, SqT K H a [.str s]
section
variable {κ : Kl} {C : Pl.Ctx} {E : ER} {Γ : Pl.Env} {Λ : Cells} {P : D → Cells → Prop} {pos : Pos}
theorem we_gtup {x s : Str} (hj : GlAt C x) (hm : TupAt C.K C.mg x s) (h : P (.tup [.str s]) Λ) (hd : (x == ("__debug__" : Str)) = false := by decide) : WE C E Γ Λ (.Name x pos) P := by
  obtain ⟨a, hm, hs⟩ := hm
  exact we_glob (v := .ref a) hj hm rfl (fun B α => by
    unfold Rep
    refine ⟨a, [.str s], rfl, hs B, ?_⟩
    unfold Reps Rep Reps
    exact ⟨_, _, rfl, rfl, rfl⟩) h hd
end
theorem tupAt_mk {K : PySem.W.Frag} {mg : Str → Option Value} {h : Heap} {x s : Str} {t : Tok} {a : Addr} {n : Nat} {dd : Option Addr} {sl : Array (Option Value)} (X : K.In h) (G : h.Ns mainGlobals mg)
    (ha : PySem.W.nsIn K mainGlobals x = some (some (.ref a))) (l : K.lookup a = some ⟨.type "tuple", dd, .seq #[.str s t] n, sl⟩) : TupAt K mg x s :=
  ⟨a, PySem.W.mg_of X G ha, fun H => .inr ⟨_, _, n, l, rfl, rfl, by show 1 ≤ sizeLine; decide, by show Paired RelV [.str s] [.str s t]; exact .cons ⟨t, rfl⟩ .nil⟩⟩
end Sh

/-! Sh25: x is not True. -/
namespace Sh
open PySem L2 Pl PyProof.Rows
def isntbM (x y : U) : M Bool := match x, y with
  | .bl a, .bl b => .ok (!decide (a = b))
  | _, _ => .stuck
section
variable {κ : Kl} {C : Pl.Ctx} {E : ER} {Γ : Pl.Env} {Λ : Cells} {P : D → Cells → Prop} {Pt : Bool → Cells → Prop} {pos : Pos} {a b : Expr}
theorem wt_isntbM (h : Op2t κ C E Γ Λ a b isntbM Pt) : WT C E Γ Λ (.Compare a [.IsNot] [b] pos) Pt :=
  wt_cmpK (fun X is => op_isnot_bl) (we_mono h fun x Λ1 p => we_mono p fun y Λ2 ⟨u, v, hx, hy, q⟩ => by
    unfold isntbM at q
    split at q
    · have e1 := hx.atom (by simp) (by simp) (by simp); have e2 := hy.atom (by simp) (by simp) (by simp)
      subst e1; subst e2
      intro F B α σ H vx vy Q S rx ry k
      have rx : vx = .bl _ := rx
      have ry : vy = .bl _ := ry
      exact ⟨_, _, rx, ry, k _ _ _ _ _ _ ⟨_, rfl, q⟩ S (Ex.refl B) (List.prefix_refl _) (by unfold Rep; rfl)⟩
    · exact q.elim) (nomark b)
end
@[simp] theorem isntbM_bl {a b : Bool} : isntbM (.bl a) (.bl b) = .ok (!decide (a = b)) := rfl
end Sh

/-! Sh26: comprehensions over an owned list. -/
namespace Pl
open PySem L2
/-- the walk over a list that is owned: no turn changes it -/
def WIo (C : Ctx) (E : ER) (Γ : Env) (Λ : Cells) (tg iter : Expr) (P : List D → Cells → Prop) : Prop := ∀ X F W, C.Is X → Takes X W → PI X tg iter fun σ H R => ∃ B α, Sat C.K F B α Γ Λ σ H ∧
  (∀ (ds : List D) (n : Nat) (a : Addr) (Λ' : Cells) (B' : Hp) (α' : List Addr) (H' : Hp), P ds Λ' → Λ'[n]? = some (Cell.lst ds) → α'[n]? = some a → Sat C.K F B' α' Γ Λ' σ H' → Ex B B' → α <+: α' → R (Itl C.K a) H') ∧ ErOk C.K F W B σ Γ E
section
variable {C : Ctx} {E : ER} {Γ : Env} {Λ : Cells} {tg : Expr} {P : List D → Cells → Prop}
theorem wio {e : Expr} (h : WE C E Γ Λ e fun d Λ' => ∃ (n : Nat) (ds : List D), d = .loc n ∧ Λ'[n]? = some (Cell.lst ds) ∧ P ds Λ') : WIo C E Γ Λ tg e P := fun X F W is tk => by
  refine pi_imp (pi_list pe_U) fun σ H R ⟨B, α, S, q, er⟩ => ?_
  refine WE.use h is tk S er fun d Λ' v B' α' H' p S' e f r => ?_
  obtain ⟨n, ds, rfl, hn, p⟩ := p
  unfold Rep at r
  obtain ⟨a, rfl, ha⟩ := r
  obtain ⟨a', h1, _, _, vs, h2, h3⟩ := S'.ce n _ hn (fun z => nomatch z)
  have ea : a' = a := Option.some.inj (h1.symm.trans ha)
  subst ea
  refine ⟨a', rfl, ⟨vs, by rw [is.K]; exact SqL.of h2⟩, ?_⟩
  rw [is.K]
  exact q ds n a' Λ' _ α' H' p hn ha S' e f
end
section
variable {C : Ctx} {E : ER} {Γ : Env} {Λ : Cells}
/-- [elt for tg in iter if ..] -/
theorem lc_coreO {X : Cx} {F : Fm} {W : WX} {Q : VK} {σ : L2.St} {H : Hp} {elt tg iter : Expr} {ifs : List Expr} {scope : Scope} {own : List (Str × Nat)} {vs ls : List Bool} {gl : List Str} {ws : List Nat} {P : List D → Cells → Prop} {B : Hp} {α : List Addr}
    (good : (C.blk scope vs ls gl).Good) (hst : ∀ (i : Nat) (x : Str), C.N[i]? = some x → ls[i]? = some true → scope.names.lookup x = some .local ∨ scope.names.lookup x = some .cell) (hws : ∀ v ∈ ws, v ∈ own.map (·.2))
    (is : C.Is X) (tk : Takes X W) (S : Sat C.K F B α Γ Λ σ H) (er : ErOk C.K F W B σ Γ E)
    (h : WIo C E Γ Λ tg iter fun ds Λ' => CompP (C.blk scope vs ls gl) (wipeΓ Γ (own.map (·.2))) Λ' tg ws ifs elt (fun ys => P ys Λ') ds [])
    (q : ∀ ds Λ' p vs B' α' H', P ds Λ' → Sat C.K F B' α' Γ Λ' σ H' → Ex B B' → α <+: α' → H' p = some (.lst vs) → B' p = none → F.H0 p = none → p ∉ α' → Reps C.K B' α' ds vs → Q (.ref p) H') :
    tLc (UI X tg iter) (UGb X scope tg) (UTb X scope ifs) (UEb X scope elt) (own.map (·.2)) σ H Q := by
  refine ⟨_, h X F W is tk, B, α, S, fun ds n a Λ' B' α' H1 p hn ha S' e f D hD => ?_, er⟩
  have h0 : F.H0 D = none := S'.dm D hD
  have hα : D ∉ α' := fun ha => (S'.ah D ha).1 hD
  have S0 := (S'.grow (Ex.new hD (o := .lst []))).wipe (own.map (·.2))
  refine ⟨fun i m H2 => m = ds.length - i ∧ i ≤ ds.length ∧ ∃ B2 acc av, Sat C.K F B2 α' (wipeΓ Γ (own.map (·.2))) Λ' (wipe σ (own.map (·.2))) H2 ∧ Ex B' B2 ∧ H2 D = some (.lst av) ∧ B2 D = none ∧ Reps C.K B2 α' acc av ∧
      CompP (C.blk scope vs ls gl) (wipeΓ Γ (own.map (·.2))) Λ' tg ws ifs elt (fun ys => P ys Λ') (ds.drop i) acc,
    ⟨_, rfl, Nat.zero_le _, B', [], [], S0, Ex.refl _, upd_same, S'.bh.back hD, .nil, p⟩, ?_⟩
  rintro i m H2 ⟨rfl, hi, B2, acc, av, S2, e2, hD2, hB2, ra, cp⟩
  obtain ⟨a', h1', _, _, vs2, hH2, rr⟩ := S2.ce n _ hn (fun z => nomatch z)
  have ea : a' = a := Option.some.inj (h1'.symm.trans ha)
  subst ea
  by_cases hlt : i < ds.length
  · obtain ⟨v0, hv0, rv0⟩ := rr.get (List.getElem?_eq_getElem hlt)
    refine .inr ⟨⟨vs2, v0, SqL.of hH2, hv0⟩, fun H3 => i + 1 ≤ ds.length ∧ ∃ B3 acc av, Sat C.K F B3 α' (wipeΓ Γ (own.map (·.2))) Λ' (wipe σ (own.map (·.2))) H3 ∧ Ex B' B3 ∧ H3 D = some (.lst av) ∧ B3 D = none ∧ Reps C.K B3 α' acc av ∧
      CompP (C.blk scope vs ls gl) (wipeΓ Γ (own.map (·.2))) Λ' tg ws ifs elt (fun ys => P ys Λ') (ds.drop (i + 1)) acc, fun H3 ⟨k1, k2⟩ => ⟨ds.length - (i + 1), by omega, rfl, k1, k2⟩, fun x H3 y => ?_⟩
    have tk3 : ∃ B3, Sat C.K F B3 α' (wipeΓ Γ (own.map (·.2))) Λ' (wipe σ (own.map (·.2))) H3 ∧ Ex B2 B3 ∧ Rep C.K B3 α' ds[i] x ∧ H3 D = some (.lst av) ∧ B3 D = none := by
      obtain ⟨rfl, y⟩ := y
      have q := y vs2 (SqL.of hH2)
      rw [hv0] at q; cases q
      exact ⟨B2, S2, Ex.refl _, rv0, hD2, hB2⟩
    obtain ⟨B3, S3, e3, r3, hD3, hB3⟩ := tk3
    rw [List.drop_eq_getElem_cons hlt] at cp
    obtain ⟨hl, cp⟩ := cp
    have T3 := S3.rebase
    refine ⟨_, fun s H c cl fp => cp _ ⟨H3, B3, α'⟩ (blk_is is good hst s H c cl fp), B3, α', T3, r3, fun Γ4 σ4 p4 T4 ag => ?_⟩
    refine ⟨wipe_agree hws ag, ?_⟩
    -- behind the element
    have fin : ∀ (y : Pl.D) (B5 : Hp) (α5 : List Addr) (H5 : Hp) (v : V), CompP (C.blk scope vs ls gl) (wipeΓ Γ (own.map (·.2))) Λ' tg ws ifs elt (fun ys => P ys Λ') (ds.drop (i + 1)) (acc ++ [y]) → Sat C.K ⟨H3, B3, α'⟩ B5 α5 Γ4 Λ' σ4 H5 → Ex B3 B5 → Rep C.K B5 α5 y v →
        ∃ acc', H5 D = some (.lst acc') ∧ acc'.length < sizeLine ∧ i + 1 ≤ ds.length ∧ ∃ B3 acc av, Sat C.K F B3 α' (wipeΓ Γ (own.map (·.2))) Λ' (wipe σ (own.map (·.2))) (upd H5 D (.lst (acc' ++ [v]))) ∧ Ex B' B3 ∧ (upd H5 D (.lst (acc' ++ [v]))) D = some (.lst av) ∧ B3 D = none ∧ Reps C.K B3 α' acc av ∧
          CompP (C.blk scope vs ls gl) (wipeΓ Γ (own.map (·.2))) Λ' tg ws ifs elt (fun ys => P ys Λ') (ds.drop (i + 1)) acc := fun y B5 α5 H5 v cp5 T5 e5 r5 => by
      have hα5 : α5 = α' := pre_len T5.pf (by rw [T5.al, S3.al])
      subst hα5
      have hD5 : H5 D = some (.lst av) := T5.kp D _ hD3 hα
      have hB5 : B5 D = none := by
        cases z : B5 D with
        | none => rfl
        | some o =>
          rcases T5.fr D o z with k | k
          · have : B3 D = some o := k
            rw [hB3] at this; cases this
          · have : H3 D = none := k
            rw [hD3] at this; cases this
      have S5 := S3.unbase T5
      have S5' : Sat C.K F B5 α5 (wipeΓ Γ (own.map (·.2))) Λ' (wipe σ (own.map (·.2))) H5 := S5.env S3.ln fun j d hj => by
        obtain ⟨u, q1, q2⟩ := S3.sl j d hj
        exact ⟨u, q1, q2.mono e5 (List.prefix_refl _)⟩
      refine ⟨av, hD5, by rw [ra.length]; exact Nat.lt_of_lt_of_le hl (by rw [sizeLine_eq]; decide), hlt, B5, acc ++ [y], av ++ [v], S5'.poke hB5 h0 hα, (e2.trans e3).trans e5, upd_same, hB5, (ra.mono (e3.trans e5) (List.prefix_refl _)).append (.one r5), cp5⟩
    cases ifs with
    | nil =>
      refine ⟨tYes, fun _ _ _ _ _ => pts_nil, ?_⟩
      dsimp only [tYes]
      rw [if_pos rfl]
      refine ⟨_, fun s H c cl fp => p4 _ ⟨H3, B3, α'⟩ _ (blk_is is good hst s H c cl fp) takes0, B3, α', T4, fun y Λ5 v B5 α5 H5 p5 T5 e5 f5 r5 => ?_, fun _ _ _ _ _ _ _ z => z.elim⟩
      obtain ⟨rfl, cp5⟩ := p5
      exact fin y B5 α5 H5 v cp5 T5 e5 r5
    | cons c r =>
      cases r with
      | nil =>
        refine ⟨_, fun s H c' cl fp => pts_one (p4 _ ⟨H3, B3, α'⟩ _ (blk_is is good hst s H c' cl fp) takes0), B3, α', T4, fun b Λ5 B5 α5 H5 p5 T5 e5 f5 => ?_, fun _ _ _ _ _ _ _ z => z.elim⟩
        obtain ⟨rfl, p5⟩ := p5
        cases b with
        | true =>
          rw [if_pos rfl] at p5 ⊢
          refine ⟨_, fun s H c cl fp => p5 _ ⟨H3, B3, α'⟩ _ (blk_is is good hst s H c cl fp) takes0, B5, α5, T5, fun y Λ6 v B6 α6 H6 p6 T6 e6 f6 r6 => ?_, fun _ _ _ _ _ _ _ z => z.elim⟩
          obtain ⟨rfl, cp6⟩ := p6
          exact fin y B6 α6 H6 v cp6 T6 (e5.trans e6) r6
        | false =>
          rw [if_neg (by simp)] at p5 ⊢
          have hα5 : α5 = α' := pre_len T5.pf (by rw [T5.al, S3.al])
          subst hα5
          have hD5 : H5 D = some (.lst av) := T5.kp D _ hD3 hα
          have hB5 : B5 D = none := by
            cases z : B5 D with
            | none => rfl
            | some o =>
              rcases T5.fr D o z with k | k
              · have : B3 D = some o := k
                rw [hB3] at this; cases this
              · have : H3 D = none := k
                rw [hD3] at this; cases this
          have S5 := S3.unbase T5
          refine ⟨hlt, B5, acc, av, S5.env S3.ln fun j d hj => ?_, (e2.trans e3).trans e5, hD5, hB5, ra.mono (e3.trans e5) (List.prefix_refl _), p5⟩
          obtain ⟨u, q1, q2⟩ := S3.sl j d hj
          exact ⟨u, q1, q2.mono e5 (List.prefix_refl _)⟩
      | cons _ _ => exact p4.elim
  · have e' : i = ds.length := by omega
    subst e'
    rw [List.drop_length] at cp
    refine .inl ⟨⟨vs2, SqL.of hH2, by rw [rr.length]; exact Nat.le_refl _⟩, ?_⟩
    exact q acc Λ' D av B2 α' H2 cp (S2.env S'.ln fun j d hj => by
      obtain ⟨u, q1, q2⟩ := S'.sl j d hj
      exact ⟨u, q1, q2.mono e2 (List.prefix_refl _)⟩) (e.trans e2) f hD2 hB2 h0 hα ra
theorem wn_lcO {elt tg iter : Expr} {ifs : List Expr} {scope : Scope} {pos : Pos} {P : List D → Cells → Prop} (own : List (Str × Nat)) (vs ls : List Bool) (gl : List Str) (ws : List Nat)
    (ok : BlkOk C.N C.sc scope own) (good : (C.blk scope vs ls gl).Good) (hst : ∀ (i : Nat) (x : Str), C.N[i]? = some x → ls[i]? = some true → scope.names.lookup x = some .local ∨ scope.names.lookup x = some .cell) (hws : ∀ v ∈ ws, v ∈ own.map (·.2))
    (h : WIo C E Γ Λ tg iter fun ds Λ' => CompP (C.blk scope vs ls gl) (wipeΓ Γ (own.map (·.2))) Λ' tg ws ifs elt (fun ys => P ys Λ') ds [])
    (hs : ∀ (env : PySem.Env) x, foldedSetIterable iter env x = pure x := by intro _ _; rfl) : WN C E Γ Λ (.ListComp elt [⟨tg, iter, ifs, 0⟩] scope pos) P := fun X F W is tk =>
  pe_imp (pe_lc (own := own) is.calm is.nd pi_U (by rw [is.N, is.sc]; exact ok) pgb ptb peb (hs X.env))
    fun σ H Q ⟨B, α, S, q, er⟩ => lc_coreO good hst hws is tk S er h q
/-- y = [elt for ..], y a local, on one line -/
theorem ws_setlcO {R : Rs} {i : Nat} {y : Str} {py : Pos} {elt tg iter : Expr} {ifs : List Expr} {scope : Scope} {pos spos : Pos} (own : List (Str × Nat)) (vs ls : List Bool) (gl : List Str) (ws : List Nat)
    (hi : C.N[i]? = some y) (hy : C.sc.names.lookup y = some .local) (hk : C.sc.kind = .function) (hline : (py.line == pos.line) = true) (hown : (scope.names.any fun (n, k) => n == y && (k == .local || k == .cell)) = false)
    (ok : BlkOk C.N C.sc scope own) (good : (C.blk scope vs ls gl).Good) (hst : ∀ (i : Nat) (x : Str), C.N[i]? = some x → ls[i]? = some true → scope.names.lookup x = some .local ∨ scope.names.lookup x = some .cell) (hws : ∀ v ∈ ws, v ∈ own.map (·.2))
    (h : WIo C R.er Γ Λ tg iter fun ds Λ' => CompP (C.blk scope vs ls gl) (wipeΓ Γ (own.map (·.2))) Λ' tg ws ifs elt (fun ys => R.nx (Γ.set i (some (.lst ys))) Λ') ds [])
    (hs : ∀ (env : PySem.Env) x, foldedSetIterable iter env x = pure x := by intro _ _; rfl) : WS C Γ Λ (.Assign [.Name y py] (.ListComp elt [⟨tg, iter, ifs, 0⟩] scope pos) spos) R := fun X F W is hm tk =>
  ps_imp (ps_setLc (own := own) is.calm is.nd (is.ni hi) (by rw [is.sc]; exact hy) (sw_true (by rw [is.sc]; exact hk) (by rw [is.sc]; exact hy) hline hown) pi_U (by rw [is.N, is.sc]; exact ok) pgb ptb peb (hs X.env))
    fun Dn σ H ⟨B, α, S, q⟩ => by
      refine lc_coreO (P := fun ys Λ' => R.nx (Γ.set i (some (.lst ys))) Λ') good hst hws is tk S q.er.at h fun ds Λ' p vs B' α' H' hp S' e f h1 h2 h3 h4 h5 => ?_
      have hx : Ex B' (upd B' p (.lst vs)) := Ex.new h2
      refine q.nx _ Λ' (upd B' p (.lst vs)) α' _ H' hp ((S'.see h1 h2 h3 h4).set ?_) (e.trans hx)
      unfold Rep
      exact ⟨p, vs, rfl, upd_same, h5.mono hx (List.prefix_refl _)⟩
/-- .. owned -/
theorem ws_setlcoO {R : Rs} {i : Nat} {y : Str} {py : Pos} {elt tg iter : Expr} {ifs : List Expr} {scope : Scope} {pos spos : Pos} (own : List (Str × Nat)) (vs ls : List Bool) (gl : List Str) (ws : List Nat)
    (hi : C.N[i]? = some y) (hy : C.sc.names.lookup y = some .local) (hk : C.sc.kind = .function) (hline : (py.line == pos.line) = true) (hown : (scope.names.any fun (n, k) => n == y && (k == .local || k == .cell)) = false)
    (ok : BlkOk C.N C.sc scope own) (good : (C.blk scope vs ls gl).Good) (hst : ∀ (i : Nat) (x : Str), C.N[i]? = some x → ls[i]? = some true → scope.names.lookup x = some .local ∨ scope.names.lookup x = some .cell) (hws : ∀ v ∈ ws, v ∈ own.map (·.2))
    (h : WIo C R.er Γ Λ tg iter fun ds Λ' => CompP (C.blk scope vs ls gl) (wipeΓ Γ (own.map (·.2))) Λ' tg ws ifs elt (fun ys => R.nx (Γ.set i (some (.loc Λ'.length))) (Λ' ++ [.lst ys])) ds [])
    (hs : ∀ (env : PySem.Env) x, foldedSetIterable iter env x = pure x := by intro _ _; rfl) : WS C Γ Λ (.Assign [.Name y py] (.ListComp elt [⟨tg, iter, ifs, 0⟩] scope pos) spos) R := fun X F W is hm tk =>
  ps_imp (ps_setLc (own := own) is.calm is.nd (is.ni hi) (by rw [is.sc]; exact hy) (sw_true (by rw [is.sc]; exact hk) (by rw [is.sc]; exact hy) hline hown) pi_U (by rw [is.N, is.sc]; exact ok) pgb ptb peb (hs X.env))
    fun Dn σ H ⟨B, α, S, q⟩ => by
      refine lc_coreO (P := fun ys Λ' => R.nx (Γ.set i (some (.loc Λ'.length))) (Λ' ++ [.lst ys])) good hst hws is tk S q.er.at h fun ds Λ' p vs B' α' H' hp S' e f h1 h2 h3 h4 h5 => ?_
      refine q.nx _ _ B' (α' ++ [p]) _ H' hp ((S'.adopt (c := .lst ds) h2 h3 h4 (by rw [h1]; simp) ⟨vs, h1, h5.mono (Ex.refl _) (List.prefix_append _ _)⟩).set ?_) e
      unfold Rep
      exact ⟨p, rfl, by rw [← S'.al, List.getElem?_append_right (Nat.le_refl _)]; simp⟩
end
end Pl
namespace Sh
open PySem L2 Pl
theorem finK1n {α γ : Type} {Q : α → Prop} {m : M γ} {k : γ → M α} {P : γ → Prop} (h : wp (m.bind k) Q no) (i : ∀ w, wp (k w) Q no → P w) : wp m (fun z => wp (M.ok z) P no) no :=
  wp_mono (wp_bind h) (fun z h => i z h) fun _ _ h => h
theorem iterL_own {α : Type} {Q : α → Prop} {Eh : Str → List U → Prop} {us : List U} {k : List U → M α} (h : wp ((iterL (.lst us)).bind k) Q Eh) : wp (k us) Q Eh := h
end Sh

/-! Sh27: enumerate of a text. -/
namespace Pl
open PySem PySem.Spec L2 PyProof.Rows
/-- the text's signs, each with its number in a new pair -/
def IteS (x : Str) : It :=
  ⟨fun i H => i < x.cps.size, fun i H v H' => ∃ (T : Addr) (c : Nat), v = .ref T ∧ H T = none ∧ H' = upd H T (.tup [.int (i : Nat), .str ⟨#[c]⟩]) ∧ x.cps[i]? = some c, fun i H => i = x.cps.size⟩
theorem turn_enumS {P : Program} {w : World} {K : PySem.W.Frag} {elts : List Expr} {kk : Nat} {tpos : Pos} (x : Str) (t : Tok) (ty : String) (hty : ty = "str_ascii_iterator" ∨ ty = "str_iterator") (e it : Addr) :
    Turn P w K (.Tuple elts kk tpos) (IteS x) [e, it] e (fun i h => (∃ old, IsEnum h e it ((i : Nat) : Int) old) ∧ h.IsStrIter it ty x t i ∧ e ≠ it) where
  mem := by simp
  obj := fun i h st b hb => by
    obtain ⟨⟨old, he⟩, ⟨o, ho, hc, hd⟩, _⟩ := st
    have e' : b = e ∨ b = it := by simpa using hb
    rcases e' with z | z
    · rw [z]; exact ⟨_, he, fun v q => nomatch q⟩
    · rw [z]; exact ⟨o, ho, fun v q => by rw [hd] at q; cases q⟩
  keep := fun i h h' st k => by
    obtain ⟨⟨old, he⟩, ⟨o, ho, hc, hd⟩, hne⟩ := st
    exact ⟨⟨old, k e (by simp) _ he⟩, ⟨o, k it (by simp) o ho, hc, hd⟩, hne⟩
  item := by
    intro X hP hw hK hc i pins s σ H E I hf st hg
    subst hP hw hK
    obtain ⟨⟨old, he⟩, hit, hne⟩ := st
    have hg : i < x.cps.size := hg
    have hel : e < s.heap.objs.size := Heap.lt_size he
    have hil : it < s.heap.objs.size := by obtain ⟨_, q, _⟩ := hit; exact Heap.lt_size q
    have D : Draws X.prog X.w X.A.in1 it [it] x.cps.size (fun i v => ∃ c u, x.cps[i]? = some c ∧ v = .str ⟨#[c]⟩ u) (fun i h => h.IsStrIter it ty x t i) := by
      rcases hty with rfl | rfl
      · exact Draws.strAscii (A := X.A.in1) (show X.A.in1.handled = none from I.ok.hd hc) it x t
      · exact Draws.strWide (A := X.A.in1) (show X.A.in1.handled = none from I.ok.hd hc) it x t
    refine wpAny_pyNext_enum_itemD D he hit hg hne (by simpa using hne) fun y h' tk hy ho hit' hT hsz hk => ?_
    obtain ⟨c, u, hcx, rfl⟩ := hy
    refine ⟨_, rfl, wpAny_letOwnedTupleGo_enum (s := { s with heap := h', toks := tk + 1 }) ho fun h'' he' sb => ?_⟩
    have hT2 : h''.get? s.heap.objs.size = some { cls := .type "tuple", data := .seq #[.int i tk, .str ⟨#[c]⟩ u] } := (sb.2 _ (Nat.ne_of_gt hel)).trans hT
    have new : ObjOk X.prog X.w (upd H s.heap.objs.size (.tup [.int (i : Nat), .str ⟨#[c]⟩])) h'' s.heap.objs.size (.tup [.int (i : Nat), .str ⟨#[c]⟩]) :=
      ⟨by show 2 ≤ sizeLine; decide, [.int i tk, .str ⟨#[c]⟩ u], .cons ⟨_, rfl⟩ (.cons ⟨_, rfl⟩ .nil), ⟨_, hT2, rfl, _, rfl⟩⟩
    have I1 : Inv X pins σ (upd H s.heap.objs.size (.tup [.int (i : Nat), .str ⟨#[c]⟩])) { s with heap := h'', toks := tk + 1 } :=
      I.turnedNew (ch := [e, it]) (fun b ob hb q => (sb.2 b (fun z => hb (by simp [z]))).trans (hk b ob (fun z => hb (by simp [z])) (fun z => hb (by simp [z])) q)) hf (Nat.le_refl _) new
    refine ⟨.ref s.heap.objs.size, _, I1, rfl, ⟨_, c, rfl, I.hok.fresh (Nat.le_refl _), rfl, hcx⟩, ⟨⟨.str ⟨#[c]⟩ u, ?_⟩, ?_, hne⟩, fun b hb => ?_⟩
    · have e1 : ((i + 1 : Nat) : Int) = (i : Int) + 1 := by omega
      rw [e1]; exact he'
    · obtain ⟨o, q1, q2, q3⟩ := hit'
      exact ⟨o, (sb.2 it (Ne.symm hne)).trans q1, q2, q3⟩
    · have hb' : b < s.heap.objs.size := by
        have e' : b = e ∨ b = it := by simpa using hb
        rcases e' with z | z
        · rw [z]; exact hel
        · rw [z]; exact hil
      rw [upd_ne (Nat.ne_of_lt hb')]
      exact (hf b hb).1
  done := by
    intro X hP hw hK hc i pins s σ H E I hf st hg
    subst hP hw hK
    obtain ⟨⟨old, he⟩, hit, hne⟩ := st
    have hg : i = x.cps.size := hg
    subst hg
    have D : Draws X.prog X.w X.A.in1 it [it] x.cps.size (fun i v => ∃ c u, x.cps[i]? = some c ∧ v = .str ⟨#[c]⟩ u) (fun i h => h.IsStrIter it ty x t i) := by
      rcases hty with rfl | rfl
      · exact Draws.strAscii (A := X.A.in1) (show X.A.in1.handled = none from I.ok.hd hc) it x t
      · exact Draws.strWide (A := X.A.in1) (show X.A.in1.handled = none from I.ok.hd hc) it x t
    obtain ⟨f0, f1, f2, f3, f4, f5⟩ := hf it (by simp)
    exact wpAny_pyNext_enum_endD D he hit fun h' eb => ⟨rfl, I.turned (t' := s.toks) (fun b o hb q => eb b o hb q) f0 f1 f3 f4 f5⟩
  self := fun A i s Q E st h => let ⟨⟨_, he⟩, _⟩ := st; wpAny_pyIter_enum he h
def iEnumS (ta : TA) : TI := fun σ H R => ta σ H fun vs H1 => ∃ x, vs = [.str x] ∧ R (IteS x) H1
theorem pi_enumS {X : Cx} {e : Expr} {ta : TA} {p pos tpos : Pos} {elts : List Expr} {kk : Nat} (hg : L2.Gl X "enumerate") (hm : X.mg "enumerate" = none) (ha : PA X [e] ta) (hs : starEach [e] X.env = [(false, eval e X.env)] := by rfl) :
    PI X (.Tuple elts kk tpos) (.Call (.Name "enumerate" p) [e] [] pos) (iEnumS ta) := by
  refine ⟨fun pins s σ H R I h => ?_⟩
  refine Call_ (ld_blt I hg hm boot_enumerate (PyProof.Rows.callWith_type1 (thn (ha.run pos pins s σ H _ I h) fun us s1 ⟨vs, H1, I1, r1, q1⟩ => ?_) hs rfl))
  obtain ⟨x, ex, q⟩ := q1
  subst ex
  cases r1 with
  | cons r rr =>
    cases rr
    obtain ⟨t, rfl⟩ := r
    refine call_enumerate_str fun h' he hit hsz hk => wpAny_pyIter_enum he ?_
    have I2 : Inv X pins σ H1 { s1 with heap := h' } := I1.kept (t' := s1.toks) hk
    have hty : strIterType x = "str_ascii_iterator" ∨ strIterType x = "str_iterator" := by unfold strIterType; split <;> simp
    refine ⟨s1.heap.objs.size + 1, [s1.heap.objs.size + 1, s1.heap.objs.size], _, _, H1, rfl, I2, turn_enumS x t _ hty (s1.heap.objs.size + 1) s1.heap.objs.size, ⟨⟨.none, he⟩, hit, Nat.succ_ne_self _⟩, fun b hb => ?_, q⟩
    have e' : b = s1.heap.objs.size + 1 ∨ b = s1.heap.objs.size := by simpa using hb
    have hle : s1.heap.objs.size ≤ b := by
      rcases e' with z | z
      · rw [z]; exact Nat.le_add_right _ _
      · rw [z]; exact Nat.le_refl _
    exact I1.fpOk hle (I1.hok.fresh hle)
def enumSD (s : Str) : List D := s.cps.toList.mapIdx fun i c => .tup [.int (i : Nat), .str ⟨#[c]⟩]
theorem wi_enumS {C : Ctx} {E : ER} {Γ : Env} {Λ : Cells} {P : List D → Cells → Prop} {p pos tpos : Pos} {e : Expr} {elts : List Expr} {kk : Nat} (hj : GlAt C "enumerate") (hm : C.mg "enumerate" = none) (h : WE C E Γ Λ e fun d Λ' => ∃ s, d = .str s ∧ P (enumSD s) Λ') (he : plainE e = true := by rfl) :
    WI C E Γ Λ (.Tuple elts kk tpos) (.Call (.Name "enumerate" p) [e] [] pos) P := fun X F W is tk => by
  refine pi_imp (pi_enumS (is.gl hj) (by rw [is.mg]; exact hm) (pa_cons pe_U pa_nil (star_plain he)) (by rw [star_plain he]; rfl)) fun σ H R ⟨B, α, S, q, er⟩ => ?_
  refine WE.use h is tk S er fun d Λ' v B' α' H' p S' e f r => ?_
  obtain ⟨s, rfl, p⟩ := p
  unfold Rep at r
  subst r
  have hl : (enumSD s).length = s.cps.size := by unfold enumSD; simp
  refine ⟨s, rfl, q _ Λ' _ B' α' H' p S' e f ⟨fun i H hi e => ?_, fun H e => ?_, fun i H x H' d hd e y => ?_⟩⟩
  · show i < s.cps.size
    omega
  · show (enumSD s).length = s.cps.size
    exact hl
  · obtain ⟨T, c, rfl, hT, rfl, hc⟩ := y
    refine .inr ⟨T, _, [.int (i : Nat), .str ⟨#[c]⟩], rfl, hT, rfl, ?_, ?_⟩
    · unfold enumSD at hd
      rw [List.getElem?_mapIdx, Option.map_eq_some_iff] at hd
      obtain ⟨c', h1, rfl⟩ := hd
      have : s.cps.toList[i]? = some c := by rw [Array.getElem?_toList]; exact hc
      rw [this] at h1; cases h1; rfl
    · unfold Reps Reps Reps Rep
      exact ⟨_, _, rfl, rfl, _, _, rfl, rfl, rfl⟩
end Pl
namespace Sh
open PySem L2 Pl
def enumSM : U → M (List U)
  | .str s => .ok (s.cps.toList.mapIdx fun i c => .tup [.int (i : Nat), .str ⟨#[c]⟩])
  | _ => .stuck
@[simp] theorem enumSM_str {s : Str} : enumSM (.str s) = .ok (s.cps.toList.mapIdx fun i c => .tup [.int (i : Nat), .str ⟨#[c]⟩]) := rfl
theorem wi_enumSM {κ : Kl} {C : Pl.Ctx} {E : ER} {Γ : Pl.Env} {Λ : Cells} {Pn : List D → Cells → Prop} {p pos tpos : Pos} {e : Expr} {elts : List Expr} {kk : Nat} (hj : GlAt C "enumerate") (hm : C.mg "enumerate" = none) (h : WE C E Γ Λ e fun x Λ1 => ∃ u, x = em κ u ∧ wp (enumSM u) (fun z => Pn (ems κ z) Λ1) Tr) (he : plainE e = true := by rfl) :
    WI C E Γ Λ (.Tuple elts kk tpos) (.Call (.Name "enumerate" p) [e] [] pos) Pn :=
  wi_enumS hj hm (we_mono h fun x Λ1 ⟨u, hx, h⟩ => by
    unfold enumSM at h
    split at h
    · rename_i s
      subst hx
      refine ⟨s, rfl, ?_⟩
      have h : Pn (ems κ (s.cps.toList.mapIdx fun i c => U.tup [.int (i : Nat), .str ⟨#[c]⟩])) Λ1 := h
      have e2 : ems κ (s.cps.toList.mapIdx fun i c => U.tup [.int (i : Nat), .str ⟨#[c]⟩]) = enumSD s := by
        rw [ems_map]
        unfold enumSD
        apply List.ext_getElem?
        intro i
        simp only [List.getElem?_map, List.getElem?_mapIdx, Option.map_map]
        rfl
      rw [e2] at h; exact h
    · exact h.elim) he
end Sh

/-! Sh28: d != e, two dicts alike. -/
namespace Sh
open PySem L2 Pl PyProof.Rows
open Classical in
/-- d != e where both hold the same: False -/
noncomputable def neDM (x y : U) : M Bool := match x, y with
  | .dic ks us, .dic ls vs => if ks = ls ∧ us = vs ∧ ks.Nodup ∧ ∀ u ∈ us, pl u = true ∧ dp u ≤ 100 then .ok false else .stuck
  | _, _ => .stuck
theorem neDM_same {ks : List Key} {us : List U} (h : ks.Nodup) (h2 : ∀ u ∈ us, pl u = true ∧ dp u ≤ 100) : neDM (.dic ks us) (.dic ks us) = .ok false := by
  unfold neDM
  dsimp only
  rw [if_pos ⟨rfl, rfl, h, h2⟩]
/-- d != e of two dicts, seen or owned, that bear the same -/
theorem wt_neDicV {C : Pl.Ctx} {E : ER} {Γ : Pl.Env} {Λ : Cells} {P : Bool → Cells → Prop} {pos : Pos} {a b : Expr} (h : WE C E Γ Λ a fun x Λ1 => WE C E Γ Λ1 b fun y Λ2 => ∃ ks ds, vw Λ2 x = .dic ks ds ∧ vw Λ2 y = .dic ks ds ∧ ks.Nodup ∧ (∀ d ∈ ds, (py d).plain = true ∧ (py d).depth ≤ 100) ∧ P false Λ2) : WT C E Γ Λ (.Compare a [.NotEq] [b] pos) P :=
  wt_cmpK (r := rNeDic C.K) (fun X is => by rw [← is.K]; exact op_neDic is.u200) (we_mono h fun x Λ1 p => we_mono p fun y Λ2 q => by
    intro F B α σ H vx vy Q S rx ry k
    obtain ⟨ks, ds, hx, hy, nd, hd, p'⟩ := q
    obtain ⟨p1, vs, rfl, g1, g2⟩ := S.dic rx hx
    obtain ⟨p2, ws, rfl, k1, k2⟩ := S.dic ry hy
    refine ⟨p1, p2, ks.zip vs, ks.zip ws, rfl, rfl, g1, k1, by rw [List.length_zip, List.length_zip, g2.length, k2.length], pairs_eq S.bh nd g2 k2 hd, ?_⟩
    exact k _ _ _ _ _ _ ⟨false, rfl, p'⟩ S (Ex.refl B) (List.prefix_refl _) (by unfold Rep; rfl)) (nomark _)
theorem wt_neDM {κ : Kl} {C : Pl.Ctx} {E : ER} {Γ : Pl.Env} {Λ : Cells} {Pt : Bool → Cells → Prop} {pos : Pos} {a b : Expr} (h : WE C E Γ Λ a fun x Λ1 => WE C E Γ Λ1 b fun y Λ2 => ∃ u v, Vw κ Λ2 x u ∧ Vw κ Λ2 y v ∧ wp (neDM u v) (fun c => Pt c Λ2) Tr) : WT C E Γ Λ (.Compare a [.NotEq] [b] pos) Pt :=
  wt_neDicV (we_mono h fun x Λ1 p => we_mono p fun y Λ2 ⟨u, v, hx, hy, q⟩ => by
    cases u with
    | dic ks us =>
      cases v with
      | dic ls vs =>
        unfold neDM at q
        dsimp only at q
        by_cases hc : ks = ls ∧ us = vs ∧ ks.Nodup ∧ ∀ u ∈ us, pl u = true ∧ dp u ≤ 100
        · rw [if_pos hc] at q
          obtain ⟨e1, e2, hn, hp⟩ := hc
          subst e1; subst e2
          refine ⟨ks, ems κ us, hx, hy, hn, fun d hd => ?_, q⟩
          rw [ems_map] at hd
          obtain ⟨u, hu, rfl⟩ := List.mem_map.mp hd
          rw [py_em]
          exact hp u hu
        · rw [if_neg hc] at q
          exact q.elim
      | _ => exact q.elim
    | _ => exact q.elim)
theorem finD2 {κ : Kl} {Λ : Cells} {x y : D} {α : Type} {Q : α → Prop} {Eh : Str → List U → Prop} {f : U → U → M Bool} {k : Bool → M α} {P : Bool → Prop} (u v : U) (hx : Vw κ Λ x u) (hy : Vw κ Λ y v) (h : wp ((f u v).bind k) Q Eh) (i : ∀ z, wp (k z) Q Eh → P z) : ∃ a b, Vw κ Λ x a ∧ Vw κ Λ y b ∧ wp (f a b) P Tr := ⟨u, v, hx, hy, fin0 h i⟩
end Sh

/-! Sh29: d[k] = [.. for ..], d owned -/
namespace Pl
open PySem L2
section
variable {C : Ctx} {Γ : Env} {Λ : Cells} {R : Rs} {pos pos' : Pos} {e o i : Expr}
theorem ws_dputs (h : WE C R.er Γ Λ e fun d Λ1 => WE C R.er Γ Λ1 o fun x Λ2 => WE C R.er Γ Λ2 i fun y Λ3 => ∃ n ks ds k, x = .loc n ∧ keyD y = some k ∧ Λ3[n]? = some (.dic ks ds) ∧ ks.length < 10000000 ∧ R.nx Γ (Λ3.set n (.dic (putKs ks k) (putDs ks ds k d))))
    (hs : ∀ env, swapsWith e (some (.Subscript o i pos')) pos.line env = pure false) : WS C Γ Λ (.Assign [.Subscript o i pos'] e pos) R := fun X F W is hm tk => by
  have hu := is.u200
  refine ps_imp (ps_dput (by omega) pe_U pe_U pe_U (hs _)) fun Dn σ H ⟨B, α, S, q⟩ => ?_
  refine WE.use h is tk S q.er.at fun d Λ1 v B1 α1 H1 p1 S1 e1 f1 r1 => ?_
  refine WE.use p1 is tk S1 (q.er.mono e1).at fun x Λ2 vx B2 α2 H2 p2 S2 e2 f2 r2 => ?_
  refine WE.use p2 is tk S2 (q.er.mono (e1.trans e2)).at fun y Λ3 vy B3 α3 H3 p3 S3 e3 f3 r3 => ?_
  obtain ⟨n, ks, ds, k, rfl, hk, hn, hl, p⟩ := p3
  have r2' := r2.mono e3 f3
  unfold Rep at r2'
  obtain ⟨a, rfl, ha⟩ := r2'
  obtain ⟨a', q1, q2, q3, vs, q4, q5, q6⟩ := S3.ce n _ hn (by simp)
  rw [ha] at q1; cases q1
  have hlv : ks.length = vs.length := by rw [q6, q5.length]
  refine ⟨a, upd H3 a (.dK (putK (ks.zip vs) k v)), rfl, .inl ⟨ks.zip vs, k, q4, keyD_rep r3 hk, ?_, rfl⟩, ?_⟩
  · rw [List.length_zip]; exact sz_ltt (by omega)
  · rw [putK_zip hlv]
    refine q.nx Γ _ B3 α3 σ _ p (S3.put ha q2 ?_) ((e1.trans e2).trans e3)
    exact ⟨_, upd_same, putDs_reps ((r1.mono e2 f2).mono e3 f3) q5 q6, putKs_len q6⟩
end
end Pl
namespace Sh
open PySem L2 Pl PyProof.Rows Law
section
variable {κ : Kl} {C : Pl.Ctx} {Γ : Pl.Env} {Λ : Cells} {R : Rs} {pos pos' : Pos} {e o i : Expr}
theorem ws_putMs (n : Nat) (h : WE C R.er Γ Λ e fun d Λ1 => WE C R.er Γ Λ1 o fun x Λ2 => WE C R.er Γ Λ2 i fun y Λ3 => x = .loc n ∧ ∃ (dc : Dc) (u j : U), d = em κ u ∧ Vw κ Λ3 y j ∧ Λ3[n]? = some (.dic dc.1 (ems κ dc.2)) ∧ wp (putM dc j u) (fun z => R.nx Γ (Λ3.set n (.dic z.1 (ems κ z.2)))) Tr)
    (hs : ∀ env, swapsWith e (some (.Subscript o i pos')) pos.line env = pure false := by intro _; rfl) : WS C Γ Λ (.Assign [.Subscript o i pos'] e pos) R :=
  ws_dputs (we_mono h fun d Λ1 h => we_mono h fun x Λ2 h => we_mono h fun y Λ3 ⟨hx, dc, u, j, hd, hy, hn, p⟩ => by
    subst hx; subst hd
    unfold putM at p
    split at p
    · rename_i c hc
      obtain ⟨p1, p2⟩ := wp_sz p
      have p2 : R.nx Γ (Λ3.set n (.dic (putKs dc.1 c) (ems κ (putDs dc.1 dc.2 c u)))) := p2
      rw [ems_put] at p2
      exact ⟨n, _, _, c, rfl, key_of hy hc, hn, p1, p2⟩
    · exact p.elim) hs
end
end Sh

namespace Law
open PySem L2 Pl Sh
local macro_rules | `(tactic| walk_at "ms") => `(tactic| simp only [Ok_bind, Ok_calm, Ok_ok, Ok_ite, Ok_itd, M.bind_ok, M.calm_ok, eqM_int, eqM_str, eqM_bl, ltM_int, leM_int, gtM_int, geM_int, addM_int, subM_int, negM_int, lenM_lst, lenM_fzl, lenM_tup, modM_int, fdivM_int, mulM_l, mulM_r, Int.reduceLT, Int.reduceNeg, nB_ok, vB_ok, boolM_bl, endM_int, listM_lst, listM_tup, iterL_lst, iterL_fzl, iterT_tup, isi_tup, isi_lst, isi_bl, isi_str, isi_int, isi_st, isi_ts, isi_ib, ix_t0, ix_t1, ix_t2, ix_l0, ix_l1, ix_l2, pow10_6, pow10_9, pow10_12, pow10_30, decide_eq_true_eq, decide_eq_false_iff_not, Bool.not_true, Bool.not_false, Bool.not_eq_true, if_true, if_false, reduceIte, Bool.false_eq_true, true_implies, false_implies, implies_true, and_self, and_true, true_and, reduceCtorEq])
local macro_rules | `(tactic| walk_at "nlc") => `(tactic| simp only [cellsAt, List.map, List.take_succ_cons, List.take_zero, List.take_nil, List.all_cons, List.all_nil, nlC, nls_em, Bool.and_self, Bool.and_true, List.getElem?_cons_zero, List.getElem?_cons_succ, Option.getD_some, Option.getD_none])
noncomputable def sh__law_cell : Nat → List U → M U
  | kk + 1, [v_script, v_k] =>
    (
      (lenM v_script).bind fun z1 =>
      (gtM z1 (.int 1)).bind fun b2 =>
      if b2 then
        (ixM v_script (.int 0)).bind fun z3 =>
        (modM z3 (.int 2)).bind fun z4 =>
        (eqM z4 (.int 1)).bind fun b5 =>
        .ok b5
      else
        .ok false
    ).bind fun b6 =>
    if b6 then
      (lenM v_script).bind fun z7 =>
      (subM z7 (.int 1)).bind fun z8 =>
      (modM v_k z8).bind fun z9 =>
      (addM (.int 1) z9).bind fun z10 =>
      (ixM v_script z10).bind fun z11 =>
      (lenM v_script).bind fun z13 =>
      (subM z13 (.int 1)).bind fun z14 =>
      (fdivM v_k z14).bind fun z15 =>
      (min2M (.int 60) z15).bind fun z16 =>
      (range1M z16).bind fun it12 =>
      (forN (fun v_cell_here_17 x18 =>
          (powM (.int 10) (.int 9)).bind fun z19 =>
          (fdivM v_cell_here_17 z19).bind fun z20 =>
          .ok z20
        ) it12 z11).bind fun v_cell_here_21 =>
      (powM (.int 10) (.int 9)).bind fun z22 =>
      (modM v_cell_here_21 z22).bind fun z23 =>
      .ok z23
    else
      (
        (lenM v_script).bind fun z24 =>
        (gtM z24 (.int 0)).bind fun b25 =>
        if b25 then
          (lenM v_script).bind fun z26 =>
          (modM v_k z26).bind fun z27 =>
          (ixM v_script z27).bind fun z28 =>
          .ok z28
        else
          .ok v_k
      ).bind fun v_given_29 =>
      (powM (.int 10) (.int 30)).bind fun z30 =>
      (modM v_given_29 z30).bind fun z31 =>
      (mulM z31 (.int 48271)).bind fun z32 =>
      (mulM v_k v_k).bind fun z33 =>
      (mulM z33 (.int 7919)).bind fun z34 =>
      (addM z32 z34).bind fun z35 =>
      (mulM v_k (.int 13)).bind fun z36 =>
      (addM z35 z36).bind fun z37 =>
      (addM z37 (.int 11)).bind fun z38 =>
      (modM z38 (.int 2147483647)).bind fun z39 =>
      (mulM z39 (.int 69621)).bind fun z40 =>
      (modM z40 (.int 1000000007)).bind fun z41 =>
      .ok z41
  | _, _ => .stuck

noncomputable def sh__law_marks : Nat → List U → M U
  | kk + 1, [v_cell_here] =>
    (modM v_cell_here (.int 2)).bind fun z2 =>
    (fdivM v_cell_here (.int 2)).bind fun z3 =>
    (modM z3 (.int 2)).bind fun z4 =>
    (fdivM v_cell_here (.int 4)).bind fun z5 =>
    (modM z5 (.int 2)).bind fun z6 =>
    (zipSM (.str "pqr") (.lst [z2, z4, z6])).bind fun it1 =>
    (compF (fun x7 =>
        (un2 x7).bind fun (v_letter_8, v_bit_9) =>
        (eqM v_bit_9 (.int 1)).bind fun b11 =>
        .ok b11
      ) (fun x7 =>
        (un2 x7).bind fun (v_letter_8, v_bit_9) =>
        .ok v_letter_8
      ) it1).bind fun zs10 =>
    (joinM (.str "") (.lst zs10)).bind fun z12 =>
    .ok z12
  | _, _ => .stuck

noncomputable def sh__law_rooms : Nat → List U → M (List U)
  | kk + 1, [v_script, v_at, v_many] =>
    (negM (.int 1)).bind fun z1 =>
    (sh__law_cell kk [v_script, v_at]).bind fun z2 =>
    (sh__law_marks kk [z2]).bind fun z3 =>
    (range2M (.int 1) v_many).bind fun it4 =>
    (forN (fun v_rooms_here_5 x6 =>
        (addM v_at x6).bind fun z7 =>
        (sh__law_cell kk [v_script, z7]).bind fun z8 =>
        (fdivM z8 (.int 8)).bind fun z9 =>
        (modM z9 x6).bind fun z10 =>
        (
          (fdivM z8 (.int 1000)).bind fun z11 =>
          (modM z11 (.int 3)).bind fun z12 =>
          (eqM z12 (.int 0)).bind fun b13 =>
          if b13 then
            (subM x6 (.int 1)).bind fun z14 =>
            .ok z14
          else
            .ok z10
        ).bind fun v_below_15 =>
        (sh__law_marks kk [z8]).bind fun z16 =>
        (appM v_rooms_here_5 (.tup [v_below_15, z16])).bind fun l17 =>
        .ok l17
      ) it4 [.tup [z1, z3]]).bind fun v_rooms_here_18 =>
    .ok v_rooms_here_18
  | _, _ => .stuck

noncomputable def sh__law_saying : Nat → List U → M U
  | kk + 1, [v_script, v_at, v_size, v_letters, v_deep] =>
    (sh__law_cell kk [v_script, v_at]).bind fun z1 =>
    (eqM v_size (.int 1)).bind fun b2 =>
    if b2 then
      (iterS v_letters).bind fun it3 =>
      (compM (fun x4 =>
          .ok (.tup [.str "letter", x4])
        ) it3).bind fun zs5 =>
      (addM (.lst zs5) (.lst [.tup [.str "no"]])).bind fun z6 =>
      (lenM z6).bind fun z7 =>
      (modM z1 z7).bind fun z8 =>
      (ixM z6 z8).bind fun z9 =>
      .ok z9
    else
      (
        (eqM v_size (.int 2)).bind fun b10 =>
        if b10 then
          .ok true
        else
          (modM z1 (.int 5)).bind fun z11 =>
          (ltM z11 (.int 2)).bind fun b12 =>
          .ok b12
      ).bind fun b13 =>
      if b13 then
        (
          (gtM v_deep (.int 0)).bind fun b14 =>
          if b14 then
            (fdivM z1 (.int 5)).bind fun z15 =>
            (modM z15 (.int 2)).bind fun z16 =>
            (eqM z16 (.int 0)).bind fun b17 =>
            .ok b17
          else
            .ok false
        ).bind fun b18 =>
        if b18 then
          (addM v_at (.int 1)).bind fun z19 =>
          (subM v_size (.int 1)).bind fun z20 =>
          (subM v_deep (.int 1)).bind fun z21 =>
          (sh__law_saying kk [v_script, z19, z20, v_letters, z21]).bind fun z22 =>
          .ok (.tup [.str "shown", z22])
        else
          (addM v_at (.int 1)).bind fun z23 =>
          (subM v_size (.int 1)).bind fun z24 =>
          (sh__law_saying kk [v_script, z23, z24, v_letters, v_deep]).bind fun z25 =>
          .ok (.tup [.str "not", z25])
      else
        (fdivM z1 (.int 10)).bind fun z26 =>
        (subM v_size (.int 2)).bind fun z27 =>
        (modM z26 z27).bind fun z28 =>
        (addM (.int 1) z28).bind fun z29 =>
        (addM v_at (.int 1)).bind fun z30 =>
        (sh__law_saying kk [v_script, z30, z29, v_letters, v_deep]).bind fun z31 =>
        (addM v_at (.int 1)).bind fun z32 =>
        (addM z32 z29).bind fun z33 =>
        (subM v_size (.int 1)).bind fun z34 =>
        (subM z34 z29).bind fun z35 =>
        (sh__law_saying kk [v_script, z33, z35, v_letters, v_deep]).bind fun z36 =>
        (fdivM z1 (.int 1000)).bind fun z37 =>
        (modM z37 (.int 3)).bind fun z38 =>
        (ixM (.lst [.str "and", .str "or", .str "if"]) z38).bind fun z39 =>
        .ok (.tup [z39, z31, z36])
  | _, _ => .stuck

noncomputable def sh_are_marks : Nat → List U → M U
  | kk + 1, [v_marks] =>
    (iterS (.str "pqr")).bind fun it1 =>
    (compF (fun x2 =>
        (inM x2 v_marks).bind fun b4 =>
        .ok b4
      ) (fun x2 =>
        .ok x2
      ) it1).bind fun zs3 =>
    (joinM (.str "") (.lst zs3)).bind fun z5 =>
    ((vB eqM) v_marks z5).bind fun z6 =>
    .ok z6
  | _, _ => .stuck

noncomputable def sh_look_over : Nat → List U → M U
  | kk + 1, [v_rooms] =>
    (lenM v_rooms).bind fun z1 =>
    (eqM z1 (.int 0)).bind fun b2 =>
    if b2 then
      .stuck
    else
      (enumM v_rooms).bind fun it3 =>
      (forN (fun _ x4 =>
          (un2 x4).bind fun (v_k_5, v_room_6) =>
          (ixM v_room_6 (.int 0)).bind fun z7 =>
          (negM (.int 1)).bind fun z8 =>
          ((vB eqM) z7 z8).bind fun z9 =>
          (
            (gtM v_k_5 (.int 0)).bind fun b10 =>
            if b10 then
              (
                (ixM v_room_6 (.int 0)).bind fun z11 =>
                (leM (.int 0) z11).bind fun b12 =>
                if b12 then
                  (ltM z11 v_k_5).bind fun b13 =>
                  .ok (.bl b13)
                else
                  .ok (.bl false)
              ).bind fun z14 =>
              .ok z14
            else
              .ok z9
          ).bind fun v_right_15 =>
          (
            (boolM v_right_15).bind fun b16 =>
            if (!b16) then
              .ok true
            else
              (ixM v_room_6 (.int 1)).bind fun z17 =>
              (sh_are_marks kk [z17]).bind fun z18 =>
              (boolM z18).bind fun b19 =>
              .ok (!b19)
          ).bind fun b20 =>
          if b20 then
            .stuck
          else
            .ok ()
        ) it3 ()).bind fun _ =>
      .ok .non
  | _, _ => .stuck

noncomputable def sh_Tree_init : Nat → List U → M (List U)
  | kk + 1, [v_rooms] =>
    (sh_look_over kk [v_rooms]).bind fun z1 =>
    (iterL v_rooms).bind fun it2 =>
    (compM (fun x3 =>
        (ixM x3 (.int 0)).bind fun z5 =>
        (ixM x3 (.int 1)).bind fun z6 =>
        .ok (.tup [z5, z6])
      ) it2).bind fun zs4 =>
    .ok zs4
  | _, _ => .stuck

noncomputable def sh_all_above : Nat → List U → M (List U)
  | kk + 1, [v_rooms, v_inner] =>
    (iterL v_rooms).bind fun it1 =>
    (compM (fun x2 =>
        .ok (.bl true)
      ) it1).bind fun zs3 =>
    (lenM v_rooms).bind fun z5 =>
    (rrng1M z5).bind fun it4 =>
    (forN (fun v_held_6 x7 =>
        (ixM v_rooms x7).bind fun z8 =>
        (ixM z8 (.int 0)).bind fun z9 =>
        (
          (
            (geM z9 (.int 0)).bind fun b10 =>
            if b10 then
              (
                (ixM v_inner x7).bind fun z11 =>
                (boolM z11).bind fun b12 =>
                if b12 then
                  (ixM (.lst v_held_6) x7).bind fun z13 =>
                  (boolM z13).bind fun b14 =>
                  .ok b14
                else
                  .ok false
              ).bind fun b15 =>
              .ok (!b15)
            else
              .ok false
          ).bind fun b16 =>
          if b16 then
            (setM v_held_6 z9 (.bl false)).bind fun l17 =>
            .ok l17
          else
            .ok v_held_6
        ).bind fun v_held_18 =>
        .ok v_held_18
      ) it4 zs3).bind fun v_held_19 =>
    .ok v_held_19
  | _, _ => .stuck

noncomputable def sh_joined : Nat → List U → M (List U)
  | kk + 1, [v_word, v_ones, v_others] =>
    (eqM v_word (.str "and")).bind fun b1 =>
    if b1 then
      (zipM v_ones v_others).bind fun it2 =>
      (compM (fun x3 =>
          (un2 x3).bind fun (v_one_4, v_other_5) =>
          (
            (boolM v_one_4).bind fun b7 =>
            if b7 then
              .ok v_other_5
            else
              .ok (.bl false)
          ).bind fun z8 =>
          .ok z8
        ) it2).bind fun zs6 =>
      .ok zs6
    else
      (eqM v_word (.str "or")).bind fun b9 =>
      if b9 then
        (zipM v_ones v_others).bind fun it10 =>
        (compM (fun x11 =>
            (un2 x11).bind fun (v_one_12, v_other_13) =>
            (
              (boolM v_one_12).bind fun b15 =>
              if b15 then
                .ok (.bl true)
              else
                .ok v_other_13
            ).bind fun z16 =>
            .ok z16
          ) it10).bind fun zs14 =>
        .ok zs14
      else
        (zipM v_ones v_others).bind fun it17 =>
        (compM (fun x18 =>
            (un2 x18).bind fun (v_one_19, v_other_20) =>
            (
              (boolM v_one_19).bind fun z22 =>
              (boolM (.bl (!z22))).bind fun b23 =>
              if b23 then
                .ok (.bl true)
              else
                .ok v_other_20
            ).bind fun z24 =>
            .ok z24
          ) it17).bind fun zs21 =>
        .ok zs21
  | _, _ => .stuck

noncomputable def sh_truths_in : Nat → List U → M (List U)
  | kk + 1, [v_rooms, v_saying, v_given] =>
    (ixM v_saying (.int 0)).bind fun z1 =>
    (eqM z1 (.str "no")).bind fun b2 =>
    if b2 then
      (iterL v_rooms).bind fun it3 =>
      (compM (fun x4 =>
          .ok (.bl false)
        ) it3).bind fun zs5 =>
      .ok zs5
    else
      (eqM z1 (.str "letter")).bind fun b6 =>
      if b6 then
        (ixM v_saying (.int 1)).bind fun z7 =>
        (inM z7 v_given).bind fun b8 =>
        if b8 then
          (ixM v_saying (.int 1)).bind fun z9 =>
          (ixdM v_given z9).bind fun z10 =>
          (listM z10).bind fun z11 =>
          .ok z11
        else
          (iterL v_rooms).bind fun it12 =>
          (compM (fun x13 =>
              (un2 x13).bind fun (v_below_14, v_marks_15) =>
              (ixM v_saying (.int 1)).bind fun z17 =>
              ((vB inM) z17 v_marks_15).bind fun z18 =>
              .ok z18
            ) it12).bind fun zs16 =>
          .ok zs16
      else
        (ixM v_saying (.int 1)).bind fun z19 =>
        (sh_truths_in kk [v_rooms, z19, v_given]).bind fun z20 =>
        (eqM z1 (.str "not")).bind fun b21 =>
        if b21 then
          (iterL (.lst z20)).bind fun it22 =>
          (compM (fun x23 =>
              (boolM x23).bind fun z25 =>
              .ok (.bl (!z25))
            ) it22).bind fun zs24 =>
          .ok zs24
        else
          (eqM z1 (.str "shown")).bind fun b26 =>
          if b26 then
            (sh_all_above kk [v_rooms, .lst z20]).bind fun z27 =>
            .ok z27
          else
            (ixM v_saying (.int 2)).bind fun z28 =>
            (sh_truths_in kk [v_rooms, z28, v_given]).bind fun z29 =>
            (sh_joined kk [z1, .lst z20, .lst z29]).bind fun z30 =>
            .ok z30
  | _, _ => .stuck

noncomputable def sh_Tree_holds : Nat → List U → M (List U)
  | kk + 1, [v_self, v_saying] =>
    (fldP ["Tree"] v_self).bind fun z1 =>
    (sh_truths_in kk [z1, v_saying, .dic [] []]).bind fun z2 =>
    .ok z2
  | _, _ => .stuck

noncomputable def sh_put : Nat → List U → M U
  | kk + 1, [v_saying, v_sayings] =>
    (ixM v_saying (.int 0)).bind fun z1 =>
    (eqM z1 (.str "no")).bind fun b2 =>
    if b2 then
      .ok v_saying
    else
      (ixM v_saying (.int 0)).bind fun z3 =>
      (eqM z3 (.str "letter")).bind fun b4 =>
      if b4 then
        (asD v_sayings).bind fun (dk6, du7) =>
        (ixM v_saying (.int 1)).bind fun z8 =>
        (getdM (.dic dk6 du7) z8 v_saying).bind fun z5 =>
        .ok z5
      else
        (ixM v_saying (.int 0)).bind fun z9 =>
        (endM (.int 1)).bind fun z10 =>
        (slM v_saying z10 none).bind fun z11 =>
        (iterT z11).bind fun it12 =>
        (compM (fun x13 =>
            (sh_put kk [x13, v_sayings]).bind fun z15 =>
            .ok z15
          ) it12).bind fun zs14 =>
        (addM (.lst [z9]) (.lst zs14)).bind fun z16 =>
        (tupleM z16).bind fun z17 =>
        .ok z17
  | _, _ => .stuck

noncomputable def sh__law_are : Nat → List U → M U
  | kk + 1, [v_found, v_due] =>
    (
      (isiM v_found "list").bind fun z1 =>
      (boolM z1).bind fun b2 =>
      if (!b2) then
        .ok true
      else
        (lenM v_found).bind fun z3 =>
        (lenM v_due).bind fun z4 =>
        ((nB eqM) z3 z4).bind fun b5 =>
        .ok b5
    ).bind fun b6 =>
    if b6 then
      .ok (.bl false)
    else
      (
        (iterL v_found).bind fun it7 =>
        (compM (fun x8 =>
            (isiM x8 "bool").bind fun z10 =>
            .ok z10
          ) it7).bind fun zs9 =>
        (allM (.lst zs9)).bind fun z11 =>
        (boolM z11).bind fun b12 =>
        if b12 then
          ((vB eqM) v_found v_due).bind fun z13 =>
          .ok z13
        else
          .ok (.bl false)
      ).bind fun z14 =>
      .ok z14
  | _, _ => .stuck

noncomputable def sh__law_marked : Nat → List U → M (List U)
  | kk + 1, [v_tree, v_rooms_here, v_sayings] =>
    (iterS (.str "pqr")).bind fun it1 =>
    (forN (fun v_marks_here_2 x3 =>
        (
          (inM x3 v_sayings).bind fun b4 =>
          if b4 then
            (fldP ["Tree"] v_tree).bind fun z5 =>
            (ixdM v_sayings x3).bind fun z7 =>
            (sh_Tree_holds kk [v_tree, z7]).calm.bind fun z6 =>
            (putM v_marks_here_2 x3 (.lst z6)).bind fun l8 =>
            .ok l8
          else
            (iterL v_rooms_here).bind fun it9 =>
            (compM (fun x10 =>
                (ixM x10 (.int 1)).bind fun z12 =>
                ((vB inM) x3 z12).bind fun z13 =>
                .ok z13
              ) it9).bind fun zs11 =>
            (putM v_marks_here_2 x3 (.lst zs11)).bind fun l14 =>
            .ok l14
        ).bind fun v_marks_here_15 =>
        .ok v_marks_here_15
      ) it1 (([], []) : Dc)).bind fun v_marks_here_16 =>
    (enumM v_rooms_here).bind fun it17 =>
    (forN (fun v_made_18 x19 =>
        (un2 x19).bind fun (v_k_20, v_room_21) =>
        (ixM v_room_21 (.int 0)).bind fun z22 =>
        (iterS (.str "pqr")).bind fun it23 =>
        (compF (fun x24 =>
            (ixdM (.dic v_marks_here_16.1 v_marks_here_16.2) x24).bind fun z26 =>
            (ixM z26 v_k_20).bind fun z27 =>
            (boolM z27).bind fun b28 =>
            .ok b28
          ) (fun x24 =>
            .ok x24
          ) it23).bind fun zs25 =>
        (joinM (.str "") (.lst zs25)).bind fun z29 =>
        (appM v_made_18 (.tup [z22, z29])).bind fun l30 =>
        .ok l30
      ) it17 []).bind fun v_made_31 =>
    .ok v_made_31
  | _, _ => .stuck

noncomputable def sh_law : Nat → List U → M U
  | kk + 2, [v_script] =>
    (sh__law_cell (kk + 1) [v_script, .int 0]).bind fun z1 =>
    (modM z1 (.int 8)).bind fun z2 =>
    (addM (.int 1) z2).bind fun z3 =>
    (sh__law_rooms (kk + 1) [v_script, .int 1, z3]).bind fun z4 =>
    (fdivM z1 (.int 8)).bind fun z5 =>
    (modM z5 (.int 10)).bind fun z6 =>
    (addM (.int 1) z6).bind fun z7 =>
    (sh__law_saying (kk + 1) [v_script, .int 10, z7, .str "pqr", .int 10]).bind fun z8 =>
    (enumSM (.str "pqr")).bind fun it9 =>
    (forN (fun v_sayings_10 x11 =>
        (un2 x11).bind fun (v_k_12, v_letter_13) =>
        (mulM (.int 8) v_k_12).bind fun z14 =>
        (addM (.int 22) z14).bind fun z15 =>
        (sh__law_cell (kk + 1) [v_script, z15]).bind fun z16 =>
        (
          (modM z16 (.int 4)).bind fun z17 =>
          (gtM z17 (.int 0)).bind fun b18 =>
          if b18 then
            (mulM (.int 8) v_k_12).bind fun z19 =>
            (addM (.int 23) z19).bind fun z20 =>
            (fdivM z16 (.int 4)).bind fun z21 =>
            (modM z21 (.int 6)).bind fun z22 =>
            (addM (.int 1) z22).bind fun z23 =>
            (sh__law_saying (kk + 1) [v_script, z20, z23, .str "pqr", .int 6]).bind fun z24 =>
            (putM v_sayings_10 v_letter_13 z24).bind fun l25 =>
            .ok l25
          else
            .ok v_sayings_10
        ).bind fun v_sayings_26 =>
        .ok v_sayings_26
      ) it9 (([], []) : Dc)).bind fun v_sayings_27 =>
    (dcopyM (.dic v_sayings_27.1 v_sayings_27.2)).bind fun z28 =>
    (sh_Tree_init kk [.lst z4]).calm.bind fun z29 => (immsM z29).bind fun z30 =>
    (fldP ["Tree"] (.ins "Tree" [.lst z30])).bind fun z31 =>
    (sh_put (kk + 1) [z8, z28]).bind fun z33 =>
    (sh_Tree_holds (kk + 1) [.ins "Tree" [.lst z30], z33]).calm.bind fun z32 =>
    (neDM z28 (.dic v_sayings_27.1 v_sayings_27.2)).bind fun b34 =>
    if b34 then
      .ok (.bl false)
    else
      (sh__law_marked (kk + 1) [.ins "Tree" [.lst z30], .lst z4, .dic v_sayings_27.1 v_sayings_27.2]).bind fun z35 =>
      (sh_Tree_init kk [.lst z35]).calm.bind fun z36 => (immsM z36).bind fun z37 =>
      (fldP ["Tree"] (.ins "Tree" [.lst z37])).bind fun z38 =>
      (sh_Tree_holds (kk + 1) [.ins "Tree" [.lst z37], z8]).calm.bind fun z39 =>
      (sh__law_are (kk + 1) [.lst z32, .lst z39]).bind fun z40 =>
      .ok z40
  | _, _ => .stuck

abbrev tcs : List Str := ["Tree"]
theorem sh_cel {k : Nat} {ns : List Int} {i : Int} (h : 0 ≤ i) (h2 : i < 1000000) (hn : ns.length ≤ 63 := by assumption) : ∃ c : Int, sh__law_cell (k + 1) [.fzl (ns.map .int), .int i] = .ok (.int c) ∧ 0 ≤ c := by
  rw [sh__law_cell, lenM_fzl, M.bind_ok, gtM_int, M.bind_ok, List.length_map]
  have fin : ∀ g : Int, ∃ c : Int, ((powM (.int 10) (.int 30)).bind fun z30 => (modM (.int g) z30).bind fun z31 => (mulM z31 (.int 48271)).bind fun z32 => (mulM (.int i) (.int i)).bind fun z33 => (mulM z33 (.int 7919)).bind fun z34 => (addM z32 z34).bind fun z35 => (mulM (.int i) (.int 13)).bind fun z36 => (addM z35 z36).bind fun z37 => (addM z37 (.int 11)).bind fun z38 => (modM z38 (.int 2147483647)).bind fun z39 => (mulM z39 (.int 69621)).bind fun z40 => (modM z40 (.int 1000000007)).bind fun z41 => .ok z41) = .ok (.int c) ∧ 0 ≤ c := fun g => by
    rw [pow10_30, M.bind_ok, modM_int (by decide), M.bind_ok, mulM_r (by decide) (by decide), M.bind_ok, mulM_l (by omega) (by omega), M.bind_ok, mulM_r (by decide) (by decide), M.bind_ok, addM_int, M.bind_ok, mulM_r (by decide) (by decide), M.bind_ok, addM_int, M.bind_ok, addM_int, M.bind_ok, modM_int (by decide), M.bind_ok, mulM_r (by decide) (by decide), M.bind_ok, modM_int (by decide), M.bind_ok]
    exact ⟨_, rfl, Int.emod_nonneg _ (by decide)⟩
  have hb : ∃ b : Bool, ((if decide (1 < (ns.length : Int)) = true then (ixM (.fzl (ns.map .int)) (.int 0)).bind fun z3 => (modM z3 (.int 2)).bind fun z4 => (eqM z4 (.int 1)).bind fun b5 => .ok b5 else .ok false) : M Bool) = .ok b ∧ (b = true → 1 < ns.length) := by
    by_cases h1 : (1 : Int) < ns.length
    · rw [decide_eq_true h1, if_pos rfl]
      obtain ⟨u, hu, e⟩ := ixM_any (i := 0) (x := .fzl (ns.map .int)) rfl (by decide) (by rw [List.length_map]; omega)
      obtain ⟨n, _, rfl⟩ := List.mem_map.mp hu
      rw [e, M.bind_ok, modM_int (by decide), M.bind_ok, eqM_int]
      exact ⟨_, rfl, fun _ => by omega⟩
    · rw [decide_eq_false h1, if_neg (by simp)]; exact ⟨false, rfl, fun h => by cases h⟩
  obtain ⟨b, eb, hb⟩ := hb
  rw [eb, M.bind_ok]
  cases b with
  | true =>
    have hb := hb rfl
    have hl : (0 : Int) < (ns.length : Int) - 1 := by omega
    have m1 := Int.emod_nonneg i (b := (ns.length : Int) - 1) (by omega)
    have m2 := Int.emod_lt_of_pos i hl
    have d1 := Int.ediv_nonneg h (Int.le_of_lt hl)
    obtain ⟨u, hu, e⟩ := ixM_any (i := 1 + i % ((ns.length : Int) - 1)) (x := .fzl (ns.map .int)) rfl (by omega) (by rw [List.length_map]; omega)
    obtain ⟨n, _, rfl⟩ := List.mem_map.mp hu
    have hz : ((ns.length : Int) - 1) < 18446744073709551616 := by omega
    rw [if_pos rfl, M.bind_ok, subM_int, M.bind_ok, modM_int hl, M.bind_ok, addM_int, M.bind_ok, e, M.bind_ok, M.bind_ok, subM_int, M.bind_ok, fdivM_int hl hz, M.bind_ok, show min2M (.int 60) (.int (i / ((ns.length : Int) - 1))) = .ok (.int (min 60 (i / ((ns.length : Int) - 1)))) from rfl, M.bind_ok, range1M_int (by omega) (by omega), M.bind_ok]
    obtain ⟨_, e2, c, rfl⟩ := forN_keep (f := fun v_cell_here_17 x18 => (powM (.int 10) (.int 9)).bind fun z19 => (fdivM v_cell_here_17 z19).bind fun z20 => .ok z20) (fun s => ∃ c : Int, s = .int c) (xs := rangeU 0 (min 60 (i / ((ns.length : Int) - 1))).toNat) (s := .int n) ⟨n, rfl⟩ (fun x _ s hs => by
      obtain ⟨c, rfl⟩ := hs
      rw [pow10_9, M.bind_ok, fdivM_int (by decide) (by decide)]
      exact ⟨_, rfl, _, rfl⟩)
    rw [e2, M.bind_ok, pow10_9, M.bind_ok, modM_int (by decide), M.bind_ok]
    exact ⟨_, rfl, Int.emod_nonneg _ (by decide)⟩
  | false =>
    rw [if_neg (by simp), M.bind_ok, gtM_int, M.bind_ok]
    by_cases h1 : (0 : Int) < ns.length
    · obtain ⟨u, hu, e⟩ := ixM_any (i := i % ns.length) (x := .fzl (ns.map .int)) rfl (Int.emod_nonneg _ (by omega)) (by rw [List.length_map]; exact Int.emod_lt_of_pos _ h1)
      obtain ⟨n, _, rfl⟩ := List.mem_map.mp hu
      rw [decide_eq_true h1, if_pos rfl, M.bind_ok, modM_int h1, M.bind_ok, e, M.bind_ok, M.bind_ok]
      exact fin n
    · rw [decide_eq_false h1, if_neg (by simp), M.bind_ok]
      exact fin i

/-- the letters of a saying are of ls -/
def Sy.over (ls : List Lt) : Sy → Prop
  | .no => True
  | .lt l => l ∈ ls
  | .not a => a.over ls
  | .shown a => a.over ls
  | .bin _ a b => a.over ls ∧ b.over ls

theorem sh_say {ns : List Int} (hn0 : ns.length ≤ 63) {w : Str} {ls : List Lt} (hw : iterS (.str w) = .ok (ls.map ltU)) (hls : ls.length ≤ 3) : ∀ (k : Nat) {a n d : Int}, 0 ≤ a → a + n ≤ 1000 → 1 ≤ n → n ≤ 200 → n ≤ k → ∃ s : Sy, sh__law_saying (k + 1) [.fzl (ns.map .int), .int a, .int n, .str w, .int d] = .ok (su s) ∧ (s.size : Int) = n ∧ s.over ls := by
  intro k
  induction k with
  | zero =>
    intro a n d h1 h2 h3 h4 h5
    exact absurd h5 (by omega)
  | succ k ih =>
    intro a n d h1 h2 h3 h4 h5
    obtain ⟨c, ec, hc⟩ := sh_cel (k := k) (ns := ns) (i := a) h1 (by omega)
    rw [sh__law_saying, ec, M.bind_ok, eqM_int, M.bind_ok]
    by_cases e1 : n = 1
    · rw [decide_eq_true e1, if_pos rfl, hw, M.bind_ok, compM_ok ltU (fun l => su (.lt l)) (by omega) (fun _ _ => rfl), M.bind_ok, addM_lst (by rw [List.length_map]; simp only [List.length_cons, List.length_nil]; omega), M.bind_ok, lenM_lst, M.bind_ok]
      have e4 : ((ls.map fun l => su (.lt l)) ++ [U.tup [.str "no"]]) = (ls.map Sy.lt ++ [Sy.no]).map su := by rw [List.map_append, List.map_map]; rfl
      have hp : (0 : Int) < ((ls.map Sy.lt ++ [Sy.no]).map su).length := by rw [List.length_map, List.length_append]; simp only [List.length_cons, List.length_nil]; omega
      rw [e4, modM_int hp, M.bind_ok]
      obtain ⟨u, hu, e⟩ := ixM_any (i := c % (((ls.map Sy.lt ++ [Sy.no]).map su).length : Nat)) (x := .lst ((ls.map Sy.lt ++ [Sy.no]).map su)) rfl (Int.emod_nonneg _ (by omega)) (Int.emod_lt_of_pos _ hp)
      rw [e, M.bind_ok]
      obtain ⟨s, hs, rfl⟩ := List.mem_map.mp hu
      refine ⟨s, rfl, ?_⟩
      rcases List.mem_append.mp hs with hs | hs
      · obtain ⟨l, hl, rfl⟩ := List.mem_map.mp hs
        exact ⟨by simp only [Sy.size]; omega, hl⟩
      · rw [List.mem_singleton] at hs; subst hs
        exact ⟨by simp only [Sy.size]; omega, trivial⟩
    · rw [decide_eq_false e1, if_neg (by simp), eqM_int, M.bind_ok]
      have hb : ∃ b : Bool, ((if decide (n = 2) = true then M.ok true else (modM (.int c) (.int 5)).bind fun z11 => (ltM z11 (.int 2)).bind fun b12 => .ok b12) : M Bool) = .ok b ∧ (b = false → 3 ≤ n) := by
        by_cases e2 : n = 2
        · rw [decide_eq_true e2, if_pos rfl]; exact ⟨true, rfl, fun h => by cases h⟩
        · rw [decide_eq_false e2, if_neg (by simp), modM_int (by decide), M.bind_ok, ltM_int, M.bind_ok]
          exact ⟨_, rfl, fun _ => by omega⟩
      obtain ⟨b, eb, hb⟩ := hb
      rw [eb, M.bind_ok]
      cases b with
      | true =>
        rw [if_pos rfl, gtM_int, M.bind_ok]
        have hd : ∃ b : Bool, ((if decide (0 < d) = true then (fdivM (.int c) (.int 5)).bind fun z15 => (modM z15 (.int 2)).bind fun z16 => (eqM z16 (.int 0)).bind fun b17 => .ok b17 else .ok false) : M Bool) = .ok b := by
          by_cases e2 : 0 < d
          · rw [decide_eq_true e2, if_pos rfl, fdivM_int (by decide) (by decide), M.bind_ok, modM_int (by decide), M.bind_ok, eqM_int]; exact ⟨_, rfl⟩
          · rw [decide_eq_false e2, if_neg (by simp)]; exact ⟨_, rfl⟩
        obtain ⟨b, ed⟩ := hd
        rw [ed, M.bind_ok]
        cases b with
        | true =>
          obtain ⟨s, es, hs, ho⟩ := ih (a := a + 1) (n := n - 1) (d := d - 1) (by omega) (by omega) (by omega) (by omega) (by omega)
          rw [if_pos rfl, addM_int, M.bind_ok, subM_int, M.bind_ok, subM_int, M.bind_ok, es, M.bind_ok]
          exact ⟨.shown s, rfl, by simp only [Sy.size]; omega, ho⟩
        | false =>
          obtain ⟨s, es, hs, ho⟩ := ih (a := a + 1) (n := n - 1) (d := d) (by omega) (by omega) (by omega) (by omega) (by omega)
          rw [if_neg (by simp), addM_int, M.bind_ok, subM_int, M.bind_ok, es, M.bind_ok]
          exact ⟨.not s, rfl, by simp only [Sy.size]; omega, ho⟩
      | false =>
        have hn3 := hb rfl
        have m1 := Int.emod_nonneg (c / 10) (b := n - 2) (by omega)
        have m2 := Int.emod_lt_of_pos (c / 10) (b := n - 2) (by omega)
        obtain ⟨s, es, hs, ho⟩ := ih (a := a + 1) (n := 1 + c / 10 % (n - 2)) (d := d) (by omega) (by omega) (by omega) (by omega) (by omega)
        obtain ⟨t, et, ht, ho2⟩ := ih (a := a + 1 + (1 + c / 10 % (n - 2))) (n := n - 1 - (1 + c / 10 % (n - 2))) (d := d) (by omega) (by omega) (by omega) (by omega) (by omega)
        rw [if_neg (by simp), fdivM_int (by decide) (by decide), M.bind_ok, subM_int, M.bind_ok, modM_int (by omega), M.bind_ok, addM_int, M.bind_ok, addM_int, M.bind_ok, es, M.bind_ok, M.bind_ok, addM_int, M.bind_ok, subM_int, M.bind_ok, subM_int, M.bind_ok, et, M.bind_ok, fdivM_int (by decide) (by decide), M.bind_ok, modM_int (by decide), M.bind_ok]
        obtain ⟨u, hu, e⟩ := ixM_any (i := c / 1000 % 3) (x := .lst [.str "and", .str "or", .str "if"]) rfl (Int.emod_nonneg _ (by decide)) (Int.emod_lt_of_pos _ (by decide))
        rw [e, M.bind_ok]
        have hu : ∃ o : Bop, u = .str o.s := by
          simp only [List.mem_cons, List.not_mem_nil, or_false] at hu
          rcases hu with rfl | rfl | rfl
          · exact ⟨.and, rfl⟩
          · exact ⟨.or, rfl⟩
          · exact ⟨.iff, rfl⟩
        obtain ⟨o, rfl⟩ := hu
        exact ⟨.bin o s t, rfl, by simp only [Sy.size]; omega, ho, ho2⟩
theorem iterS_pqr : iterS (.str "pqr") = .ok ([Lt.p, .q, .r].map ltU) := rfl
theorem iterS_nil : iterS (.str "") = .ok (([] : List Lt).map ltU) := rfl

theorem kids1 {f : U → M U} {a b : U} (e : f a = .ok b) : compM f [a] = .ok [b] := by
  unfold compM
  rw [sz_ok (by simp), mapC, e, M.calm_ok, M.bind_ok, mapC, M.bind_ok]
theorem kids2 {f : U → M U} {a b c d : U} (e : f a = .ok c) (e2 : f b = .ok d) : compM f [a, b] = .ok [c, d] := by
  unfold compM
  rw [sz_ok (by simp), mapC, e, M.calm_ok, M.bind_ok, mapC, e2, M.calm_ok, M.bind_ok, mapC, M.bind_ok, M.bind_ok]
/-- a skeleton: what stands for x and y is put in -/
inductive Sk
  | no | x | y | lt (l : Lt) | not (a : Sk) | bin (o : Bop) (a b : Sk)
namespace Sk
def u : Sk → U
  | no => .tup [.str "no"]
  | x => .tup [.str "letter", .str "x"]
  | y => .tup [.str "letter", .str "y"]
  | lt l => .tup [.str "letter", .str l.s]
  | not a => .tup [.str "not", a.u]
  | bin o a b => .tup [.str o.s, a.u, b.u]
def size : Sk → Nat
  | not a => 1 + a.size
  | bin _ a b => 1 + a.size + b.size
  | _ => 1
def fill (v w : Sy) : Sk → Sy
  | no => .no
  | x => v
  | y => w
  | lt l => .lt l
  | not a => .not (a.fill v w)
  | bin o a b => .bin o (a.fill v w) (b.fill v w)
/-- p does not stand in it -/
def gd : Sk → Prop
  | lt l => l ≠ .p
  | not a => a.gd
  | bin _ a b => a.gd ∧ b.gd
  | _ => True
theorem size_pos (s : Sk) : 1 ≤ s.size := by cases s <;> simp only [size] <;> omega
end Sk
theorem addM_tup {x : U} {us : List U} (h : us.length < 1000000) : addM (.tup [x]) (.tup us) = .ok (.tup (x :: us)) := sz_ok (by simp only [List.length_nil]; omega)
/-- p stands outside of shown -/
def Sy.out : Sy → Bool
  | .no => false
  | .lt l => decide (l = .p)
  | .not a => a.out
  | .shown _ => false
  | .bin _ a b => a.out || b.out
theorem fill_out {v w : Sy} (hv : v.out = false) (hw : w.out = false) : ∀ s : Sk, s.gd → (s.fill v w).out = false
  | .no, _ => rfl
  | .x, _ => hv
  | .y, _ => hw
  | .lt l, h => decide_eq_false h
  | .not a, h => fill_out hv hw a h
  | .bin o a b, h => by rw [Sk.fill, Sy.out, fill_out hv hw a h.1, fill_out hv hw b h.2]; rfl
theorem fill_ht {v w : Sy} {n : Nat} (hv : v.ht ≤ n) (hw : w.ht ≤ n) : ∀ s : Sk, (s.fill v w).ht ≤ s.size + n
  | .no => by simp only [Sk.fill, Sy.ht, Sk.size]; omega
  | .x => by simp only [Sk.fill, Sk.size]; omega
  | .y => by simp only [Sk.fill, Sk.size]; omega
  | .lt l => by simp only [Sk.fill, Sy.ht, Sk.size]; omega
  | .not a => by have := fill_ht hv hw a; simp only [Sk.fill, Sy.ht, Sk.size]; omega
  | .bin o a b => by have := fill_ht hv hw a; have := fill_ht hv hw b; simp only [Sk.fill, Sy.ht, Sk.size]; omega
/-- marks: which of p, q, r -/
structure Ms where
  p : Bool
  q : Bool
  r : Bool
def Ms.s : Ms → Str
  | ⟨false, false, false⟩ => ""
  | ⟨true, false, false⟩ => "p"
  | ⟨false, true, false⟩ => "q"
  | ⟨true, true, false⟩ => "pq"
  | ⟨false, false, true⟩ => "r"
  | ⟨true, false, true⟩ => "pr"
  | ⟨false, true, true⟩ => "qr"
  | ⟨true, true, true⟩ => "pqr"
def Ms.has : Ms → Lt → Bool
  | m, .p => m.p
  | m, .q => m.q
  | m, .r => m.r
def Ms.lts (m : Ms) : List Lt := [Lt.p, .q, .r].filter m.has
theorem strIn_ms (l : Lt) (m : Ms) : strIn l.s m.s = m.has l := by
  obtain ⟨p, q, r⟩ := m
  cases l <;> cases p <;> cases q <;> cases r <;> decide +kernel
theorem join_ms (m : Ms) : joinM (.str "") (.lst (m.lts.map ltU)) = .ok (.str m.s) := by
  obtain ⟨p, q, r⟩ := m
  cases p <;> cases q <;> cases r <;> rfl
theorem sh_are {k : Nat} {m : Ms} : sh_are_marks (k + 1) [.str m.s] = .ok (.bl true) := by
  rw [sh_are_marks, show iterS (.str "pqr") = .ok ([Lt.p, .q, .r].map ltU) from rfl, M.bind_ok, compF_ok ltU m.has ltU (by decide) (fun x _ => by
    show (inM (.str x.s) (.str m.s)).bind _ = _
    rw [show inM (.str x.s) (.str m.s) = .ok (strIn x.s m.s) from rfl, strIn_ms]; rfl) (fun x _ _ => rfl), M.bind_ok, show (List.filter m.has [Lt.p, .q, .r]) = m.lts from rfl, join_ms, M.bind_ok, vB_ok, eqM_str]
  simp only [M.bind_ok, decide_true]
/-- a room -/
structure Rm where
  b : Int
  m : Ms
def uR (x : Rm) : U := .tup [.int x.b, .str x.m.s]
/-- a tree's rooms -/
structure Tree (rs : List Rm) : Prop where
  ne : 0 < rs.length
  top : ∀ x, rs[0]? = some x → x.b = -1
  up : ∀ (k : Nat) (x : Rm), 0 < k → rs[k]? = some x → 0 ≤ x.b ∧ x.b < (k : Int)
theorem sh_look {k : Nat} {rs : List Rm} (T : Tree rs) : sh_look_over (k + 2) [.lst (rs.map uR)] = .ok .non := by
  rw [sh_look_over, lenM_lst, M.bind_ok, eqM_int, M.bind_ok, List.length_map, decide_eq_false (by have := T.ne; omega), if_neg (by simp), enumM_lst, M.bind_ok]
  obtain ⟨_, e, _⟩ := forN_keep (f := fun (_ : Unit) x4 => (un2 x4).bind fun (v_k_5, v_room_6) => (ixM v_room_6 (.int 0)).bind fun z7 => (negM (.int 1)).bind fun z8 => ((vB eqM) z7 z8).bind fun z9 =>
      ((gtM v_k_5 (.int 0)).bind fun b10 => if b10 then (((ixM v_room_6 (.int 0)).bind fun z11 => (leM (.int 0) z11).bind fun b12 => if b12 then (ltM z11 v_k_5).bind fun b13 => .ok (.bl b13) else .ok (.bl false)) : M U).bind fun z14 => .ok z14 else .ok z9).bind fun v_right_15 =>
      ((boolM v_right_15).bind fun b16 => if (!b16) then .ok true else (ixM v_room_6 (.int 1)).bind fun z17 => (sh_are_marks (k + 1) [z17]).bind fun z18 => (boolM z18).bind fun b19 => .ok (!b19)).bind fun b20 => if b20 then .stuck else .ok ())
    (fun _ => True) (xs := enumU (rs.map uR)) (s := ()) trivial (fun x hx s _ => by
      unfold enumU at hx
      obtain ⟨i, hi, rfl⟩ := List.mem_iff_getElem.mp hx
      have hi : i < rs.length := by simpa using hi
      rw [List.getElem_mapIdx, List.getElem_map]
      have hg := List.getElem?_eq_getElem hi
      refine ⟨(), ?_, trivial⟩
      rw [un2_ok, M.bind_ok]
      dsimp only [uR]
      rw [ix_t0, M.bind_ok, negM_int, M.bind_ok, vB_ok, eqM_int, M.bind_ok, M.bind_ok, gtM_int, M.bind_ok]
      rcases Nat.eq_zero_or_pos i with rfl | hp
      · have := T.top _ hg
        rw [decide_eq_false (by omega), if_neg (by simp), M.bind_ok, this, boolM_bl, M.bind_ok]
        simp only [decide_true, Bool.not_true, Bool.false_eq_true, if_false]
        rw [ix_t1, M.bind_ok, sh_are, M.bind_ok, boolM_bl, M.bind_ok, M.bind_ok]; rfl
      · obtain ⟨h1, h2⟩ := T.up i _ hp hg
        rw [decide_eq_true (by omega), if_pos rfl, M.bind_ok, leM_int, M.bind_ok, decide_eq_true h1, if_pos rfl, ltM_int, M.bind_ok, decide_eq_true h2, M.bind_ok, M.bind_ok, boolM_bl, M.bind_ok]
        simp only [Bool.not_true, Bool.false_eq_true, if_false]
        rw [ix_t1, M.bind_ok, sh_are, M.bind_ok, boolM_bl, M.bind_ok, M.bind_ok]; rfl)
  exact (congrArg (fun m : M Unit => m.bind fun _ => M.ok U.non) e)
theorem sh_init {k : Nat} {rs : List Rm} (T : Tree rs) (hl : rs.length < 10000000) : sh_Tree_init (k + 3) [.lst (rs.map uR)] = .ok (rs.map uR) := by
  rw [sh_Tree_init, sh_look T, M.bind_ok, iterL_lst, M.bind_ok, compM_ok uR uR hl (fun x _ => by unfold uR; rw [ix_t0, M.bind_ok, ix_t1, M.bind_ok]), M.bind_ok]
/-- a room that is put on -/
theorem Tree.put {rs : List Rm} (T : Tree rs) {x : Rm} (h : 0 ≤ x.b) (h2 : x.b < rs.length) : Tree (rs ++ [x]) where
  ne := by simp
  top := fun y hy => by
    rw [List.getElem?_append_left T.ne] at hy
    exact T.top y hy
  up := fun k y hk hy => by
    rcases Nat.lt_or_ge k rs.length with z | z
    · rw [List.getElem?_append_left z] at hy
      exact T.up k y hk hy
    · rw [List.getElem?_append_right z] at hy
      have : k - rs.length = 0 := by
        cases e : k - rs.length with
        | zero => rfl
        | succ n => rw [e] at hy; simp at hy
      rw [this] at hy
      simp at hy; subst hy
      exact ⟨h, by omega⟩
theorem Tree.one (m : Ms) : Tree [⟨-1, m⟩] where
  ne := by simp
  top := fun x hx => by simp at hx; subst hx; rfl
  up := fun k x hk hx => by
    obtain ⟨k, rfl⟩ := Nat.exists_eq_succ_of_ne_zero (Nat.pos_iff_ne_zero.mp hk)
    simp at hx
/-- what a room stands on -/
def par (rs : List Rm) (k : Nat) : Nat := match rs[k]? with
  | some x => x.b.toNat
  | none => 0
theorem Tree.par {rs : List Rm} (T : Tree rs) {k : Nat} (h : 0 < k) (h2 : k < rs.length) : rs[k].b = (Law.par rs k : Nat) ∧ Law.par rs k < k := by
  have hg := List.getElem?_eq_getElem h2
  obtain ⟨h3, h4⟩ := T.up k _ h hg
  unfold Law.par
  rw [hg]
  dsimp only
  omega
theorem Tree.par_lt {rs : List Rm} (T : Tree rs) {k : Nat} (h : 0 < k) : Law.par rs k < k := by
  rcases Nat.lt_or_ge k rs.length with z | z
  · exact (T.par h z).2
  · unfold Law.par; rw [List.getElem?_eq_none z]; exact h
theorem ix_room {rs : List Rm} {k : Nat} (h : k < rs.length) : ixM (.lst (rs.map uR)) (.int (k : Int)) = .ok (uR rs[k]) := ixM_get rfl (by rw [List.getElem?_map, List.getElem?_eq_getElem h]; rfl)
theorem uR_0 {x : Rm} : ixM (uR x) (.int 0) = .ok (.int x.b) := ix_t0
theorem uR_1 {x : Rm} : ixM (uR x) (.int 1) = .ok (.str x.m.s) := ix_t1
theorem imms_uR {rs : List Rm} : immsM (rs.map uR) = .ok (rs.map uR) := immsM_ok (imms_of fun u hu => by obtain ⟨x, _, rfl⟩ := List.mem_map.mp hu; rfl)

def msOf (c : Int) : Ms := ⟨decide (c % 2 = 1), decide (c / 2 % 2 = 1), decide (c / 4 % 2 = 1)⟩
theorem sh_marks {k : Nat} {c : Int} : sh__law_marks (k + 1) [.int c] = .ok (.str (msOf c).s) := by
  rw [sh__law_marks, modM_int (by decide), M.bind_ok, fdivM_int (by decide) (by decide), M.bind_ok, modM_int (by decide), M.bind_ok, fdivM_int (by decide) (by decide), M.bind_ok, modM_int (by decide), M.bind_ok]
  generalize hb : msOf c = m
  unfold msOf at hb
  have e : zipSM (.str "pqr") (.lst [.int (c % 2), .int (c / 2 % 2), .int (c / 4 % 2)]) = .ok ([(Lt.p, c % 2), (.q, c / 2 % 2), (.r, c / 4 % 2)].map fun x => U.tup [ltU x.1, .int x.2]) := rfl
  rw [e, M.bind_ok, compF_ok (fun x : Lt × Int => U.tup [ltU x.1, .int x.2]) (fun x => decide (x.2 = 1)) (fun x => ltU x.1) (by show 3 < 10000000; decide) (fun x _ => by rw [un2_ok, M.bind_ok]; dsimp only; rw [eqM_int]; rfl) (fun x _ _ => rfl), M.bind_ok]
  have e2 : ([(Lt.p, c % 2), (.q, c / 2 % 2), (.r, c / 4 % 2)].filter fun x => decide (x.2 = 1)).map (fun x => ltU x.1) = m.lts.map ltU := by
    subst hb
    unfold Ms.lts
    simp only [List.filter_cons, List.filter_nil, Ms.has]
    by_cases h1 : c % 2 = 1 <;> by_cases h2 : c / 2 % 2 = 1 <;> by_cases h3 : c / 4 % 2 = 1 <;> simp [h1, h2, h3]
  rw [e2, join_ms]; rfl

theorem sh_rooms {k : Nat} {ns : List Int} {a : Int} {n : Nat} (h : 0 ≤ a) (h2 : a < 1000) (hn : 1 ≤ n) (hn2 : n ≤ 1000) (hn0 : ns.length ≤ 63 := by assumption) : ∃ rs : List Rm, sh__law_rooms (k + 2) [.fzl (ns.map .int), .int a, .int n] = .ok (rs.map uR) ∧ Tree rs ∧ rs.length = n := by
  obtain ⟨c, e, hc⟩ := sh_cel (k := k) (ns := ns) (i := a) h (by omega)
  rw [sh__law_rooms, negM_int, M.bind_ok, e, M.bind_ok, sh_marks, M.bind_ok, rng_2 (by omega), M.bind_ok]
  obtain ⟨_, e, rs, rfl, T, hl⟩ := forN_inv (f := fun v_rooms_here_5 x6 => (addM (.int a) x6).bind fun z7 => (sh__law_cell (k + 1) [.fzl (ns.map .int), z7]).bind fun z8 => (fdivM z8 (.int 8)).bind fun z9 => (modM z9 x6).bind fun z10 =>
      ((fdivM z8 (.int 1000)).bind fun z11 => (modM z11 (.int 3)).bind fun z12 => (eqM z12 (.int 0)).bind fun b13 => if b13 then (subM x6 (.int 1)).bind fun z14 => .ok z14 else .ok z10).bind fun v_below_15 =>
      (sh__law_marks (k + 1) [z8]).bind fun z16 => (appM v_rooms_here_5 (.tup [v_below_15, z16])).bind fun l17 => .ok l17)
    (fun i (s : List U) => ∃ rs : List Rm, s = rs.map uR ∧ Tree rs ∧ rs.length = i) (rangeU 1 (n - 1)) 1 [.tup [.int (-1), .str (msOf c).s]] ⟨[⟨-1, msOf c⟩], rfl, .one _, rfl⟩ (fun i x s hi hx hs => by
      obtain ⟨rs, rfl, T, hl⟩ := hs
      unfold rangeU at hx
      rw [List.getElem?_map, Option.map_eq_some_iff] at hx
      obtain ⟨j, hj, rfl⟩ := hx
      obtain ⟨h3, h4⟩ := List.getElem?_eq_some_iff.mp hj
      rw [List.length_range] at h3
      rw [List.getElem_range] at h4
      subst h4
      have ei : (1 : Int) + ((i - 1 : Nat) : Int) = i := by omega
      rw [ei, addM_int, M.bind_ok]
      obtain ⟨d, ed, hd⟩ := sh_cel (k := k) (ns := ns) (i := a + i) (by omega) (by omega)
      have hm := Int.emod_nonneg (d / 8) (b := (i : Int)) (by omega)
      have hm2 := Int.emod_lt_of_pos (d / 8) (b := (i : Int)) (by omega)
      rw [ed, M.bind_ok, fdivM_int (by decide) (by decide), M.bind_ok, modM_int (by omega), M.bind_ok, fdivM_int (by decide) (by decide), M.bind_ok, modM_int (by decide), M.bind_ok, eqM_int, M.bind_ok]
      refine Ok.bind (P := fun u => ∃ b : Int, u = .int b ∧ 0 ≤ b ∧ b < i) (Ok.ite (fun _ => ⟨_, rfl, _, rfl, by omega, by omega⟩) fun _ => ⟨_, rfl, _, rfl, hm, hm2⟩) ?_
      rintro _ ⟨b, rfl, hb, hb2⟩
      rw [sh_marks, M.bind_ok, appM_ok (by rw [List.length_map]; omega), M.bind_ok]
      exact ⟨_, rfl, rs ++ [⟨b, msOf d⟩], by simp [uR], T.put hb (by show b < rs.length; omega), by simp [hl]⟩)
  refine ⟨rs, ?_, T, by rw [hl, rangeU_len]; omega⟩
  exact congrArg (fun m : M (List U) => m.bind fun v => M.ok v) e

/-- by how many rooms one comes from k down to r; 0: not at all -/
def dn (p : Nat → Nat) (r k : Nat) : Nat := if k ≤ r then 0 else if p k = r then 1 else if h : p k < k then (match dn p r (p k) with
  | 0 => 0
  | d + 1 => d + 2) else 0
termination_by k
theorem dn_le {p : Nat → Nat} {r k : Nat} (h : k ≤ r) : dn p r k = 0 := by rw [dn, if_pos h]
theorem dn_kid {p : Nat → Nat} {r k : Nat} (h : r < k) (e : p k = r) : dn p r k = 1 := by rw [dn, if_neg (by omega), if_pos e]
theorem dn_far {p : Nat → Nat} {r k : Nat} (h : r < k) (e : p k ≠ r) (hp : p k < k) : dn p r k = if dn p r (p k) = 0 then 0 else dn p r (p k) + 1 := by
  rw [dn, if_neg (by omega), if_neg e, dif_pos hp]
  cases dn p r (p k) <;> simp
theorem dn_pos {p : Nat → Nat} {r k : Nat} (h : 0 < dn p r k) : r < k := by
  rcases Nat.lt_or_ge r k with z | z
  · exact z
  · rw [dn_le z] at h; omega
theorem dn_up {p : Nat → Nat} (hp : ∀ k, 0 < k → p k < k) {r c : Nat} (hc : r < c) (e : p c = r) : ∀ k, 0 < dn p c k → dn p r k = dn p c k + 1 := by
  intro k
  induction k using Nat.strongRecOn with
  | _ k ih =>
    intro h
    have hk := dn_pos h
    have hpk := hp k (by omega)
    by_cases e1 : p k = c
    · rw [dn_kid hk e1, dn_far (by omega) (by omega) hpk, e1, dn_kid hc e]; rfl
    · rw [dn_far hk e1 hpk] at h ⊢
      by_cases z : dn p c (p k) = 0
      · rw [if_pos z] at h; omega
      · rw [if_neg z]
        have := ih (p k) hpk (by omega)
        have hz := dn_pos (Nat.pos_of_ne_zero z)
        rw [dn_far (by omega) (by omega) hpk, this, if_neg (by omega)]

theorem fmax_ge : ∀ (ns : List Int) (n x : Int), x = n ∨ x ∈ ns → x ≤ ns.foldl max n
  | [], n, x, h => by rcases h with rfl | h
                      · exact Int.le_refl _
                      · simp at h
  | m :: ns, n, x, h => by
    rw [List.foldl_cons]
    rcases h with rfl | h
    · exact Int.le_trans (Int.le_max_left _ m) (fmax_ge ns (max x m) _ (.inl rfl))
    · rcases List.mem_cons.mp h with rfl | h
      · exact Int.le_trans (Int.le_max_right n _) (fmax_ge ns _ _ (.inl rfl))
      · exact fmax_ge ns _ _ (.inr h)
theorem fmax_mem : ∀ (ns : List Int) (n : Int), ns.foldl max n = n ∨ ns.foldl max n ∈ ns
  | [], n => .inl rfl
  | m :: ns, n => by
    rw [List.foldl_cons]
    rcases fmax_mem ns (max n m) with h | h
    · rw [h]
      rcases Int.le_total n m with z | z
      · exact .inr (by rw [Int.max_eq_right z]; exact List.mem_cons_self ..)
      · exact .inl (Int.max_eq_left z)
    · exact .inr (List.mem_cons_of_mem _ h)
theorem asInts_map (is : List Int) : asInts (is.map .int) = some is := by
  induction is with
  | nil => rfl
  | cons a is ih => rw [List.map_cons, asInts, ih]; rfl
theorem maxlM_is {ns : List Int} {m : Int} (hm : m ∈ ns) (h : ∀ x ∈ ns, x ≤ m) : maxlM (.lst (ns.map .int)) = .ok (.int m) := by
  unfold maxlM itemsL
  dsimp only
  rw [asInts_map]
  cases ns with
  | nil => simp at hm
  | cons n ns =>
    show M.ok _ = _
    congr 2
    apply Int.le_antisymm
    · rcases fmax_mem ns n with e | e
      · rw [e]; exact h _ (List.mem_cons_self ..)
      · exact h _ (List.mem_cons_of_mem _ e)
    · exact fmax_ge ns n m (List.mem_cons.mp hm)
theorem ints_pl (is : List Int) : PyData.plainAll (pyUs (is.map .int)) = true := by
  induction is with
  | nil => rfl
  | cons a is ih => rw [List.map_cons, pyUs, PyData.plainAll, ih]; rfl
theorem ints_dp (is : List Int) : PyData.depthAll (pyUs (is.map .int)) = 0 := by
  induction is with
  | nil => rfl
  | cons a is ih => rw [List.map_cons, pyUs, PyData.depthAll, ih]; rfl
theorem int_eqv (i j : Int) : PyData.eqv (.int i) (.int j) = decide (i = j) := by
  have := eqM_int (i := i) (j := j)
  unfold eqM at this
  rw [if_pos (by simp [pl, dp, pyU, PyData.plain, PyData.depth])] at this
  exact M.ok.inj this
theorem inM_int {i : Int} {is : List Int} : inM (.int i) (.lst (is.map .int)) = .ok (decide (i ∈ is)) := by
  unfold inM
  dsimp only [seqU]
  rw [if_pos (by rw [ints_pl, ints_dp]; rfl)]
  congr 1
  rw [List.any_map, Bool.eq_iff_iff, List.any_eq_true, decide_eq_true_eq]
  constructor
  · rintro ⟨j, hj, e⟩
    have e : PyData.eqv (.int j) (.int i) = true := e
    rw [int_eqv, decide_eq_true_eq] at e; rw [← e]; exact hj
  · intro h
    exact ⟨i, h, by show PyData.eqv (.int i) (.int i) = true; rw [int_eqv]; simp⟩
theorem eqM_ints {is : List Int} : eqM (.lst (is.map .int)) (.lst (is.map .int)) = .ok true :=
  eqM_rfl (pl_lst (ints_pl is)) (by have := dp_lst (n := 0) (us := is.map .int) (by rw [ints_dp]; exact Nat.le_refl _); omega)
theorem setM_get {us : List U} {k : Nat} {y : U} (h : k < us.length) : setM us (.int (k : Int)) y = .ok (us.set k y) := by
  unfold setM
  dsimp only
  have e : ixN us.length (k : Int) = some k := by
    unfold L2.ixN
    rw [if_pos (by omega), if_pos (by exact_mod_cast h)]; simp
  rw [e]
theorem max2_int {a b : Int} : max2M (.int a) (.int b) = .ok (.int (max a b)) := rfl
theorem rng1 {n : Nat} (h : n < 1000000) : range1M (.int (n : Int)) = .ok ((List.range n).map fun i => .int (i : Nat)) := by
  rw [range1M_int (by omega) (by omega)]
  unfold rangeU
  simp

def Bop.ev : Bop → Bool → Bool → Bool
  | .and, a, b => a && b
  | .or, a, b => a || b
  | .iff, a, b => !a || b
def mk (rs : List Rm) (k : Nat) (l : Lt) : Bool := match rs[k]? with
  | some x => x.m.has l
  | none => false
/-- whether a saying holds in a room -/
def val (rs : List Rm) : Sy → Nat → Bool
  | .no, _ => false
  | .lt l, k => mk rs k l
  | .not a, k => !val rs a k
  | .shown a, k => (List.range rs.length).all fun j => !decide (0 < dn (par rs) k j) || val rs a j
  | .bin o a b, k => o.ev (val rs a k) (val rs b k)
def blsU (n : Nat) (f : Nat → Bool) : List U := (List.range n).map fun k => .bl (f k)
theorem blsU_len {n : Nat} {f : Nat → Bool} : (blsU n f).length = n := by unfold blsU; simp
theorem blsU_get {n k : Nat} {f : Nat → Bool} (h : k < n) : (blsU n f)[k]? = some (.bl (f k)) := by unfold blsU; rw [List.getElem?_map, List.getElem?_range h]; rfl
theorem blsU_ix {n k : Nat} {f : Nat → Bool} (h : k < n) : ixM (.lst (blsU n f)) (.int (k : Int)) = .ok (.bl (f k)) := ixM_get rfl (blsU_get h)
theorem blsU_bls {n : Nat} {f : Nat → Bool} : blsU n f = ((List.range n).map f).map .bl := by unfold blsU; rw [List.map_map]; rfl
theorem blsU_ext {n : Nat} {f g : Nat → Bool} (h : ∀ k, k < n → f k = g k) : blsU n f = blsU n g := by
  unfold blsU
  exact List.map_congr_left fun k hk => by rw [h k (List.mem_range.mp hk)]
theorem map_rng {α β : Type} (f : α → β) (rs : List α) (d : β) : rs.map f = (List.range rs.length).map fun k => match rs[k]? with
  | some x => f x
  | none => d := by
  apply List.ext_getElem?
  intro i
  by_cases h : i < rs.length
  · rw [List.getElem?_map, List.getElem?_map, List.getElem?_range h, List.getElem?_eq_getElem h]
    simp only [Option.map_some, List.getElem?_eq_getElem h]
  · rw [List.getElem?_eq_none (by simp; omega), List.getElem?_eq_none (by simp; omega)]
theorem zip_bls {n : Nat} {f g : Nat → Bool} : zipU (blsU n f) (blsU n g) = (List.range n).map fun k => .tup [.bl (f k), .bl (g k)] := by
  unfold zipU blsU
  rw [List.zipWith_map]
  induction List.range n with
  | nil => rfl
  | cons a l ih => rw [List.zipWith_cons_cons, List.map_cons, ih]
theorem sh_join {k n : Nat} {o : Bop} {f g : Nat → Bool} (hn : n < 1000000) : sh_joined (k + 1) [.str o.s, .lst (blsU n f), .lst (blsU n g)] = .ok (blsU n fun k => o.ev (f k) (g k)) := by
  have hl : (List.range n).length < 10000000 := by simp; omega
  rw [sh_joined]
  cases o
  · rw [eqM_str, show decide (Bop.s .and = ("and" : Str)) = true from by decide, M.bind_ok, if_pos rfl, zipM_lst, zip_bls, M.bind_ok, compM_ok (fun k : Nat => U.tup [.bl (f k), .bl (g k)]) (fun k => .bl (f k && g k)) hl (fun i _ => by
      rw [un2_ok, M.bind_ok]; dsimp only; rw [boolM_bl, M.bind_ok]; cases f i <;> rfl)]; rfl
  · rw [eqM_str, show decide (Bop.s .or = ("and" : Str)) = false from by decide, M.bind_ok, if_neg (by simp), eqM_str, show decide (Bop.s .or = ("or" : Str)) = true from by decide, M.bind_ok, if_pos rfl, zipM_lst, zip_bls, M.bind_ok, compM_ok (fun k : Nat => U.tup [.bl (f k), .bl (g k)]) (fun k => .bl (f k || g k)) hl (fun i _ => by
      rw [un2_ok, M.bind_ok]; dsimp only; rw [boolM_bl, M.bind_ok]; cases f i <;> rfl)]; rfl
  · rw [eqM_str, show decide (Bop.s .iff = ("and" : Str)) = false from by decide, M.bind_ok, if_neg (by simp), eqM_str, show decide (Bop.s .iff = ("or" : Str)) = false from by decide, M.bind_ok, if_neg (by simp), zipM_lst, zip_bls, M.bind_ok, compM_ok (fun k : Nat => U.tup [.bl (f k), .bl (g k)]) (fun k => .bl (!f k || g k)) hl (fun i _ => by
      rw [un2_ok, M.bind_ok]; dsimp only; rw [boolM_bl, M.bind_ok]; cases f i <;> rfl)]; rfl
theorem rrng1 {n : Nat} (h : n < 1000000) : rrng1M (.int (n : Int)) = .ok (downU ((n : Int) - 1) n) := by
  unfold rrng1M
  dsimp only
  unfold bd
  rw [if_pos (by rw [p62]; simp only [Bool.and_eq_true, decide_eq_true_eq]; omega)]
  congr 2
theorem sh_allup {k : Nat} {rs : List Rm} (T : Tree rs) (hl : rs.length < 1000000) {f : Nat → Bool} : sh_all_above (k + 1) [.lst (rs.map uR), .lst (blsU rs.length f)] = .ok (blsU rs.length fun r => (List.range rs.length).all fun j => !decide (0 < dn (par rs) r j) || f j) := by
  rw [sh_all_above, iterL_lst, M.bind_ok, compM_ok uR (fun _ => .bl true) (by omega) (fun _ _ => rfl), M.bind_ok, lenM_lst, M.bind_ok, List.length_map, rrng1 hl, M.bind_ok]
  obtain ⟨_, e, hs, rfl, h1, h2⟩ := forN_inv (f := fun v_held_6 x7 => (ixM (.lst (rs.map uR)) x7).bind fun z8 => (ixM z8 (.int 0)).bind fun z9 =>
      (((geM z9 (.int 0)).bind fun b10 => if b10 then ((ixM (.lst (blsU rs.length f)) x7).bind fun z11 => (boolM z11).bind fun b12 => if b12 then (ixM (.lst v_held_6) x7).bind fun z13 => (boolM z13).bind fun b14 => .ok b14 else .ok false).bind fun b15 => .ok (!b15) else .ok false).bind fun b16 =>
        if b16 then (setM v_held_6 z9 (.bl false)).bind fun l17 => .ok l17 else .ok v_held_6).bind fun v_held_18 => .ok v_held_18)
    (fun i (s : List U) => ∃ hs : List Bool, s = hs.map .bl ∧ hs.length = rs.length ∧ ∀ r, r < rs.length → (hs.getD r false = true ↔ ∀ c, rs.length - i ≤ c → 0 < c → c < rs.length → par rs c = r → f c = true ∧ hs.getD c false = true))
    (downU ((rs.length : Int) - 1) rs.length) 0 (rs.map fun _ => .bl true) ⟨rs.map fun _ => true, by simp, by simp, fun r hr => ⟨fun _ c h _ h2 => by omega, fun _ => by
      rw [List.getD_eq_getElem?_getD, List.getElem?_map, List.getElem?_eq_getElem hr]; rfl⟩⟩ (fun i x s _ hx hs => by
      obtain ⟨hs, rfl, h1, h2⟩ := hs
      unfold downU at hx
      rw [Nat.sub_zero, List.getElem?_map, Option.map_eq_some_iff] at hx
      obtain ⟨j, hj, rfl⟩ := hx
      obtain ⟨h4, h5⟩ := List.getElem?_eq_some_iff.mp hj
      rw [List.length_range] at h4
      rw [List.getElem_range] at h5
      subst h5
      have ei : (rs.length : Int) - 1 - (i : Nat) = ((rs.length - 1 - i : Nat) : Int) := by omega
      rw [ei]
      generalize hc : rs.length - 1 - i = c at *
      have hcl : c < rs.length := by omega
      have gx : ixM (.lst (hs.map U.bl)) (.int (c : Int)) = .ok (.bl (hs.getD c false)) := by
        refine ixM_get rfl ?_
        rw [List.getElem?_map, List.getD_eq_getElem?_getD, List.getElem?_eq_getElem (by omega)]; rfl
      rw [ix_room hcl, M.bind_ok, uR_0, M.bind_ok, geM_int, M.bind_ok, blsU_ix hcl, M.bind_ok, boolM_bl, M.bind_ok, gx, M.bind_ok, boolM_bl, M.bind_ok]
      rcases Nat.eq_zero_or_pos c with hc0 | hc0
      · subst hc0
        have hb := T.top _ (List.getElem?_eq_getElem hcl)
        rw [hb, show decide ((0 : Int) ≤ -1) = false from by decide, if_neg (by simp), M.bind_ok, if_neg (by simp), M.bind_ok]
        refine ⟨_, rfl, hs, rfl, h1, fun r hr => (h2 r hr).trans ⟨fun h c a b d e => h c (by omega) b d e, fun h c a b d e => h c (by omega) b d e⟩⟩
      · obtain ⟨p1, p2⟩ := T.par hc0 hcl
        rw [p1, decide_eq_true (by omega), if_pos rfl]
        have em : ((if f c = true then M.ok (hs.getD c false) else M.ok false) : M Bool) = .ok (f c && hs.getD c false) := by cases f c <;> rfl
        rw [em, M.bind_ok, M.bind_ok]
        have gs : ∀ q, (hs.set (par rs c) false).getD q false = if par rs c = q then false else hs.getD q false := fun q => by
          rw [List.getD_eq_getElem?_getD, List.getElem?_set]
          by_cases z : par rs c = q
          · rw [if_pos z, if_pos (by omega), if_pos z]; rfl
          · rw [if_neg z, if_neg z, List.getD_eq_getElem?_getD]
        cases hb : f c && hs.getD c false with
        | false =>
          rw [Bool.not_false, if_pos rfl, setM_get (by rw [List.length_map]; omega), M.bind_ok, M.bind_ok]
          refine ⟨_, rfl, hs.set (par rs c) false, by rw [List.map_set], by rw [List.length_set, h1], fun r hr => ?_⟩
          rw [gs]
          by_cases z : par rs c = r
          · rw [if_pos z]
            refine ⟨fun h => by simp at h, fun h => ?_⟩
            have := h c (by omega) hc0 hcl z
            rw [gs, if_neg (by omega)] at this
            rw [this.1, this.2] at hb
            cases hb
          · rw [if_neg z, h2 r hr]
            constructor
            · intro h d d1 d2 d3 d4
              have hd : d ≠ c := fun e => by subst e; exact z d4
              have := h d (by omega) d2 d3 d4
              rw [gs, if_neg (by omega)]
              exact this
            · intro h d d1 d2 d3 d4
              have := h d (by omega) d2 d3 d4
              rw [gs, if_neg (by omega)] at this
              exact this
        | true =>
          rw [Bool.not_true, if_neg (by simp), M.bind_ok]
          rw [Bool.and_eq_true] at hb
          refine ⟨_, rfl, hs, rfl, h1, fun r hr => (h2 r hr).trans ⟨fun h d d1 d2 d3 d4 => ?_, fun h d d1 d2 d3 d4 => h d (by omega) d2 d3 d4⟩⟩
          by_cases e : d = c
          · subst e; exact hb
          · exact h d (by omega) d2 d3 d4)
  have e4 : rs.length - (0 + (downU ((rs.length : Int) - 1) rs.length).length) = 0 := by unfold downU; simp
  rw [e4] at h2
  have q : ∀ r, r < rs.length → (hs.getD r false = true ↔ ∀ c, 0 < c → c < rs.length → par rs c = r → f c = true ∧ hs.getD c false = true) := fun r hr => (h2 r hr).trans ⟨fun h c a b d => h c (Nat.zero_le _) a b d, fun h c _ a b d => h c a b d⟩
  have up : ∀ r, r < rs.length → hs.getD r false = true → ∀ j, j < rs.length → 0 < dn (par rs) r j → f j = true ∧ hs.getD j false = true := by
    intro r hr h j
    induction j using Nat.strongRecOn with
    | _ j ih =>
      intro hj hd
      have z := dn_pos hd
      obtain ⟨p1, p2⟩ := T.par (k := j) (by omega) hj
      by_cases e1 : par rs j = r
      · exact (q r hr).mp h j (by omega) hj e1
      · rw [dn_far z e1 p2] at hd
        by_cases z2 : dn (par rs) r (par rs j) = 0
        · rw [if_pos z2] at hd; omega
        · have := ih _ p2 (by omega) (by omega)
          exact (q _ (by omega)).mp this.2 j (by omega) hj rfl
  have dw : ∀ (m r : Nat), rs.length - r ≤ m → r < rs.length → (∀ j, j < rs.length → 0 < dn (par rs) r j → f j = true) → hs.getD r false = true := by
    intro m
    induction m with
    | zero => intro r h1 h2; omega
    | succ m ih =>
      intro r hm hr h
      refine (q r hr).mpr fun c c1 c2 c3 => ?_
      have hrc : r < c := by have := (T.par c1 c2).2; omega
      refine ⟨h c c2 (by rw [dn_kid hrc c3]; omega), ih c (by omega) c2 fun j hj hd => h j hj ?_⟩
      rw [dn_up (fun k hk => T.par_lt hk) hrc c3 j hd]; omega
  refine Eq.trans (congrArg (fun m : M (List U) => m.bind fun v => M.ok v) e) ?_
  rw [M.bind_ok]
  congr 1
  apply List.ext_getElem?
  intro r
  by_cases hr : r < rs.length
  · rw [blsU_get hr, List.getElem?_map, List.getElem?_eq_getElem (by omega)]
    have : hs[r]'(by omega) = hs.getD r false := by rw [List.getD_eq_getElem?_getD, List.getElem?_eq_getElem (by omega)]; rfl
    rw [this, Option.map_some]
    congr 2
    rw [Bool.eq_iff_iff, List.all_eq_true]
    constructor
    · intro h j hj
      have hj := List.mem_range.mp hj
      by_cases hd : 0 < dn (par rs) r j
      · rw [(up r hr h j hj hd).1, Bool.or_true]
      · rw [decide_eq_false hd]; rfl
    · intro h
      refine dw _ r (Nat.le_refl _) hr fun j hj hd => ?_
      have := h j (List.mem_range.mpr hj)
      rw [decide_eq_true hd] at this
      simpa using this
  · rw [List.getElem?_eq_none (by simp; omega), List.getElem?_eq_none (by rw [blsU_len]; omega)]
/-- where a saying holds -/
theorem sh_truths {rs : List Rm} (T : Tree rs) (hl : rs.length < 1000000) : ∀ (s : Sy) (k : Nat), s.ht ≤ k → sh_truths_in (k + 1) [.lst (rs.map uR), su s, .dic [] []] = .ok (blsU rs.length (val rs s))
  | .no, k, _ => by
    rw [sh_truths_in, ix_su0, M.bind_ok, eqM_str, show decide (wd Sy.no = ("no" : Str)) = true from by decide, M.bind_ok, if_pos rfl, iterL_lst, M.bind_ok, compM_ok uR (fun _ => .bl false) (by omega) (fun _ _ => rfl), M.bind_ok]
    congr 1
    rw [map_rng (fun _ => U.bl false) rs (.bl false)]
    exact List.map_congr_left fun k _ => by show _ = U.bl (val rs .no k); cases rs[k]? <;> rfl
  | .lt l, k, _ => by
    rw [sh_truths_in, ix_su0, M.bind_ok, eqM_str, show decide (wd (Sy.lt l) = ("no" : Str)) = false from by show decide (("letter" : Str) = "no") = false; decide, M.bind_ok, if_neg (by simp), eqM_str, show decide (wd (Sy.lt l) = ("letter" : Str)) = true from by show decide (("letter" : Str) = "letter") = true; decide, M.bind_ok, if_pos rfl,
      show ixM (su (.lt l)) (.int 1) = .ok (.str l.s) from ix_t1, M.bind_ok, show inM (.str l.s) (.dic [] []) = .ok false from rfl, M.bind_ok, if_neg (by simp), iterL_lst, M.bind_ok, compM_ok uR (fun x => .bl (x.m.has l)) (by omega) (fun x _ => by
        unfold uR
        rw [un2_ok, M.bind_ok]; dsimp only
        rw [M.bind_ok, vB_ok, show inM (.str l.s) (.str x.m.s) = .ok (strIn l.s x.m.s) from rfl, strIn_ms]; rfl), M.bind_ok]
    congr 1
    rw [map_rng (fun x : Rm => U.bl (x.m.has l)) rs (.bl false)]
    exact List.map_congr_left fun k _ => by show _ = U.bl (mk rs k l); unfold mk; cases rs[k]? <;> rfl
  | .not a, k, h => by
    obtain ⟨k, rfl⟩ : ∃ m, k = m + 1 := ⟨k - 1, by have := Sy.ht_pos a; simp only [Sy.ht] at h; omega⟩
    have ih := sh_truths T hl a k (by simp only [Sy.ht] at h; omega)
    rw [sh_truths_in, ix_su0, M.bind_ok, eqM_str, show decide (wd (Sy.not a) = ("no" : Str)) = false from by show decide (("not" : Str) = "no") = false; decide, M.bind_ok, if_neg (by simp), eqM_str, show decide (wd (Sy.not a) = ("letter" : Str)) = false from by show decide (("not" : Str) = "letter") = false; decide, M.bind_ok, if_neg (by simp),
      show ixM (su (.not a)) (.int 1) = .ok (su a) from ix_t1, M.bind_ok, ih, M.bind_ok, eqM_str, show decide (wd (Sy.not a) = ("not" : Str)) = true from by show decide (("not" : Str) = "not") = true; decide, M.bind_ok, if_pos rfl, iterL_lst, M.bind_ok]
    unfold blsU
    rw [compM_ok (fun k : Nat => .bl (val rs a k)) (fun k => .bl (!val rs a k)) (by simp; omega) (fun _ _ => rfl), M.bind_ok]
    rfl
  | .shown a, k, h => by
    obtain ⟨k, rfl⟩ : ∃ m, k = m + 1 := ⟨k - 1, by have := Sy.ht_pos a; simp only [Sy.ht] at h; omega⟩
    have ih := sh_truths T hl a k (by simp only [Sy.ht] at h; omega)
    rw [sh_truths_in, ix_su0, M.bind_ok, eqM_str, show decide (wd (Sy.shown a) = ("no" : Str)) = false from by show decide (("shown" : Str) = "no") = false; decide, M.bind_ok, if_neg (by simp), eqM_str, show decide (wd (Sy.shown a) = ("letter" : Str)) = false from by show decide (("shown" : Str) = "letter") = false; decide, M.bind_ok, if_neg (by simp),
      show ixM (su (.shown a)) (.int 1) = .ok (su a) from ix_t1, M.bind_ok, ih, M.bind_ok, eqM_str, show decide (wd (Sy.shown a) = ("not" : Str)) = false from by show decide (("shown" : Str) = "not") = false; decide, M.bind_ok, if_neg (by simp), eqM_str, show decide (wd (Sy.shown a) = ("shown" : Str)) = true from by show decide (("shown" : Str) = "shown") = true; decide, M.bind_ok, if_pos rfl]
    rw [sh_allup T hl]; rfl
  | .bin o a b, k, h => by
    obtain ⟨k, rfl⟩ : ∃ m, k = m + 1 := ⟨k - 1, by have := Sy.ht_pos a; simp only [Sy.ht] at h; omega⟩
    have iha := sh_truths T hl a k (by simp only [Sy.ht] at h; omega)
    have ihb := sh_truths T hl b k (by simp only [Sy.ht] at h; omega)
    have ew : ∀ w : String, w ∈ ["no", "letter", "not", "shown"] → decide (wd (Sy.bin o a b) = Str.ofString w) = false := fun w hw => by
      show decide (o.s = Str.ofString w) = false
      simp only [List.mem_cons, List.not_mem_nil, or_false] at hw
      rcases hw with rfl | rfl | rfl | rfl <;> cases o <;> decide
    rw [sh_truths_in, ix_su0, M.bind_ok, eqM_str, ew _ (by decide), M.bind_ok, if_neg (by simp), eqM_str, ew _ (by decide), M.bind_ok, if_neg (by simp),
      show ixM (su (.bin o a b)) (.int 1) = .ok (su a) from ix_t1, M.bind_ok, iha, M.bind_ok, eqM_str, ew _ (by decide), M.bind_ok, if_neg (by simp), eqM_str, ew _ (by decide), M.bind_ok, if_neg (by simp), show ixM (su (.bin o a b)) (.int 2) = .ok (su b) from ix_t2, M.bind_ok, ihb, M.bind_ok]
    rw [show wd (Sy.bin o a b) = o.s from rfl, sh_join hl]; rfl
theorem sh_holds {k : Nat} {rs : List Rm} (T : Tree rs) (hl : rs.length < 1000000) {s : Sy} (h : s.ht ≤ k) {c : Str} (hc : tcs.contains c = true) : sh_Tree_holds (k + 2) [.ins c [.lst (rs.map uR)], su s] = .ok (blsU rs.length (val rs s)) := by
  rw [sh_Tree_holds, fldP_ok hc, M.bind_ok, sh_truths T hl s k h]; rfl

theorem bls_pl : ∀ bs : List Bool, PyData.plainAll (pyUs (bs.map .bl)) = true
  | [] => rfl
  | b :: bs => by rw [List.map_cons, pyUs, PyData.plainAll, bls_pl bs]; rfl
theorem bls_dp : ∀ bs : List Bool, PyData.depthAll (pyUs (bs.map .bl)) = 0
  | [] => rfl
  | b :: bs => by rw [List.map_cons, pyUs, PyData.depthAll, bls_dp bs]; rfl
theorem eqM_bls {bs : List Bool} : eqM (.lst (bs.map .bl)) (.lst (bs.map .bl)) = .ok true :=
  eqM_rfl (pl_lst (bls_pl bs)) (by have := dp_lst (n := 0) (us := bs.map .bl) (by rw [bls_dp]; exact Nat.le_refl _); omega)

theorem sh_ar {k n : Nat} {f : Nat → Bool} (hn : n < 1000000) : sh__law_are (k + 1) [.lst (blsU n f), .lst (blsU n f)] = .ok (.bl true) := by
  rw [sh__law_are, isi_lst, M.bind_ok, boolM_bl, M.bind_ok]
  simp only [Bool.not_true, Bool.false_eq_true, if_false]
  rw [lenM_lst, M.bind_ok, M.bind_ok, nB_ok, eqM_int, decide_eq_true rfl, M.bind_ok, M.bind_ok, M.bind_ok]
  simp only [Bool.not_true, Bool.false_eq_true, if_false]
  have e : blsU n f = (List.range n).map fun k => .bl (f k) := rfl
  rw [e, iterL_lst, M.bind_ok, compM_ok (fun k : Nat => .bl (f k)) (fun _ => .bl true) (by simp; omega) (fun _ _ => rfl), M.bind_ok, show ((List.range n).map fun _ => U.bl true) = ((List.range n).map fun _ => true).map .bl by rw [List.map_map]; rfl, allM_bls]
  have e3 : ((List.range n).map fun _ => true).all id = true := by simp
  rw [e3, M.bind_ok, boolM_bl, M.bind_ok, if_pos rfl, ← e, blsU_bls, vB_ok, eqM_bls]; rfl

/-- sayings put for letters -/
def subS (g : Lt → Sy) : Sy → Sy
  | .no => .no
  | .lt l => g l
  | .not a => .not (subS g a)
  | .shown a => .shown (subS g a)
  | .bin o a b => .bin o (subS g a) (subS g b)
theorem subS_ht {g : Lt → Sy} {n : Nat} (h : ∀ l, (g l).ht ≤ n) : ∀ s : Sy, (subS g s).ht ≤ s.ht + n
  | .no => by simp only [subS]; omega
  | .lt l => by have := h l; simp only [subS]; omega
  | .not a => by have := subS_ht h a; simp only [subS, Sy.ht]; omega
  | .shown a => by have := subS_ht h a; simp only [subS, Sy.ht]; omega
  | .bin o a b => by have := subS_ht h a; have := subS_ht h b; simp only [subS, Sy.ht]; omega
theorem val_subS {rs rs' : List Rm} (hl : rs'.length = rs.length) (hp : par rs' = par rs) {g : Lt → Sy} (hg : ∀ l k, k < rs.length → mk rs' k l = val rs (g l) k) : ∀ (s : Sy) (k : Nat), k < rs.length → val rs' s k = val rs (subS g s) k
  | .no, _, _ => rfl
  | .lt l, k, h => hg l k h
  | .not a, k, h => by show (!val rs' a k) = !val rs (subS g a) k; rw [val_subS hl hp hg a k h]
  | .shown a, k, h => by
    show ((List.range rs'.length).all fun j => !decide (0 < dn (par rs') k j) || val rs' a j) = (List.range rs.length).all fun j => !decide (0 < dn (par rs) k j) || val rs (subS g a) j
    rw [hl, hp, Bool.eq_iff_iff, List.all_eq_true, List.all_eq_true]
    constructor
    · intro H j hj
      have := H j hj
      rw [val_subS hl hp hg a j (List.mem_range.mp hj)] at this
      exact this
    · intro H j hj
      rw [val_subS hl hp hg a j (List.mem_range.mp hj)]
      exact H j hj
  | .bin o a b, k, h => by show o.ev _ _ = o.ev _ _; rw [val_subS hl hp hg a k h, val_subS hl hp hg b k h]
/-- the dict of sayings for letters -/
def dKs (ps : List (Lt × Sy)) : List Key := ps.map fun p => .inr p.1.s
def dUs (ps : List (Lt × Sy)) : List U := ps.map fun p => su p.2
def lk (ps : List (Lt × Sy)) (l : Lt) : Option Sy := (ps.find? fun p => decide (p.1 = l)).map (·.2)
def gp (ps : List (Lt × Sy)) (l : Lt) : Sy := (lk ps l).getD (.lt l)
theorem uLook_lk : ∀ (ps : List (Lt × Sy)) (l : Lt), uLook (dKs ps) (dUs ps) (.inr l.s) = (lk ps l).map su
  | [], l => rfl
  | (m, s) :: ps, l => by
    have ih := uLook_lk ps l
    unfold uLook lk dKs dUs at ih ⊢
    rw [List.map_cons, List.map_cons, List.zip_cons_cons, List.find?_cons, List.find?_cons]
    have e : decide ((.inr m.s : Key) = .inr l.s) = decide (m = l) := by cases m <;> cases l <;> decide +kernel
    dsimp only
    rw [e]
    cases decide (m = l) with
    | false => exact ih
    | true => rfl
theorem sh_putL (ps : List (Lt × Sy)) : ∀ (k : Nat) (s : Sy), s.ht ≤ k → sh_put k [su s, .dic (dKs ps) (dUs ps)] = .ok (su (subS (gp ps) s))
  | 0, s, h => by have := Sy.ht_pos s; omega
  | k + 1, s, h => by
    rw [sh_put]
    cases s with
    | no => rfl
    | lt l =>
      have eg : getdM (.dic (dKs ps) (dUs ps)) (.str l.s) (su (.lt l)) = .ok (su (gp ps l)) := by
        show M.ok ((uLook (dKs ps) (dUs ps) (.inr l.s)).getD (su (.lt l))) = _
        rw [uLook_lk]; unfold gp; cases lk ps l <;> rfl
      rw [ix_su0, M.bind_ok, eqM_str, show decide (wd (Sy.lt l) = ("no" : Str)) = false from by show decide (("letter" : Str) = "no") = false; decide, M.bind_ok, if_neg (by simp), M.bind_ok, eqM_str, show decide (wd (Sy.lt l) = ("letter" : Str)) = true from by show decide (("letter" : Str) = "letter") = true; decide, M.bind_ok, if_pos rfl, asD_ok, M.bind_ok]
      dsimp only
      rw [show ixM (su (.lt l)) (.int 1) = .ok (.str l.s) from ix_t1, M.bind_ok, eg]; rfl
    | not a =>
      simp only [Sy.ht] at h
      have e := kids1 (f := fun x13 => (sh_put k [x13, .dic (dKs ps) (dUs ps)]).bind fun z15 => .ok z15) (a := su a) (b := su (subS (gp ps) a)) (by rw [sh_putL ps k a (by omega)]; rfl)
      simp only [su, ix_t0, M.bind_ok, eqM_str, ofS_inj, String.reduceEq, decide_false, Bool.false_eq_true, if_false, endM_int, slM_tail, iterT_tup, e, addM_lst (us := [.str "not"]) (vs := [su (subS (gp ps) a)]) (by simp), tupleM_lst, subS]
      rfl
    | shown a =>
      simp only [Sy.ht] at h
      have e := kids1 (f := fun x13 => (sh_put k [x13, .dic (dKs ps) (dUs ps)]).bind fun z15 => .ok z15) (a := su a) (b := su (subS (gp ps) a)) (by rw [sh_putL ps k a (by omega)]; rfl)
      simp only [su, ix_t0, M.bind_ok, eqM_str, ofS_inj, String.reduceEq, decide_false, Bool.false_eq_true, if_false, endM_int, slM_tail, iterT_tup, e, addM_lst (us := [.str "shown"]) (vs := [su (subS (gp ps) a)]) (by simp), tupleM_lst, subS]
      rfl
    | bin o a b =>
      simp only [Sy.ht] at h
      have e := kids2 (f := fun x13 => (sh_put k [x13, .dic (dKs ps) (dUs ps)]).bind fun z15 => .ok z15) (a := su a) (b := su b) (c := su (subS (gp ps) a)) (d := su (subS (gp ps) b)) (by rw [sh_putL ps k a (by omega)]; rfl) (by rw [sh_putL ps k b (by omega)]; rfl)
      cases o <;>
      · simp only [su, Bop.s, ix_t0, M.bind_ok, eqM_str, ofS_inj, String.reduceEq, decide_false, Bool.false_eq_true, if_false, endM_int, slM_tail, iterT_tup, e, addM_lst (us := [_]) (vs := [su (subS (gp ps) a), su (subS (gp ps) b)]) (by simp), tupleM_lst, subS]
        rfl
/-- the rooms marked anew -/
def qm (rs : List Rm) (f : Lt → Nat → Bool) : List Rm := rs.mapIdx fun k x => ⟨x.b, ⟨f .p k, f .q k, f .r k⟩⟩
theorem qm_len {rs : List Rm} {f : Lt → Nat → Bool} : (qm rs f).length = rs.length := by unfold qm; simp
theorem qm_get {rs : List Rm} {f : Lt → Nat → Bool} {k : Nat} : (qm rs f)[k]? = rs[k]?.map fun x => ⟨x.b, ⟨f .p k, f .q k, f .r k⟩⟩ := by unfold qm; rw [List.getElem?_mapIdx]
theorem qm_par {rs : List Rm} {f : Lt → Nat → Bool} : par (qm rs f) = par rs := by
  funext k
  unfold par
  rw [qm_get]
  cases rs[k]? <;> rfl
theorem qmT {rs : List Rm} (T : Tree rs) (f : Lt → Nat → Bool) : Tree (qm rs f) where
  ne := by rw [qm_len]; exact T.ne
  top := fun x hx => by
    rw [qm_get, Option.map_eq_some_iff] at hx
    obtain ⟨y, hy, rfl⟩ := hx
    exact T.top y hy
  up := fun k x hk hx => by
    rw [qm_get, Option.map_eq_some_iff] at hx
    obtain ⟨y, hy, rfl⟩ := hx
    exact T.up k y hk hy
theorem mk_qm {rs : List Rm} {f : Lt → Nat → Bool} {k : Nat} {l : Lt} (h : k < rs.length) : mk (qm rs f) k l = f l k := by
  unfold mk
  rw [qm_get, List.getElem?_eq_getElem h]
  cases l <;> rfl
theorem in_lk {ps : List (Lt × Sy)} {l : Lt} : inM (ltU l) (.dic (dKs ps) (dUs ps)) = .ok (lk ps l).isSome := by
  show M.ok (uLook (dKs ps) (dUs ps) (.inr l.s)).isSome = _
  rw [uLook_lk]
  cases lk ps l <;> rfl
/-- a turn of the marks -/
noncomputable def mturn (k : Nat) (tree rooms d : U) (v_marks_here_2 : Dc) (x3 : U) : M Dc := ((inM x3 d).bind fun b4 => if b4 then (fldP ["Tree"] tree).bind fun z5 => (ixdM d x3).bind fun z7 => (sh_Tree_holds k [tree, z7]).calm.bind fun z6 => (putM v_marks_here_2 x3 (.lst z6)).bind fun l8 => .ok l8 else (iterL rooms).bind fun it9 => (compM (fun x10 => (ixM x10 (.int 1)).bind fun z12 => ((vB inM) x3 z12).bind fun z13 => .ok z13) it9).bind fun zs11 => (putM v_marks_here_2 x3 (.lst zs11)).bind fun l14 => .ok l14).bind fun v_marks_here_15 => .ok v_marks_here_15
theorem mturn_ok {k : Nat} {rs : List Rm} (T : Tree rs) (hl : rs.length < 1000000) {ps : List (Lt × Sy)} (h : ∀ l, (gp ps l).ht ≤ k) (l : Lt) (m : Dc) (hm : m.1.length < 100) : mturn (k + 2) (.ins "Tree" [.lst (rs.map uR)]) (.lst (rs.map uR)) (.dic (dKs ps) (dUs ps)) m (ltU l) = .ok (putKs m.1 (.inr l.s), putDs m.1 m.2 (.inr l.s) (.lst (blsU rs.length (val rs (gp ps l))))) := by
  have hp : ∀ v : U, putM m (ltU l) v = .ok (putKs m.1 (.inr l.s), putDs m.1 m.2 (.inr l.s) v) := fun v => by
    show sz m.1.length (M.ok _) = _
    rw [sz_ok (by omega)]
  unfold mturn
  rw [in_lk, M.bind_ok]
  cases e : lk ps l with
  | some s =>
    have eg : gp ps l = s := by unfold gp; rw [e]; rfl
    have hs : s.ht ≤ k := eg ▸ h l
    have ei : ixdM (.dic (dKs ps) (dUs ps)) (ltU l) = .ok (su s) := by
      show (match uLook (dKs ps) (dUs ps) (.inr l.s) with | some u => M.ok u | none => .stuck) = _
      rw [uLook_lk, e]; rfl
    have ef : fldP ["Tree"] (.ins "Tree" [.lst (rs.map uR)]) = .ok (.lst (rs.map uR)) := rfl
    rw [if_pos (c := (some s).isSome = true) rfl, ef, M.bind_ok, ei, M.bind_ok, sh_holds T hl hs (c := "Tree") (by decide), M.calm_ok, M.bind_ok, hp, eg, M.bind_ok, M.bind_ok]
  | none =>
    have eg : gp ps l = .lt l := by unfold gp; rw [e]; rfl
    rw [if_neg (by simp), iterL_lst, M.bind_ok, compM_ok uR (fun x => .bl (x.m.has l)) (by omega) (fun x _ => by
      rw [uR_1, M.bind_ok, vB_ok, show inM (ltU l) (.str x.m.s) = .ok (strIn l.s x.m.s) from rfl, strIn_ms]; rfl), M.bind_ok, hp, eg, M.bind_ok, M.bind_ok]
    have ex : (rs.map fun x => U.bl (x.m.has l)) = blsU rs.length (val rs (.lt l)) := by
      rw [map_rng (fun x : Rm => U.bl (x.m.has l)) rs (.bl false)]
      exact List.map_congr_left fun k hk => by show _ = U.bl (mk rs k l); unfold mk; cases rs[k]? <;> rfl
    rw [ex]
theorem sh_mrkd {k : Nat} {rs : List Rm} (T : Tree rs) (hl : rs.length < 1000000) {ps : List (Lt × Sy)} (h : ∀ l, (gp ps l).ht ≤ k) : sh__law_marked (k + 3) [.ins "Tree" [.lst (rs.map uR)], .lst (rs.map uR), .dic (dKs ps) (dUs ps)] = .ok ((qm rs fun l => val rs (gp ps l)).map uR) := by
  have e1 : forN (mturn (k + 2) (.ins "Tree" [.lst (rs.map uR)]) (.lst (rs.map uR)) (.dic (dKs ps) (dUs ps))) ([Lt.p, .q, .r].map ltU) (([], []) : Dc) = .ok (([.inr Lt.p.s, .inr Lt.q.s, .inr Lt.r.s] : List Key), [U.lst (blsU rs.length (val rs (gp ps .p))), .lst (blsU rs.length (val rs (gp ps .q))), .lst (blsU rs.length (val rs (gp ps .r)))]) := by
    rw [List.map_cons, List.map_cons, List.map_cons, List.map_nil, forN, mturn_ok T hl h _ _ (by simp), M.bind_ok]
    have a1 : ∀ u : U, (putKs (([], []) : Dc).1 (.inr Lt.p.s), putDs (([], []) : Dc).1 (([], []) : Dc).2 (.inr Lt.p.s) u) = (([.inr Lt.p.s], [u]) : Dc) := fun u => rfl
    rw [a1, forN, mturn_ok T hl h _ _ (by simp), M.bind_ok]
    have a2 : ∀ u v : U, (putKs (([.inr Lt.p.s], [u]) : Dc).1 (.inr Lt.q.s), putDs (([.inr Lt.p.s], [u]) : Dc).1 (([.inr Lt.p.s], [u]) : Dc).2 (.inr Lt.q.s) v) = (([.inr Lt.p.s, .inr Lt.q.s], [u, v]) : Dc) := fun u v => rfl
    rw [a2, forN, mturn_ok T hl h _ _ (by simp), M.bind_ok]
    have a3 : ∀ u v w : U, (putKs (([.inr Lt.p.s, .inr Lt.q.s], [u, v]) : Dc).1 (.inr Lt.r.s), putDs (([.inr Lt.p.s, .inr Lt.q.s], [u, v]) : Dc).1 (([.inr Lt.p.s, .inr Lt.q.s], [u, v]) : Dc).2 (.inr Lt.r.s) w) = (([.inr Lt.p.s, .inr Lt.q.s, .inr Lt.r.s], [u, v, w]) : Dc) := fun u v w => rfl
    rw [a3, forN]
  generalize hd : (([.inr Lt.p.s, .inr Lt.q.s, .inr Lt.r.s] : List Key), [U.lst (blsU rs.length (val rs (gp ps .p))), .lst (blsU rs.length (val rs (gp ps .q))), .lst (blsU rs.length (val rs (gp ps .r)))]) = dd at e1
  have hx : ∀ l : Lt, ixdM (.dic dd.1 dd.2) (ltU l) = .ok (.lst (blsU rs.length (val rs (gp ps l)))) := fun l => by subst hd; cases l <;> rfl
  obtain ⟨_, e2, e3⟩ := forN_inv (f := fun v_made_18 x19 => (un2 x19).bind fun (v_k_20, v_room_21) => (ixM v_room_21 (.int 0)).bind fun z22 => (iterS (.str "pqr")).bind fun it23 => (compF (fun x24 => (ixdM (.dic dd.1 dd.2) x24).bind fun z26 => (ixM z26 v_k_20).bind fun z27 => (boolM z27).bind fun b28 => .ok b28) (fun x24 => .ok x24) it23).bind fun zs25 => (joinM (.str "") (.lst zs25)).bind fun z29 => (appM v_made_18 (.tup [z22, z29])).bind fun l30 => .ok l30)
    (fun n (made : List U) => made = ((qm rs fun l => val rs (gp ps l)).take n).map uR) (enumU (rs.map uR)) 0 [] rfl (fun n x made _ hx' hmade => by
      subst hmade
      unfold enumU at hx'
      rw [List.getElem?_mapIdx, List.getElem?_map, Nat.sub_zero, Option.map_eq_some_iff] at hx'
      obtain ⟨_, hx', rfl⟩ := hx'
      rw [Option.map_eq_some_iff] at hx'
      obtain ⟨y, hy, rfl⟩ := hx'
      have hn := (List.getElem?_eq_some_iff.mp hy).1
      rw [un2_ok, M.bind_ok]
      dsimp only
      rw [uR_0, M.bind_ok, show iterS (.str "pqr") = .ok ([Lt.p, .q, .r].map ltU) from rfl, M.bind_ok,
        compF_ok ltU (Ms.has ⟨val rs (gp ps .p) n, val rs (gp ps .q) n, val rs (gp ps .r) n⟩) ltU (by decide) (fun l _ => by
          rw [hx, M.bind_ok, blsU_ix hn, M.bind_ok, boolM_bl, M.bind_ok]; cases l <;> rfl) (fun _ _ _ => rfl), M.bind_ok,
        show (List.filter (Ms.has ⟨val rs (gp ps .p) n, val rs (gp ps .q) n, val rs (gp ps .r) n⟩) [Lt.p, .q, .r]) = (Ms.mk (val rs (gp ps .p) n) (val rs (gp ps .q) n) (val rs (gp ps .r) n)).lts from rfl, join_ms, M.bind_ok,
        appM_ok (by rw [List.length_map, List.length_take]; omega), M.bind_ok]
      refine ⟨_, rfl, ?_⟩
      rw [List.take_add_one, List.map_append, qm_get, hy]
      rfl)
  have hq : (qm rs fun l => val rs (gp ps l)).take (0 + (enumU (rs.map uR)).length) = qm rs fun l => val rs (gp ps l) := by
    rw [List.take_of_length_le]
    unfold enumU
    rw [qm_len]; simp
  subst e3
  rw [hq] at e2
  rw [sh__law_marked]
  show ((forN (mturn (k + 2) (.ins "Tree" [.lst (rs.map uR)]) (.lst (rs.map uR)) (.dic (dKs ps) (dUs ps))) ([Lt.p, .q, .r].map ltU) (([], []) : Dc)).bind _) = _
  rw [e1, M.bind_ok, enumM_lst, M.bind_ok, e2, M.bind_ok]
/-- what is given so far: letters at most once, small sayings -/
structure Gv (ls : List Lt) (ps : List (Lt × Sy)) : Prop where
  sub : ∀ p ∈ ps, p.1 ∈ ls
  nd : (ps.map (·.1)).Nodup
  ht : ∀ p ∈ ps, p.2.ht ≤ 6
theorem Gv.put {ls : List Lt} {ps : List (Lt × Sy)} (h : Gv ls ps) {l : Lt} (hl : l ∉ ls) {s : Sy} (hs : s.ht ≤ 6) : Gv (l :: ls) (ps ++ [(l, s)]) where
  sub := fun p hp => by
    rcases List.mem_append.mp hp with z | z
    · exact List.mem_cons_of_mem _ (h.sub p z)
    · rw [List.mem_singleton] at z; subst z; exact List.mem_cons_self ..
  nd := by
    rw [List.map_append, List.nodup_append]
    refine ⟨h.nd, by simp, fun a ha b hb => ?_⟩
    obtain ⟨p, hp, rfl⟩ := List.mem_map.mp ha
    have hb : b = l := by simpa using hb
    subst hb
    intro e
    exact hl (e ▸ h.sub p hp)
  ht := fun p hp => by
    rcases List.mem_append.mp hp with z | z
    · exact h.ht p z
    · rw [List.mem_singleton] at z; subst z; exact hs
theorem Gv.more {ls : List Lt} {ps : List (Lt × Sy)} (h : Gv ls ps) {l : Lt} : Gv (l :: ls) ps := ⟨fun p hp => List.mem_cons_of_mem _ (h.sub p hp), h.nd, h.ht⟩
theorem Gv.gp {ls : List Lt} {ps : List (Lt × Sy)} (h : Gv ls ps) (l : Lt) : (gp ps l).ht ≤ 6 := by
  unfold Law.gp lk
  cases e : ps.find? fun p => decide (p.1 = l) with
  | none => show (1 : Nat) ≤ 6; omega
  | some p => exact h.ht p (List.mem_of_find?_eq_some e)
theorem Lt.s_inj {a b : Lt} (h : a.s = b.s) : a = b := by
  have : decide (a.s = b.s) = decide (a = b) := by cases a <;> cases b <;> decide +kernel
  rw [decide_eq_true h] at this
  exact of_decide_eq_true this.symm
theorem Gv.keys {ls : List Lt} {ps : List (Lt × Sy)} (h : Gv ls ps) : (dKs ps).Nodup := by
  have e : dKs ps = (ps.map (·.1)).map fun l => (.inr l.s : Key) := by unfold dKs; rw [List.map_map]; rfl
  rw [e]
  exact List.Pairwise.map _ (fun a b h e => h (Lt.s_inj (Sum.inr.inj e))) h.nd
theorem dput {ls : List Lt} {ps : List (Lt × Sy)} (h : Gv ls ps) {l : Lt} (hl : l ∉ ls) (hn : ps.length < 100) (s : Sy) : putM (dKs ps, dUs ps) (ltU l) (su s) = .ok (dKs (ps ++ [(l, s)]), dUs (ps ++ [(l, s)])) := by
  show sz (dKs ps).length (M.ok (putKs (dKs ps) (.inr l.s), putDs (dKs ps) (dUs ps) (.inr l.s) (su s))) = _
  rw [sz_ok (by unfold dKs; rw [List.length_map]; omega)]
  have hk : hasK (dKs ps) (.inr l.s) = false := by
    unfold hasK dKs
    rw [List.any_eq_false]
    intro x hx
    obtain ⟨p, hp, rfl⟩ := List.mem_map.mp hx
    intro e
    have e := Lt.s_inj (Sum.inr.inj (of_decide_eq_true e))
    exact hl (e ▸ h.sub p hp)
  unfold putKs putDs
  rw [hk, if_neg (by simp), if_neg (by simp)]
  unfold dKs dUs
  rw [List.map_append, List.map_append]
  rfl
/-- a letter's turn -/
noncomputable def gturn (kk : Nat) (v_script : U) (v_sayings_10 : Dc) (x11 : U) : M Dc := (un2 x11).bind fun (v_k_12, v_letter_13) => (mulM (.int 8) v_k_12).bind fun z14 => (addM (.int 22) z14).bind fun z15 => (sh__law_cell (kk + 1) [v_script, z15]).bind fun z16 =>
  ((modM z16 (.int 4)).bind fun z17 => (gtM z17 (.int 0)).bind fun b18 => if b18 then (mulM (.int 8) v_k_12).bind fun z19 => (addM (.int 23) z19).bind fun z20 => (fdivM z16 (.int 4)).bind fun z21 => (modM z21 (.int 6)).bind fun z22 => (addM (.int 1) z22).bind fun z23 => (sh__law_saying (kk + 1) [v_script, z20, z23, .str "pqr", .int 6]).bind fun z24 => (putM v_sayings_10 v_letter_13 z24).bind fun l25 => .ok l25 else .ok v_sayings_10).bind fun v_sayings_26 => .ok v_sayings_26
theorem gturn_ok {ns : List Int} (hn : ns.length ≤ 63) {ls : List Lt} {ps : List (Lt × Sy)} (G : Gv ls ps) {l : Lt} (hl : l ∉ ls) (hp : ps.length < 50) (i : Int) (h0 : 0 ≤ i) (hi : i < 3) : ∃ ps', gturn 200 (.fzl (ns.map .int)) (dKs ps, dUs ps) (.tup [.int i, ltU l]) = .ok (dKs ps', dUs ps') ∧ Gv (l :: ls) ps' ∧ ps'.length ≤ ps.length + 1 := by
  unfold gturn
  rw [un2_ok, M.bind_ok]
  dsimp only
  obtain ⟨c, ec, hc⟩ := sh_cel (k := 200) (ns := ns) (i := 22 + 8 * i) (by omega) (by omega)
  rw [mulM_l (by decide) (by decide), M.bind_ok, addM_int, M.bind_ok, ec, M.bind_ok, modM_int (by decide), M.bind_ok, gtM_int, M.bind_ok]
  by_cases h : 0 < c % 4
  · obtain ⟨s, es, hs, _⟩ := sh_say hn (w := "pqr") (ls := [.p, .q, .r]) rfl (by decide) 200 (a := 23 + 8 * i) (n := 1 + c / 4 % 6) (d := 6) (by omega) (by omega) (by omega) (by omega) (by omega)
    have hh := Sy.ht_size s
    rw [decide_eq_true h, if_pos rfl, M.bind_ok, addM_int, M.bind_ok, fdivM_int (by decide) (by decide), M.bind_ok, modM_int (by decide), M.bind_ok, addM_int, M.bind_ok, es, M.bind_ok, dput G hl (by omega), M.bind_ok, M.bind_ok]
    exact ⟨_, rfl, G.put hl (by omega), by simp⟩
  · rw [decide_eq_false h, if_neg (by simp), M.bind_ok]
    exact ⟨ps, rfl, G.more, by omega⟩
theorem gall {ns : List Int} (hn : ns.length ≤ 63) : ∃ ps, forN (gturn 200 (.fzl (ns.map .int))) [.tup [.int 0, ltU .p], .tup [.int 1, ltU .q], .tup [.int 2, ltU .r]] (([], []) : Dc) = .ok (dKs ps, dUs ps) ∧ Gv [.r, .q, .p] ps ∧ ps.length ≤ 3 := by
  obtain ⟨p1, e1, g1, l1⟩ := gturn_ok hn (ls := []) (ps := []) ⟨fun p hp => by simp at hp, by simp, fun p hp => by simp at hp⟩ (l := .p) (by simp) (by simp) 0 (by decide) (by decide)
  obtain ⟨p2, e2, g2, l2⟩ := gturn_ok hn g1 (l := .q) (by decide) (by simp at l1; omega) 1 (by decide) (by decide)
  obtain ⟨p3, e3, g3, l3⟩ := gturn_ok hn g2 (l := .r) (by decide) (by simp at l1; omega) 2 (by decide) (by decide)
  have e1 : gturn 200 (.fzl (ns.map .int)) (([], []) : Dc) (.tup [.int 0, ltU .p]) = .ok (dKs p1, dUs p1) := e1
  refine ⟨p3, ?_, g3, by simp at l1; omega⟩
  rw [forN, e1, M.bind_ok, forN, e2, M.bind_ok, forN, e3, M.bind_ok, forN]
theorem pure_law (ns : List Int) (hn : ns.length ≤ 63) : sh_law (201 + 1) [.fzl (ns.map .int)] = .ok (.bl true) := by
  show sh_law (200 + 2) [.fzl (ns.map .int)] = .ok (.bl true)
  obtain ⟨c, ec, hc⟩ := sh_cel (k := 200) (ns := ns) (i := 0) (by decide) (by decide)
  obtain ⟨rs, er, T, hl⟩ := sh_rooms (k := 199) (ns := ns) (a := 1) (n := (1 + c % 8).toNat) (by decide) (by decide) (by omega) (by omega)
  have en : ((1 + c % 8).toNat : Int) = 1 + c % 8 := by omega
  rw [en] at er
  obtain ⟨s, es, hs, _⟩ := sh_say hn (w := "pqr") (ls := [.p, .q, .r]) rfl (by decide) 200 (a := 10) (n := 1 + c / 8 % 10) (d := 10) (by omega) (by omega) (by omega) (by omega) (by omega)
  obtain ⟨ps, eg, G, hp⟩ := gall hn
  have hh := Sy.ht_size s
  have hsub := subS_ht G.gp s
  have ei := sh_init (k := 197) T (by omega)
  have ei2 := sh_init (k := 197) (qmT T fun l => val rs (gp ps l)) (by rw [qm_len]; omega)
  have e1 := sh_putL ps (200 + 1) s (by omega)
  have e2 := sh_holds (k := 199) T (by omega) (s := subS (gp ps) s) (by omega) (c := "Tree") (by decide)
  have e3 := sh_mrkd (k := 198) T (by omega) (ps := ps) (fun l => by have := G.gp l; omega)
  have e4 := sh_holds (k := 199) (qmT T fun l => val rs (gp ps l)) (by rw [qm_len]; omega) (s := s) (by omega) (c := "Tree") (by decide)
  have fx : blsU (qm rs fun l => val rs (gp ps l)).length (val (qm rs fun l => val rs (gp ps l)) s) = blsU rs.length (val rs (subS (gp ps) s)) := by
    rw [qm_len]
    exact blsU_ext fun k hk => val_subS qm_len qm_par (fun l k hk => mk_qm hk) s k hk
  rw [fx] at e4
  have ed : dcopyM (.dic (dKs ps) (dUs ps)) = .ok (.dic (dKs ps) (dUs ps)) := by
    unfold dcopyM
    dsimp only
    rw [if_pos (by unfold dKs dUs; rw [List.length_map, List.length_map])]
  have ene : neDM (.dic (dKs ps) (dUs ps)) (.dic (dKs ps) (dUs ps)) = .ok false := neDM_same G.keys fun u hu => by
    obtain ⟨p, hp, rfl⟩ := List.mem_map.mp hu
    exact ⟨pl_su _, by have := dp_su p.2; have := G.ht p hp; omega⟩
  have ef : ∀ z : U, fldP ["Tree"] (.ins "Tree" [z]) = .ok z := fun z => rfl
  rw [sh_law, ec, M.bind_ok, modM_int (by decide), M.bind_ok, addM_int, M.bind_ok, er, M.bind_ok, fdivM_int (by decide) (by decide), M.bind_ok, modM_int (by decide), M.bind_ok, addM_int, M.bind_ok, es, M.bind_ok]
  show ((forN (gturn 200 (.fzl (ns.map .int))) [.tup [.int 0, ltU .p], .tup [.int 1, ltU .q], .tup [.int 2, ltU .r]] (([], []) : Dc)).bind _) = _
  rw [eg, M.bind_ok]
  dsimp only
  rw [ed, M.bind_ok, ei, M.calm_ok, M.bind_ok, imms_uR, M.bind_ok, ef, M.bind_ok, e1, M.bind_ok, e2, M.calm_ok, M.bind_ok, ene, M.bind_ok, if_neg (by simp), e3, M.bind_ok, ei2, M.calm_ok, M.bind_ok, imms_uR, M.bind_ok, ef, M.bind_ok, e4, M.calm_ok, M.bind_ok, sh_ar (by omega), M.bind_ok]
--#end 201

def topS (i : Nat) : Stmt := PySem.Challenge.pw_selfsay_k15_whole_put_for_letters.main.body.getD i (.Pass ⟨0, 0, 0, 0⟩)
/-- what the text told -/
structure Tp (G : Gl) (κ : Kl) : Prop where
  z_len : G.mg "len" = none
  z_list : G.mg "list" = none
  z_tuple : G.mg "tuple" = none
  z_min : G.mg "min" = none
  z_all : G.mg "all" = none
  z_bool : G.mg "bool" = none
  z_isinstance : G.mg "isinstance" = none
  z_range : G.mg "range" = none
  z_enumerate : G.mg "enumerate" = none
  z_zip : G.mg "zip" = none
  z_reversed : G.mg "reversed" = none
  z_dict : G.mg "dict" = none
  z_ValueError : G.mg "ValueError" = none
  d_are_marks : DefAt G.K G.mg "are_marks" (topS 6) ["marks"]
  d_look_over : DefAt G.K G.mg "look_over" (topS 7) ["rooms"]
  d_all_above : DefAt G.K G.mg "all_above" (topS 8) ["rooms", "inner"]
  d_joined : DefAt G.K G.mg "joined" (topS 9) ["word", "ones", "others"]
  d_truths_in : DefAt G.K G.mg "truths_in" (topS 10) ["rooms", "saying", "given"]
  d_put : DefAt G.K G.mg "put" (topS 13) ["saying", "sayings"]
  d__law_cell : DefAt G.K G.mg "_law_cell" (topS 15) ["_law_script", "_law_k"]
  d__law_saying : DefAt G.K G.mg "_law_saying" (topS 16) ["_law_script", "_law_at", "_law_size", "_law_letters", "_law_deep"]
  d__law_marks : DefAt G.K G.mg "_law_marks" (topS 17) ["_law_cell_here"]
  d__law_rooms : DefAt G.K G.mg "_law_rooms" (topS 18) ["_law_script", "_law_at", "_law_many"]
  d__law_are : DefAt G.K G.mg "_law_are" (topS 19) ["_law_found", "_law_due"]
  d__law_marked : DefAt G.K G.mg "_law_marked" (topS 20) ["_law_tree", "_law_rooms_here", "_law_sayings"]
  d_law : DefAt G.K G.mg "law" (topS 21) ["_law_script"]
  g_Tree : G.mg "Tree" = some (.ref (κ.ad "Tree"))
  kls_Tree : KlsOk G.K κ ["Tree"] "kept"
  d_Tree_init : InitAt G.K (κ.ad "Tree") "Tree.__init__" (inClass (topS 11) 0) ["self", "rooms"]
  d_Tree_rooms : ∀ c ∈ (["Tree"] : List Str), MethAt G.K (κ.ad c) "rooms" "Tree.rooms" (inClass (topS 11) 1) ["self"]
  d_Tree_above : ∀ c ∈ (["Tree"] : List Str), MethAt G.K (κ.ad c) "above" "Tree.above" (inClass (topS 11) 2) ["self", "room"]
  d_Tree_height : ∀ c ∈ (["Tree"] : List Str), MethAt G.K (κ.ad c) "height" "Tree.height" (inClass (topS 11) 3) ["self", "room"]
  d_Tree_holds : ∀ c ∈ (["Tree"] : List Str), MethAt G.K (κ.ad c) "holds" "Tree.holds" (inClass (topS 11) 4) ["self", "saying"]
  d_Tree_worth : ∀ c ∈ (["Tree"] : List Str), MethAt G.K (κ.ad c) "worth" "Tree.worth" (inClass (topS 11) 5) ["self", "saying", "room"]
  c_LETTERS : StrAt G.mg "LETTERS" "pqr"
variable {G : Gl} {κ : Kl}
abbrev st__law_cell : Stmt := topS 15
abbrev N__law_cell : List Str := ["_law_script", "_law_k", "_law_cell_here", "_law_turn", "_law_given"]
abbrev vs__law_cell : List Bool := [true, true, true, true, true]
abbrev gl__law_cell : List Str := ["len", "range", "min"]
theorem sc__law_cell : FnScope N__law_cell ["_law_script", "_law_k"] (defScope st__law_cell) := ⟨rfl, rfl, rfl, by decide +kernel, rfl, by decide +kernel, by decide +kernel⟩
theorem gd__law_cell : goodC N__law_cell (defScope st__law_cell) vs__law_cell vs__law_cell gl__law_cell = true := by decide +kernel
@[reducible] def cx__law_cell (G : Gl) (k : Nat) : Pl.Ctx := G.cx N__law_cell (defScope st__law_cell) vs__law_cell vs__law_cell gl__law_cell k

theorem ok__law_cell (T : Tp G κ) : ∀ k, G.fn k "_law_cell" 2 (spV κ 2 (sh__law_cell k))
  | 0 => fn_none T.d__law_cell (spV_none fun us => rfl)
  | kk + 1 => by
    refine def_V T.d__law_cell sc__law_cell gd__law_cell fun us hl Q Eh h => ?_
    have hE : EI κ Eh (erM κ Eh) := EI.erM
    obtain ⟨v_script, v_k, rfl⟩ := len2 hl
    change WSs _ [some (em κ v_script), some (em κ v_k), none, none, none] _ (_ :: _) _
    rw [sh__law_cell] at h
    refine wss_cons ?_
    refine ws_if ?_
    refine wt_cutM ‹_› (fun Q1 h => ?_) (fun b6 h => ?_)
    · refine wt_ww (ww_and ?_)
      refine wt_gtM (κ := κ) ?_
      refine we_lenM (κ := κ) ⟨0, rfl⟩ T.z_len ?_
      refine we_name (i := 0) rfl rfl rfl ?_
      refine fin1 (f := lenM) v_script (vE (u := v_script)) ‹_› fun z1 h => ?_
      refine we_int ?_
      refine fin2 (f := gtM) z1 (.int 1) (vE (u := z1)) (vE (u := .int 1)) ‹_› fun b2 h => ?_
      refine ite_m ‹_› (fun h => ?_) (fun h => ?_)
      · refine ww_and1 ?_
        refine wt_eqM (κ := κ) ?_
        refine we_modM (κ := κ) ?_
        refine we_ixM (κ := κ) ?_
        refine we_name (i := 0) rfl rfl rfl ?_
        refine we_int ?_
        refine fin2 (f := ixM) v_script (.int 0) (vE (u := v_script)) (vE (u := .int 0)) ‹_› fun z3 h => ?_
        refine we_int ?_
        refine fin2 (f := modM) z3 (.int 2) (vE (u := z3)) (vE (u := .int 2)) ‹_› fun z4 h => ?_
        refine we_int ?_
        refine fin2 (f := eqM) z4 (.int 1) (vE (u := z4)) (vE (u := .int 1)) ‹_› fun b5 h => ?_
        exact ⟨rfl, h⟩
      · exact ⟨rfl, h⟩
    refine ite_m ‹_› (fun h => ?_) (fun h => ?_)
    · refine wss_cons ?_
      refine ws_set (i := 2) rfl rfl ?_ rfl
      refine we_ixM (κ := κ) ?_
      refine we_name (i := 0) rfl rfl rfl ?_
      refine we_addM (κ := κ) ?_
      refine we_int ?_
      refine we_modM (κ := κ) ?_
      refine we_name (i := 1) rfl rfl rfl ?_
      refine we_subM (κ := κ) ?_
      refine we_lenM (κ := κ) ⟨0, rfl⟩ T.z_len ?_
      refine we_name (i := 0) rfl rfl rfl ?_
      refine fin1 (f := lenM) v_script (vE (u := v_script)) ‹_› fun z7 h => ?_
      refine we_int ?_
      refine fin2 (f := subM) z7 (.int 1) (vE (u := z7)) (vE (u := .int 1)) ‹_› fun z8 h => ?_
      refine fin2 (f := modM) v_k z8 (vE (u := v_k)) (vE (u := z8)) ‹_› fun z9 h => ?_
      refine fin2 (f := addM) (.int 1) z9 (vE (u := .int 1)) (vE (u := z9)) ‹_› fun z10 h => ?_
      refine fin2 (f := ixM) v_script z10 (vE (u := v_script)) (vE (u := z10)) ‹_› fun z11 h => ?_
      refine wss_cons ?_
      refine ws_for [3] ?_
      refine wi_range1M (κ := κ) ⟨1, rfl⟩ T.z_range ?_
      refine we_min2M (κ := κ) ⟨2, rfl⟩ T.z_min ?_
      refine we_int ?_
      refine we_fdivM (κ := κ) ?_
      refine we_name (i := 1) rfl rfl rfl ?_
      refine we_subM (κ := κ) ?_
      refine we_lenM (κ := κ) ⟨0, rfl⟩ T.z_len ?_
      refine we_name (i := 0) rfl rfl rfl ?_
      refine fin1 (f := lenM) v_script (vE (u := v_script)) ‹_› fun z13 h => ?_
      refine we_int ?_
      refine fin2 (f := subM) z13 (.int 1) (vE (u := z13)) (vE (u := .int 1)) ‹_› fun z14 h => ?_
      refine fin2 (f := fdivM) v_k z14 (vE (u := v_k)) (vE (u := z14)) ‹_› fun z15 h => ?_
      refine fin2 (f := min2M) (.int 60) z15 (vE (u := .int 60)) (vE (u := z15)) ‹_› fun z16 h => ?_
      refine fin1 (f := range1M) z16 (vE (u := z16)) ‹_› fun it12 h => ?_
      refine loopN_m (fun (st : U) (Γ : Pl.Env) (Λ : Cells) => ∃ (y0 : Option D) (y1 : Option D), Γ = [some (em κ v_script), some (em κ v_k), some (em κ st), y0, y1] ∧ Λ = []) h ⟨_, _, rfl, rfl⟩ (fun v_cell_here_17 x18 Γ Λ Q1 hs h => ?_) (fun v_cell_here_21 Γ Λ hs h => ?_)
      · obtain ⟨y0, y1, rfl, rfl⟩ := hs
        refine wg_name (i := 3) rfl rfl ?_
        refine wss_cons ?_
        refine ws_set (i := 2) rfl rfl ?_ rfl
        refine we_fdivM (κ := κ) ?_
        refine we_name (i := 2) rfl rfl rfl ?_
        refine we_powM (κ := κ) ?_
        refine we_int ?_
        refine we_int ?_
        refine fin2 (f := powM) (.int 10) (.int 9) (vE (u := .int 10)) (vE (u := .int 9)) ‹_› fun z19 h => ?_
        refine fin2 (f := fdivM) v_cell_here_17 z19 (vE (u := v_cell_here_17)) (vE (u := z19)) ‹_› fun z20 h => ?_
        refine wss_nil ?_
        exact ⟨z20, ⟨_, _, rfl, rfl⟩, h⟩
      · obtain ⟨y0, y1, rfl, rfl⟩ := hs
        refine wss_cons ?_
        refine ws_ret ?_
        refine we_modM (κ := κ) ?_
        refine we_name (i := 2) rfl rfl rfl ?_
        refine we_powM (κ := κ) ?_
        refine we_int ?_
        refine we_int ?_
        refine fin2 (f := powM) (.int 10) (.int 9) (vE (u := .int 10)) (vE (u := .int 9)) ‹_› fun z22 h => ?_
        refine fin2 (f := modM) v_cell_here_21 z22 (vE (u := v_cell_here_21)) (vE (u := z22)) ‹_› fun z23 h => ?_
        exact rtV_v (u := z23) h
    · refine wss_nil ?_
      refine wss_cons ?_
      refine ws_set (i := 4) rfl rfl ?_ rfl
      refine we_name (i := 1) rfl rfl rfl ?_
      refine wss_cons ?_
      refine ws_cutM (fun (st : U) (Γ : Pl.Env) (Λ : Cells) => ∃ (y0 : Option D) (y1 : Option D), Γ = [some (em κ v_script), some (em κ v_k), y0, y1, some (em κ st)] ∧ Λ = []) h (fun Q1 h => ?_) (fun v_given_29 Γ Λ hs h => ?_)
      · refine ws_if ?_
        refine wt_gtM (κ := κ) ?_
        refine we_lenM (κ := κ) ⟨0, rfl⟩ T.z_len ?_
        refine we_name (i := 0) rfl rfl rfl ?_
        refine fin1 (f := lenM) v_script (vE (u := v_script)) ‹_› fun z24 h => ?_
        refine we_int ?_
        refine fin2 (f := gtM) z24 (.int 0) (vE (u := z24)) (vE (u := .int 0)) ‹_› fun b25 h => ?_
        refine ite_m ‹_› (fun h => ?_) (fun h => ?_)
        · refine wss_cons ?_
          refine ws_set (i := 4) rfl rfl ?_ rfl
          refine we_ixM (κ := κ) ?_
          refine we_name (i := 0) rfl rfl rfl ?_
          refine we_modM (κ := κ) ?_
          refine we_name (i := 1) rfl rfl rfl ?_
          refine we_lenM (κ := κ) ⟨0, rfl⟩ T.z_len ?_
          refine we_name (i := 0) rfl rfl rfl ?_
          refine fin1 (f := lenM) v_script (vE (u := v_script)) ‹_› fun z26 h => ?_
          refine fin2 (f := modM) v_k z26 (vE (u := v_k)) (vE (u := z26)) ‹_› fun z27 h => ?_
          refine fin2 (f := ixM) v_script z27 (vE (u := v_script)) (vE (u := z27)) ‹_› fun z28 h => ?_
          refine wss_nil ?_
          exact ⟨z28, ⟨_, _, rfl, rfl⟩, h⟩
        · refine wss_nil ?_
          exact ⟨v_k, ⟨_, _, rfl, rfl⟩, h⟩
      · obtain ⟨y0, y1, rfl, rfl⟩ := hs
        refine wss_cons ?_
        refine ws_ret ?_
        refine we_modM (κ := κ) ?_
        refine we_mulM (κ := κ) ?_
        refine we_modM (κ := κ) ?_
        refine we_addM (κ := κ) ?_
        refine we_addM (κ := κ) ?_
        refine we_addM (κ := κ) ?_
        refine we_mulM (κ := κ) ?_
        refine we_modM (κ := κ) ?_
        refine we_name (i := 4) rfl rfl rfl ?_
        refine we_powM (κ := κ) ?_
        refine we_int ?_
        refine we_int ?_
        refine fin2 (f := powM) (.int 10) (.int 30) (vE (u := .int 10)) (vE (u := .int 30)) ‹_› fun z30 h => ?_
        refine fin2 (f := modM) v_given_29 z30 (vE (u := v_given_29)) (vE (u := z30)) ‹_› fun z31 h => ?_
        refine we_int ?_
        refine fin2 (f := mulM) z31 (.int 48271) (vE (u := z31)) (vE (u := .int 48271)) ‹_› fun z32 h => ?_
        refine we_mulM (κ := κ) ?_
        refine we_mulM (κ := κ) ?_
        refine we_name (i := 1) rfl rfl rfl ?_
        refine we_name (i := 1) rfl rfl rfl ?_
        refine fin2 (f := mulM) v_k v_k (vE (u := v_k)) (vE (u := v_k)) ‹_› fun z33 h => ?_
        refine we_int ?_
        refine fin2 (f := mulM) z33 (.int 7919) (vE (u := z33)) (vE (u := .int 7919)) ‹_› fun z34 h => ?_
        refine fin2 (f := addM) z32 z34 (vE (u := z32)) (vE (u := z34)) ‹_› fun z35 h => ?_
        refine we_mulM (κ := κ) ?_
        refine we_name (i := 1) rfl rfl rfl ?_
        refine we_int ?_
        refine fin2 (f := mulM) v_k (.int 13) (vE (u := v_k)) (vE (u := .int 13)) ‹_› fun z36 h => ?_
        refine fin2 (f := addM) z35 z36 (vE (u := z35)) (vE (u := z36)) ‹_› fun z37 h => ?_
        refine we_int ?_
        refine fin2 (f := addM) z37 (.int 11) (vE (u := z37)) (vE (u := .int 11)) ‹_› fun z38 h => ?_
        refine we_int ?_
        refine fin2 (f := modM) z38 (.int 2147483647) (vE (u := z38)) (vE (u := .int 2147483647)) ‹_› fun z39 h => ?_
        refine we_int ?_
        refine fin2 (f := mulM) z39 (.int 69621) (vE (u := z39)) (vE (u := .int 69621)) ‹_› fun z40 h => ?_
        refine we_int ?_
        refine fin2 (f := modM) z40 (.int 1000000007) (vE (u := z40)) (vE (u := .int 1000000007)) ‹_› fun z41 h => ?_
        exact rtV_v (u := z41) h

abbrev st__law_marks : Stmt := topS 17
abbrev N__law_marks : List Str := ["_law_cell_here", "_law_letter", "_law_bit"]
abbrev vs__law_marks : List Bool := [true, false, false]
abbrev gl__law_marks : List Str := ["zip"]
theorem sc__law_marks : FnScope N__law_marks ["_law_cell_here"] (defScope st__law_marks) := ⟨rfl, rfl, rfl, by decide +kernel, rfl, by decide +kernel, by decide +kernel⟩
theorem gd__law_marks : goodC N__law_marks (defScope st__law_marks) vs__law_marks vs__law_marks gl__law_marks = true := by decide +kernel
@[reducible] def cx__law_marks (G : Gl) (k : Nat) : Pl.Ctx := G.cx N__law_marks (defScope st__law_marks) vs__law_marks vs__law_marks gl__law_marks k

theorem ok__law_marks (T : Tp G κ) : ∀ k, G.fn k "_law_marks" 1 (spV κ 1 (sh__law_marks k))
  | 0 => fn_none T.d__law_marks (spV_none fun us => rfl)
  | kk + 1 => by
    refine def_V T.d__law_marks sc__law_marks gd__law_marks fun us hl Q Eh h => ?_
    have hE : EI κ Eh (erM κ Eh) := EI.erM
    obtain ⟨v_cell_here, rfl⟩ := len1 hl
    change WSs _ [some (em κ v_cell_here), none, none] _ (_ :: _) _
    refine wss_cons ?_
    refine ws_ret ?_
    refine we_joinM (κ := κ) ?_
    refine we_str ?_
    refine ⟨(""), rfl, ?_⟩
    refine we_f ?_
    refine wn_lc [("_law_letter", 1), ("_law_bit", 2)] [false, true, true] [false, true, true] [] [1, 2] (blkOk_by (by decide +kernel : blkC N__law_marks (defScope st__law_marks) _ [("_law_letter", 1), ("_law_bit", 2)] = true)) (good_blk (by decide +kernel : goodC N__law_marks (relS _ (defScope st__law_marks)) [false, true, true] [false, true, true] [] = true)) (sto_by (by decide +kernel : stoC N__law_marks _ [false, true, true] = true)) (by decide) ?_
    refine wi_zipS (κ := κ) ⟨0, rfl⟩ T.z_zip ?_
    refine we_str ?_
    refine we_f ?_
    refine wn_lst ?_
    refine wa_cons ?_ rfl
    refine we_modM (κ := κ) ?_
    refine we_name (i := 0) rfl rfl rfl ?_
    refine we_int ?_
    refine fin2 (f := modM) v_cell_here (.int 2) (vE (u := v_cell_here)) (vE (u := .int 2)) ‹_› fun z2 h => ?_
    refine wa_cons ?_ rfl
    refine we_modM (κ := κ) ?_
    refine we_fdivM (κ := κ) ?_
    refine we_name (i := 0) rfl rfl rfl ?_
    refine we_int ?_
    refine fin2 (f := fdivM) v_cell_here (.int 2) (vE (u := v_cell_here)) (vE (u := .int 2)) ‹_› fun z3 h => ?_
    refine we_int ?_
    refine fin2 (f := modM) z3 (.int 2) (vE (u := z3)) (vE (u := .int 2)) ‹_› fun z4 h => ?_
    refine wa_cons ?_ rfl
    refine we_modM (κ := κ) ?_
    refine we_fdivM (κ := κ) ?_
    refine we_name (i := 0) rfl rfl rfl ?_
    refine we_int ?_
    refine fin2 (f := fdivM) v_cell_here (.int 4) (vE (u := v_cell_here)) (vE (u := .int 4)) ‹_› fun z5 h => ?_
    refine we_int ?_
    refine fin2 (f := modM) z5 (.int 2) (vE (u := z5)) (vE (u := .int 2)) ‹_› fun z6 h => ?_
    refine wa_nil ?_
    refine ⟨szd (by decide : 3 < 10000000), ?_⟩
    refine finI2 (f := zipSM) (.str "pqr") (.lst [z2, z4, z6]) ‹_› fun it1 h => ?_
    refine compF_m h (fun x7 Qb Q1 h h2 => ?_) (fun zs10 h => ?_)
    · have hE : EI κ no ER.none := EI.no
      refine tg2x x7 ‹_› fun v_letter_8 v_bit_9 hx h => ?_
      subst hx
      refine wg_tup ?_ rfl
      refine wgs_cons1 ?_ rfl
      refine wg_name (i := 1) rfl rfl ?_
      refine wgs_cons1 ?_ rfl
      refine wg_name (i := 2) rfl rfl ?_
      refine wgs_nil ?_
      refine wt_eqM (κ := κ) ?_
      refine we_name (i := 2) rfl rfl rfl ?_
      refine we_int ?_
      refine fin2 (f := eqM) v_bit_9 (.int 1) (vE (u := v_bit_9)) (vE (u := .int 1)) ‹_› fun b11 h => ?_
      refine ⟨rfl, h, fun hb => ?_⟩
      replace h := h2 (by cases hb; exact h)
      replace h := un2_wp h
      refine we_name (i := 1) rfl rfl rfl ?_
      exact ⟨rfl, v_letter_8, rfl, h⟩
    refine fin1 (f := fun u => joinM (.str "") u) (.lst zs10) (vE (u := .lst zs10)) ‹_› fun z12 h => ?_
    exact rtV_v (u := z12) h

abbrev st__law_rooms : Stmt := topS 18
abbrev N__law_rooms : List Str := ["_law_script", "_law_at", "_law_many", "_law_rooms_here", "_law_k", "_law_cell_here", "_law_below"]
abbrev vs__law_rooms : List Bool := [true, true, true, true, true, true, true]
abbrev gl__law_rooms : List Str := ["_law_marks", "_law_cell", "range"]
theorem sc__law_rooms : FnScope N__law_rooms ["_law_script", "_law_at", "_law_many"] (defScope st__law_rooms) := ⟨rfl, rfl, rfl, by decide +kernel, rfl, by decide +kernel, by decide +kernel⟩
theorem gd__law_rooms : goodC N__law_rooms (defScope st__law_rooms) vs__law_rooms vs__law_rooms gl__law_rooms = true := by decide +kernel
@[reducible] def cx__law_rooms (G : Gl) (k : Nat) : Pl.Ctx := G.cx N__law_rooms (defScope st__law_rooms) vs__law_rooms vs__law_rooms gl__law_rooms k

theorem ok__law_rooms (T : Tp G κ) : ∀ k, G.fn k "_law_rooms" 3 (spN κ 3 (sh__law_rooms k))
  | 0 => fn_none T.d__law_rooms (spN_none fun us => rfl)
  | kk + 1 => by
    have h__law_marks := ok__law_marks T kk
    have h__law_cell := ok__law_cell T kk
    refine def_N T.d__law_rooms sc__law_rooms gd__law_rooms fun us hl Q Eh h => ?_
    have hE : EI κ Eh (erM κ Eh) := EI.erM
    obtain ⟨v_script, v_at, v_many, rfl⟩ := len3 hl
    change WSs _ [some (em κ v_script), some (em κ v_at), some (em κ v_many), none, none, none, none] _ (_ :: _) _
    rw [sh__law_rooms] at h
    refine wss_cons ?_
    refine ws_set (i := 3) rfl rfl (we_o ?_) rfl
    refine wn_lst ?_
    refine wa_cons ?_ rfl
    refine we_tup ?_
    refine wa_cons ?_ rfl
    refine we_negM (κ := κ) ?_
    refine we_int ?_
    refine fin1 (f := negM) (.int 1) (vE (u := .int 1)) ‹_› fun z1 h => ?_
    refine wa_cons ?_ rfl
    refine we_callV (κ := κ) h__law_marks (Nat.le_refl _) ⟨0, rfl⟩ ?_
    refine wa_cons ?_ rfl
    refine we_callV (κ := κ) h__law_cell (Nat.le_refl _) ⟨1, rfl⟩ ?_
    refine wa_cons ?_ rfl
    refine we_name (i := 0) rfl rfl rfl ?_
    refine wa_cons ?_ rfl
    refine we_name (i := 1) rfl rfl rfl ?_
    refine wa_nil ?_
    refine finF (Γ := _) [v_script, v_at] rfl rfl hE ‹_› fun z2 h => ?_
    refine wa_nil ?_
    refine finF (Γ := _) [z2] rfl rfl hE ‹_› fun z3 h => ?_
    refine wa_nil ?_
    refine ⟨szd (by decide : 2 < 10000000), ?_⟩
    refine wa_nil ?_
    refine ⟨szd (by decide : 1 < 10000000), ?_⟩
    refine wss_cons ?_
    refine ws_for [4] ?_
    refine wi_range2M (κ := κ) ⟨2, rfl⟩ T.z_range ?_
    refine we_int ?_
    refine we_name (i := 2) rfl rfl rfl ?_
    refine fin2 (f := range2M) (.int 1) v_many (vE (u := .int 1)) (vE (u := v_many)) ‹_› fun it4 h => ?_
    refine loopN_m (fun (st : List U) (Γ : Pl.Env) (Λ : Cells) => ∃ (y0 : Option D) (y1 : Option D) (y2 : Option D), Γ = [some (em κ v_script), some (em κ v_at), some (em κ v_many), some (.loc 0), y0, y1, y2] ∧ Λ = [.lst (ems κ st)]) h ⟨_, _, _, rfl, rfl⟩ (fun v_rooms_here_5 x6 Γ Λ Q1 hs h => ?_) (fun v_rooms_here_18 Γ Λ hs h => ?_)
    · obtain ⟨y0, y1, y2, rfl, rfl⟩ := hs
      refine wg_name (i := 4) rfl rfl ?_
      refine wss_cons ?_
      refine ws_set (i := 5) rfl rfl ?_ rfl
      refine we_callV (κ := κ) h__law_cell (Nat.le_refl _) ⟨1, rfl⟩ ?_
      refine wa_cons ?_ rfl
      refine we_name (i := 0) rfl rfl rfl ?_
      refine wa_cons ?_ rfl
      refine we_addM (κ := κ) ?_
      refine we_name (i := 1) rfl rfl rfl ?_
      refine we_name (i := 4) rfl rfl rfl ?_
      refine fin2 (f := addM) v_at x6 (vE (u := v_at)) (vE (u := x6)) ‹_› fun z7 h => ?_
      refine wa_nil ?_
      refine finF (Γ := _) [v_script, z7] rfl rfl hE ‹_› fun z8 h => ?_
      refine wss_cons ?_
      refine ws_set (i := 6) rfl rfl ?_ rfl
      refine we_modM (κ := κ) ?_
      refine we_fdivM (κ := κ) ?_
      refine we_name (i := 5) rfl rfl rfl ?_
      refine we_int ?_
      refine fin2 (f := fdivM) z8 (.int 8) (vE (u := z8)) (vE (u := .int 8)) ‹_› fun z9 h => ?_
      refine we_name (i := 4) rfl rfl rfl ?_
      refine fin2 (f := modM) z9 x6 (vE (u := z9)) (vE (u := x6)) ‹_› fun z10 h => ?_
      refine wss_cons ?_
      refine ws_cutM (fun (st : U) (Γ : Pl.Env) (Λ : Cells) => Γ = [some (em κ v_script), some (em κ v_at), some (em κ v_many), some (.loc 0), some (em κ x6), some (em κ z8), some (em κ st)] ∧ Λ = [.lst (ems κ v_rooms_here_5)]) h (fun Q1 h => ?_) (fun v_below_15 Γ Λ hs h => ?_)
      · refine ws_if ?_
        refine wt_eqM (κ := κ) ?_
        refine we_modM (κ := κ) ?_
        refine we_fdivM (κ := κ) ?_
        refine we_name (i := 5) rfl rfl rfl ?_
        refine we_int ?_
        refine fin2 (f := fdivM) z8 (.int 1000) (vE (u := z8)) (vE (u := .int 1000)) ‹_› fun z11 h => ?_
        refine we_int ?_
        refine fin2 (f := modM) z11 (.int 3) (vE (u := z11)) (vE (u := .int 3)) ‹_› fun z12 h => ?_
        refine we_int ?_
        refine fin2 (f := eqM) z12 (.int 0) (vE (u := z12)) (vE (u := .int 0)) ‹_› fun b13 h => ?_
        refine ite_m ‹_› (fun h => ?_) (fun h => ?_)
        · refine wss_cons ?_
          refine ws_set (i := 6) rfl rfl ?_ rfl
          refine we_subM (κ := κ) ?_
          refine we_name (i := 4) rfl rfl rfl ?_
          refine we_int ?_
          refine fin2 (f := subM) x6 (.int 1) (vE (u := x6)) (vE (u := .int 1)) ‹_› fun z14 h => ?_
          refine wss_nil ?_
          exact ⟨z14, ⟨rfl, rfl⟩, h⟩
        · refine wss_nil ?_
          exact ⟨z10, ⟨rfl, rfl⟩, h⟩
      · obtain ⟨rfl, rfl⟩ := hs
        refine wss_cons ?_
        refine ws_expr ?_
        refine we_appM (κ := κ) 0 ?_
        refine we_name (i := 3) rfl rfl rfl ?_
        refine ⟨rfl, ⟨v_rooms_here_5, rfl⟩, ?_⟩
        refine we_tup ?_
        refine wa_cons ?_ rfl
        refine we_name (i := 6) rfl rfl rfl ?_
        refine wa_cons ?_ rfl
        refine we_callV (κ := κ) h__law_marks (Nat.le_refl _) ⟨0, rfl⟩ ?_
        refine wa_cons ?_ rfl
        refine we_name (i := 5) rfl rfl rfl ?_
        refine wa_nil ?_
        refine finF (Γ := _) [z8] rfl rfl hE ‹_› fun z16 h => ?_
        refine wa_nil ?_
        refine ⟨szd (by decide : 2 < 10000000), ?_⟩
        refine finA (f := appM) v_rooms_here_5 (.tup [v_below_15, z16]) rfl ‹_› fun l17 h => ?_
        refine wss_nil ?_
        exact ⟨l17, ⟨_, _, _, rfl, rfl⟩, h⟩
    · obtain ⟨y0, y1, y2, rfl, rfl⟩ := hs
      refine wss_cons ?_
      refine ws_ret ?_
      refine we_name (i := 3) rfl rfl rfl ?_
      exact rtL_o (us := v_rooms_here_18) rfl h

abbrev st__law_saying : Stmt := topS 16
abbrev N__law_saying : List Str := ["_law_script", "_law_at", "_law_size", "_law_letters", "_law_deep", "_law_cell_here", "_law_some", "_law_left", "_law_one", "_law_other", "_law_letter"]
abbrev vs__law_saying : List Bool := [true, true, true, true, true, true, true, true, true, true, false]
abbrev gl__law_saying : List Str := ["_law_cell", "len", "_law_saying"]
theorem sc__law_saying : FnScope N__law_saying ["_law_script", "_law_at", "_law_size", "_law_letters", "_law_deep"] (defScope st__law_saying) := ⟨rfl, rfl, rfl, by decide +kernel, rfl, by decide +kernel, by decide +kernel⟩
theorem gd__law_saying : goodC N__law_saying (defScope st__law_saying) vs__law_saying vs__law_saying gl__law_saying = true := by decide +kernel
@[reducible] def cx__law_saying (G : Gl) (k : Nat) : Pl.Ctx := G.cx N__law_saying (defScope st__law_saying) vs__law_saying vs__law_saying gl__law_saying k

theorem ok__law_saying (T : Tp G κ) : ∀ k, G.fn k "_law_saying" 5 (spV κ 5 (sh__law_saying k))
  | 0 => fn_none T.d__law_saying (spV_none fun us => rfl)
  | kk + 1 => by
    have h__law_cell := ok__law_cell T kk
    have h__law_saying := ok__law_saying T kk
    refine def_V T.d__law_saying sc__law_saying gd__law_saying fun us hl Q Eh h => ?_
    have hE : EI κ Eh (erM κ Eh) := EI.erM
    obtain ⟨v_script, v_at, v_size, v_letters, v_deep, rfl⟩ := len5 hl
    change WSs _ [some (em κ v_script), some (em κ v_at), some (em κ v_size), some (em κ v_letters), some (em κ v_deep), none, none, none, none, none, none] _ (_ :: _) _
    refine wss_cons ?_
    refine ws_set (i := 5) rfl rfl ?_ rfl
    refine we_callV (κ := κ) h__law_cell (Nat.le_refl _) ⟨0, rfl⟩ ?_
    refine wa_cons ?_ rfl
    refine we_name (i := 0) rfl rfl rfl ?_
    refine wa_cons ?_ rfl
    refine we_name (i := 1) rfl rfl rfl ?_
    refine wa_nil ?_
    refine finF (Γ := _) [v_script, v_at] rfl rfl hE ‹_› fun z1 h => ?_
    refine wss_cons ?_
    refine ws_if ?_
    refine wt_eqM (κ := κ) ?_
    refine we_name (i := 2) rfl rfl rfl ?_
    refine we_int ?_
    refine fin2 (f := eqM) v_size (.int 1) (vE (u := v_size)) (vE (u := .int 1)) ‹_› fun b2 h => ?_
    refine ite_m ‹_› (fun h => ?_) (fun h => ?_)
    · refine wss_cons ?_
      refine ws_set (i := 6) rfl rfl ?_ rfl
      refine we_addM (κ := κ) ?_
      refine we_f ?_
      refine wn_lc [("_law_letter", 10)] [false, false, false, false, false, false, false, false, false, false, true] [false, false, false, false, false, false, false, false, false, false, true] [] [10] (blkOk_by (by decide +kernel : blkC N__law_saying (defScope st__law_saying) _ [("_law_letter", 10)] = true)) (good_blk (by decide +kernel : goodC N__law_saying (relS _ (defScope st__law_saying)) [false, false, false, false, false, false, false, false, false, false, true] [false, false, false, false, false, false, false, false, false, false, true] [] = true)) (sto_by (by decide +kernel : stoC N__law_saying _ [false, false, false, false, false, false, false, false, false, false, true] = true)) (by decide) ?_
      refine wi_SM (κ := κ) ?_
      refine we_name (i := 3) rfl rfl rfl ?_
      refine finI (f := iterS) v_letters ‹_› fun it3 h => ?_
      refine comp_m h (fun x4 Q1 h => ?_) (fun zs5 h => ?_)
      · have hE : EI κ no ER.none := EI.no
        refine wg_name (i := 10) rfl rfl ?_
        refine we_tup ?_
        refine wa_cons ?_ rfl
        refine we_str ?_
        refine wa_cons ?_ rfl
        refine we_name (i := 10) rfl rfl rfl ?_
        refine wa_nil ?_
        refine ⟨szd (by decide : 2 < 10000000), ?_⟩
        exact ⟨rfl, (.tup [.str "letter", x4]), rfl, h⟩
      refine we_f ?_
      refine wn_lst ?_
      refine wa_cons ?_ rfl
      refine we_tup ?_
      refine wa_cons ?_ rfl
      refine we_str ?_
      refine wa_nil ?_
      refine ⟨szd (by decide : 1 < 10000000), ?_⟩
      refine wa_nil ?_
      refine ⟨szd (by decide : 1 < 10000000), ?_⟩
      refine fin2 (f := addM) (.lst zs5) (.lst [.tup [.str "no"]]) (vE (u := .lst zs5)) (vE (u := .lst [.tup [.str "no"]])) ‹_› fun z6 h => ?_
      refine wss_cons ?_
      refine ws_ret ?_
      refine we_ixM (κ := κ) ?_
      refine we_name (i := 6) rfl rfl rfl ?_
      refine we_modM (κ := κ) ?_
      refine we_name (i := 5) rfl rfl rfl ?_
      refine we_lenM (κ := κ) ⟨1, rfl⟩ T.z_len ?_
      refine we_name (i := 6) rfl rfl rfl ?_
      refine fin1 (f := lenM) z6 (vE (u := z6)) ‹_› fun z7 h => ?_
      refine fin2 (f := modM) z1 z7 (vE (u := z1)) (vE (u := z7)) ‹_› fun z8 h => ?_
      refine fin2 (f := ixM) z6 z8 (vE (u := z6)) (vE (u := z8)) ‹_› fun z9 h => ?_
      exact rtV_v (u := z9) h
    · refine wss_nil ?_
      refine wss_cons ?_
      refine ws_if ?_
      refine wt_cutM ‹_› (fun Q1 h => ?_) (fun b13 h => ?_)
      · refine wt_ww (ww_or ?_)
        refine wt_eqM (κ := κ) ?_
        refine we_name (i := 2) rfl rfl rfl ?_
        refine we_int ?_
        refine fin2 (f := eqM) v_size (.int 2) (vE (u := v_size)) (vE (u := .int 2)) ‹_› fun b10 h => ?_
        refine ite_m ‹_› (fun h => ?_) (fun h => ?_)
        · exact ⟨rfl, h⟩
        · refine ww_or1 ?_
          refine wt_ltM (κ := κ) ?_
          refine we_modM (κ := κ) ?_
          refine we_name (i := 5) rfl rfl rfl ?_
          refine we_int ?_
          refine fin2 (f := modM) z1 (.int 5) (vE (u := z1)) (vE (u := .int 5)) ‹_› fun z11 h => ?_
          refine we_int ?_
          refine fin2 (f := ltM) z11 (.int 2) (vE (u := z11)) (vE (u := .int 2)) ‹_› fun b12 h => ?_
          exact ⟨rfl, h⟩
      refine ite_m ‹_› (fun h => ?_) (fun h => ?_)
      · refine wss_cons ?_
        refine ws_if ?_
        refine wt_cutM ‹_› (fun Q1 h => ?_) (fun b18 h => ?_)
        · refine wt_ww (ww_and ?_)
          refine wt_gtM (κ := κ) ?_
          refine we_name (i := 4) rfl rfl rfl ?_
          refine we_int ?_
          refine fin2 (f := gtM) v_deep (.int 0) (vE (u := v_deep)) (vE (u := .int 0)) ‹_› fun b14 h => ?_
          refine ite_m ‹_› (fun h => ?_) (fun h => ?_)
          · refine ww_and1 ?_
            refine wt_eqM (κ := κ) ?_
            refine we_modM (κ := κ) ?_
            refine we_fdivM (κ := κ) ?_
            refine we_name (i := 5) rfl rfl rfl ?_
            refine we_int ?_
            refine fin2 (f := fdivM) z1 (.int 5) (vE (u := z1)) (vE (u := .int 5)) ‹_› fun z15 h => ?_
            refine we_int ?_
            refine fin2 (f := modM) z15 (.int 2) (vE (u := z15)) (vE (u := .int 2)) ‹_› fun z16 h => ?_
            refine we_int ?_
            refine fin2 (f := eqM) z16 (.int 0) (vE (u := z16)) (vE (u := .int 0)) ‹_› fun b17 h => ?_
            exact ⟨rfl, h⟩
          · exact ⟨rfl, h⟩
        refine ite_m ‹_› (fun h => ?_) (fun h => ?_)
        · refine wss_cons ?_
          refine ws_ret ?_
          refine we_tup ?_
          refine wa_cons ?_ rfl
          refine we_str ?_
          refine wa_cons ?_ rfl
          refine we_callV (κ := κ) h__law_saying (Nat.le_refl _) ⟨2, rfl⟩ ?_
          refine wa_cons ?_ rfl
          refine we_name (i := 0) rfl rfl rfl ?_
          refine wa_cons ?_ rfl
          refine we_addM (κ := κ) ?_
          refine we_name (i := 1) rfl rfl rfl ?_
          refine we_int ?_
          refine fin2 (f := addM) v_at (.int 1) (vE (u := v_at)) (vE (u := .int 1)) ‹_› fun z19 h => ?_
          refine wa_cons ?_ rfl
          refine we_subM (κ := κ) ?_
          refine we_name (i := 2) rfl rfl rfl ?_
          refine we_int ?_
          refine fin2 (f := subM) v_size (.int 1) (vE (u := v_size)) (vE (u := .int 1)) ‹_› fun z20 h => ?_
          refine wa_cons ?_ rfl
          refine we_name (i := 3) rfl rfl rfl ?_
          refine wa_cons ?_ rfl
          refine we_subM (κ := κ) ?_
          refine we_name (i := 4) rfl rfl rfl ?_
          refine we_int ?_
          refine fin2 (f := subM) v_deep (.int 1) (vE (u := v_deep)) (vE (u := .int 1)) ‹_› fun z21 h => ?_
          refine wa_nil ?_
          refine finF (Γ := _) [v_script, z19, z20, v_letters, z21] rfl rfl hE ‹_› fun z22 h => ?_
          refine wa_nil ?_
          refine ⟨szd (by decide : 2 < 10000000), ?_⟩
          exact rtV_v (u := (.tup [.str "shown", z22])) h
        · refine wss_nil ?_
          refine wss_cons ?_
          refine ws_ret ?_
          refine we_tup ?_
          refine wa_cons ?_ rfl
          refine we_str ?_
          refine wa_cons ?_ rfl
          refine we_callV (κ := κ) h__law_saying (Nat.le_refl _) ⟨2, rfl⟩ ?_
          refine wa_cons ?_ rfl
          refine we_name (i := 0) rfl rfl rfl ?_
          refine wa_cons ?_ rfl
          refine we_addM (κ := κ) ?_
          refine we_name (i := 1) rfl rfl rfl ?_
          refine we_int ?_
          refine fin2 (f := addM) v_at (.int 1) (vE (u := v_at)) (vE (u := .int 1)) ‹_› fun z23 h => ?_
          refine wa_cons ?_ rfl
          refine we_subM (κ := κ) ?_
          refine we_name (i := 2) rfl rfl rfl ?_
          refine we_int ?_
          refine fin2 (f := subM) v_size (.int 1) (vE (u := v_size)) (vE (u := .int 1)) ‹_› fun z24 h => ?_
          refine wa_cons ?_ rfl
          refine we_name (i := 3) rfl rfl rfl ?_
          refine wa_cons ?_ rfl
          refine we_name (i := 4) rfl rfl rfl ?_
          refine wa_nil ?_
          refine finF (Γ := _) [v_script, z23, z24, v_letters, v_deep] rfl rfl hE ‹_› fun z25 h => ?_
          refine wa_nil ?_
          refine ⟨szd (by decide : 2 < 10000000), ?_⟩
          exact rtV_v (u := (.tup [.str "not", z25])) h
      · refine wss_nil ?_
        refine wss_cons ?_
        refine ws_set (i := 7) rfl rfl ?_ rfl
        refine we_addM (κ := κ) ?_
        refine we_int ?_
        refine we_modM (κ := κ) ?_
        refine we_fdivM (κ := κ) ?_
        refine we_name (i := 5) rfl rfl rfl ?_
        refine we_int ?_
        refine fin2 (f := fdivM) z1 (.int 10) (vE (u := z1)) (vE (u := .int 10)) ‹_› fun z26 h => ?_
        refine we_subM (κ := κ) ?_
        refine we_name (i := 2) rfl rfl rfl ?_
        refine we_int ?_
        refine fin2 (f := subM) v_size (.int 2) (vE (u := v_size)) (vE (u := .int 2)) ‹_› fun z27 h => ?_
        refine fin2 (f := modM) z26 z27 (vE (u := z26)) (vE (u := z27)) ‹_› fun z28 h => ?_
        refine fin2 (f := addM) (.int 1) z28 (vE (u := .int 1)) (vE (u := z28)) ‹_› fun z29 h => ?_
        refine wss_cons ?_
        refine ws_set (i := 8) rfl rfl ?_ rfl
        refine we_callV (κ := κ) h__law_saying (Nat.le_refl _) ⟨2, rfl⟩ ?_
        refine wa_cons ?_ rfl
        refine we_name (i := 0) rfl rfl rfl ?_
        refine wa_cons ?_ rfl
        refine we_addM (κ := κ) ?_
        refine we_name (i := 1) rfl rfl rfl ?_
        refine we_int ?_
        refine fin2 (f := addM) v_at (.int 1) (vE (u := v_at)) (vE (u := .int 1)) ‹_› fun z30 h => ?_
        refine wa_cons ?_ rfl
        refine we_name (i := 7) rfl rfl rfl ?_
        refine wa_cons ?_ rfl
        refine we_name (i := 3) rfl rfl rfl ?_
        refine wa_cons ?_ rfl
        refine we_name (i := 4) rfl rfl rfl ?_
        refine wa_nil ?_
        refine finF (Γ := _) [v_script, z30, z29, v_letters, v_deep] rfl rfl hE ‹_› fun z31 h => ?_
        refine wss_cons ?_
        refine ws_set (i := 9) rfl rfl ?_ rfl
        refine we_callV (κ := κ) h__law_saying (Nat.le_refl _) ⟨2, rfl⟩ ?_
        refine wa_cons ?_ rfl
        refine we_name (i := 0) rfl rfl rfl ?_
        refine wa_cons ?_ rfl
        refine we_addM (κ := κ) ?_
        refine we_addM (κ := κ) ?_
        refine we_name (i := 1) rfl rfl rfl ?_
        refine we_int ?_
        refine fin2 (f := addM) v_at (.int 1) (vE (u := v_at)) (vE (u := .int 1)) ‹_› fun z32 h => ?_
        refine we_name (i := 7) rfl rfl rfl ?_
        refine fin2 (f := addM) z32 z29 (vE (u := z32)) (vE (u := z29)) ‹_› fun z33 h => ?_
        refine wa_cons ?_ rfl
        refine we_subM (κ := κ) ?_
        refine we_subM (κ := κ) ?_
        refine we_name (i := 2) rfl rfl rfl ?_
        refine we_int ?_
        refine fin2 (f := subM) v_size (.int 1) (vE (u := v_size)) (vE (u := .int 1)) ‹_› fun z34 h => ?_
        refine we_name (i := 7) rfl rfl rfl ?_
        refine fin2 (f := subM) z34 z29 (vE (u := z34)) (vE (u := z29)) ‹_› fun z35 h => ?_
        refine wa_cons ?_ rfl
        refine we_name (i := 3) rfl rfl rfl ?_
        refine wa_cons ?_ rfl
        refine we_name (i := 4) rfl rfl rfl ?_
        refine wa_nil ?_
        refine finF (Γ := _) [v_script, z33, z35, v_letters, v_deep] rfl rfl hE ‹_› fun z36 h => ?_
        refine wss_cons ?_
        refine ws_ret ?_
        refine we_tup ?_
        refine wa_cons ?_ rfl
        refine we_ixM (κ := κ) ?_
        refine we_f ?_
        refine wn_lst ?_
        refine wa_cons ?_ rfl
        refine we_str ?_
        refine wa_cons ?_ rfl
        refine we_str ?_
        refine wa_cons ?_ rfl
        refine we_str ?_
        refine wa_nil ?_
        refine ⟨szd (by decide : 3 < 10000000), ?_⟩
        refine we_modM (κ := κ) ?_
        refine we_fdivM (κ := κ) ?_
        refine we_name (i := 5) rfl rfl rfl ?_
        refine we_int ?_
        refine fin2 (f := fdivM) z1 (.int 1000) (vE (u := z1)) (vE (u := .int 1000)) ‹_› fun z37 h => ?_
        refine we_int ?_
        refine fin2 (f := modM) z37 (.int 3) (vE (u := z37)) (vE (u := .int 3)) ‹_› fun z38 h => ?_
        refine fin2 (f := ixM) (.lst [.str "and", .str "or", .str "if"]) z38 (vE (u := .lst [.str "and", .str "or", .str "if"])) (vE (u := z38)) ‹_› fun z39 h => ?_
        refine wa_cons ?_ rfl
        refine we_name (i := 8) rfl rfl rfl ?_
        refine wa_cons ?_ rfl
        refine we_name (i := 9) rfl rfl rfl ?_
        refine wa_nil ?_
        refine ⟨szd (by decide : 3 < 10000000), ?_⟩
        exact rtV_v (u := (.tup [z39, z31, z36])) h

abbrev st_are_marks : Stmt := topS 6
abbrev N_are_marks : List Str := ["marks", "letter"]
abbrev vs_are_marks : List Bool := [true, false]
abbrev gl_are_marks : List Str := ["LETTERS"]
theorem sc_are_marks : FnScope N_are_marks ["marks"] (defScope st_are_marks) := ⟨rfl, rfl, rfl, by decide +kernel, rfl, by decide +kernel, by decide +kernel⟩
theorem gd_are_marks : goodC N_are_marks (defScope st_are_marks) vs_are_marks vs_are_marks gl_are_marks = true := by decide +kernel
@[reducible] def cx_are_marks (G : Gl) (k : Nat) : Pl.Ctx := G.cx N_are_marks (defScope st_are_marks) vs_are_marks vs_are_marks gl_are_marks k

theorem ok_are_marks (T : Tp G κ) : ∀ k, G.fn k "are_marks" 1 (spV κ 1 (sh_are_marks k))
  | 0 => fn_none T.d_are_marks (spV_none fun us => rfl)
  | kk + 1 => by
    refine def_V T.d_are_marks sc_are_marks gd_are_marks fun us hl Q Eh h => ?_
    have hE : EI κ Eh (erM κ Eh) := EI.erM
    obtain ⟨v_marks, rfl⟩ := len1 hl
    change WSs _ [some (em κ v_marks), none] _ (_ :: _) _
    rw [sh_are_marks] at h
    refine wss_cons ?_
    refine ws_ret ?_
    refine we_eqM (κ := κ) ?_
    refine we_name (i := 0) rfl rfl rfl ?_
    refine we_joinM (κ := κ) ?_
    refine we_str ?_
    refine ⟨(""), rfl, ?_⟩
    refine we_f ?_
    refine wn_lc [("letter", 1)] [true, true] [false, true] [] [1] (blkOk_by (by decide +kernel : blkC N_are_marks (defScope st_are_marks) _ [("letter", 1)] = true)) (good_blk (by decide +kernel : goodC N_are_marks (relS _ (defScope st_are_marks)) [true, true] [false, true] [] = true)) (sto_by (by decide +kernel : stoC N_are_marks _ [false, true] = true)) (by decide) ?_
    refine wi_SM (κ := κ) ?_
    refine we_gstr ⟨0, rfl⟩ T.c_LETTERS ?_
    refine finI (f := iterS) (.str "pqr") ‹_› fun it1 h => ?_
    refine compF_m h (fun x2 Qb Q1 h h2 => ?_) (fun zs3 h => ?_)
    · have hE : EI κ no ER.none := EI.no
      refine wg_name (i := 1) rfl rfl ?_
      refine wt_inM (κ := κ) ?_
      refine we_name (i := 1) rfl rfl rfl ?_
      refine we_name (i := 0) rfl rfl rfl ?_
      refine fin2 (f := inM) x2 v_marks (vE (u := x2)) (vE (u := v_marks)) ‹_› fun b4 h => ?_
      refine ⟨rfl, h, fun hb => ?_⟩
      replace h := h2 (by cases hb; exact h)
      refine we_name (i := 1) rfl rfl rfl ?_
      exact ⟨rfl, x2, rfl, h⟩
    refine fin1 (f := fun u => joinM (.str "") u) (.lst zs3) (vE (u := .lst zs3)) ‹_› fun z5 h => ?_
    refine fin2 (f := (vB eqM)) v_marks z5 (vE (u := v_marks)) (vE (u := z5)) ‹_› fun z6 h => ?_
    exact rtV_v (u := z6) h

abbrev st_look_over : Stmt := topS 7
abbrev N_look_over : List Str := ["rooms", "k", "room", "right"]
abbrev vs_look_over : List Bool := [true, true, true, true]
abbrev gl_look_over : List Str := ["len", "NoTree", "enumerate", "are_marks"]
theorem sc_look_over : FnScope N_look_over ["rooms"] (defScope st_look_over) := ⟨rfl, rfl, rfl, by decide +kernel, rfl, by decide +kernel, by decide +kernel⟩
theorem gd_look_over : goodC N_look_over (defScope st_look_over) vs_look_over vs_look_over gl_look_over = true := by decide +kernel
@[reducible] def cx_look_over (G : Gl) (k : Nat) : Pl.Ctx := G.cx N_look_over (defScope st_look_over) vs_look_over vs_look_over gl_look_over k

theorem ok_look_over (T : Tp G κ) : ∀ k, G.fn k "look_over" 1 (spV κ 1 (sh_look_over k))
  | 0 => fn_none T.d_look_over (spV_none fun us => rfl)
  | kk + 1 => by
    have h_are_marks := ok_are_marks T kk
    refine def_V T.d_look_over sc_look_over gd_look_over fun us hl Q Eh h => ?_
    have hE : EI κ Eh (erM κ Eh) := EI.erM
    obtain ⟨v_rooms, rfl⟩ := len1 hl
    change WSs _ [some (em κ v_rooms), none, none, none] _ (_ :: _) _
    refine wss_cons ?_
    refine ws_if ?_
    refine wt_eqM (κ := κ) ?_
    refine we_lenM (κ := κ) ⟨0, rfl⟩ T.z_len ?_
    refine we_name (i := 0) rfl rfl rfl ?_
    refine fin1 (f := lenM) v_rooms (vE (u := v_rooms)) ‹_› fun z1 h => ?_
    refine we_int ?_
    refine fin2 (f := eqM) z1 (.int 0) (vE (u := z1)) (vE (u := .int 0)) ‹_› fun b2 h => ?_
    refine ite_m ‹_› (fun h => ?_) (fun h => ?_)
    · refine wss_cons ?_
      exact False.elim h
    · refine wss_nil ?_
      refine wss_cons ?_
      refine ws_for [1, 2] ?_
      refine wi_enum (κ := κ) ⟨2, rfl⟩ T.z_enumerate ?_
      refine we_name (i := 0) rfl rfl rfl ?_
      refine finI (f := enumM) v_rooms ‹_› fun it3 h => ?_
      refine loopN_m (fun (st : Unit) (Γ : Pl.Env) (Λ : Cells) => ∃ (y0 : Option D) (y1 : Option D) (y2 : Option D), Γ = [some (em κ v_rooms), y0, y1, y2] ∧ Λ = []) h ⟨_, _, _, rfl, rfl⟩ (fun st x4 Γ Λ Q1 hs h => ?_) (fun st Γ Λ hs h => ?_)
      · obtain ⟨y0, y1, y2, rfl, rfl⟩ := hs
        refine tg2 x4 ‹_› fun v_k_5 v_room_6 h => ?_
        refine wg_tup ?_ rfl
        refine wgs_cons1 ?_ rfl
        refine wg_name (i := 1) rfl rfl ?_
        refine wgs_cons1 ?_ rfl
        refine wg_name (i := 2) rfl rfl ?_
        refine wgs_nil ?_
        refine wss_cons ?_
        refine ws_set (i := 3) rfl rfl ?_ rfl
        refine we_eqM (κ := κ) ?_
        refine we_ixM (κ := κ) ?_
        refine we_name (i := 2) rfl rfl rfl ?_
        refine we_int ?_
        refine fin2 (f := ixM) v_room_6 (.int 0) (vE (u := v_room_6)) (vE (u := .int 0)) ‹_› fun z7 h => ?_
        refine we_negM (κ := κ) ?_
        refine we_int ?_
        refine fin1 (f := negM) (.int 1) (vE (u := .int 1)) ‹_› fun z8 h => ?_
        refine fin2 (f := (vB eqM)) z7 z8 (vE (u := z7)) (vE (u := z8)) ‹_› fun z9 h => ?_
        refine wss_cons ?_
        refine ws_cutM (fun (st : U) (Γ : Pl.Env) (Λ : Cells) => Γ = [some (em κ v_rooms), some (em κ v_k_5), some (em κ v_room_6), some (em κ st)] ∧ Λ = []) h (fun Q1 h => ?_) (fun v_right_15 Γ Λ hs h => ?_)
        · refine ws_if ?_
          refine wt_gtM (κ := κ) ?_
          refine we_name (i := 1) rfl rfl rfl ?_
          refine we_int ?_
          refine fin2 (f := gtM) v_k_5 (.int 0) (vE (u := v_k_5)) (vE (u := .int 0)) ‹_› fun b10 h => ?_
          refine ite_m ‹_› (fun h => ?_) (fun h => ?_)
          · refine wss_cons ?_
            refine ws_set (i := 3) rfl rfl ?_ rfl
            refine we_cutM (κ := κ) h (fun Q1 h => ?_) (fun z14 h => ?_)
            · refine we_leltM (κ := κ) ?_
              refine we_int ?_
              refine we_ixM (κ := κ) ?_
              refine we_name (i := 2) rfl rfl rfl ?_
              refine we_int ?_
              refine fin2 (f := ixM) v_room_6 (.int 0) (vE (u := v_room_6)) (vE (u := .int 0)) ‹_› fun z11 h => ?_
              refine fin2 (f := leM) (.int 0) z11 (vE (u := .int 0)) (vE (u := z11)) ‹_› fun b12 h => ?_
              refine ite_m ‹_› (fun h => ?_) (fun h => ?_)
              · refine we_name (i := 1) rfl rfl rfl ?_
                refine fin2 (f := ltM) z11 v_k_5 (vE (u := z11)) (vE (u := v_k_5)) ‹_› fun b13 h => ?_
                exact ⟨rfl, (.bl b13), rfl, h⟩
              · exact ⟨rfl, (.bl false), rfl, h⟩
            refine wss_nil ?_
            exact ⟨z14, ⟨rfl, rfl⟩, h⟩
          · refine wss_nil ?_
            exact ⟨z9, ⟨rfl, rfl⟩, h⟩
        · obtain ⟨rfl, rfl⟩ := hs
          refine wss_cons ?_
          refine ws_if ?_
          refine wt_cutM ‹_› (fun Q1 h => ?_) (fun b20 h => ?_)
          · refine wt_ww (ww_or ?_)
            refine wt_not ?_
            refine wt_valM (κ := κ) ?_
            refine we_name (i := 3) rfl rfl rfl ?_
            refine fin1 (f := boolM) v_right_15 (vE (u := v_right_15)) ‹_› fun b16 h => ?_
            refine ite_m ‹_› (fun h => ?_) (fun h => ?_)
            · exact ⟨rfl, h⟩
            · refine ww_or1 ?_
              refine wt_not ?_
              refine wt_valM (κ := κ) ?_
              refine we_callV (κ := κ) h_are_marks (Nat.le_refl _) ⟨3, rfl⟩ ?_
              refine wa_cons ?_ rfl
              refine we_ixM (κ := κ) ?_
              refine we_name (i := 2) rfl rfl rfl ?_
              refine we_int ?_
              refine fin2 (f := ixM) v_room_6 (.int 1) (vE (u := v_room_6)) (vE (u := .int 1)) ‹_› fun z17 h => ?_
              refine wa_nil ?_
              refine finF (Γ := _) [z17] rfl rfl hE ‹_› fun z18 h => ?_
              refine fin1 (f := boolM) z18 (vE (u := z18)) ‹_› fun b19 h => ?_
              exact ⟨rfl, h⟩
          refine ite_m ‹_› (fun h => ?_) (fun h => ?_)
          · refine wss_cons ?_
            exact False.elim h
          · refine wss_nil ?_
            refine wss_nil ?_
            exact ⟨(), ⟨_, _, _, rfl, rfl⟩, h⟩
      · obtain ⟨y0, y1, y2, rfl, rfl⟩ := hs
        refine wss_nil ?_
        exact h

abbrev st_Tree_init : Stmt := inClass (topS 11) 0
abbrev N_Tree_init : List Str := ["self", "rooms", "room"]
abbrev vs_Tree_init : List Bool := [true, true, false]
abbrev gl_Tree_init : List Str := ["look_over"]
theorem sc_Tree_init : FnScope N_Tree_init ["self", "rooms"] (defScope st_Tree_init) := ⟨rfl, rfl, rfl, by decide +kernel, rfl, by decide +kernel, by decide +kernel⟩
theorem gd_Tree_init : goodC N_Tree_init (defScope st_Tree_init) vs_Tree_init vs_Tree_init gl_Tree_init = true := by decide +kernel
@[reducible] def cx_Tree_init (G : Gl) (k : Nat) : Pl.Ctx := G.cx N_Tree_init (defScope st_Tree_init) vs_Tree_init vs_Tree_init gl_Tree_init k

theorem ok_Tree_init (T : Tp G κ) : ∀ k, Glit G k (κ.ad "Tree") 2 (spI2 κ 2 (κ.ad "Tree") "kept" (sh_Tree_init k))
  | 0 => InitAt.none T.d_Tree_init (spI2_none fun us => rfl)
  | kk + 1 => by
    have h_look_over := ok_look_over T kk
    refine init_I2 T.d_Tree_init sc_Tree_init gd_Tree_init fun us hl Q h => ?_
    have hE : EI κ no ER.none := EI.no
    obtain ⟨v_rooms, rfl⟩ := len1 (Nat.succ.inj hl)
    change WSs _ [some (.loc 0), some (em κ v_rooms), none] [.ins (κ.ad "Tree") [] []] (_ :: _) _
    refine wss_cons ?_
    refine ws_expr ?_
    refine we_callV (κ := κ) h_look_over (Nat.le_refl _) ⟨0, rfl⟩ ?_
    refine wa_cons ?_ rfl
    refine we_name (i := 1) rfl rfl rfl ?_
    refine wa_nil ?_
    refine finF (Γ := _) [v_rooms] rfl rfl hE ‹_› fun z1 h => ?_
    refine wss_cons ?_
    refine ws_fld (f := "kept") (T.kls_Tree "Tree" (by decide)).1 (T.kls_Tree "Tree" (by decide)).2.1 ?_
    refine we_o ?_
    refine wn_lc [("room", 2)] [false, false, true] [false, false, true] [] [2] (blkOk_by (by decide +kernel : blkC N_Tree_init (defScope st_Tree_init) _ [("room", 2)] = true)) (good_blk (by decide +kernel : goodC N_Tree_init (relS _ (defScope st_Tree_init)) [false, false, true] [false, false, true] [] = true)) (sto_by (by decide +kernel : stoC N_Tree_init _ [false, false, true] = true)) (by decide) ?_
    refine wi_LM (κ := κ) ?_
    refine we_name (i := 1) rfl rfl rfl ?_
    refine finI (f := iterL) v_rooms ‹_› fun it2 h => ?_
    refine comp_m h (fun x3 Q1 h => ?_) (fun zs4 h => ?_)
    · have hE : EI κ no ER.none := EI.no
      refine wg_name (i := 2) rfl rfl ?_
      refine we_tup ?_
      refine wa_cons ?_ rfl
      refine we_ixM (κ := κ) ?_
      refine we_name (i := 2) rfl rfl rfl ?_
      refine we_int ?_
      refine fin2 (f := ixM) x3 (.int 0) (vE (u := x3)) (vE (u := .int 0)) ‹_› fun z5 h => ?_
      refine wa_cons ?_ rfl
      refine we_ixM (κ := κ) ?_
      refine we_name (i := 2) rfl rfl rfl ?_
      refine we_int ?_
      refine fin2 (f := ixM) x3 (.int 1) (vE (u := x3)) (vE (u := .int 1)) ‹_› fun z6 h => ?_
      refine wa_nil ?_
      refine ⟨szd (by decide : 2 < 10000000), ?_⟩
      exact ⟨rfl, (.tup [z5, z6]), rfl, h⟩
    refine we_name (i := 0) rfl rfl rfl ?_
    refine ⟨0, rfl, rfl, ?_⟩
    refine wss_nil ?_
    exact ⟨zs4, rfl, rfl, by exact h⟩

abbrev st_all_above : Stmt := topS 8
abbrev N_all_above : List Str := ["rooms", "inner", "held", "k", "below", "room"]
abbrev vs_all_above : List Bool := [true, true, true, true, true, false]
abbrev gl_all_above : List Str := ["reversed", "range", "len"]
theorem sc_all_above : FnScope N_all_above ["rooms", "inner"] (defScope st_all_above) := ⟨rfl, rfl, rfl, by decide +kernel, rfl, by decide +kernel, by decide +kernel⟩
theorem gd_all_above : goodC N_all_above (defScope st_all_above) vs_all_above vs_all_above gl_all_above = true := by decide +kernel
@[reducible] def cx_all_above (G : Gl) (k : Nat) : Pl.Ctx := G.cx N_all_above (defScope st_all_above) vs_all_above vs_all_above gl_all_above k

theorem ok_all_above (T : Tp G κ) : ∀ k, G.fn k "all_above" 2 (spN κ 2 (sh_all_above k))
  | 0 => fn_none T.d_all_above (spN_none fun us => rfl)
  | kk + 1 => by
    refine def_N T.d_all_above sc_all_above gd_all_above fun us hl Q Eh h => ?_
    have hE : EI κ Eh (erM κ Eh) := EI.erM
    obtain ⟨v_rooms, v_inner, rfl⟩ := len2 hl
    change WSs _ [some (em κ v_rooms), some (em κ v_inner), none, none, none, none] _ (_ :: _) _
    refine wss_cons ?_
    refine ws_setlco (i := 2) [("room", 5)] [false, false, false, false, false, true] [false, false, false, false, false, true] [] [5] rfl rfl rfl rfl (by decide +kernel) (blkOk_by (by decide +kernel : blkC N_all_above (defScope st_all_above) _ [("room", 5)] = true)) (good_blk (by decide +kernel : goodC N_all_above (relS _ (defScope st_all_above)) [false, false, false, false, false, true] [false, false, false, false, false, true] [] = true)) (sto_by (by decide +kernel : stoC N_all_above _ [false, false, false, false, false, true] = true)) (by decide) ?_
    refine wi_LM (κ := κ) ?_
    refine we_name (i := 0) rfl rfl rfl ?_
    refine finI (f := iterL) v_rooms ‹_› fun it1 h => ?_
    refine comp_m h (fun x2 Q1 h => ?_) (fun zs3 h => ?_)
    · have hE : EI κ no ER.none := EI.no
      refine wg_name (i := 5) rfl rfl ?_
      refine we_bl ?_
      exact ⟨rfl, (.bl true), rfl, h⟩
    refine wss_cons ?_
    refine ws_for [3] ?_
    refine wi_rrng1 (κ := κ) ⟨0, rfl⟩ T.z_reversed ⟨1, rfl⟩ T.z_range ?_
    refine we_lenM (κ := κ) ⟨2, rfl⟩ T.z_len ?_
    refine we_name (i := 0) rfl rfl rfl ?_
    refine fin1 (f := lenM) v_rooms (vE (u := v_rooms)) ‹_› fun z5 h => ?_
    refine finI (f := rrng1M) z5 ‹_› fun it4 h => ?_
    refine loopN_m (fun (st : List U) (Γ : Pl.Env) (Λ : Cells) => ∃ (y0 : Option D) (y1 : Option D) (y2 : Option D), Γ = [some (em κ v_rooms), some (em κ v_inner), some (.loc 0), y0, y1, y2] ∧ Λ = [.lst (ems κ st)]) h ⟨_, _, _, rfl, rfl⟩ (fun v_held_6 x7 Γ Λ Q1 hs h => ?_) (fun v_held_19 Γ Λ hs h => ?_)
    · obtain ⟨y0, y1, y2, rfl, rfl⟩ := hs
      refine wg_name (i := 3) rfl rfl ?_
      refine wss_cons ?_
      refine ws_set (i := 4) rfl rfl ?_ rfl
      refine we_ixM (κ := κ) ?_
      refine we_ixM (κ := κ) ?_
      refine we_name (i := 0) rfl rfl rfl ?_
      refine we_name (i := 3) rfl rfl rfl ?_
      refine fin2 (f := ixM) v_rooms x7 (vE (u := v_rooms)) (vE (u := x7)) ‹_› fun z8 h => ?_
      refine we_int ?_
      refine fin2 (f := ixM) z8 (.int 0) (vE (u := z8)) (vE (u := .int 0)) ‹_› fun z9 h => ?_
      refine wss_cons ?_
      refine ws_cutM (fun (st : List U) (Γ : Pl.Env) (Λ : Cells) => ∃ (y0 : Option D), Γ = [some (em κ v_rooms), some (em κ v_inner), some (.loc 0), some (em κ x7), some (em κ z9), y0] ∧ Λ = [.lst (ems κ st)]) h (fun Q1 h => ?_) (fun v_held_18 Γ Λ hs h => ?_)
      · refine ws_if ?_
        refine wt_cutM ‹_› (fun Q1 h => ?_) (fun b16 h => ?_)
        · refine wt_ww (ww_and ?_)
          refine wt_geM (κ := κ) ?_
          refine we_name (i := 4) rfl rfl rfl ?_
          refine we_int ?_
          refine fin2 (f := geM) z9 (.int 0) (vE (u := z9)) (vE (u := .int 0)) ‹_› fun b10 h => ?_
          refine ite_m ‹_› (fun h => ?_) (fun h => ?_)
          · refine ww_and1 ?_
            refine wt_not ?_
            refine wt_cutM ‹_› (fun Q1 h => ?_) (fun b15 h => ?_)
            · refine wt_ww (ww_and ?_)
              refine wt_valM (κ := κ) ?_
              refine we_ixM (κ := κ) ?_
              refine we_name (i := 1) rfl rfl rfl ?_
              refine we_name (i := 3) rfl rfl rfl ?_
              refine fin2 (f := ixM) v_inner x7 (vE (u := v_inner)) (vE (u := x7)) ‹_› fun z11 h => ?_
              refine fin1 (f := boolM) z11 (vE (u := z11)) ‹_› fun b12 h => ?_
              refine ite_m ‹_› (fun h => ?_) (fun h => ?_)
              · refine ww_and1 ?_
                refine wt_valM (κ := κ) ?_
                refine we_ixM (κ := κ) ?_
                refine we_name (i := 2) rfl rfl rfl ?_
                refine we_name (i := 3) rfl rfl rfl ?_
                refine fin2 (f := ixM) (.lst v_held_6) x7 (vL rfl) (vE (u := x7)) ‹_› fun z13 h => ?_
                refine fin1 (f := boolM) z13 (vE (u := z13)) ‹_› fun b14 h => ?_
                exact ⟨rfl, h⟩
              · exact ⟨rfl, h⟩
            exact ⟨rfl, h⟩
          · exact ⟨rfl, h⟩
        refine ite_m ‹_› (fun h => ?_) (fun h => ?_)
        · refine wss_cons ?_
          refine ws_setM (κ := κ) 0 ?_
          refine we_bl ?_
          refine we_name (i := 2) rfl rfl rfl ?_
          refine we_name (i := 4) rfl rfl rfl ?_
          refine ⟨rfl, finS v_held_6 (.bl false) z9 rfl ‹_› fun l17 h => ?_⟩
          refine wss_nil ?_
          exact ⟨l17, ⟨_, rfl, rfl⟩, h⟩
        · refine wss_nil ?_
          exact ⟨v_held_6, ⟨_, rfl, rfl⟩, h⟩
      · obtain ⟨y0, rfl, rfl⟩ := hs
        refine wss_nil ?_
        exact ⟨v_held_18, ⟨_, _, _, rfl, rfl⟩, h⟩
    · obtain ⟨y0, y1, y2, rfl, rfl⟩ := hs
      refine wss_cons ?_
      refine ws_ret ?_
      refine we_name (i := 2) rfl rfl rfl ?_
      exact rtL_o (us := v_held_19) rfl h

abbrev st_joined : Stmt := topS 9
abbrev N_joined : List Str := ["word", "ones", "others", "one", "other"]
abbrev vs_joined : List Bool := [true, true, true, false, false]
abbrev gl_joined : List Str := ["zip"]
theorem sc_joined : FnScope N_joined ["word", "ones", "others"] (defScope st_joined) := ⟨rfl, rfl, rfl, by decide +kernel, rfl, by decide +kernel, by decide +kernel⟩
theorem gd_joined : goodC N_joined (defScope st_joined) vs_joined vs_joined gl_joined = true := by decide +kernel
@[reducible] def cx_joined (G : Gl) (k : Nat) : Pl.Ctx := G.cx N_joined (defScope st_joined) vs_joined vs_joined gl_joined k

theorem ok_joined (T : Tp G κ) : ∀ k, G.fn k "joined" 3 (spN κ 3 (sh_joined k))
  | 0 => fn_none T.d_joined (spN_none fun us => rfl)
  | kk + 1 => by
    refine def_N T.d_joined sc_joined gd_joined fun us hl Q Eh h => ?_
    have hE : EI κ Eh (erM κ Eh) := EI.erM
    obtain ⟨v_word, v_ones, v_others, rfl⟩ := len3 hl
    change WSs _ [some (em κ v_word), some (em κ v_ones), some (em κ v_others), none, none] _ (_ :: _) _
    refine wss_cons ?_
    refine ws_if ?_
    refine wt_eqM (κ := κ) ?_
    refine we_name (i := 0) rfl rfl rfl ?_
    refine we_str ?_
    refine fin2 (f := eqM) v_word (.str "and") (vE (u := v_word)) (vE (u := .str "and")) ‹_› fun b1 h => ?_
    refine ite_m ‹_› (fun h => ?_) (fun h => ?_)
    · refine wss_cons ?_
      refine ws_retn ?_
      refine wn_lc [("one", 3), ("other", 4)] [false, false, false, true, true] [false, false, false, true, true] [] [3, 4] (blkOk_by (by decide +kernel : blkC N_joined (defScope st_joined) _ [("one", 3), ("other", 4)] = true)) (good_blk (by decide +kernel : goodC N_joined (relS _ (defScope st_joined)) [false, false, false, true, true] [false, false, false, true, true] [] = true)) (sto_by (by decide +kernel : stoC N_joined _ [false, false, false, true, true] = true)) (by decide) ?_
      refine wi_zip (κ := κ) ⟨0, rfl⟩ T.z_zip ?_
      refine we_name (i := 1) rfl rfl rfl ?_
      refine we_name (i := 2) rfl rfl rfl ?_
      refine finI2 (f := zipM) v_ones v_others ‹_› fun it2 h => ?_
      refine comp_m h (fun x3 Q1 h => ?_) (fun zs6 h => ?_)
      · have hE : EI κ no ER.none := EI.no
        refine tg2 x3 ‹_› fun v_one_4 v_other_5 h => ?_
        refine wg_tup ?_ rfl
        refine wgs_cons1 ?_ rfl
        refine wg_name (i := 3) rfl rfl ?_
        refine wgs_cons1 ?_ rfl
        refine wg_name (i := 4) rfl rfl ?_
        refine wgs_nil ?_
        refine we_cutM (κ := κ) h (fun Q1 h => ?_) (fun z8 h => ?_)
        · refine we_andM (κ := κ) ?_
          refine we_name (i := 3) rfl rfl rfl ?_
          refine fin1 (f := boolM) v_one_4 (vE (u := v_one_4)) ‹_› fun b7 h => ?_
          refine ite_m ‹_› (fun h => ?_) (fun h => ?_)
          · refine we_one ?_
            refine we_name (i := 4) rfl rfl rfl ?_
            exact ⟨rfl, v_other_5, rfl, h⟩
          · exact ⟨rfl, (.bl false), rfl, h⟩
        exact ⟨rfl, z8, rfl, h⟩
      exact rtL_v (us := zs6) h
    · refine wss_nil ?_
      refine wss_cons ?_
      refine ws_if ?_
      refine wt_eqM (κ := κ) ?_
      refine we_name (i := 0) rfl rfl rfl ?_
      refine we_str ?_
      refine fin2 (f := eqM) v_word (.str "or") (vE (u := v_word)) (vE (u := .str "or")) ‹_› fun b9 h => ?_
      refine ite_m ‹_› (fun h => ?_) (fun h => ?_)
      · refine wss_cons ?_
        refine ws_retn ?_
        refine wn_lc [("one", 3), ("other", 4)] [false, false, false, true, true] [false, false, false, true, true] [] [3, 4] (blkOk_by (by decide +kernel : blkC N_joined (defScope st_joined) _ [("one", 3), ("other", 4)] = true)) (good_blk (by decide +kernel : goodC N_joined (relS _ (defScope st_joined)) [false, false, false, true, true] [false, false, false, true, true] [] = true)) (sto_by (by decide +kernel : stoC N_joined _ [false, false, false, true, true] = true)) (by decide) ?_
        refine wi_zip (κ := κ) ⟨0, rfl⟩ T.z_zip ?_
        refine we_name (i := 1) rfl rfl rfl ?_
        refine we_name (i := 2) rfl rfl rfl ?_
        refine finI2 (f := zipM) v_ones v_others ‹_› fun it10 h => ?_
        refine comp_m h (fun x11 Q1 h => ?_) (fun zs14 h => ?_)
        · have hE : EI κ no ER.none := EI.no
          refine tg2 x11 ‹_› fun v_one_12 v_other_13 h => ?_
          refine wg_tup ?_ rfl
          refine wgs_cons1 ?_ rfl
          refine wg_name (i := 3) rfl rfl ?_
          refine wgs_cons1 ?_ rfl
          refine wg_name (i := 4) rfl rfl ?_
          refine wgs_nil ?_
          refine we_cutM (κ := κ) h (fun Q1 h => ?_) (fun z16 h => ?_)
          · refine we_orM (κ := κ) ?_
            refine we_name (i := 3) rfl rfl rfl ?_
            refine fin1 (f := boolM) v_one_12 (vE (u := v_one_12)) ‹_› fun b15 h => ?_
            refine ite_m ‹_› (fun h => ?_) (fun h => ?_)
            · exact ⟨rfl, (.bl true), rfl, h⟩
            · refine we_one ?_
              refine we_name (i := 4) rfl rfl rfl ?_
              exact ⟨rfl, v_other_13, rfl, h⟩
          exact ⟨rfl, z16, rfl, h⟩
        exact rtL_v (us := zs14) h
      · refine wss_nil ?_
        refine wss_cons ?_
        refine ws_retn ?_
        refine wn_lc [("one", 3), ("other", 4)] [false, false, false, true, true] [false, false, false, true, true] [] [3, 4] (blkOk_by (by decide +kernel : blkC N_joined (defScope st_joined) _ [("one", 3), ("other", 4)] = true)) (good_blk (by decide +kernel : goodC N_joined (relS _ (defScope st_joined)) [false, false, false, true, true] [false, false, false, true, true] [] = true)) (sto_by (by decide +kernel : stoC N_joined _ [false, false, false, true, true] = true)) (by decide) ?_
        refine wi_zip (κ := κ) ⟨0, rfl⟩ T.z_zip ?_
        refine we_name (i := 1) rfl rfl rfl ?_
        refine we_name (i := 2) rfl rfl rfl ?_
        refine finI2 (f := zipM) v_ones v_others ‹_› fun it17 h => ?_
        refine comp_m h (fun x18 Q1 h => ?_) (fun zs21 h => ?_)
        · have hE : EI κ no ER.none := EI.no
          refine tg2 x18 ‹_› fun v_one_19 v_other_20 h => ?_
          refine wg_tup ?_ rfl
          refine wgs_cons1 ?_ rfl
          refine wg_name (i := 3) rfl rfl ?_
          refine wgs_cons1 ?_ rfl
          refine wg_name (i := 4) rfl rfl ?_
          refine wgs_nil ?_
          refine we_cutM (κ := κ) h (fun Q1 h => ?_) (fun z24 h => ?_)
          · refine we_orM (κ := κ) ?_
            refine we_notM (κ := κ) ?_
            refine we_name (i := 3) rfl rfl rfl ?_
            refine fin1 (f := boolM) v_one_19 (vE (u := v_one_19)) ‹_› fun z22 h => ?_
            refine fin1 (f := boolM) (.bl (!z22)) (vE (u := .bl (!z22))) ‹_› fun b23 h => ?_
            refine ite_m ‹_› (fun h => ?_) (fun h => ?_)
            · exact ⟨rfl, (.bl true), rfl, h⟩
            · refine we_one ?_
              refine we_name (i := 4) rfl rfl rfl ?_
              exact ⟨rfl, v_other_20, rfl, h⟩
          exact ⟨rfl, z24, rfl, h⟩
        exact rtL_v (us := zs21) h

abbrev st_truths_in : Stmt := topS 10
abbrev N_truths_in : List Str := ["rooms", "saying", "given", "word", "inner", "room", "below", "marks", "truth"]
abbrev vs_truths_in : List Bool := [true, true, true, true, true, false, false, false, false]
abbrev gl_truths_in : List Str := ["list", "truths_in", "all_above", "joined"]
theorem sc_truths_in : FnScope N_truths_in ["rooms", "saying", "given"] (defScope st_truths_in) := ⟨rfl, rfl, rfl, by decide +kernel, rfl, by decide +kernel, by decide +kernel⟩
theorem gd_truths_in : goodC N_truths_in (defScope st_truths_in) vs_truths_in vs_truths_in gl_truths_in = true := by decide +kernel
@[reducible] def cx_truths_in (G : Gl) (k : Nat) : Pl.Ctx := G.cx N_truths_in (defScope st_truths_in) vs_truths_in vs_truths_in gl_truths_in k

theorem ok_truths_in (T : Tp G κ) : ∀ k, G.fn k "truths_in" 3 (spN κ 3 (sh_truths_in k))
  | 0 => fn_none T.d_truths_in (spN_none fun us => rfl)
  | kk + 1 => by
    have h_truths_in := ok_truths_in T kk
    have h_all_above := ok_all_above T kk
    have h_joined := ok_joined T kk
    refine def_N T.d_truths_in sc_truths_in gd_truths_in fun us hl Q Eh h => ?_
    have hE : EI κ Eh (erM κ Eh) := EI.erM
    obtain ⟨v_rooms, v_saying, v_given, rfl⟩ := len3 hl
    change WSs _ [some (em κ v_rooms), some (em κ v_saying), some (em κ v_given), none, none, none, none, none, none] _ (_ :: _) _
    refine wss_cons ?_
    refine ws_set (i := 3) rfl rfl ?_ rfl
    refine we_ixM (κ := κ) ?_
    refine we_name (i := 1) rfl rfl rfl ?_
    refine we_int ?_
    refine fin2 (f := ixM) v_saying (.int 0) (vE (u := v_saying)) (vE (u := .int 0)) ‹_› fun z1 h => ?_
    refine wss_cons ?_
    refine ws_if ?_
    refine wt_eqM (κ := κ) ?_
    refine we_name (i := 3) rfl rfl rfl ?_
    refine we_str ?_
    refine fin2 (f := eqM) z1 (.str "no") (vE (u := z1)) (vE (u := .str "no")) ‹_› fun b2 h => ?_
    refine ite_m ‹_› (fun h => ?_) (fun h => ?_)
    · refine wss_cons ?_
      refine ws_retn ?_
      refine wn_lc [("room", 5)] [false, false, false, false, false, true, false, false, false] [false, false, false, false, false, true, false, false, false] [] [5] (blkOk_by (by decide +kernel : blkC N_truths_in (defScope st_truths_in) _ [("room", 5)] = true)) (good_blk (by decide +kernel : goodC N_truths_in (relS _ (defScope st_truths_in)) [false, false, false, false, false, true, false, false, false] [false, false, false, false, false, true, false, false, false] [] = true)) (sto_by (by decide +kernel : stoC N_truths_in _ [false, false, false, false, false, true, false, false, false] = true)) (by decide) ?_
      refine wi_LM (κ := κ) ?_
      refine we_name (i := 0) rfl rfl rfl ?_
      refine finI (f := iterL) v_rooms ‹_› fun it3 h => ?_
      refine comp_m h (fun x4 Q1 h => ?_) (fun zs5 h => ?_)
      · have hE : EI κ no ER.none := EI.no
        refine wg_name (i := 5) rfl rfl ?_
        refine we_bl ?_
        exact ⟨rfl, (.bl false), rfl, h⟩
      exact rtL_v (us := zs5) h
    · refine wss_nil ?_
      refine wss_cons ?_
      refine ws_if ?_
      refine wt_eqM (κ := κ) ?_
      refine we_name (i := 3) rfl rfl rfl ?_
      refine we_str ?_
      refine fin2 (f := eqM) z1 (.str "letter") (vE (u := z1)) (vE (u := .str "letter")) ‹_› fun b6 h => ?_
      refine ite_m ‹_› (fun h => ?_) (fun h => ?_)
      · refine wss_cons ?_
        refine ws_if ?_
        refine wt_inM (κ := κ) ?_
        refine we_ixM (κ := κ) ?_
        refine we_name (i := 1) rfl rfl rfl ?_
        refine we_int ?_
        refine fin2 (f := ixM) v_saying (.int 1) (vE (u := v_saying)) (vE (u := .int 1)) ‹_› fun z7 h => ?_
        refine we_name (i := 2) rfl rfl rfl ?_
        refine fin2 (f := inM) z7 v_given (vE (u := z7)) (vE (u := v_given)) ‹_› fun b8 h => ?_
        refine ite_m ‹_› (fun h => ?_) (fun h => ?_)
        · refine wss_cons ?_
          refine ws_retn ?_
          refine wn_listM (κ := κ) ⟨0, rfl⟩ T.z_list ?_
          refine we_ixdM (κ := κ) ?_
          refine we_name (i := 2) rfl rfl rfl ?_
          refine we_ixM (κ := κ) ?_
          refine we_name (i := 1) rfl rfl rfl ?_
          refine we_int ?_
          refine fin2 (f := ixM) v_saying (.int 1) (vE (u := v_saying)) (vE (u := .int 1)) ‹_› fun z9 h => ?_
          refine fin2 (f := ixdM) v_given z9 (vE (u := v_given)) (vE (u := z9)) ‹_› fun z10 h => ?_
          refine fin1 (f := listM) z10 (vE (u := z10)) ‹_› fun z11 h => ?_
          exact rtL_v (us := z11) h
        · refine wss_nil ?_
          refine wss_cons ?_
          refine ws_retn ?_
          refine wn_lc [("below", 6), ("marks", 7)] [false, true, false, false, false, false, true, true, false] [false, false, false, false, false, false, true, true, false] [] [6, 7] (blkOk_by (by decide +kernel : blkC N_truths_in (defScope st_truths_in) _ [("below", 6), ("marks", 7)] = true)) (good_blk (by decide +kernel : goodC N_truths_in (relS _ (defScope st_truths_in)) [false, true, false, false, false, false, true, true, false] [false, false, false, false, false, false, true, true, false] [] = true)) (sto_by (by decide +kernel : stoC N_truths_in _ [false, false, false, false, false, false, true, true, false] = true)) (by decide) ?_
          refine wi_LM (κ := κ) ?_
          refine we_name (i := 0) rfl rfl rfl ?_
          refine finI (f := iterL) v_rooms ‹_› fun it12 h => ?_
          refine comp_m h (fun x13 Q1 h => ?_) (fun zs16 h => ?_)
          · have hE : EI κ no ER.none := EI.no
            refine tg2 x13 ‹_› fun v_below_14 v_marks_15 h => ?_
            refine wg_tup ?_ rfl
            refine wgs_cons1 ?_ rfl
            refine wg_name (i := 6) rfl rfl ?_
            refine wgs_cons1 ?_ rfl
            refine wg_name (i := 7) rfl rfl ?_
            refine wgs_nil ?_
            refine we_inM (κ := κ) ?_
            refine we_ixM (κ := κ) ?_
            refine we_name (i := 1) rfl rfl rfl ?_
            refine we_int ?_
            refine fin2 (f := ixM) v_saying (.int 1) (vE (u := v_saying)) (vE (u := .int 1)) ‹_› fun z17 h => ?_
            refine we_name (i := 7) rfl rfl rfl ?_
            refine fin2 (f := (vB inM)) z17 v_marks_15 (vE (u := z17)) (vE (u := v_marks_15)) ‹_› fun z18 h => ?_
            exact ⟨rfl, z18, rfl, h⟩
          exact rtL_v (us := zs16) h
      · refine wss_nil ?_
        refine wss_cons ?_
        refine ws_set (i := 4) rfl rfl ?_ rfl
        refine we_f ?_
        refine wn_callN (κ := κ) h_truths_in (Nat.le_refl _) ⟨1, rfl⟩ ?_
        refine wa_cons ?_ rfl
        refine we_name (i := 0) rfl rfl rfl ?_
        refine wa_cons ?_ rfl
        refine we_ixM (κ := κ) ?_
        refine we_name (i := 1) rfl rfl rfl ?_
        refine we_int ?_
        refine fin2 (f := ixM) v_saying (.int 1) (vE (u := v_saying)) (vE (u := .int 1)) ‹_› fun z19 h => ?_
        refine wa_cons ?_ rfl
        refine we_name (i := 2) rfl rfl rfl ?_
        refine wa_nil ?_
        refine finF (Γ := _) [v_rooms, z19, v_given] rfl rfl hE ‹_› fun z20 h => ?_
        refine wss_cons ?_
        refine ws_if ?_
        refine wt_eqM (κ := κ) ?_
        refine we_name (i := 3) rfl rfl rfl ?_
        refine we_str ?_
        refine fin2 (f := eqM) z1 (.str "not") (vE (u := z1)) (vE (u := .str "not")) ‹_› fun b21 h => ?_
        refine ite_m ‹_› (fun h => ?_) (fun h => ?_)
        · refine wss_cons ?_
          refine ws_retn ?_
          refine wn_lc [("truth", 8)] [false, false, false, false, false, false, false, false, true] [false, false, false, false, false, false, false, false, true] [] [8] (blkOk_by (by decide +kernel : blkC N_truths_in (defScope st_truths_in) _ [("truth", 8)] = true)) (good_blk (by decide +kernel : goodC N_truths_in (relS _ (defScope st_truths_in)) [false, false, false, false, false, false, false, false, true] [false, false, false, false, false, false, false, false, true] [] = true)) (sto_by (by decide +kernel : stoC N_truths_in _ [false, false, false, false, false, false, false, false, true] = true)) (by decide) ?_
          refine wi_LM (κ := κ) ?_
          refine we_name (i := 4) rfl rfl rfl ?_
          refine finI (f := iterL) (.lst z20) ‹_› fun it22 h => ?_
          refine comp_m h (fun x23 Q1 h => ?_) (fun zs24 h => ?_)
          · have hE : EI κ no ER.none := EI.no
            refine wg_name (i := 8) rfl rfl ?_
            refine we_notM (κ := κ) ?_
            refine we_name (i := 8) rfl rfl rfl ?_
            refine fin1 (f := boolM) x23 (vE (u := x23)) ‹_› fun z25 h => ?_
            exact ⟨rfl, (.bl (!z25)), rfl, h⟩
          exact rtL_v (us := zs24) h
        · refine wss_nil ?_
          refine wss_cons ?_
          refine ws_if ?_
          refine wt_eqM (κ := κ) ?_
          refine we_name (i := 3) rfl rfl rfl ?_
          refine we_str ?_
          refine fin2 (f := eqM) z1 (.str "shown") (vE (u := z1)) (vE (u := .str "shown")) ‹_› fun b26 h => ?_
          refine ite_m ‹_› (fun h => ?_) (fun h => ?_)
          · refine wss_cons ?_
            refine ws_retn ?_
            refine wn_callN (κ := κ) h_all_above (Nat.le_refl _) ⟨2, rfl⟩ ?_
            refine wa_cons ?_ rfl
            refine we_name (i := 0) rfl rfl rfl ?_
            refine wa_cons ?_ rfl
            refine we_name (i := 4) rfl rfl rfl ?_
            refine wa_nil ?_
            refine finF (Γ := _) [v_rooms, .lst z20] rfl rfl hE ‹_› fun z27 h => ?_
            exact rtL_v (us := z27) h
          · refine wss_nil ?_
            refine wss_cons ?_
            refine ws_retn ?_
            refine wn_callN (κ := κ) h_joined (Nat.le_refl _) ⟨3, rfl⟩ ?_
            refine wa_cons ?_ rfl
            refine we_name (i := 3) rfl rfl rfl ?_
            refine wa_cons ?_ rfl
            refine we_name (i := 4) rfl rfl rfl ?_
            refine wa_cons ?_ rfl
            refine we_f ?_
            refine wn_callN (κ := κ) h_truths_in (Nat.le_refl _) ⟨1, rfl⟩ ?_
            refine wa_cons ?_ rfl
            refine we_name (i := 0) rfl rfl rfl ?_
            refine wa_cons ?_ rfl
            refine we_ixM (κ := κ) ?_
            refine we_name (i := 1) rfl rfl rfl ?_
            refine we_int ?_
            refine fin2 (f := ixM) v_saying (.int 2) (vE (u := v_saying)) (vE (u := .int 2)) ‹_› fun z28 h => ?_
            refine wa_cons ?_ rfl
            refine we_name (i := 2) rfl rfl rfl ?_
            refine wa_nil ?_
            refine finF (Γ := _) [v_rooms, z28, v_given] rfl rfl hE ‹_› fun z29 h => ?_
            refine wa_nil ?_
            refine finF (Γ := _) [z1, .lst z20, .lst z29] rfl rfl hE ‹_› fun z30 h => ?_
            exact rtL_v (us := z30) h

abbrev st_Tree_holds : Stmt := inClass (topS 11) 4
abbrev N_Tree_holds : List Str := ["self", "saying"]
abbrev vs_Tree_holds : List Bool := [true, true]
abbrev gl_Tree_holds : List Str := ["truths_in"]
theorem sc_Tree_holds : FnScope N_Tree_holds ["self", "saying"] (defScope st_Tree_holds) := ⟨rfl, rfl, rfl, by decide +kernel, rfl, by decide +kernel, by decide +kernel⟩
theorem gd_Tree_holds : goodC N_Tree_holds (defScope st_Tree_holds) vs_Tree_holds vs_Tree_holds gl_Tree_holds = true := by decide +kernel
@[reducible] def cx_Tree_holds (G : Gl) (k : Nat) : Pl.Ctx := G.cx N_Tree_holds (defScope st_Tree_holds) vs_Tree_holds vs_Tree_holds gl_Tree_holds k

theorem ok_Tree_holds (T : Tp G κ) : ∀ k c, c ∈ (["Tree"] : List Str) → Glmt G k (κ.ad c) "holds" 2 (spN κ 2 (sh_Tree_holds k))
  | 0 => fun c hc => MethAt.none (T.d_Tree_holds c hc) (spN_none fun us => rfl)
  | kk + 1 => fun c hc => by
    have h_truths_in := ok_truths_in T kk
    refine meth_N (T.d_Tree_holds c hc) sc_Tree_holds gd_Tree_holds fun us hl Q Eh h => ?_
    have hE : EI κ Eh (erM κ Eh) := EI.erM
    obtain ⟨v_self, v_saying, rfl⟩ := len2 hl
    change WSs _ [some (em κ v_self), some (em κ v_saying)] _ (_ :: _) _
    refine wss_cons ?_
    refine ws_retn ?_
    refine wn_callN (κ := κ) h_truths_in (Nat.le_refl _) ⟨0, rfl⟩ ?_
    refine wa_cons ?_ rfl
    refine we_fldP (f := "kept") T.kls_Tree ?_
    refine we_name (i := 0) rfl rfl rfl ?_
    refine ⟨v_self, rfl, finPf ‹_› fun z1 h => ?_⟩
    refine wa_cons ?_ rfl
    refine we_name (i := 1) rfl rfl rfl ?_
    refine wa_cons ?_ rfl
    refine we_dnew ?_
    refine wa_nil ?_
    refine finF (Γ := _) [z1, v_saying, .dic [] []] rfl rfl hE ‹_› fun z2 h => ?_
    exact rtL_v (us := z2) h

abbrev st_put : Stmt := topS 13
abbrev N_put : List Str := ["saying", "sayings", "part"]
abbrev vs_put : List Bool := [true, true, false]
abbrev gl_put : List Str := ["tuple"]
theorem sc_put : FnScope N_put ["saying", "sayings"] (defScope st_put) := ⟨rfl, rfl, rfl, by decide +kernel, rfl, by decide +kernel, by decide +kernel⟩
theorem gd_put : goodC N_put (defScope st_put) vs_put vs_put gl_put = true := by decide +kernel
@[reducible] def cx_put (G : Gl) (k : Nat) : Pl.Ctx := G.cx N_put (defScope st_put) vs_put vs_put gl_put k

theorem ok_put (T : Tp G κ) : ∀ k, G.fn k "put" 2 (spV κ 2 (sh_put k))
  | 0 => fn_none T.d_put (spV_none fun us => rfl)
  | kk + 1 => by
    have h_put := ok_put T kk
    refine def_V T.d_put sc_put gd_put fun us hl Q Eh h => ?_
    have hE : EI κ Eh (erM κ Eh) := EI.erM
    obtain ⟨v_saying, v_sayings, rfl⟩ := len2 hl
    change WSs _ [some (em κ v_saying), some (em κ v_sayings), none] _ (_ :: _) _
    refine wss_cons ?_
    refine ws_if ?_
    refine wt_eqM (κ := κ) ?_
    refine we_ixM (κ := κ) ?_
    refine we_name (i := 0) rfl rfl rfl ?_
    refine we_int ?_
    refine fin2 (f := ixM) v_saying (.int 0) (vE (u := v_saying)) (vE (u := .int 0)) ‹_› fun z1 h => ?_
    refine we_str ?_
    refine fin2 (f := eqM) z1 (.str "no") (vE (u := z1)) (vE (u := .str "no")) ‹_› fun b2 h => ?_
    refine ite_m ‹_› (fun h => ?_) (fun h => ?_)
    · refine wss_cons ?_
      refine ws_ret ?_
      refine we_name (i := 0) rfl rfl rfl ?_
      exact rtV_v (u := v_saying) h
    · refine wss_nil ?_
      refine wss_cons ?_
      refine ws_if ?_
      refine wt_eqM (κ := κ) ?_
      refine we_ixM (κ := κ) ?_
      refine we_name (i := 0) rfl rfl rfl ?_
      refine we_int ?_
      refine fin2 (f := ixM) v_saying (.int 0) (vE (u := v_saying)) (vE (u := .int 0)) ‹_› fun z3 h => ?_
      refine we_str ?_
      refine fin2 (f := eqM) z3 (.str "letter") (vE (u := z3)) (vE (u := .str "letter")) ‹_› fun b4 h => ?_
      refine ite_m ‹_› (fun h => ?_) (fun h => ?_)
      · refine wss_cons ?_
        refine ws_ret ?_
        refine we_getM (κ := κ) ?_
        refine we_name (i := 1) rfl rfl rfl ?_
        refine asDic (u := v_sayings) (vE (u := v_sayings)) ‹_› fun dk6 du7 hdd h => ?_
        refine we_ixM (κ := κ) ?_
        refine we_name (i := 0) rfl rfl rfl ?_
        refine we_int ?_
        refine fin2 (f := ixM) v_saying (.int 1) (vE (u := v_saying)) (vE (u := .int 1)) ‹_› fun z8 h => ?_
        refine we_name (i := 0) rfl rfl rfl ?_
        refine ⟨z8, v_saying, (vE (u := z8)), rfl, hdd, fin0 (m := getdM (.dic dk6 du7) z8 v_saying) ‹_› fun z5 h => ?_⟩
        exact rtV_v (u := z5) h
      · refine wss_nil ?_
        refine wss_cons ?_
        refine ws_ret ?_
        refine we_tupleM (κ := κ) ⟨0, rfl⟩ T.z_tuple ?_
        refine we_addM (κ := κ) ?_
        refine we_f ?_
        refine wn_lst ?_
        refine wa_cons ?_ rfl
        refine we_ixM (κ := κ) ?_
        refine we_name (i := 0) rfl rfl rfl ?_
        refine we_int ?_
        refine fin2 (f := ixM) v_saying (.int 0) (vE (u := v_saying)) (vE (u := .int 0)) ‹_› fun z9 h => ?_
        refine wa_nil ?_
        refine ⟨szd (by decide : 1 < 10000000), ?_⟩
        refine we_f ?_
        refine wn_lc [("part", 2)] [false, true, true] [false, false, true] ["put"] [2] (blkOk_by (by decide +kernel : blkC N_put (defScope st_put) _ [("part", 2)] = true)) (good_blk (by decide +kernel : goodC N_put (relS _ (defScope st_put)) [false, true, true] [false, false, true] ["put"] = true)) (sto_by (by decide +kernel : stoC N_put _ [false, false, true] = true)) (by decide) ?_
        refine wi_TM (κ := κ) ?_
        refine we_slM (κ := κ) ?_
        refine we_name (i := 0) rfl rfl rfl ?_
        refine we_int ?_
        refine fin1 (f := endM) (.int 1) (vE (u := .int 1)) ‹_› fun z10 h => ?_
        refine fin1 (f := fun u => slM u z10 none) v_saying (vE (u := v_saying)) ‹_› fun z11 h => ?_
        refine finI (f := iterT) z11 ‹_› fun it12 h => ?_
        refine comp_m h (fun x13 Q1 h => ?_) (fun zs14 h => ?_)
        · have hE : EI κ no ER.none := EI.no
          refine wg_name (i := 2) rfl rfl ?_
          refine we_callV (κ := κ) h_put (Nat.le_refl _) ⟨0, rfl⟩ ?_
          refine wa_cons ?_ rfl
          refine we_name (i := 2) rfl rfl rfl ?_
          refine wa_cons ?_ rfl
          refine we_name (i := 1) rfl rfl rfl ?_
          refine wa_nil ?_
          refine finF (Γ := _) [x13, v_sayings] rfl rfl hE ‹_› fun z15 h => ?_
          exact ⟨rfl, z15, rfl, h⟩
        refine fin2 (f := addM) (.lst [z9]) (.lst zs14) (vE (u := .lst [z9])) (vE (u := .lst zs14)) ‹_› fun z16 h => ?_
        refine fin1 (f := tupleM) z16 (vE (u := z16)) ‹_› fun z17 h => ?_
        exact rtV_v (u := z17) h

abbrev st__law_are : Stmt := topS 19
abbrev N__law_are : List Str := ["_law_found", "_law_due", "_law_one"]
abbrev vs__law_are : List Bool := [true, true, false]
abbrev gl__law_are : List Str := ["isinstance", "list", "len", "all"]
theorem sc__law_are : FnScope N__law_are ["_law_found", "_law_due"] (defScope st__law_are) := ⟨rfl, rfl, rfl, by decide +kernel, rfl, by decide +kernel, by decide +kernel⟩
theorem gd__law_are : goodC N__law_are (defScope st__law_are) vs__law_are vs__law_are gl__law_are = true := by decide +kernel
@[reducible] def cx__law_are (G : Gl) (k : Nat) : Pl.Ctx := G.cx N__law_are (defScope st__law_are) vs__law_are vs__law_are gl__law_are k

theorem ok__law_are (T : Tp G κ) : ∀ k, G.fn k "_law_are" 2 (spV κ 2 (sh__law_are k))
  | 0 => fn_none T.d__law_are (spV_none fun us => rfl)
  | kk + 1 => by
    refine def_V T.d__law_are sc__law_are gd__law_are fun us hl Q Eh h => ?_
    have hE : EI κ Eh (erM κ Eh) := EI.erM
    obtain ⟨v_found, v_due, rfl⟩ := len2 hl
    change WSs _ [some (em κ v_found), some (em κ v_due), none] _ (_ :: _) _
    rw [sh__law_are] at h
    refine wss_cons ?_
    refine ws_if ?_
    refine wt_cutM ‹_› (fun Q1 h => ?_) (fun b6 h => ?_)
    · refine wt_ww (ww_or ?_)
      refine wt_not ?_
      refine wt_valM (κ := κ) ?_
      refine we_isiM (κ := κ) ⟨0, rfl⟩ T.z_isinstance ⟨1, rfl⟩ T.z_list boot_list' ?_
      refine we_name (i := 0) rfl rfl rfl ?_
      refine fin1 (f := fun u => isiM u "list") v_found (vE (u := v_found)) ‹_› fun z1 h => ?_
      refine fin1 (f := boolM) z1 (vE (u := z1)) ‹_› fun b2 h => ?_
      refine ite_m ‹_› (fun h => ?_) (fun h => ?_)
      · exact ⟨rfl, h⟩
      · refine ww_or1 ?_
        refine wt_neM (κ := κ) ?_
        refine we_lenM (κ := κ) ⟨2, rfl⟩ T.z_len ?_
        refine we_name (i := 0) rfl rfl rfl ?_
        refine fin1 (f := lenM) v_found (vE (u := v_found)) ‹_› fun z3 h => ?_
        refine we_lenM (κ := κ) ⟨2, rfl⟩ T.z_len ?_
        refine we_name (i := 1) rfl rfl rfl ?_
        refine fin1 (f := lenM) v_due (vE (u := v_due)) ‹_› fun z4 h => ?_
        refine fin2 (f := (nB eqM)) z3 z4 (vE (u := z3)) (vE (u := z4)) ‹_› fun b5 h => ?_
        exact ⟨rfl, h⟩
    refine ite_m ‹_› (fun h => ?_) (fun h => ?_)
    · refine wss_cons ?_
      refine ws_ret ?_
      refine we_bl ?_
      exact rtV_v (u := (.bl false)) h
    · refine wss_nil ?_
      refine wss_cons ?_
      refine ws_ret ?_
      refine we_cutM (κ := κ) h (fun Q1 h => ?_) (fun z14 h => ?_)
      · refine we_andM (κ := κ) ?_
        refine we_allM (κ := κ) ⟨3, rfl⟩ T.z_all ?_
        refine we_f ?_
        refine wn_lc [("_law_one", 2)] [false, false, true] [false, false, true] ["isinstance", "bool"] [2] (blkOk_by (by decide +kernel : blkC N__law_are (defScope st__law_are) _ [("_law_one", 2)] = true)) (good_blk (by decide +kernel : goodC N__law_are (relS _ (defScope st__law_are)) [false, false, true] [false, false, true] ["isinstance", "bool"] = true)) (sto_by (by decide +kernel : stoC N__law_are _ [false, false, true] = true)) (by decide) ?_
        refine wi_LM (κ := κ) ?_
        refine we_name (i := 0) rfl rfl rfl ?_
        refine finI (f := iterL) v_found ‹_› fun it7 h => ?_
        refine comp_m h (fun x8 Q1 h => ?_) (fun zs9 h => ?_)
        · have hE : EI κ no ER.none := EI.no
          refine wg_name (i := 2) rfl rfl ?_
          refine we_isiM (κ := κ) ⟨0, rfl⟩ T.z_isinstance ⟨1, rfl⟩ T.z_bool boot_bool' ?_
          refine we_name (i := 2) rfl rfl rfl ?_
          refine fin1 (f := fun u => isiM u "bool") x8 (vE (u := x8)) ‹_› fun z10 h => ?_
          exact ⟨rfl, z10, rfl, h⟩
        refine fin1 (f := allM) (.lst zs9) (vE (u := .lst zs9)) ‹_› fun z11 h => ?_
        refine fin1 (f := boolM) z11 (vE (u := z11)) ‹_› fun b12 h => ?_
        refine ite_m ‹_› (fun h => ?_) (fun h => ?_)
        · refine we_one ?_
          refine we_eqM (κ := κ) ?_
          refine we_name (i := 0) rfl rfl rfl ?_
          refine we_name (i := 1) rfl rfl rfl ?_
          refine fin2 (f := (vB eqM)) v_found v_due (vE (u := v_found)) (vE (u := v_due)) ‹_› fun z13 h => ?_
          exact ⟨rfl, z13, rfl, h⟩
        · exact ⟨rfl, (.bl false), rfl, h⟩
      exact rtV_v (u := z14) h

abbrev st__law_marked : Stmt := topS 20
abbrev N__law_marked : List Str := ["_law_tree", "_law_rooms_here", "_law_sayings", "_law_marks_here", "_law_letter", "_law_made", "_law_k", "_law_room"]
abbrev vs__law_marked : List Bool := [true, true, true, true, true, true, true, true]
abbrev gl__law_marked : List Str := ["enumerate"]
theorem sc__law_marked : FnScope N__law_marked ["_law_tree", "_law_rooms_here", "_law_sayings"] (defScope st__law_marked) := ⟨rfl, rfl, rfl, by decide +kernel, rfl, by decide +kernel, by decide +kernel⟩
theorem gd__law_marked : goodC N__law_marked (defScope st__law_marked) vs__law_marked vs__law_marked gl__law_marked = true := by decide +kernel
@[reducible] def cx__law_marked (G : Gl) (k : Nat) : Pl.Ctx := G.cx N__law_marked (defScope st__law_marked) vs__law_marked vs__law_marked gl__law_marked k

theorem ok__law_marked (T : Tp G κ) : ∀ k, G.fn k "_law_marked" 3 (spN κ 3 (sh__law_marked k))
  | 0 => fn_none T.d__law_marked (spN_none fun us => rfl)
  | kk + 1 => by
    have h_Tree_holds := ok_Tree_holds T kk
    refine def_N T.d__law_marked sc__law_marked gd__law_marked fun us hl Q Eh h => ?_
    have hE : EI κ Eh (erM κ Eh) := EI.erM
    obtain ⟨v_tree, v_rooms_here, v_sayings, rfl⟩ := len3 hl
    change WSs _ [some (em κ v_tree), some (em κ v_rooms_here), some (em κ v_sayings), none, none, none, none, none] _ (_ :: _) _
    rw [sh__law_marked] at h
    refine wss_cons ?_
    refine ws_set (i := 3) rfl rfl (we_dnewO ?_) rfl
    refine wss_cons ?_
    refine ws_for [4] ?_
    refine wi_SM (κ := κ) ?_
    refine we_str ?_
    refine finI (f := iterS) (.str "pqr") ‹_› fun it1 h => ?_
    refine loopN_m (fun (st : Dc) (Γ : Pl.Env) (Λ : Cells) => ∃ (y0 : Option D) (y1 : Option D) (y2 : Option D) (y3 : Option D), Γ = [some (em κ v_tree), some (em κ v_rooms_here), some (em κ v_sayings), some (.loc 0), y0, y1, y2, y3] ∧ Λ = [.dic st.1 (ems κ st.2)]) h ⟨_, _, _, _, rfl, rfl⟩ (fun v_marks_here_2 x3 Γ Λ Q1 hs h => ?_) (fun v_marks_here_16 Γ Λ hs h => ?_)
    · obtain ⟨y0, y1, y2, y3, rfl, rfl⟩ := hs
      refine wg_name (i := 4) rfl rfl ?_
      refine wss_cons ?_
      refine ws_cutM (fun (st : Dc) (Γ : Pl.Env) (Λ : Cells) => ∃ (y0 : Option D) (y1 : Option D) (y2 : Option D), Γ = [some (em κ v_tree), some (em κ v_rooms_here), some (em κ v_sayings), some (.loc 0), some (em κ x3), y0, y1, y2] ∧ Λ = [.dic st.1 (ems κ st.2)]) h (fun Q1 h => ?_) (fun v_marks_here_15 Γ Λ hs h => ?_)
      · refine ws_if ?_
        refine wt_inM (κ := κ) ?_
        refine we_name (i := 4) rfl rfl rfl ?_
        refine we_name (i := 2) rfl rfl rfl ?_
        refine fin2 (f := inM) x3 v_sayings (vE (u := x3)) (vE (u := v_sayings)) ‹_› fun b4 h => ?_
        refine ite_m ‹_› (fun h => ?_) (fun h => ?_)
        · refine wss_cons ?_
          refine ws_putM (κ := κ) 0 ?_
          refine we_f ?_
          refine wn_mN (κ := κ) h_Tree_holds (Nat.le_refl _) T.kls_Tree (by decide) ?_
          refine we_name (i := 0) rfl rfl rfl ?_
          refine ⟨v_tree, rfl, finPf ‹_› fun z5 h => ?_⟩
          refine wa_cons ?_ rfl
          refine we_ixdM (κ := κ) ?_
          refine we_name (i := 2) rfl rfl rfl ?_
          refine we_name (i := 4) rfl rfl rfl ?_
          refine fin2 (f := ixdM) v_sayings x3 (vE (u := v_sayings)) (vE (u := x3)) ‹_› fun z7 h => ?_
          refine wa_nil ?_
          refine ⟨[z7], rfl, rfl, finKm ‹_› fun z6 h => ?_⟩
          refine we_name (i := 3) rfl rfl rfl ?_
          refine we_name (i := 4) rfl rfl rfl ?_
          refine ⟨rfl, finP v_marks_here_2 (.lst z6) x3 (vE (u := x3)) rfl ‹_› fun l8 h => ?_⟩
          refine wss_nil ?_
          exact ⟨l8, ⟨_, _, _, rfl, rfl⟩, h⟩
        · refine wss_cons ?_
          refine ws_putMs (κ := κ) 0 ?_
          refine we_f ?_
          refine wn_lc [("_law_room", 7)] [false, false, false, false, true, false, false, true] [false, false, false, false, false, false, false, true] [] [7] (blkOk_by (by decide +kernel : blkC N__law_marked (defScope st__law_marked) _ [("_law_room", 7)] = true)) (good_blk (by decide +kernel : goodC N__law_marked (relS _ (defScope st__law_marked)) [false, false, false, false, true, false, false, true] [false, false, false, false, false, false, false, true] [] = true)) (sto_by (by decide +kernel : stoC N__law_marked _ [false, false, false, false, false, false, false, true] = true)) (by decide) ?_
          refine wi_LM (κ := κ) ?_
          refine we_name (i := 1) rfl rfl rfl ?_
          refine finI (f := iterL) v_rooms_here ‹_› fun it9 h => ?_
          refine comp_m h (fun x10 Q1 h => ?_) (fun zs11 h => ?_)
          · have hE : EI κ no ER.none := EI.no
            refine wg_name (i := 7) rfl rfl ?_
            refine we_inM (κ := κ) ?_
            refine we_name (i := 4) rfl rfl rfl ?_
            refine we_ixM (κ := κ) ?_
            refine we_name (i := 7) rfl rfl rfl ?_
            refine we_int ?_
            refine fin2 (f := ixM) x10 (.int 1) (vE (u := x10)) (vE (u := .int 1)) ‹_› fun z12 h => ?_
            refine fin2 (f := (vB inM)) x3 z12 (vE (u := x3)) (vE (u := z12)) ‹_› fun z13 h => ?_
            exact ⟨rfl, z13, rfl, h⟩
          refine we_name (i := 3) rfl rfl rfl ?_
          refine we_name (i := 4) rfl rfl rfl ?_
          refine ⟨rfl, finP v_marks_here_2 (.lst zs11) x3 (vE (u := x3)) rfl ‹_› fun l14 h => ?_⟩
          refine wss_nil ?_
          exact ⟨l14, ⟨_, _, _, rfl, rfl⟩, h⟩
      · obtain ⟨y0, y1, y2, rfl, rfl⟩ := hs
        refine wss_nil ?_
        exact ⟨v_marks_here_15, ⟨_, _, _, _, rfl, rfl⟩, h⟩
    · obtain ⟨y0, y1, y2, y3, rfl, rfl⟩ := hs
      refine wss_cons ?_
      refine ws_set (i := 5) rfl rfl (we_o ?_) rfl
      refine wn_lst ?_
      refine wa_nil ?_
      refine ⟨szd (by decide : 0 < 10000000), ?_⟩
      refine wss_cons ?_
      refine ws_for [6, 7] ?_
      refine wi_enum (κ := κ) ⟨0, rfl⟩ T.z_enumerate ?_
      refine we_name (i := 1) rfl rfl rfl ?_
      refine finI (f := enumM) v_rooms_here ‹_› fun it17 h => ?_
      refine loopN_m (fun (st : List U) (Γ : Pl.Env) (Λ : Cells) => ∃ (y0 : Option D) (y1 : Option D) (y2 : Option D), Γ = [some (em κ v_tree), some (em κ v_rooms_here), some (em κ v_sayings), some (.loc 0), y0, some (.loc 1), y1, y2] ∧ Λ = [.dic v_marks_here_16.1 (ems κ v_marks_here_16.2), .lst (ems κ st)]) h ⟨_, _, _, rfl, rfl⟩ (fun v_made_18 x19 Γ Λ Q1 hs h => ?_) (fun v_made_31 Γ Λ hs h => ?_)
      · obtain ⟨y0, y1, y2, rfl, rfl⟩ := hs
        refine tg2 x19 ‹_› fun v_k_20 v_room_21 h => ?_
        refine wg_tup ?_ rfl
        refine wgs_cons1 ?_ rfl
        refine wg_name (i := 6) rfl rfl ?_
        refine wgs_cons1 ?_ rfl
        refine wg_name (i := 7) rfl rfl ?_
        refine wgs_nil ?_
        refine wss_cons ?_
        refine ws_expr ?_
        refine we_appM (κ := κ) 1 ?_
        refine we_name (i := 5) rfl rfl rfl ?_
        refine ⟨rfl, ⟨v_made_18, rfl⟩, ?_⟩
        refine we_tup ?_
        refine wa_cons ?_ rfl
        refine we_ixM (κ := κ) ?_
        refine we_name (i := 7) rfl rfl rfl ?_
        refine we_int ?_
        refine fin2 (f := ixM) v_room_21 (.int 0) (vE (u := v_room_21)) (vE (u := .int 0)) ‹_› fun z22 h => ?_
        refine wa_cons ?_ rfl
        refine we_joinM (κ := κ) ?_
        refine we_str ?_
        refine ⟨(""), rfl, ?_⟩
        refine we_f ?_
        refine wn_lc [("_law_letter", 4)] [false, false, false, true, true, false, true, false] [false, false, false, false, true, false, false, false] [] [4] (blkOk_by (by decide +kernel : blkC N__law_marked (defScope st__law_marked) _ [("_law_letter", 4)] = true)) (good_blk (by decide +kernel : goodC N__law_marked (relS _ (defScope st__law_marked)) [false, false, false, true, true, false, true, false] [false, false, false, false, true, false, false, false] [] = true)) (sto_by (by decide +kernel : stoC N__law_marked _ [false, false, false, false, true, false, false, false] = true)) (by decide) ?_
        refine wi_SM (κ := κ) ?_
        refine we_str ?_
        refine finI (f := iterS) (.str "pqr") ‹_› fun it23 h => ?_
        refine compF_m h (fun x24 Qb Q1 h h2 => ?_) (fun zs25 h => ?_)
        · have hE : EI κ no ER.none := EI.no
          refine wg_name (i := 4) rfl rfl ?_
          refine wt_valM (κ := κ) ?_
          refine we_ixM (κ := κ) ?_
          refine we_ixdM (κ := κ) ?_
          refine we_name (i := 3) rfl rfl rfl ?_
          refine we_name (i := 4) rfl rfl rfl ?_
          refine fin2 (f := ixdM) (.dic v_marks_here_16.1 v_marks_here_16.2) x24 (vD rfl) (vE (u := x24)) ‹_› fun z26 h => ?_
          refine we_name (i := 6) rfl rfl rfl ?_
          refine fin2 (f := ixM) z26 v_k_20 (vE (u := z26)) (vE (u := v_k_20)) ‹_› fun z27 h => ?_
          refine fin1 (f := boolM) z27 (vE (u := z27)) ‹_› fun b28 h => ?_
          refine ⟨rfl, h, fun hb => ?_⟩
          replace h := h2 (by cases hb; exact h)
          refine we_name (i := 4) rfl rfl rfl ?_
          exact ⟨rfl, x24, rfl, h⟩
        refine fin1 (f := fun u => joinM (.str "") u) (.lst zs25) (vE (u := .lst zs25)) ‹_› fun z29 h => ?_
        refine wa_nil ?_
        refine ⟨szd (by decide : 2 < 10000000), ?_⟩
        refine finA (f := appM) v_made_18 (.tup [z22, z29]) rfl ‹_› fun l30 h => ?_
        refine wss_nil ?_
        exact ⟨l30, ⟨_, _, _, rfl, rfl⟩, h⟩
      · obtain ⟨y0, y1, y2, rfl, rfl⟩ := hs
        refine wss_cons ?_
        refine ws_ret ?_
        refine we_name (i := 5) rfl rfl rfl ?_
        exact rtL_o (us := v_made_31) rfl h

abbrev st_law : Stmt := topS 21
abbrev N_law : List Str := ["_law_script", "_law_cell_here", "_law_rooms_here", "_law_saying_here", "_law_sayings", "_law_k", "_law_letter", "_law_far", "_law_handed", "_law_tree", "_law_found"]
abbrev vs_law : List Bool := [true, true, true, true, true, true, true, true, true, true, true]
abbrev gl_law : List Str := ["_law_cell", "_law_rooms", "_law_saying", "enumerate", "dict", "Tree", "put", "_law_are", "_law_marked"]
theorem sc_law : FnScope N_law ["_law_script"] (defScope st_law) := ⟨rfl, rfl, rfl, by decide +kernel, rfl, by decide +kernel, by decide +kernel⟩
theorem gd_law : goodC N_law (defScope st_law) vs_law vs_law gl_law = true := by decide +kernel
@[reducible] def cx_law (G : Gl) (k : Nat) : Pl.Ctx := G.cx N_law (defScope st_law) vs_law vs_law gl_law k

theorem ok_the_law (T : Tp G κ) (f : Addr) (fd : FuncData) (F : Fun G.K "law" "law" (topS 21) f fd) : FnOk G.P G.w G.K G.mg G.base (L2.CX G.P G.w) (201 + 1) f fd ["_law_script"] (spOf G.K 1 (lawSpec 63)) := by
  have h__law_cell := ok__law_cell T 201
  have h__law_rooms := ok__law_rooms T 201
  have h__law_saying := ok__law_saying T 201
  have h_Tree_init := ok_Tree_init T 200
  have h_Tree_holds := ok_Tree_holds T 201
  have h_put := ok_put T 201
  have h__law_are := ok__law_are T 201
  have h__law_marked := ok__law_marked T 201
  refine law_M (κ := κ) (m := sh_law (201 + 1)) F sc_law gd_law (fun us hl Q Eh h => ?_) pure_law
  have hE : EI κ Eh (erM κ Eh) := EI.erM
  obtain ⟨v_script, rfl⟩ := len1 hl
  change WSs _ [some (em κ v_script), none, none, none, none, none, none, none, none, none, none] _ (_ :: _) _
  refine wss_cons ?_
  refine ws_set (i := 1) rfl rfl ?_ rfl
  refine we_callV (κ := κ) h__law_cell (Nat.le_refl _) ⟨0, rfl⟩ ?_
  refine wa_cons ?_ rfl
  refine we_name (i := 0) rfl rfl rfl ?_
  refine wa_cons ?_ rfl
  refine we_int ?_
  refine wa_nil ?_
  refine finF (Γ := _) [v_script, .int 0] rfl rfl hE ‹_› fun z1 h => ?_
  refine wss_cons ?_
  refine ws_set (i := 2) rfl rfl ?_ rfl
  refine we_f ?_
  refine wn_callN (κ := κ) h__law_rooms (Nat.le_refl _) ⟨1, rfl⟩ ?_
  refine wa_cons ?_ rfl
  refine we_name (i := 0) rfl rfl rfl ?_
  refine wa_cons ?_ rfl
  refine we_int ?_
  refine wa_cons ?_ rfl
  refine we_addM (κ := κ) ?_
  refine we_int ?_
  refine we_modM (κ := κ) ?_
  refine we_name (i := 1) rfl rfl rfl ?_
  refine we_int ?_
  refine fin2 (f := modM) z1 (.int 8) (vE (u := z1)) (vE (u := .int 8)) ‹_› fun z2 h => ?_
  refine fin2 (f := addM) (.int 1) z2 (vE (u := .int 1)) (vE (u := z2)) ‹_› fun z3 h => ?_
  refine wa_nil ?_
  refine finF (Γ := _) [v_script, .int 1, z3] rfl rfl hE ‹_› fun z4 h => ?_
  refine wss_cons ?_
  refine ws_set (i := 3) rfl rfl ?_ rfl
  refine we_callV (κ := κ) h__law_saying (Nat.le_refl _) ⟨2, rfl⟩ ?_
  refine wa_cons ?_ rfl
  refine we_name (i := 0) rfl rfl rfl ?_
  refine wa_cons ?_ rfl
  refine we_int ?_
  refine wa_cons ?_ rfl
  refine we_addM (κ := κ) ?_
  refine we_int ?_
  refine we_modM (κ := κ) ?_
  refine we_fdivM (κ := κ) ?_
  refine we_name (i := 1) rfl rfl rfl ?_
  refine we_int ?_
  refine fin2 (f := fdivM) z1 (.int 8) (vE (u := z1)) (vE (u := .int 8)) ‹_› fun z5 h => ?_
  refine we_int ?_
  refine fin2 (f := modM) z5 (.int 10) (vE (u := z5)) (vE (u := .int 10)) ‹_› fun z6 h => ?_
  refine fin2 (f := addM) (.int 1) z6 (vE (u := .int 1)) (vE (u := z6)) ‹_› fun z7 h => ?_
  refine wa_cons ?_ rfl
  refine we_str ?_
  refine wa_cons ?_ rfl
  refine we_int ?_
  refine wa_nil ?_
  refine finF (Γ := _) [v_script, .int 10, z7, .str "pqr", .int 10] rfl rfl hE ‹_› fun z8 h => ?_
  refine wss_cons ?_
  refine ws_set (i := 4) rfl rfl (we_dnewO ?_) rfl
  refine wss_cons ?_
  refine ws_for [5, 6] ?_
  refine wi_enumSM (κ := κ) ⟨3, rfl⟩ T.z_enumerate ?_
  refine we_str ?_
  refine finI (f := enumSM) (.str "pqr") ‹_› fun it9 h => ?_
  refine loopN_m (fun (st : Dc) (Γ : Pl.Env) (Λ : Cells) => ∃ (y0 : Option D) (y1 : Option D) (y2 : Option D) (y3 : Option D) (y4 : Option D) (y5 : Option D), Γ = [some (em κ v_script), some (em κ z1), some (em κ (.lst z4)), some (em κ z8), some (.loc 0), y0, y1, y2, y3, y4, y5] ∧ Λ = [.dic st.1 (ems κ st.2)]) h ⟨_, _, _, _, _, _, rfl, rfl⟩ (fun v_sayings_10 x11 Γ Λ Q1 hs h => ?_) (fun v_sayings_27 Γ Λ hs h => ?_)
  · obtain ⟨y0, y1, y2, y3, y4, y5, rfl, rfl⟩ := hs
    refine tg2 x11 ‹_› fun v_k_12 v_letter_13 h => ?_
    refine wg_tup ?_ rfl
    refine wgs_cons1 ?_ rfl
    refine wg_name (i := 5) rfl rfl ?_
    refine wgs_cons1 ?_ rfl
    refine wg_name (i := 6) rfl rfl ?_
    refine wgs_nil ?_
    refine wss_cons ?_
    refine ws_set (i := 7) rfl rfl ?_ rfl
    refine we_callV (κ := κ) h__law_cell (Nat.le_refl _) ⟨0, rfl⟩ ?_
    refine wa_cons ?_ rfl
    refine we_name (i := 0) rfl rfl rfl ?_
    refine wa_cons ?_ rfl
    refine we_addM (κ := κ) ?_
    refine we_int ?_
    refine we_mulM (κ := κ) ?_
    refine we_int ?_
    refine we_name (i := 5) rfl rfl rfl ?_
    refine fin2 (f := mulM) (.int 8) v_k_12 (vE (u := .int 8)) (vE (u := v_k_12)) ‹_› fun z14 h => ?_
    refine fin2 (f := addM) (.int 22) z14 (vE (u := .int 22)) (vE (u := z14)) ‹_› fun z15 h => ?_
    refine wa_nil ?_
    refine finF (Γ := _) [v_script, z15] rfl rfl hE ‹_› fun z16 h => ?_
    refine wss_cons ?_
    refine ws_cutM (fun (st : Dc) (Γ : Pl.Env) (Λ : Cells) => ∃ (y0 : Option D) (y1 : Option D) (y2 : Option D), Γ = [some (em κ v_script), some (em κ z1), some (em κ (.lst z4)), some (em κ z8), some (.loc 0), some (em κ v_k_12), some (em κ v_letter_13), some (em κ z16), y0, y1, y2] ∧ Λ = [.dic st.1 (ems κ st.2)]) h (fun Q1 h => ?_) (fun v_sayings_26 Γ Λ hs h => ?_)
    · refine ws_if ?_
      refine wt_gtM (κ := κ) ?_
      refine we_modM (κ := κ) ?_
      refine we_name (i := 7) rfl rfl rfl ?_
      refine we_int ?_
      refine fin2 (f := modM) z16 (.int 4) (vE (u := z16)) (vE (u := .int 4)) ‹_› fun z17 h => ?_
      refine we_int ?_
      refine fin2 (f := gtM) z17 (.int 0) (vE (u := z17)) (vE (u := .int 0)) ‹_› fun b18 h => ?_
      refine ite_m ‹_› (fun h => ?_) (fun h => ?_)
      · refine wss_cons ?_
        refine ws_putM (κ := κ) 0 ?_
        refine we_callV (κ := κ) h__law_saying (Nat.le_refl _) ⟨2, rfl⟩ ?_
        refine wa_cons ?_ rfl
        refine we_name (i := 0) rfl rfl rfl ?_
        refine wa_cons ?_ rfl
        refine we_addM (κ := κ) ?_
        refine we_int ?_
        refine we_mulM (κ := κ) ?_
        refine we_int ?_
        refine we_name (i := 5) rfl rfl rfl ?_
        refine fin2 (f := mulM) (.int 8) v_k_12 (vE (u := .int 8)) (vE (u := v_k_12)) ‹_› fun z19 h => ?_
        refine fin2 (f := addM) (.int 23) z19 (vE (u := .int 23)) (vE (u := z19)) ‹_› fun z20 h => ?_
        refine wa_cons ?_ rfl
        refine we_addM (κ := κ) ?_
        refine we_int ?_
        refine we_modM (κ := κ) ?_
        refine we_fdivM (κ := κ) ?_
        refine we_name (i := 7) rfl rfl rfl ?_
        refine we_int ?_
        refine fin2 (f := fdivM) z16 (.int 4) (vE (u := z16)) (vE (u := .int 4)) ‹_› fun z21 h => ?_
        refine we_int ?_
        refine fin2 (f := modM) z21 (.int 6) (vE (u := z21)) (vE (u := .int 6)) ‹_› fun z22 h => ?_
        refine fin2 (f := addM) (.int 1) z22 (vE (u := .int 1)) (vE (u := z22)) ‹_› fun z23 h => ?_
        refine wa_cons ?_ rfl
        refine we_str ?_
        refine wa_cons ?_ rfl
        refine we_int ?_
        refine wa_nil ?_
        refine finF (Γ := _) [v_script, z20, z23, .str "pqr", .int 6] rfl rfl hE ‹_› fun z24 h => ?_
        refine we_name (i := 4) rfl rfl rfl ?_
        refine we_name (i := 6) rfl rfl rfl ?_
        refine ⟨rfl, finP v_sayings_10 z24 v_letter_13 (vE (u := v_letter_13)) rfl ‹_› fun l25 h => ?_⟩
        refine wss_nil ?_
        exact ⟨l25, ⟨_, _, _, rfl, rfl⟩, h⟩
      · refine wss_nil ?_
        exact ⟨v_sayings_10, ⟨_, _, _, rfl, rfl⟩, h⟩
    · obtain ⟨y0, y1, y2, rfl, rfl⟩ := hs
      refine wss_nil ?_
      exact ⟨v_sayings_26, ⟨_, _, _, _, _, _, rfl, rfl⟩, h⟩
  · obtain ⟨y0, y1, y2, y3, y4, y5, rfl, rfl⟩ := hs
    refine wss_cons ?_
    refine ws_set (i := 8) rfl rfl ?_ rfl
    refine we_dcopyM (κ := κ) ⟨4, rfl⟩ T.z_dict ?_
    refine we_name (i := 4) rfl rfl rfl ?_
    refine fin1 (f := dcopyM) (.dic v_sayings_27.1 v_sayings_27.2) (vD rfl) ‹_› fun z28 h => ?_
    refine wss_cons ?_
    refine ws_set (i := 9) rfl rfl ?_ rfl
    refine we_makeF (κ := κ) (c := "Tree") h_Tree_init (Nat.le_refl _) ⟨5, rfl⟩ T.g_Tree (T.kls_Tree "Tree" (by decide)).2.2 ?_
    refine wa_cons ?_ rfl
    refine we_name (i := 2) rfl rfl rfl ?_
    refine wa_nil ?_
    refine ⟨[.lst z4], (fvs_cons (fv_em (.lst z4)) fvs_nil), rfl, finKi ‹_› fun z30 h => ?_⟩
    refine wss_cons ?_
    refine ws_set (i := 10) rfl rfl ?_ rfl
    refine we_f ?_
    refine wn_mN (κ := κ) h_Tree_holds (Nat.le_refl _) T.kls_Tree (by decide) ?_
    refine we_name (i := 9) rfl rfl rfl ?_
    refine ⟨(.ins "Tree" [.lst z30]), rfl, finPf ‹_› fun z31 h => ?_⟩
    refine wa_cons ?_ rfl
    refine we_callV (κ := κ) h_put (Nat.le_refl _) ⟨6, rfl⟩ ?_
    refine wa_cons ?_ rfl
    refine we_name (i := 3) rfl rfl rfl ?_
    refine wa_cons ?_ rfl
    refine we_name (i := 8) rfl rfl rfl ?_
    refine wa_nil ?_
    refine finF (Γ := _) [z8, z28] rfl rfl hE ‹_› fun z33 h => ?_
    refine wa_nil ?_
    refine ⟨[z33], rfl, rfl, finKm ‹_› fun z32 h => ?_⟩
    refine wss_cons ?_
    refine ws_if ?_
    refine wt_neDM (κ := κ) ?_
    refine we_name (i := 8) rfl rfl rfl ?_
    refine we_name (i := 4) rfl rfl rfl ?_
    refine finD2 (f := neDM) z28 (.dic v_sayings_27.1 v_sayings_27.2) (vE (u := z28)) (vD rfl) ‹_› fun b34 h => ?_
    refine ite_m ‹_› (fun h => ?_) (fun h => ?_)
    · refine wss_cons ?_
      refine ws_ret ?_
      refine we_bl ?_
      exact rtV_v (u := (.bl false)) h
    · refine wss_nil ?_
      refine freezeMD 0 4 v_sayings_27 (Nat.le_of_ble_eq_true rfl) rfl rfl ?_
      refine wss_cons ?_
      refine ws_ret ?_
      refine we_callV (κ := κ) h__law_are (Nat.le_refl _) ⟨7, rfl⟩ ?_
      refine wa_cons ?_ rfl
      refine we_name (i := 10) rfl rfl rfl ?_
      refine wa_cons ?_ rfl
      refine we_f ?_
      refine wn_mN (κ := κ) h_Tree_holds (Nat.le_refl _) T.kls_Tree (by decide) ?_
      refine we_makeF (κ := κ) (c := "Tree") h_Tree_init (Nat.le_refl _) ⟨5, rfl⟩ T.g_Tree (T.kls_Tree "Tree" (by decide)).2.2 ?_
      refine wa_cons ?_ rfl
      refine we_f ?_
      refine wn_callN (κ := κ) h__law_marked (Nat.le_refl _) ⟨8, rfl⟩ ?_
      refine wa_cons ?_ rfl
      refine we_name (i := 9) rfl rfl rfl ?_
      refine wa_cons ?_ rfl
      refine we_name (i := 2) rfl rfl rfl ?_
      refine wa_cons ?_ rfl
      refine we_name (i := 4) rfl rfl rfl ?_
      refine wa_nil ?_
      refine finF (Γ := _) [.ins "Tree" [.lst z30], .lst z4, .dic v_sayings_27.1 v_sayings_27.2] rfl rfl hE ‹_› fun z35 h => ?_
      refine wa_nil ?_
      refine ⟨[.lst z35], (fvs_cons (fv_em (.lst z35)) fvs_nil), rfl, finKi ‹_› fun z37 h => ?_⟩
      refine ⟨(.ins "Tree" [.lst z37]), rfl, finPf ‹_› fun z38 h => ?_⟩
      refine wa_cons ?_ rfl
      refine we_name (i := 3) rfl rfl rfl ?_
      refine wa_nil ?_
      refine ⟨[z8], rfl, rfl, finKm ‹_› fun z39 h => ?_⟩
      refine wa_nil ?_
      refine finF (Γ := _) [.lst z32, .lst z39] rfl rfl hE ‹_› fun z40 h => ?_
      exact rtV_v (u := z40) h
end Law
set_option maxHeartbeats 0 in
theorem PySem.Challenge.cw_selfsay_k15_whole_put_for_letters_holds : PySem.Challenge.rw_selfsay_k15_whole_put_for_letters.Holds := by
  w_on; o_law; k_head; (case hw => w_witness2)
  k_fill
  refine Pl.law_end (n := 63) (k := 202) (x := "_law_script") (st := Law.topS 21) rfl (by decide) rfl ⟨rfl, by decide, by decide⟩ (fun w h Y => PySem.W.kIn_of Y) ?F
  case F =>
    intro w mg h KX G
    have z_len : mg "len" = none := by
      refine' PySem.W.mg_none_of KX G ?z
      (case z => k_is)
    have z_list : mg "list" = none := by
      refine' PySem.W.mg_none_of KX G ?z
      (case z => k_is)
    have z_tuple : mg "tuple" = none := by
      refine' PySem.W.mg_none_of KX G ?z
      (case z => k_is)
    have z_min : mg "min" = none := by
      refine' PySem.W.mg_none_of KX G ?z
      (case z => k_is)
    have z_all : mg "all" = none := by
      refine' PySem.W.mg_none_of KX G ?z
      (case z => k_is)
    have z_bool : mg "bool" = none := by
      refine' PySem.W.mg_none_of KX G ?z
      (case z => k_is)
    have z_isinstance : mg "isinstance" = none := by
      refine' PySem.W.mg_none_of KX G ?z
      (case z => k_is)
    have z_range : mg "range" = none := by
      refine' PySem.W.mg_none_of KX G ?z
      (case z => k_is)
    have z_enumerate : mg "enumerate" = none := by
      refine' PySem.W.mg_none_of KX G ?z
      (case z => k_is)
    have z_zip : mg "zip" = none := by
      refine' PySem.W.mg_none_of KX G ?z
      (case z => k_is)
    have z_reversed : mg "reversed" = none := by
      refine' PySem.W.mg_none_of KX G ?z
      (case z => k_is)
    have z_dict : mg "dict" = none := by
      refine' PySem.W.mg_none_of KX G ?z
      (case z => k_is)
    have z_ValueError : mg "ValueError" = none := by
      refine' PySem.W.mg_none_of KX G ?z
      (case z => k_is)
    refine' (have d_are_marks := Pl.defAt_mk (x := "are_marks") (st := Law.topS 6) (ps := ["marks"]) KX G (fun _ _ _ _ _ _ us hl => match us, hl with | [_], _ => rfl) ?a_1 ?l_1 ?c_1 ?k_1; ?rest_1)
    (case a_1 => k_is); (case l_1 => k_is); (case c_1 => k_is); (case k_1 => k_is)
    refine' (have d_look_over := Pl.defAt_mk (x := "look_over") (st := Law.topS 7) (ps := ["rooms"]) KX G (fun _ _ _ _ _ _ us hl => match us, hl with | [_], _ => rfl) ?a_2 ?l_2 ?c_2 ?k_2; ?rest_2)
    (case a_2 => k_is); (case l_2 => k_is); (case c_2 => k_is); (case k_2 => k_is)
    refine' (have d_all_above := Pl.defAt_mk (x := "all_above") (st := Law.topS 8) (ps := ["rooms", "inner"]) KX G (fun _ _ _ _ _ _ us hl => match us, hl with | [_, _], _ => rfl) ?a_3 ?l_3 ?c_3 ?k_3; ?rest_3)
    (case a_3 => k_is); (case l_3 => k_is); (case c_3 => k_is); (case k_3 => k_is)
    refine' (have d_joined := Pl.defAt_mk (x := "joined") (st := Law.topS 9) (ps := ["word", "ones", "others"]) KX G (fun _ _ _ _ _ _ us hl => match us, hl with | [_, _, _], _ => rfl) ?a_4 ?l_4 ?c_4 ?k_4; ?rest_4)
    (case a_4 => k_is); (case l_4 => k_is); (case c_4 => k_is); (case k_4 => k_is)
    refine' (have d_truths_in := Pl.defAt_mk (x := "truths_in") (st := Law.topS 10) (ps := ["rooms", "saying", "given"]) KX G (fun _ _ _ _ _ _ us hl => match us, hl with | [_, _, _], _ => rfl) ?a_5 ?l_5 ?c_5 ?k_5; ?rest_5)
    (case a_5 => k_is); (case l_5 => k_is); (case c_5 => k_is); (case k_5 => k_is)
    refine' (have d_put := Pl.defAt_mk (x := "put") (st := Law.topS 13) (ps := ["saying", "sayings"]) KX G (fun _ _ _ _ _ _ us hl => match us, hl with | [_, _], _ => rfl) ?a_6 ?l_6 ?c_6 ?k_6; ?rest_6)
    (case a_6 => k_is); (case l_6 => k_is); (case c_6 => k_is); (case k_6 => k_is)
    refine' (have d__law_cell := Pl.defAt_mk (x := "_law_cell") (st := Law.topS 15) (ps := ["_law_script", "_law_k"]) KX G (fun _ _ _ _ _ _ us hl => match us, hl with | [_, _], _ => rfl) ?a_7 ?l_7 ?c_7 ?k_7; ?rest_7)
    (case a_7 => k_is); (case l_7 => k_is); (case c_7 => k_is); (case k_7 => k_is)
    refine' (have d__law_saying := Pl.defAt_mk (x := "_law_saying") (st := Law.topS 16) (ps := ["_law_script", "_law_at", "_law_size", "_law_letters", "_law_deep"]) KX G (fun _ _ _ _ _ _ us hl => match us, hl with | [_, _, _, _, _], _ => rfl) ?a_8 ?l_8 ?c_8 ?k_8; ?rest_8)
    (case a_8 => k_is); (case l_8 => k_is); (case c_8 => k_is); (case k_8 => k_is)
    refine' (have d__law_marks := Pl.defAt_mk (x := "_law_marks") (st := Law.topS 17) (ps := ["_law_cell_here"]) KX G (fun _ _ _ _ _ _ us hl => match us, hl with | [_], _ => rfl) ?a_9 ?l_9 ?c_9 ?k_9; ?rest_9)
    (case a_9 => k_is); (case l_9 => k_is); (case c_9 => k_is); (case k_9 => k_is)
    refine' (have d__law_rooms := Pl.defAt_mk (x := "_law_rooms") (st := Law.topS 18) (ps := ["_law_script", "_law_at", "_law_many"]) KX G (fun _ _ _ _ _ _ us hl => match us, hl with | [_, _, _], _ => rfl) ?a_10 ?l_10 ?c_10 ?k_10; ?rest_10)
    (case a_10 => k_is); (case l_10 => k_is); (case c_10 => k_is); (case k_10 => k_is)
    refine' (have d__law_are := Pl.defAt_mk (x := "_law_are") (st := Law.topS 19) (ps := ["_law_found", "_law_due"]) KX G (fun _ _ _ _ _ _ us hl => match us, hl with | [_, _], _ => rfl) ?a_11 ?l_11 ?c_11 ?k_11; ?rest_11)
    (case a_11 => k_is); (case l_11 => k_is); (case c_11 => k_is); (case k_11 => k_is)
    refine' (have d__law_marked := Pl.defAt_mk (x := "_law_marked") (st := Law.topS 20) (ps := ["_law_tree", "_law_rooms_here", "_law_sayings"]) KX G (fun _ _ _ _ _ _ us hl => match us, hl with | [_, _, _], _ => rfl) ?a_12 ?l_12 ?c_12 ?k_12; ?rest_12)
    (case a_12 => k_is); (case l_12 => k_is); (case c_12 => k_is); (case k_12 => k_is)
    refine' (have d_law := Pl.defAt_mk (x := "law") (st := Law.topS 21) (ps := ["_law_script"]) KX G (fun _ _ _ _ _ _ us hl => match us, hl with | [_], _ => rfl) ?a_13 ?l_13 ?c_13 ?k_13; ?rest_13)
    (case a_13 => k_is); (case l_13 => k_is); (case c_13 => k_is); (case k_13 => k_is)
    refine' (have q_Tree := PySem.W.mg_of (n := "Tree") KX G ?a_14; ?rest_14)
    (case a_14 => k_is)
    have g_Tree := Sh.gAt q_Tree
    refine' (have kk_Tree := Sh.kAt (x := "Tree") (f := "kept") (fs := (fun _ => ["kept"])) KX q_Tree ?pg_15 ?hd_15 ?po_15 ?sa_15 ?nf_15; ?rest_15)
    (case pg_15 => k_is); (case hd_15 => k_is); (case po_15 => k_is); (case sa_15 => k_is); (case nf_15 => k_is)
    have kls_Tree : Sh.KlsOk _ ⟨Sh.adOf mg, (fun _ => ["kept"])⟩ ["Tree"] "kept" := (List.forall_mem_cons.mpr ⟨kk_Tree rfl, (fun _ hh => absurd hh List.not_mem_nil)⟩)
    refine' (have d_Tree_init := Sh.iAt (x := "Tree") (qual := "Tree.__init__") (st := (L2.inClass (Law.topS 11) 0)) (ps := ["self", "rooms"]) KX q_Tree (fun _ _ _ _ _ _ us hl => match us, hl with | [_, _], _ => rfl) ?a_16 ?l_16 ?c_16 ?k_16 ?i_16 ?mk_16 ?kc_16; ?rest_16)
    (case a_16 => k_is); (case l_16 => k_is); (case c_16 => k_is); (case k_16 => k_is); (case i_16 => k_is); (case mk_16 => k_is); (case kc_16 => k_is)
    refine' (have mm_Tree_rooms_Tree := Sh.mAt (x := "Tree") (m := "rooms") (qual := "Tree.rooms") (st := (L2.inClass (Law.topS 11) 1)) (ps := ["self"]) KX q_Tree (fun _ _ _ _ _ _ us hl => match us, hl with | [_], _ => rfl) ?a_17 ?l_17 ?c_17 ?k_17 ?i_17; ?rest_17)
    (case a_17 => k_is); (case l_17 => k_is); (case c_17 => k_is); (case k_17 => k_is); (case i_17 => k_is)
    have d_Tree_rooms : ∀ c ∈ (["Tree"] : List PySem.Str), Sh.MethAt _ (Sh.adOf mg c) "rooms" "Tree.rooms" (L2.inClass (Law.topS 11) 1) ["self"] := (List.forall_mem_cons.mpr ⟨mm_Tree_rooms_Tree, (fun _ hh => absurd hh List.not_mem_nil)⟩)
    refine' (have mm_Tree_above_Tree := Sh.mAt (x := "Tree") (m := "above") (qual := "Tree.above") (st := (L2.inClass (Law.topS 11) 2)) (ps := ["self", "room"]) KX q_Tree (fun _ _ _ _ _ _ us hl => match us, hl with | [_, _], _ => rfl) ?a_18 ?l_18 ?c_18 ?k_18 ?i_18; ?rest_18)
    (case a_18 => k_is); (case l_18 => k_is); (case c_18 => k_is); (case k_18 => k_is); (case i_18 => k_is)
    have d_Tree_above : ∀ c ∈ (["Tree"] : List PySem.Str), Sh.MethAt _ (Sh.adOf mg c) "above" "Tree.above" (L2.inClass (Law.topS 11) 2) ["self", "room"] := (List.forall_mem_cons.mpr ⟨mm_Tree_above_Tree, (fun _ hh => absurd hh List.not_mem_nil)⟩)
    refine' (have mm_Tree_height_Tree := Sh.mAt (x := "Tree") (m := "height") (qual := "Tree.height") (st := (L2.inClass (Law.topS 11) 3)) (ps := ["self", "room"]) KX q_Tree (fun _ _ _ _ _ _ us hl => match us, hl with | [_, _], _ => rfl) ?a_19 ?l_19 ?c_19 ?k_19 ?i_19; ?rest_19)
    (case a_19 => k_is); (case l_19 => k_is); (case c_19 => k_is); (case k_19 => k_is); (case i_19 => k_is)
    have d_Tree_height : ∀ c ∈ (["Tree"] : List PySem.Str), Sh.MethAt _ (Sh.adOf mg c) "height" "Tree.height" (L2.inClass (Law.topS 11) 3) ["self", "room"] := (List.forall_mem_cons.mpr ⟨mm_Tree_height_Tree, (fun _ hh => absurd hh List.not_mem_nil)⟩)
    refine' (have mm_Tree_holds_Tree := Sh.mAt (x := "Tree") (m := "holds") (qual := "Tree.holds") (st := (L2.inClass (Law.topS 11) 4)) (ps := ["self", "saying"]) KX q_Tree (fun _ _ _ _ _ _ us hl => match us, hl with | [_, _], _ => rfl) ?a_20 ?l_20 ?c_20 ?k_20 ?i_20; ?rest_20)
    (case a_20 => k_is); (case l_20 => k_is); (case c_20 => k_is); (case k_20 => k_is); (case i_20 => k_is)
    have d_Tree_holds : ∀ c ∈ (["Tree"] : List PySem.Str), Sh.MethAt _ (Sh.adOf mg c) "holds" "Tree.holds" (L2.inClass (Law.topS 11) 4) ["self", "saying"] := (List.forall_mem_cons.mpr ⟨mm_Tree_holds_Tree, (fun _ hh => absurd hh List.not_mem_nil)⟩)
    refine' (have mm_Tree_worth_Tree := Sh.mAt (x := "Tree") (m := "worth") (qual := "Tree.worth") (st := (L2.inClass (Law.topS 11) 5)) (ps := ["self", "saying", "room"]) KX q_Tree (fun _ _ _ _ _ _ us hl => match us, hl with | [_, _, _], _ => rfl) ?a_21 ?l_21 ?c_21 ?k_21 ?i_21; ?rest_21)
    (case a_21 => k_is); (case l_21 => k_is); (case c_21 => k_is); (case k_21 => k_is); (case i_21 => k_is)
    have d_Tree_worth : ∀ c ∈ (["Tree"] : List PySem.Str), Sh.MethAt _ (Sh.adOf mg c) "worth" "Tree.worth" (L2.inClass (Law.topS 11) 5) ["self", "saying", "room"] := (List.forall_mem_cons.mpr ⟨mm_Tree_worth_Tree, (fun _ hh => absurd hh List.not_mem_nil)⟩)
    refine' (have c_LETTERS := Sh.strAt_mk (x := "LETTERS") KX G ?a_22; ?rest_22)
    (case a_22 => k_is)
    exact ⟨d_law, fun base KB GB f fd F => Law.ok_the_law (G := ⟨_, w, _, mg, base⟩) (κ := ⟨Sh.adOf mg, (fun _ => ["kept"])⟩) ⟨z_len, z_list, z_tuple, z_min, z_all, z_bool, z_isinstance, z_range, z_enumerate, z_zip, z_reversed, z_dict, z_ValueError, d_are_marks, d_look_over, d_all_above, d_joined, d_truths_in, d_put, d__law_cell, d__law_saying, d__law_marks, d__law_rooms, d__law_are, d__law_marked, d_law, g_Tree, kls_Tree, d_Tree_init, d_Tree_rooms, d_Tree_above, d_Tree_height, d_Tree_holds, d_Tree_worth, c_LETTERS⟩ f fd F⟩

