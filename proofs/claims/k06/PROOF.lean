import PyProof.Rows.All
import Wide.All
import OpenK.AllK
import Wide.FinOn
import HandS.ForMost
import HandS.ForExc
import HandS.IsInst
import HandS.Conv
import HandS.Wide
import HandS.TupMul
import HandS.TupAny
import HandS.Zip
import HandS.Style
import HandS.ExcIs
import PySem.Challenge.RW_wholecut_k06_whole_loosened
set_option Elab.async false
set_option linter.all false
set_option maxRecDepth 100000
set_option maxHeartbeats 4000000
namespace D
open PySem PySem.Spec PyProof.Rows L2

/-! ### data in a heap -/
mutual
def repD : PyData → V → Hp → Prop
  | .none, v, _ => v = .non
  | .bool b, v, _ => v = .bl b
  | .int i, v, _ => v = .int i
  | .str x, v, _ => v = .str x
  | .list ds, v, H => ∃ p vs, v = .ref p ∧ H p = some (.lst vs) ∧ repL ds vs H
  | .tuple ds, v, H => ∃ p vs, v = .ref p ∧ H p = some (.tup vs) ∧ repL ds vs H
  | .dict _, _, _ => False
def repL : List PyData → List V → Hp → Prop
  | [], vs, _ => vs = []
  | d :: ds, vs, H => ∃ v r, vs = v :: r ∧ repD d v H ∧ repL ds r H
end
mutual
theorem repD_mono {H H' : Hp} (s : Same H H') : ∀ (d : PyData) (v : V), repD d v H → repD d v H'
  | .none, _, h => by simp only [repD] at h ⊢; exact h
  | .bool b, _, h => by simp only [repD] at h ⊢; exact h
  | .int i, _, h => by simp only [repD] at h ⊢; exact h
  | .str x, _, h => by simp only [repD] at h ⊢; exact h
  | .list ds, _, h => by
    simp only [repD] at h ⊢
    obtain ⟨p, vs, e, h1, h2⟩ := h
    exact ⟨p, vs, e, s _ _ h1, repL_mono s ds vs h2⟩
  | .tuple ds, _, h => by
    simp only [repD] at h ⊢
    obtain ⟨p, vs, e, h1, h2⟩ := h
    exact ⟨p, vs, e, s _ _ h1, repL_mono s ds vs h2⟩
  | .dict _, _, h => by simp only [repD] at h
theorem repL_mono {H H' : Hp} (s : Same H H') : ∀ (ds : List PyData) (vs : List V), repL ds vs H → repL ds vs H'
  | [], _, h => by simp only [repL] at h ⊢; exact h
  | d :: ds, _, h => by
    simp only [repL] at h ⊢
    obtain ⟨v, r, e, h1, h2⟩ := h
    exact ⟨v, r, e, repD_mono s d v h1, repL_mono s ds r h2⟩
end
theorem repL_length : ∀ {ds : List PyData} {vs : List V} {H : Hp}, repL ds vs H → vs.length = ds.length
  | [], _, _, h => by simp only [repL] at h; subst h; rfl
  | d :: ds, _, _, h => by
    simp only [repL] at h
    obtain ⟨v, r, e, _, h2⟩ := h
    subst e
    simp [repL_length h2]
theorem repL_get : ∀ {ds : List PyData} {vs : List V} {H : Hp} {i : Nat} {d : PyData}, repL ds vs H → ds[i]? = some d → ∃ v, vs[i]? = some v ∧ repD d v H
  | [], _, _, _, _, _, h => by simp at h
  | a :: ds, _, _, 0, d, h, e => by
    simp only [repL] at h
    obtain ⟨v, r, e1, h1, _⟩ := h
    simp at e
    subst e e1
    exact ⟨v, rfl, h1⟩
  | a :: ds, _, _, i + 1, d, h, e => by
    simp only [repL] at h
    obtain ⟨v, r, e1, _, h2⟩ := h
    subst e1
    simp at e
    obtain ⟨v', h3, h4⟩ := repL_get h2 e
    exact ⟨v', by simpa using h3, h4⟩
theorem repL_append : ∀ {ds es : List PyData} {vs ws : List V} {H : Hp}, repL ds vs H → repL es ws H → repL (ds ++ es) (vs ++ ws) H
  | [], _, _, _, _, h, h' => by simp only [repL] at h; subst h; exact h'
  | d :: ds, es, _, ws, H, h, h' => by
    simp only [repL] at h
    obtain ⟨v, r, e1, h1, h2⟩ := h
    subst e1
    show repL (d :: (ds ++ es)) (v :: (r ++ ws)) H
    simp only [repL]
    exact ⟨v, r ++ ws, rfl, h1, repL_append h2 h'⟩
theorem repL_one {d : PyData} {v : V} {H : Hp} (h : repD d v H) : repL [d] [v] H := by
  simp only [repL]
  exact ⟨v, [], rfl, h, rfl⟩
theorem repL_drop : ∀ {ds : List PyData} {vs : List V} {H : Hp} (n : Nat), repL ds vs H → repL (ds.drop n) (vs.drop n) H
  | _, _, _, 0, h => h
  | [], _, _, n + 1, h => by simp only [repL] at h; subst h; simp [repL]
  | d :: ds, _, _, n + 1, h => by
    simp only [repL] at h
    obtain ⟨v, r, e1, _, h2⟩ := h
    subst e1
    exact repL_drop n h2
theorem repL_take : ∀ {ds : List PyData} {vs : List V} {H : Hp} (n : Nat), repL ds vs H → repL (ds.take n) (vs.take n) H
  | _, _, _, 0, h => by simp [repL]
  | [], _, _, n + 1, h => by simp only [repL] at h; subst h; simp [repL]
  | d :: ds, _, _, n + 1, h => by
    simp only [repL] at h
    obtain ⟨v, r, e1, h1, h2⟩ := h
    subst e1
    show repL (d :: ds.take n) (v :: r.take n) _
    simp only [repL]
    exact ⟨v, _, rfl, h1, repL_take n h2⟩
theorem repL_set : ∀ {ds : List PyData} {vs : List V} {H : Hp} {d : PyData} {v : V} (i : Nat), repL ds vs H → repD d v H → repL (ds.set i d) (vs.set i v) H
  | [], _, _, _, _, i, h, _ => by simp only [repL] at h; subst h; simp [repL]
  | d :: ds, _, H, e, w, 0, h, h' => by
    simp only [repL] at h
    obtain ⟨v, r, e1, h1, h2⟩ := h
    subst e1
    show repL (e :: ds) (w :: r) H
    simp only [repL]
    exact ⟨w, r, rfl, h', h2⟩
  | d :: ds, _, H, e, w, i + 1, h, h' => by
    simp only [repL] at h
    obtain ⟨v, r, e1, h1, h2⟩ := h
    subst e1
    show repL (d :: ds.set i e) (v :: r.set i w) H
    simp only [repL]
    exact ⟨v, _, rfl, h1, repL_set i h2 h'⟩
theorem repL_replicate {d : PyData} {v : V} {H : Hp} (h : repD d v H) : ∀ n : Nat, repL (List.replicate n d) (List.replicate n v) H
  | 0 => by simp [repL]
  | n + 1 => by
    show repL (d :: List.replicate n d) (v :: List.replicate n v) H
    simp only [repL]
    exact ⟨v, _, rfl, h, repL_replicate h n⟩
theorem repL_ints : ∀ {ns : List Int} {vs : List V} {H : Hp}, repL (ns.map PyData.int) vs H → vs = ns.map V.int
  | [], _, _, h => by simpa only [repL, List.map_nil] using h
  | n :: ns, _, _, h => by
    simp only [List.map_cons, repL, repD] at h
    obtain ⟨v, r, e1, e2, h2⟩ := h
    subst e1 e2
    rw [List.map_cons, ← repL_ints h2]
theorem repL_of_ints : ∀ (ns : List Int) (H : Hp), repL (ns.map PyData.int) (ns.map V.int) H
  | [], _ => by simp [repL]
  | n :: ns, H => by
    simp only [List.map_cons, repL, repD]
    exact ⟨_, _, rfl, rfl, repL_of_ints ns H⟩
mutual
theorem repD_Dp {K : PySem.W.Frag} {H : Hp} : ∀ (d : PyData) (v : V), repD d v H → Dp K H v d
  | .none, _, h => by simp only [repD] at h; subst h; exact .non
  | .bool b, _, h => by simp only [repD] at h; subst h; exact .bl b
  | .int i, _, h => by simp only [repD] at h; subst h; exact .int i
  | .str x, _, h => by simp only [repD] at h; subst h; exact .str x
  | .list ds, _, h => by
    simp only [repD] at h
    obtain ⟨p, vs, e, h1, h2⟩ := h
    subst e
    exact .lst (.inl (.inl h1)) (repL_Dp ds vs h2)
  | .tuple ds, _, h => by
    simp only [repD] at h
    obtain ⟨p, vs, e, h1, h2⟩ := h
    subst e
    exact .tup (.inl (.inl h1)) (repL_Dp ds vs h2)
  | .dict _, _, h => by simp only [repD] at h
theorem repL_Dp {K : PySem.W.Frag} {H : Hp} : ∀ (ds : List PyData) (vs : List V), repL ds vs H → DpAll K H vs ds
  | [], _, h => by simp only [repL] at h; subst h; exact .nil
  | d :: ds, _, h => by
    simp only [repL] at h
    obtain ⟨v, r, e, h1, h2⟩ := h
    subst e
    exact .cons (repD_Dp d v h1) (repL_Dp ds r h2)
end

/-! ### persistent properties of values -/
structure RP where
  p : V → Hp → Prop
  mono : ∀ {v : V} {H H' : Hp}, p v H → Same H H' → p v H'
def rpD (d : PyData) : RP := ⟨repD d, fun h s => repD_mono s d _ h⟩
class ToPy (α : Type) where
  py : α → PyData
  dft : α
open ToPy (py)
def rep {α : Type} [ToPy α] (a : α) : RP := rpD (py a)
/-- a tuple of things alike; a tuple of three -/
structure Tup (α : Type) where
  l : List α
structure T3 (α β γ : Type) where
  a : α
  b : β
  c : γ
instance : ToPy Int := ⟨.int, 0⟩
instance : ToPy Bool := ⟨.bool, false⟩
instance : ToPy Str := ⟨.str, ""⟩
instance : ToPy Unit := ⟨fun _ => .none, ()⟩
instance : ToPy PyData := ⟨id, .none⟩
instance {α : Type} [ToPy α] : ToPy (List α) := ⟨fun l => .list (l.map py), []⟩
instance {α : Type} [ToPy α] : ToPy (Tup α) := ⟨fun l => .tuple (l.l.map py), ⟨[]⟩⟩
instance {α : Type} [ToPy α] : ToPy (Option α) := ⟨fun o => match o with | none => .none | some a => py a, none⟩
instance {α β : Type} [ToPy α] [ToPy β] : ToPy (α × β) := ⟨fun x => .tuple [py x.1, py x.2], (ToPy.dft, ToPy.dft)⟩
instance {α β γ : Type} [ToPy α] [ToPy β] [ToPy γ] : ToPy (T3 α β γ) := ⟨fun x => .tuple [py x.a, py x.b, py x.c], ⟨ToPy.dft, ToPy.dft, ToPy.dft⟩⟩
/-- the object at p, in our own hands -/
def own (p : Addr) : RP := ⟨fun v _ => v = .ref p, fun h _ => h⟩
/-- what does not lean on the heap -/
def Flat (R : RP) : Prop := ∀ v H H', R.p v H → R.p v H'
theorem flat_int (i : Int) : Flat (rep i) := fun v H H' h => by
  have h : repD (.int i) v H := h
  show repD (.int i) v H'
  simp only [repD] at h ⊢
  exact h
theorem flat_bool (i : Bool) : Flat (rep i) := fun v H H' h => by
  have h : repD (.bool i) v H := h
  show repD (.bool i) v H'
  simp only [repD] at h ⊢
  exact h
theorem flat_str (i : Str) : Flat (rep i) := fun v H H' h => by
  have h : repD (.str i) v H := h
  show repD (.str i) v H'
  simp only [repD] at h ⊢
  exact h
theorem flat_unit : Flat (rep ()) := fun v H H' h => by
  have h : repD (.none) v H := h
  show repD (.none) v H'
  simp only [repD] at h ⊢
  exact h
def All : List RP → List V → Hp → Prop
  | [], vs, _ => vs = []
  | R :: Rs, vs, H => ∃ v r, vs = v :: r ∧ R.p v H ∧ All Rs r H
theorem All.mono {H H' : Hp} (s : Same H H') : ∀ {Rs : List RP} {vs : List V}, All Rs vs H → All Rs vs H'
  | [], _, h => h
  | R :: Rs, _, ⟨v, r, e, h1, h2⟩ => ⟨v, r, e, R.mono h1 s, All.mono s h2⟩
theorem All.length {H : Hp} : ∀ {Rs : List RP} {vs : List V}, All Rs vs H → vs.length = Rs.length
  | [], _, h => by subst h; rfl
  | R :: Rs, _, ⟨v, r, e, h1, h2⟩ => by subst e; simp [All.length h2]
theorem All.get {H : Hp} : ∀ {Rs : List RP} {vs : List V} {i : Nat} {R : RP}, All Rs vs H → Rs[i]? = some R → ∃ v, vs[i]? = some v ∧ R.p v H
  | [], _, _, _, _, e => by simp at e
  | R :: Rs, _, 0, R', ⟨v, r, e, h1, h2⟩, e' => by
    subst e
    simp at e'
    subst e'
    exact ⟨v, rfl, h1⟩
  | R :: Rs, _, i + 1, R', ⟨v, r, e, h1, h2⟩, e' => by
    subst e
    simp at e'
    obtain ⟨v', h3, h4⟩ := All.get h2 e'
    exact ⟨v', by simpa using h3, h4⟩
/-- what an owned object holds -/
structure OT where
  q : HO → Hp → Prop
  mono : ∀ {o : HO} {H H' : Hp}, q o H → Same H H' → q o H'
def oLD (ds : List PyData) : OT := ⟨fun o f => ∃ vs, o = .lst vs ∧ repL ds vs f, fun ⟨vs, e, h⟩ s => ⟨vs, e, repL_mono s _ _ h⟩⟩
def oL {α : Type} [ToPy α] (xs : List α) : OT := oLD (xs.map py)

/-! ### how heaps go on: f the part that stands for good, h the whole -/
structure Ext (f h f' h' : Hp) : Prop where
  ff : Same f f'
  hh : Same h h'
  fh : Same f' h'
  nf : ∀ a, h a ≠ none → f a = none → f' a = none
theorem Ext.refl {f h : Hp} (s : Same f h) : Ext f h f h := ⟨.refl _, .refl _, s, fun _ _ e => e⟩
theorem Ext.trans {f h f1 h1 f2 h2 : Hp} (a : Ext f h f1 h1) (b : Ext f1 h1 f2 h2) : Ext f h f2 h2 :=
  ⟨a.ff.trans b.ff, a.hh.trans b.hh, b.fh, fun x n e => b.nf x (fun z => n (a.hh.free z)) (a.nf x n e)⟩
theorem same_new {H : Hp} {p : Addr} {o : HO} (hp : H p = none) : Same H (upd H p o) := fun b u e => by
  rw [upd_ne (ne_of_none e hp)]
  exact e
theorem same_upd {f h : Hp} {p : Addr} {o : HO} (s : Same f h) (hp : f p = none) : Same f (upd h p o) := fun b u e => by
  rw [upd_ne (ne_of_none e hp)]
  exact s b u e
theorem same_both {f h : Hp} {p : Addr} {o : HO} (s : Same f h) : Same (upd f p o) (upd h p o) := fun b u e => by
  by_cases hb : b = p
  · subst hb
    rw [upd_same] at e ⊢
    exact e
  · rw [upd_ne hb] at e ⊢
    exact s b u e
theorem Ext.new {f h : Hp} {p : Addr} {o : HO} (s : Same f h) (hp : h p = none) : Ext f h (upd f p o) (upd h p o) :=
  ⟨same_new (s.free hp), same_new hp, same_both s, fun a n e => by
    rw [upd_ne (fun z => n (by rw [z]; exact hp))]
    exact e⟩
theorem Ext.newH {f h : Hp} {p : Addr} {o : HO} (s : Same f h) (hp : h p = none) : Ext f h f (upd h p o) :=
  ⟨.refl _, same_new hp, s.trans (same_new hp), fun _ _ e => e⟩
/-- what was made new may stand for good from now on -/
theorem Ext.frz {f h f' h' : Hp} {p : Addr} {o : HO} (e : Ext f h f' h') (hp : h p = none) (ho : h' p = some o) (hf : f' p = none) : Ext f h (upd f' p o) h' :=
  ⟨e.ff.trans (same_new hf), e.hh, fun b u q => by
    by_cases hb : b = p
    · subst hb
      rw [upd_same] at q
      cases q
      exact ho
    · rw [upd_ne hb] at q
      exact e.fh b u q, fun a n z => by
    rw [upd_ne (fun y => n (by rw [y]; exact hp))]
    exact e.nf a n z⟩

/-! ### contexts: what each slot holds -/
abbrev Ctx := List (Option RP)
def Ok (Γ : Ctx) (σ : L2.St) (f : Hp) : Prop := σ.length = Γ.length ∧ ∀ (i : Nat) (R : RP), Γ[i]? = some (some R) → ∃ v, σ[i]? = some (some v) ∧ R.p v f
theorem Ok.mono {Γ : Ctx} {σ : L2.St} {f f' : Hp} (h : Ok Γ σ f) (s : Same f f') : Ok Γ σ f' := ⟨h.1, fun i R e => by
  obtain ⟨v, h1, h2⟩ := h.2 i R e
  exact ⟨v, h1, R.mono h2 s⟩⟩
theorem Ok.set {Γ : Ctx} {σ : L2.St} {f : Hp} {R : RP} {v : V} (i : Nat) (h : Ok Γ σ f) (hv : R.p v f) : Ok (Γ.set i (some R)) (σ.set i (some v)) f := by
  refine ⟨by simp [h.1], fun j R' e => ?_⟩
  by_cases hj : i = j
  · subst hj
    by_cases hl : i < Γ.length
    · rw [List.getElem?_set_self hl] at e
      cases e
      exact ⟨v, List.getElem?_set_self (by rw [h.1]; exact hl), hv⟩
    · rw [List.getElem?_eq_none (by simpa using Nat.le_of_not_lt hl)] at e
      cases e
  · rw [List.getElem?_set_ne hj] at e
    obtain ⟨u, h1, h2⟩ := h.2 j R' e
    exact ⟨u, by rw [List.getElem?_set_ne hj]; exact h1, h2⟩
theorem Ok.setn {Γ : Ctx} {σ : L2.St} {f : Hp} {s : Option V} (i : Nat) (h : Ok Γ σ f) : Ok (Γ.set i none) (σ.set i s) f := by
  refine ⟨by simp [h.1], fun j R' e => ?_⟩
  by_cases hj : i = j
  · subst hj
    by_cases hl : i < Γ.length
    · rw [List.getElem?_set_self hl] at e
      cases e
    · rw [List.getElem?_eq_none (by simpa using Nat.le_of_not_lt hl)] at e
      cases e
  · rw [List.getElem?_set_ne hj] at e
    obtain ⟨u, h1, h2⟩ := h.2 j R' e
    exact ⟨u, by rw [List.getElem?_set_ne hj]; exact h1, h2⟩

/-! ### what readings come to -/
def EvD (Γ : Ctx) (te : TE) (R : RP) : Prop := ∀ σ f h, Same f h → Ok Γ σ f → ∀ Q : VK, (∀ v f' h', Ext f h f' h' → R.p v f' → Q v h') → te σ h Q
def EvT (Γ : Ctx) (tt : TT) (b : Bool) : Prop := ∀ σ f h, Same f h → Ok Γ σ f → ∀ Q : Bool → Hp → Prop, (∀ f' h', Ext f h f' h' → Q b h') → tt σ h Q
def EvA (Γ : Ctx) (ta : TA) (Rs : List RP) : Prop := ∀ σ f h, Same f h → Ok Γ σ f → ∀ Q : List V → Hp → Prop, (∀ vs f' h', Ext f h f' h' → All Rs vs f' → Q vs h') → ta σ h Q
def EvP (Γ : Ctx) (to : TO) (o : Option Int) : Prop := ∀ σ f h, Same f h → Ok Γ σ f → ∀ Q : Option Int → Hp → Prop, (∀ f' h', Ext f h f' h' → Q o h') → to σ h Q
/-- a new object -/
def EvN (Γ : Ctx) (te : TE) (T : OT) : Prop := ∀ σ f h, Same f h → Ok Γ σ f → ∀ Q : VK, (∀ p o f' h', Ext f h f' h' → h p = none → f' p = none → h' p = some o → T.q o f' → Q (.ref p) h') → te σ h Q
def R2D (r : R2) (Ra Rb R : RP) : Prop := ∀ x y f h, Same f h → Ra.p x f → Rb.p y f → ∀ Q : VK, (∀ v f' h', Ext f h f' h' → R.p v f' → Q v h') → r x y h Q
def R2N (r : R2) (Ra Rb : RP) (T : OT) : Prop := ∀ x y f h, Same f h → Ra.p x f → Rb.p y f → ∀ Q : VK, (∀ p o f' h', Ext f h f' h' → h p = none → f' p = none → h' p = some o → T.q o f' → Q (.ref p) h') → r x y h Q
def R1D (r : V → Hp → VK → Prop) (Ra R : RP) : Prop := ∀ x f h, Same f h → Ra.p x f → ∀ Q : VK, (∀ v f' h', Ext f h f' h' → R.p v f' → Q v h') → r x h Q
def RcD (r : List V → Hp → VK → Prop) (Rs : List RP) (R : RP) : Prop := ∀ vs f h, Same f h → All Rs vs f → ∀ Q : VK, (∀ v f' h', Ext f h f' h' → R.p v f' → Q v h') → r vs h Q
def RcN (r : List V → Hp → VK → Prop) (Rs : List RP) (T : OT) : Prop := ∀ vs f h, Same f h → All Rs vs f → ∀ Q : VK, (∀ p o f' h', Ext f h f' h' → h p = none → f' p = none → h' p = some o → T.q o f' → Q (.ref p) h') → r vs h Q

section
variable {Γ : Ctx} {te ta tb tc : TE} {tt tu : TT} {R Ra Rb Rc R' : RP} {T : OT} {r : R2}
/-- a new list stands for good -/
theorem EvN.evD {ds : List PyData} (h : EvN Γ te (oLD ds)) : EvD Γ te (rpD (.list ds)) := fun σ f hp s ok Q q =>
  h σ f hp s ok Q fun p o f' h' e n nf ho ht => by
    obtain ⟨vs, rfl, hr⟩ := ht
    refine q (.ref p) (upd f' p (.lst vs)) h' (e.frz n ho nf) ?_
    show repD (.list ds) _ _
    simp only [repD]
    exact ⟨p, vs, rfl, upd_same, repL_mono (same_new nf) _ _ hr⟩
theorem ev_new {α : Type} {_ : ToPy α} {xs : List α} (h : EvN Γ te (oL xs)) : EvD Γ te (rep xs) := EvN.evD h
theorem ev_var {i : Nat} (h : Γ[i]? = some (some R)) : EvD Γ (tVar i) R := fun σ f hp s ok Q q => by
  obtain ⟨v, h1, h2⟩ := ok.2 i R h
  exact ⟨v, h1, q v f hp (.refl s) h2⟩
theorem ev_c {v : V} (h : ∀ H, R.p v H) : EvD Γ (tC v) R := fun σ f hp s ok Q q => q v f hp (.refl s) (h f)
theorem ev_int {i : Int} : EvD Γ (tC (.int i)) (rep i) := ev_c fun H => by show repD (.int i) _ H; simp [repD]
theorem ev_bl {i : Bool} : EvD Γ (tC (.bl i)) (rep i) := ev_c fun H => by show repD (.bool i) _ H; simp [repD]
theorem ev_str {i : Str} : EvD Γ (tC (.str i)) (rep i) := ev_c fun H => by show repD (.str i) _ H; simp [repD]
theorem ev_non : EvD Γ (tC .non) (rep ()) := ev_c fun H => by show repD .none _ H; simp [repD]
theorem ev_op (ha : EvD Γ ta Ra) (hb : EvD Γ tb Rb) (hr : R2D r Ra Rb R) : EvD Γ (tOp r ta tb) R := fun σ f hp s ok Q q =>
  ha σ f hp s ok _ fun x f1 h1 e1 rx => hb σ f1 h1 e1.fh (ok.mono e1.ff) _ fun y f2 h2 e2 ry =>
    hr x y f2 h2 e2.fh (Ra.mono rx e2.ff) ry Q fun v f3 h3 e3 rv => q v f3 h3 ((e1.trans e2).trans e3) rv
theorem ev_opN (ha : EvD Γ ta Ra) (hb : EvD Γ tb Rb) (hr : R2N r Ra Rb T) : EvN Γ (tOp r ta tb) T := fun σ f hp s ok Q q =>
  ha σ f hp s ok _ fun x f1 h1 e1 rx => hb σ f1 h1 e1.fh (ok.mono e1.ff) _ fun y f2 h2 e2 ry =>
    hr x y f2 h2 e2.fh (Ra.mono rx e2.ff) ry Q fun p o f3 h3 e3 n nf ho ht => q p o f3 h3 ((e1.trans e2).trans e3) ((e1.trans e2).hh.free n) nf ho ht
theorem ev_un {r : V → Hp → VK → Prop} (ha : EvD Γ ta Ra) (hr : R1D r Ra R) : EvD Γ (tUn r ta) R := fun σ f hp s ok Q q =>
  ha σ f hp s ok _ fun x f1 h1 e1 rx => hr x f1 h1 e1.fh rx Q fun v f3 h3 e3 rv => q v f3 h3 (e1.trans e3) rv
theorem ev_cast (h : EvD Γ te R) (e : R = R') : EvD Γ te R' := e ▸ h
theorem ev_eq {α : Type} {_ : ToPy α} {a b : α} (h : EvD Γ te (rep a)) (e : a = b) : EvD Γ te (rep b) := e ▸ h
theorem et_eq {a b : Bool} (h : EvT Γ tt a) (e : a = b) : EvT Γ tt b := e ▸ h
theorem rep_bool {b : Bool} {v : V} {f : Hp} (h : (rep b).p v f) : v = .bl b := by
  have h : repD (.bool b) v f := h
  simpa only [repD] using h
theorem rep_int {b : Int} {v : V} {f : Hp} (h : (rep b).p v f) : v = .int b := by
  have h : repD (.int b) v f := h
  simpa only [repD] using h
theorem rep_str {b : Str} {v : V} {f : Hp} (h : (rep b).p v f) : v = .str b := by
  have h : repD (.str b) v f := h
  simpa only [repD] using h
theorem rep_unit {v : V} {f : Hp} (h : (rep ()).p v f) : v = .non := by
  have h : repD .none v f := h
  simpa only [repD] using h
theorem rep_of_int (b : Int) (f : Hp) : (rep b).p (.int b) f := by show repD (.int b) _ f; simp [repD]
theorem rep_of_bool (b : Bool) (f : Hp) : (rep b).p (.bl b) f := by show repD (.bool b) _ f; simp [repD]
theorem rep_of_str (b : Str) (f : Hp) : (rep b).p (.str b) f := by show repD (.str b) _ f; simp [repD]
theorem rep_of_unit (f : Hp) : (rep ()).p .non f := by show repD .none _ f; simp [repD]
theorem rep_list {α : Type} {_ : ToPy α} {xs : List α} {v : V} {f : Hp} (h : (rep xs).p v f) : ∃ p vs, v = .ref p ∧ f p = some (.lst vs) ∧ repL (xs.map py) vs f := by
  have h : repD (.list (xs.map py)) v f := h
  simpa only [repD] using h
theorem rep_tup {α : Type} {_ : ToPy α} {xs : List α} {v : V} {f : Hp} (h : (rep (Tup.mk xs)).p v f) : ∃ p vs, v = .ref p ∧ f p = some (.tup vs) ∧ repL (xs.map py) vs f := by
  have h : repD (.tuple (xs.map py)) v f := h
  simpa only [repD] using h
/-! tests -/
theorem et_val {b : Bool} (h : EvD Γ te (rep b)) : EvT Γ (tB te) b := fun σ f hp s ok Q q => h σ f hp s ok _ fun v f' h' e rv => ⟨b, rep_bool rv, q f' h' e⟩
theorem et_test {b : Bool} (h : EvD Γ te (rep b)) : EvT Γ (tTest te) b := fun σ f hp s ok Q q => h σ f hp s ok _ fun v f' h' e rv => ⟨b, rep_bool rv, q f' h' e⟩
theorem et_not {b : Bool} (h : EvT Γ tt b) : EvT Γ (tNot tt) (!b) := fun σ f hp s ok Q q => h σ f hp s ok _ fun f' h' e => q f' h' e
theorem et_and {a b : Bool} (h1 : EvT Γ tt a) (h2 : a = true → EvT Γ tu b) : EvT Γ (tAnd tt tu) (a && b) := fun σ f hp s ok Q q => h1 σ f hp s ok _ fun f' h' e => by
  cases a with
  | true => exact iteT (h2 rfl σ f' h' e.fh (ok.mono e.ff) _ fun f2 h2 e2 => q f2 h2 (e.trans e2))
  | false => exact iteF (q f' h' e)
theorem et_or {a b : Bool} (h1 : EvT Γ tt a) (h2 : a = false → EvT Γ tu b) : EvT Γ (tOr tt tu) (a || b) := fun σ f hp s ok Q q => h1 σ f hp s ok _ fun f' h' e => by
  cases a with
  | true => exact iteT (q f' h' e)
  | false => exact iteF (h2 rfl σ f' h' e.fh (ok.mono e.ff) _ fun f2 h2 e2 => q f2 h2 (e.trans e2))
theorem ev_and {a b : Bool} (h1 : EvD Γ ta (rep a)) (h2 : a = true → EvD Γ tb (rep b)) : EvD Γ (tAndV ta tb) (rep (a && b)) := fun σ f hp s ok Q q => h1 σ f hp s ok _ fun v f' h' e rv => by
  refine ⟨a, rep_bool rv, ?_⟩
  cases a with
  | true => exact iteT (h2 rfl σ f' h' e.fh (ok.mono e.ff) _ fun v2 f2 h2 e2 r2 => q v2 f2 h2 (e.trans e2) r2)
  | false => exact iteF (q _ f' h' e (rep_of_bool _ _))
theorem ev_or {a b : Bool} (h1 : EvD Γ ta (rep a)) (h2 : a = false → EvD Γ tb (rep b)) : EvD Γ (tOrV ta tb) (rep (a || b)) := fun σ f hp s ok Q q => h1 σ f hp s ok _ fun v f' h' e rv => by
  refine ⟨a, rep_bool rv, ?_⟩
  cases a with
  | true => exact iteT (q _ f' h' e (rep_of_bool _ _))
  | false => exact iteF (h2 rfl σ f' h' e.fh (ok.mono e.ff) _ fun v2 f2 h2 e2 r2 => q v2 f2 h2 (e.trans e2) r2)
theorem ev_not {a : Bool} (h1 : EvD Γ ta (rep a)) : EvD Γ (tNotV ta) (rep (!a)) := fun σ f hp s ok Q q => h1 σ f hp s ok _ fun v f' h' e rv =>
  ⟨a, rep_bool rv, q _ f' h' e (rep_of_bool _ _)⟩
theorem ev_if {b : Bool} (h : EvT Γ tt b) (h1 : b = true → EvD Γ ta R) (h2 : b = false → EvD Γ tb R) : EvD Γ (tIf tt ta tb) R := fun σ f hp s ok Q q => h σ f hp s ok _ fun f' h' e => by
  cases b with
  | true => exact iteT (h1 rfl σ f' h' e.fh (ok.mono e.ff) _ fun v2 f2 h2 e2 r2 => q v2 f2 h2 (e.trans e2) r2)
  | false => exact iteF (h2 rfl σ f' h' e.fh (ok.mono e.ff) _ fun v2 f2 h2 e2 r2 => q v2 f2 h2 (e.trans e2) r2)
/-- a < b < c -/
theorem ev_chain {r r' : R2} {a b : Bool} (h1 : EvD Γ ta Ra) (h2 : EvD Γ tb Rb) (h3 : EvD Γ tc Rc) (hr : R2D r Ra Rb (rep a)) (hr' : a = true → R2D r' Rb Rc (rep b)) : EvD Γ (tChain r r' ta tb tc) (rep (a && b)) := fun σ f hp s ok Q q =>
  h1 σ f hp s ok _ fun x f1 hp1 e1 rx => h2 σ f1 hp1 e1.fh (ok.mono e1.ff) _ fun y f2 hp2 e2 ry =>
    hr x y f2 hp2 e2.fh (Ra.mono rx e2.ff) ry _ fun z f3 hp3 e3 rz => by
      refine ⟨a, rep_bool rz, ?_⟩
      cases a with
      | true =>
        refine iteT (h3 σ f3 hp3 e3.fh (ok.mono ((e1.trans e2).trans e3).ff) _ fun w f4 hp4 e4 rw_ => ?_)
        exact hr' rfl y w f4 hp4 e4.fh (Rb.mono ry (e3.trans e4).ff) rw_ Q fun v f5 hp5 e5 rv => q v f5 hp5 ((((e1.trans e2).trans e3).trans e4).trans e5) rv
      | false => exact iteF (q _ f3 hp3 ((e1.trans e2).trans e3) (rep_of_bool _ _))
/-! arguments -/
theorem ea_nil : EvA Γ tNil [] := fun σ f hp s ok Q q => q [] f hp (.refl s) rfl
theorem ea_cons {tr : TA} {Rs : List RP} (h : EvD Γ te R) (hr : EvA Γ tr Rs) : EvA Γ (tCons te tr) (R :: Rs) := fun σ f hp s ok Q q =>
  h σ f hp s ok _ fun x f1 h1 e1 rx => hr σ f1 h1 e1.fh (ok.mono e1.ff) _ fun vs f2 h2 e2 rs => q (x :: vs) f2 h2 (e1.trans e2) ⟨x, vs, rfl, R.mono rx e2.ff, rs⟩
theorem ep_none : EvP Γ tNoPart none := fun σ f hp s ok Q q => q f hp (.refl s)
theorem ep_some {i : Int} (h : EvD Γ te (rep i)) : EvP Γ (tPart te) (some i) := fun σ f hp s ok Q q => h σ f hp s ok _ fun v f1 h1 e1 rv => ⟨i, rep_int rv, q f1 h1 e1⟩
theorem ev_cb {r : List V → Hp → VK → Prop} {t : TA} {Rs : List RP} (ha : EvA Γ t Rs) (hr : RcD r Rs R) : EvD Γ (tCB r t) R := fun σ f hp s ok Q q =>
  ha σ f hp s ok _ fun vs f1 h1 e1 rs => hr vs f1 h1 e1.fh rs Q fun v f2 h2 e2 rv => q v f2 h2 (e1.trans e2) rv
theorem ev_cbN {r : List V → Hp → VK → Prop} {t : TA} {Rs : List RP} (ha : EvA Γ t Rs) (hr : RcN r Rs T) : EvN Γ (tCB r t) T := fun σ f hp s ok Q q =>
  ha σ f hp s ok _ fun vs f1 h1 e1 rs => hr vs f1 h1 e1.fh rs Q fun p o f2 h2 e2 n nf ho ht => q p o f2 h2 (e1.trans e2) (e1.hh.free n) nf ho ht
end
end D

set_option Elab.async false
set_option linter.all false
set_option maxRecDepth 100000
set_option maxHeartbeats 4000000
namespace D
open PySem PySem.Spec PyProof.Rows L2
open ToPy (py)

/-! ### operators whose kinds are told by the values: one rule for each sign -/
def rOr (r r' : R2) : R2 := fun x y H Q => r x y H Q ∨ r' x y H Q
def rAddI : R2 := rI0 fun i j => .int (i + j)
def rSubI : R2 := rI0 fun i j => .int (i - j)
def rMulI : R2 := rOr (rI CMul fun i j => .int (i * j)) (rI CMulW fun i j => .int (i * j))
def rModI : R2 := rI (fun _ j => 0 < j) fun i j => .int (i % j)
def rDivI : R2 := rOr (rI CDiv fun i j => .int (i / j)) (rI CDivW fun i j => .int (i / j))
def rPowI : R2 := rI CPow fun i j => .int (i ^ j.toNat)
def rAddS : R2 := fun x y H Q => ∃ i j, x = .str i ∧ y = .str j ∧ i.length + j.length ≤ sizeLine ∧ Q (.str (i ++ j)) H
def rAddX (K : PySem.W.Frag) : R2 := rOr rAddI (rOr rCat (rOr rAddS (rCatA K)))
def rMulX (K : PySem.W.Frag) : R2 := rOr rMulI (rOr rRep (rRepT K))
def rEqX (K : PySem.W.Frag) : R2 := rOr rEq (rEqD K)
def rNeX (K : PySem.W.Frag) : R2 := rOr rNe (rNeD K)
def rLtI : R2 := rI0 fun i j => .bl (decide (i < j))
def rLeI : R2 := rI0 fun i j => .bl (decide (i ≤ j))
def rGtI : R2 := rI0 fun i j => .bl (decide (j < i))
def rGeI : R2 := rI0 fun i j => .bl (decide (j ≤ i))
def rInSg : R2 := fun x y H Q => ∃ (c : Nat) (z : Str), x = .str ⟨#[c]⟩ ∧ y = .str z ∧ Q (.bl (decide (c ∈ z.cps.toList))) H
def rNinSg : R2 := fun x y H Q => ∃ (c : Nat) (z : Str), x = .str ⟨#[c]⟩ ∧ y = .str z ∧ Q (.bl (!decide (c ∈ z.cps.toList))) H
def rInX (K : PySem.W.Frag) : R2 := rOr (rIn K false) rInSg
def rNinX (K : PySem.W.Frag) : R2 := rOr (rIn K true) rNinSg
def rIsNo : R2 := fun x y H Q => y = .non ∧ Q (.bl (decide (x = .non))) H
def rNotNo : R2 := fun x y H Q => y = .non ∧ Q (.bl (!decide (x = .non))) H
section
variable {X : Cx}
theorem or2 {f : Value → Value → Sem Value} {r r' : R2} (h : OpR X f r) (h' : OpR X f r') : OpR X f (rOr r r') := h.or h'
theorem op_addX : OpR X (binaryOp .Add) (rAddX X.K) := or2 op_add (or2 op_cat (or2 op_add_str op_catA))
theorem op_subX : OpR X (binaryOp .Sub) rSubI := op_sub
theorem op_mulX : OpR X (binaryOp .Mult) (rMulX X.K) := or2 (or2 op_mul op_mulW) (or2 op_rep op_repT)
theorem op_modX : OpR X (binaryOp .Mod) rModI := op_mod
theorem op_divX : OpR X (binaryOp .FloorDiv) rDivI := or2 op_fdiv op_fdivW
theorem op_powX : OpR X (binaryOp .Pow) rPowI := op_pow
theorem op_eqX (hu : X.A.units + 64 < cLine) : OpR X (compareOp .Eq) (rEqX X.K) := or2 op_eq (op_eqD hu)
theorem op_neX (hu : X.A.units + 64 < cLine) : OpR X (compareOp .NotEq) (rNeX X.K) := or2 op_ne (op_neD hu)
theorem op_ltX : OpR X (compareOp .Lt) rLtI := op_lt
theorem op_leX : OpR X (compareOp .LtE) rLeI := op_le
theorem op_gtX : OpR X (compareOp .Gt) rGtI := op_gt
theorem op_geX : OpR X (compareOp .GtE) rGeI := op_ge
theorem op_inX : OpR X (compareOp .In) (rInX X.K) := or2 op_in_seq op_in_sign
theorem op_ninX : OpR X (compareOp .NotIn) (rNinX X.K) := or2 op_notIn_seq op_notIn_sign
theorem op_isNo : OpR X (compareOp .Is) rIsNo := op_isN
theorem op_notNo : OpR X (compareOp .IsNot) rNotNo := op_notN
def rLenX (K : PySem.W.Frag) : List V → Hp → VK → Prop := fun xs H Q => (∃ p ys, xs = [.ref p] ∧ (SqL K H p ys ∨ SqT K H p ys) ∧ Q (.int ys.length) H) ∨ (∃ z, xs = [.str z] ∧ z.length ≤ sizeLine ∧ Q (.int z.length) H)
theorem call_lenX : CallR X (.builtin "len") (rLenX X.K) := call_len_seq.or call_len_str
def rListX (K : PySem.W.Frag) : List V → Hp → VK → Prop := fun xs H Q => ∃ p ys, xs = [.ref p] ∧ (SqL K H p ys ∨ SqT K H p ys) ∧ ∀ l, H l = none → Q (.ref l) (upd H l (.lst ys))
theorem call_listX : CallR X (.type "list") (rListX X.K) := call_list_of
def rTupX (K : PySem.W.Frag) : List V → Hp → VK → Prop := fun xs H Q => ∃ p ys, xs = [.ref p] ∧ ((SqL K H p ys ∧ ∀ l, H l = none → Q (.ref l) (upd H l (.tup ys))) ∨ (SqT K H p ys ∧ Q (.ref p) H))
theorem call_tupX : CallR X (.type "tuple") (rTupX X.K) := call_tuple_of
def rIntX : List V → Hp → VK → Prop := fun xs H Q => ((∃ i, xs = [.int i] ∧ Q (.int i) H) ∨ ∃ k, xs = [.bl k] ∧ Q (.int (if k then 1 else 0)) H) ∨ (∃ a n, xs = [.str a] ∧ PySem.intText? a = some n ∧ a.length ≤ 640 ∧ Q (.int n) H)
theorem call_intX : CallR X (.type "int") rIntX := call_int1.or call_int_str
def rStrX : List V → Hp → VK → Prop := fun xs H Q => ∃ i, xs = [.int i] ∧ i.natAbs.log2 < 1920 ∧ Q (.str (toString i)) H
theorem call_strX : CallR X (.type "str") rStrX := call_str_int
def rAbsX : List V → Hp → VK → Prop := fun xs H Q => ∃ i, xs = [.int i] ∧ Q (.int (if i < 0 then -i else i)) H
theorem call_absX : CallR X (.builtin "abs") rAbsX := call_abs
def rMin2X : List V → Hp → VK → Prop := fun xs H Q => ∃ i j, xs = [.int i, .int j] ∧ Q (.int (if j < i then j else i)) H
theorem call_min2X (hc : X.calm = true) : CallR X (.builtin "min") rMin2X := call_min2 hc
def rMax2X : List V → Hp → VK → Prop := fun xs H Q => ∃ i j, xs = [.int i, .int j] ∧ Q (.int (if j > i then j else i)) H
theorem call_max2X (hc : X.calm = true) : CallR X (.builtin "max") rMax2X := call_max2 hc
def rSlX (K : PySem.W.Frag) : V → Option Int → Option Int → Hp → VK → Prop := fun x lo hi H Q => (rSlL K x lo hi H Q ∨ rSlA K x lo hi H Q) ∨ rSlS x lo hi H Q
theorem sl_X : SlR X (rSlX X.K) := (sl_list.or sl_tupA).or sl_str
end
theorem b_len : bootBuiltins "len" = some (.builtin "len") := by decide +kernel
theorem b_isi : bootBuiltins "isinstance" = some (.builtin "isinstance") := by decide +kernel
theorem b_sum : bootBuiltins "sum" = some (.builtin "sum") := by decide +kernel
theorem b_abs : bootBuiltins "abs" = some (.builtin "abs") := by decide +kernel
theorem b_min : bootBuiltins "min" = some (.builtin "min") := by decide +kernel
theorem b_max : bootBuiltins "max" = some (.builtin "max") := by decide +kernel
theorem b_list : bootBuiltins "list" = some (.type "list") := by decide +kernel
theorem b_tuple : bootBuiltins "tuple" = some (.type "tuple") := by decide +kernel
theorem b_int : bootBuiltins "int" = some (.type "int") := by decide +kernel
theorem b_str : bootBuiltins "str" = some (.type "str") := by decide +kernel
theorem b_bool : bootBuiltins "bool" = some (.type "bool") := by decide +kernel
theorem b_VE : bootBuiltins "ValueError" = some (.type "ValueError") := by decide +kernel

section
variable {K : PySem.W.Frag} {Ra Rb R : RP} {T : OT} {r r' : R2}
theorem s_l (h : R2D r Ra Rb R) : R2D (rOr r r') Ra Rb R := fun x y f hp s rx ry Q q => .inl (h x y f hp s rx ry Q q)
theorem s_r (h : R2D r' Ra Rb R) : R2D (rOr r r') Ra Rb R := fun x y f hp s rx ry Q q => .inr (h x y f hp s rx ry Q q)
theorem s_lN (h : R2N r Ra Rb T) : R2N (rOr r r') Ra Rb T := fun x y f hp s rx ry Q q => .inl (h x y f hp s rx ry Q q)
theorem s_rN (h : R2N r' Ra Rb T) : R2N (rOr r r') Ra Rb T := fun x y f hp s rx ry Q q => .inr (h x y f hp s rx ry Q q)
theorem s_I0 {g : Int → Int → Int} {i j : Int} : R2D (rI0 fun i j => .int (g i j)) (rep i) (rep j) (rep (g i j)) := fun x y f hp s rx ry Q q =>
  ⟨i, j, rep_int rx, rep_int ry, q _ f hp (.refl s) (rep_of_int _ _)⟩
theorem s_B0 {g : Int → Int → Bool} {i j : Int} : R2D (rI0 fun i j => .bl (g i j)) (rep i) (rep j) (rep (g i j)) := fun x y f hp s rx ry Q q =>
  ⟨i, j, rep_int rx, rep_int ry, q _ f hp (.refl s) (rep_of_bool _ _)⟩
theorem s_I {C : Int → Int → Prop} {g : Int → Int → Int} {i j : Int} (hc : C i j) : R2D (rI C fun i j => .int (g i j)) (rep i) (rep j) (rep (g i j)) := fun x y f hp s rx ry Q q =>
  ⟨i, j, rep_int rx, rep_int ry, hc, q _ f hp (.refl s) (rep_of_int _ _)⟩
theorem s_add {i j : Int} : R2D (rAddX K) (rep i) (rep j) (rep (i + j)) := s_l s_I0
theorem s_sub {i j : Int} : R2D rSubI (rep i) (rep j) (rep (i - j)) := s_I0
theorem s_mul {i j : Int} (h : CMul i j) : R2D (rMulX K) (rep i) (rep j) (rep (i * j)) := s_l (s_l (s_I h))
theorem s_mulW {i j : Int} (h : CMulW i j) : R2D (rMulX K) (rep i) (rep j) (rep (i * j)) := s_l (s_r (s_I h))
theorem s_mod {i j : Int} (h : 0 < j) : R2D rModI (rep i) (rep j) (rep (i % j)) := s_I (C := fun _ j => 0 < j) h
theorem s_div {i j : Int} (h : CDiv i j) : R2D rDivI (rep i) (rep j) (rep (i / j)) := s_l (s_I h)
theorem s_divW {i j : Int} (h : CDivW i j) : R2D rDivI (rep i) (rep j) (rep (i / j)) := s_r (s_I h)
theorem s_pow {i j : Int} (h : CPow i j) : R2D rPowI (rep i) (rep j) (rep (i ^ j.toNat)) := s_I h
theorem s_lt {i j : Int} : R2D rLtI (rep i) (rep j) (rep (decide (i < j))) := s_B0
theorem s_le {i j : Int} : R2D rLeI (rep i) (rep j) (rep (decide (i ≤ j))) := s_B0
theorem s_gt {i j : Int} : R2D rGtI (rep i) (rep j) (rep (decide (j < i))) := s_B0
theorem s_ge {i j : Int} : R2D rGeI (rep i) (rep j) (rep (decide (j ≤ i))) := s_B0
theorem s_eqI {i j : Int} : R2D (rEqX K) (rep i) (rep j) (rep (decide (i = j))) := fun x y f hp s rx ry Q q => by
  cases rep_int rx
  cases rep_int ry
  refine .inl ⟨rfl, q _ f hp (.refl s) ?_⟩
  have e : decide (V.int i = V.int j) = decide (i = j) := by simp
  rw [e]
  exact rep_of_bool _ _
theorem s_neI {i j : Int} : R2D (rNeX K) (rep i) (rep j) (rep (!decide (i = j))) := fun x y f hp s rx ry Q q => by
  cases rep_int rx
  cases rep_int ry
  refine .inl ⟨rfl, q _ f hp (.refl s) ?_⟩
  have e : decide (V.int i = V.int j) = decide (i = j) := by simp
  rw [e]
  exact rep_of_bool _ _
theorem s_eqS {i j : Str} : R2D (rEqX K) (rep i) (rep j) (rep (decide (i = j))) := fun x y f hp s rx ry Q q => by
  cases rep_str rx
  cases rep_str ry
  refine .inl ⟨rfl, q _ f hp (.refl s) ?_⟩
  have e : decide (V.str i = V.str j) = decide (i = j) := by simp
  rw [e]
  exact rep_of_bool _ _
theorem s_neS {i j : Str} : R2D (rNeX K) (rep i) (rep j) (rep (!decide (i = j))) := fun x y f hp s rx ry Q q => by
  cases rep_str rx
  cases rep_str ry
  refine .inl ⟨rfl, q _ f hp (.refl s) ?_⟩
  have e : decide (V.str i = V.str j) = decide (i = j) := by simp
  rw [e]
  exact rep_of_bool _ _
theorem s_neB {i j : Bool} : R2D (rNeX K) (rep i) (rep j) (rep (!decide (i = j))) := fun x y f hp s rx ry Q q => by
  cases rep_bool rx
  cases rep_bool ry
  refine .inl ⟨rfl, q _ f hp (.refl s) ?_⟩
  have e : decide (V.bl i = V.bl j) = decide (i = j) := by simp
  rw [e]
  exact rep_of_bool _ _
/-- == of data -/
theorem s_eqD {d e : PyData} (hd : SeqAt.shaped d = true) (he : SeqAt.shaped e = true) : R2D (rEqX K) (rpD d) (rpD e) (rep (PyData.eqv d e)) := fun x y f hp s rx ry Q q =>
  .inr ⟨d, e, repD_Dp d x (repD_mono s d x rx), repD_Dp e y (repD_mono s e y ry), hd, he, q _ f hp (.refl s) (rep_of_bool _ _)⟩
theorem s_neD {d e : PyData} (hd : SeqAt.shaped d = true) (he : SeqAt.shaped e = true) : R2D (rNeX K) (rpD d) (rpD e) (rep (!PyData.eqv d e)) := fun x y f hp s rx ry Q q =>
  .inr ⟨d, e, repD_Dp d x (repD_mono s d x rx), repD_Dp e y (repD_mono s e y ry), hd, he, q _ f hp (.refl s) (rep_of_bool _ _)⟩
theorem s_isNo (h : ∀ v f, Ra.p v f → v ≠ .non) : R2D rIsNo Ra (rep ()) (rep false) := fun x y f hp s rx ry Q q => by
  cases rep_unit ry
  refine ⟨rfl, q _ f hp (.refl s) ?_⟩
  rw [decide_eq_false (h x f rx)]
  exact rep_of_bool _ _
theorem s_isYes : R2D rIsNo (rep ()) (rep ()) (rep true) := fun x y f hp s rx ry Q q => by
  cases rep_unit rx
  cases rep_unit ry
  exact ⟨rfl, q _ f hp (.refl s) (rep_of_bool _ _)⟩
theorem s_notYes (h : ∀ v f, Ra.p v f → v ≠ .non) : R2D rNotNo Ra (rep ()) (rep true) := fun x y f hp s rx ry Q q => by
  cases rep_unit ry
  refine ⟨rfl, q _ f hp (.refl s) ?_⟩
  rw [decide_eq_false (h x f rx)]
  exact rep_of_bool _ _
theorem s_notNo : R2D rNotNo (rep ()) (rep ()) (rep false) := fun x y f hp s rx ry Q q => by
  cases rep_unit rx
  cases rep_unit ry
  exact ⟨rfl, q _ f hp (.refl s) (rep_of_bool _ _)⟩
theorem s_neg {i : Int} : R1D (rU fun i => .int (-i)) (rep i) (rep (-i)) := fun x f hp s rx Q q => ⟨i, rep_int rx, q _ f hp (.refl s) (rep_of_int _ _)⟩
/-! lists -/
theorem SqL.of1 {H : Hp} {p : Addr} {vs : List V} (h : H p = some (.lst vs)) : SqL K H p vs := .inl (.inl h)
theorem SqT.of1 {H : Hp} {p : Addr} {vs : List V} (h : H p = some (.tup vs)) : SqT K H p vs := .inl (.inl h)
/-- the place that an index names, from nought -/
theorem s_ixD {ds : List PyData} {d : PyData} {i : Int} (h : atI ds i = some d) : R2D (rIx K) (rpD (.list ds)) (rep i) (rpD d) := fun x y f hp s rx ry Q q => by
  have rx : repD (.list ds) x f := rx
  simp only [repD] at rx
  obtain ⟨p, vs, rfl, h1, h2⟩ := rx
  cases rep_int ry
  obtain ⟨j, hj, hg⟩ := Option.bind_eq_some_iff.mp h
  obtain ⟨v, hv, rv⟩ := repL_get h2 hg
  refine .inl ⟨p, vs, i, v, rfl, rfl, SqL.of1 (s _ _ h1), ?_, q v f hp (.refl s) rv⟩
  unfold atI
  rw [repL_length h2, hj]
  exact hv
theorem s_ixTD {ds : List PyData} {d : PyData} {i : Int} (h : atI ds i = some d) : R2D (rIx K) (rpD (.tuple ds)) (rep i) (rpD d) := fun x y f hp s rx ry Q q => by
  have rx : repD (.tuple ds) x f := rx
  simp only [repD] at rx
  obtain ⟨p, vs, rfl, h1, h2⟩ := rx
  cases rep_int ry
  obtain ⟨j, hj, hg⟩ := Option.bind_eq_some_iff.mp h
  obtain ⟨v, hv, rv⟩ := repL_get h2 hg
  refine .inr (.inl ⟨p, vs, i, v, rfl, rfl, SqT.of1 (s _ _ h1), ?_, q v f hp (.refl s) rv⟩)
  unfold atI
  rw [repL_length h2, hj]
  exact hv
theorem atI_map {α β : Type} (g : α → β) (xs : List α) (i : Int) : atI (xs.map g) i = (atI xs i).map g := by
  unfold atI
  rw [List.length_map]
  cases ixN xs.length i with
  | none => rfl
  | some j => simp
/-- the item at k, from nought -/
def ix {α : Type} [ToPy α] (xs : List α) (k : Int) : α := xs.getD k.toNat ToPy.dft
theorem atI_ix {α : Type} [ToPy α] {xs : List α} {k : Int} (h0 : 0 ≤ k) (h1 : k < (xs.length : Int)) : atI xs k = some (ix xs k) := by
  unfold atI ixN ix
  have e : k.toNat < xs.length := by omega
  rw [if_pos h0, if_pos h1]
  show xs[k.toNat]? = _
  rw [List.getD_eq_getElem?_getD, List.getElem?_eq_getElem e]
  rfl
theorem s_ix {α : Type} {_ : ToPy α} {xs : List α} {i : Int} (h0 : 0 ≤ i) (h1 : i < (xs.length : Int)) : R2D (rIx K) (rep xs) (rep i) (rep (ix xs i)) :=
  s_ixD (by rw [atI_map, atI_ix h0 h1]; rfl)
theorem s_ixT {α : Type} {_ : ToPy α} {xs : List α} {i : Int} (h0 : 0 ≤ i) (h1 : i < (xs.length : Int)) : R2D (rIx K) (rep (Tup.mk xs)) (rep i) (rep (ix xs i)) :=
  s_ixTD (by rw [atI_map, atI_ix h0 h1]; rfl)
/-- xs[-1] -/
def last {α : Type} [ToPy α] (xs : List α) : α := xs.getD (xs.length - 1) ToPy.dft
theorem atI_neg1 {α : Type} [ToPy α] {xs : List α} (h : 0 < xs.length) : atI xs (-1) = some (last xs) := by
  unfold atI ixN last
  rw [if_neg (by decide), if_pos (by omega)]
  show xs[((-1 : Int) + xs.length).toNat]? = _
  have e : ((-1 : Int) + xs.length).toNat = xs.length - 1 := by omega
  rw [e, List.getD_eq_getElem?_getD, List.getElem?_eq_getElem (by omega)]
  rfl
theorem s_last {α : Type} {_ : ToPy α} {xs : List α} (h : 0 < xs.length) : R2D (rIx K) (rep xs) (rep (-1 : Int)) (rep (last xs)) :=
  s_ixD (by rw [atI_map, atI_neg1 h]; rfl)
theorem s_fst {α β : Type} {_ : ToPy α} {_ : ToPy β} {x : α × β} : R2D (rIx K) (rep x) (rep (0 : Int)) (rep x.1) := s_ixTD rfl
theorem s_snd {α β : Type} {_ : ToPy α} {_ : ToPy β} {x : α × β} : R2D (rIx K) (rep x) (rep (1 : Int)) (rep x.2) := s_ixTD rfl
theorem s_t0 {α β γ : Type} {_ : ToPy α} {_ : ToPy β} {_ : ToPy γ} {x : T3 α β γ} : R2D (rIx K) (rep x) (rep (0 : Int)) (rep x.a) := s_ixTD rfl
theorem s_t1 {α β γ : Type} {_ : ToPy α} {_ : ToPy β} {_ : ToPy γ} {x : T3 α β γ} : R2D (rIx K) (rep x) (rep (1 : Int)) (rep x.b) := s_ixTD rfl
theorem s_t2 {α β γ : Type} {_ : ToPy α} {_ : ToPy β} {_ : ToPy γ} {x : T3 α β γ} : R2D (rIx K) (rep x) (rep (2 : Int)) (rep x.c) := s_ixTD rfl
/-- the script -/
def scr (K : PySem.W.Frag) (ns : List Int) : RP := ⟨fun v H => ∃ a, v = .ref a ∧ SqL K H a (ns.map V.int), fun ⟨a, e, h⟩ s => ⟨a, e, s.seq h⟩⟩
theorem s_ixS {ns : List Int} {i : Int} (h0 : 0 ≤ i) (h1 : i < (ns.length : Int)) : R2D (rIx K) (scr K ns) (rep i) (rep (ix ns i)) := fun x y f hp s rx ry Q q => by
  obtain ⟨a, rfl, h⟩ := rx
  cases rep_int ry
  exact .inl ⟨a, _, i, .int (ix ns i), rfl, rfl, s.seq h, by rw [atI_map, atI_ix h0 h1]; rfl, q _ f hp (.refl s) (rep_of_int _ _)⟩
theorem s_catN {ds es : List PyData} (hl : ds.length + es.length ≤ 1000000) : R2N (rAddX K) (rpD (.list ds)) (rpD (.list es)) (oLD (ds ++ es)) := fun x y f hp s rx ry Q q => by
  have rx : repD (.list ds) x f := rx
  have ry : repD (.list es) y f := ry
  simp only [repD] at rx ry
  obtain ⟨p, vs, rfl, h1, h2⟩ := rx
  obtain ⟨p', vs', rfl, h1', h2'⟩ := ry
  refine .inr (.inl ⟨p, p', vs, vs', rfl, rfl, s _ _ h1, s _ _ h1', ?_, fun n hn => q n (.lst (vs ++ vs')) f _ (.newH s hn) hn (s.free hn) upd_same ⟨_, rfl, repL_append h2 h2'⟩⟩)
  rw [repL_length h2, repL_length h2']
  exact Nat.le_trans hl (by decide)
theorem s_cat {α : Type} {_ : ToPy α} {xs ys : List α} (hl : xs.length + ys.length ≤ 1000000) : R2N (rAddX K) (rep xs) (rep ys) (oL (xs ++ ys)) := by
  have h := s_catN (K := K) (ds := xs.map py) (es := ys.map py) (by simpa using hl)
  rw [← List.map_append] at h
  exact h
theorem rep1 {v : V} : ∀ n : Nat, (List.replicate n [v]).flatten = List.replicate n v
  | 0 => rfl
  | n + 1 => by rw [List.replicate_succ, List.flatten_cons, rep1 n]; rfl
theorem s_repN {d : PyData} {k : Int} (h0 : 0 ≤ k) (hk : k ≤ 100000) : R2N (rMulX K) (rpD (.list [d])) (rep k) (oLD (List.replicate k.toNat d)) := fun x y f hp s rx ry Q q => by
  have rx : repD (.list [d]) x f := rx
  simp only [repD] at rx
  obtain ⟨p, vs, rfl, h1, h2⟩ := rx
  cases rep_int ry
  simp only [repL] at h2
  obtain ⟨v, r, e1, hd, e2⟩ := h2
  subst e2 e1
  refine .inr (.inl ⟨p, k, [v], rfl, rfl, s _ _ h1, by omega, by omega, ?_, fun n hn => ?_⟩)
  · have : [v].length * k.toNat ≤ 100000 := by show 1 * k.toNat ≤ 100000; omega
    exact Nat.le_trans this (by decide)
  · exact q n _ f _ (.newH s hn) hn (s.free hn) upd_same ⟨_, rfl, by rw [rep1]; exact repL_replicate hd _⟩
theorem s_rep {α : Type} {_ : ToPy α} {a : α} {k : Int} (h0 : 0 ≤ k) (hk : k ≤ 100000) : R2N (rMulX K) (rep [a]) (rep k) (oL (List.replicate k.toNat a)) := by
  have h := s_repN (K := K) (d := py a) (k := k) h0 hk
  have e : (List.replicate k.toNat a).map py = List.replicate k.toNat (py a) := by simp
  unfold oL
  rw [e]
  exact h
end
end D

set_option Elab.async false
set_option linter.all false
set_option maxRecDepth 100000
set_option maxHeartbeats 4000000
namespace D
open PySem PySem.Spec PyProof.Rows L2
open ToPy (py)
section
variable {K : PySem.W.Frag} {Γ : Ctx} {te ta tb tc : TE} {tt tu : TT} {R Ra Rb Rc R' : RP} {T : OT} {r r' : R2}
theorem All.one {R : RP} {vs : List V} {H : Hp} (h : All [R] vs H) : ∃ v, vs = [v] ∧ R.p v H := by
  obtain ⟨v, r, e, h1, h2⟩ := h
  cases h2
  exact ⟨v, e, h1⟩
theorem All.two {R S : RP} {vs : List V} {H : Hp} (h : All [R, S] vs H) : ∃ v u, vs = [v, u] ∧ R.p v H ∧ S.p u H := by
  obtain ⟨v, r, e, h1, h2⟩ := h
  obtain ⟨u, rfl, h3⟩ := All.one h2
  exact ⟨v, u, e, h1, h3⟩
theorem All.three {R S T : RP} {vs : List V} {H : Hp} (h : All [R, S, T] vs H) : ∃ v u z, vs = [v, u, z] ∧ R.p v H ∧ S.p u H ∧ T.p z H := by
  obtain ⟨v, r, e, h1, h2⟩ := h
  obtain ⟨u, z, rfl, h3, h4⟩ := All.two h2
  exact ⟨v, u, z, e, h1, h3, h4⟩
theorem All.repL {ds : List PyData} : ∀ {vs : List V} {H : Hp}, All (ds.map rpD) vs H → repL ds vs H := by
  induction ds with
  | nil => intro vs H h; simp only [D.repL]; exact h
  | cons d ds ih =>
    intro vs H h
    obtain ⟨v, r, e, h1, h2⟩ := h
    simp only [D.repL]
    exact ⟨v, r, e, h1, ih h2⟩
/-! ### displays -/
theorem en_lst {t : TA} {ds : List PyData} (h : EvA Γ t (ds.map rpD)) (hl : ds.length ≤ 1000000 := by simp) : EvN Γ (tLst t) (oLD ds) := fun σ f hp s ok Q q =>
  h σ f hp s ok _ fun vs f' h' e rs => ⟨by rw [repL_length (All.repL rs)]; exact Nat.le_trans hl (by decide), fun p hn => q p (.lst vs) f' _ ⟨e.ff, e.hh.trans (same_new hn), e.fh.trans (same_new hn), e.nf⟩ (e.hh.free hn) (e.fh.free hn) upd_same ⟨vs, rfl, All.repL rs⟩⟩
theorem ev_tupD {t : TA} {ds : List PyData} (h : EvA Γ t (ds.map rpD)) (hl : ds.length ≤ 1000000 := by simp) : EvD Γ (tTup t) (rpD (.tuple ds)) := fun σ f hp s ok Q q =>
  h σ f hp s ok _ fun vs f' h' e rs => ⟨by rw [repL_length (All.repL rs)]; exact Nat.le_trans hl (by decide), fun p hn => q (.ref p) _ _ (e.trans (Ext.new e.fh hn)) (by
    show repD (.tuple ds) _ _
    simp only [repD]
    exact ⟨p, vs, rfl, upd_same, repL_mono (same_new (e.fh.free hn)) _ _ (All.repL rs)⟩)⟩
theorem en_lst0 {α : Type} {_ : ToPy α} : EvN Γ (tLst tNil) (oL ([] : List α)) := en_lst (ds := []) ea_nil
theorem en_lst1 {α : Type} {_ : ToPy α} {a : α} {t : TE} (h : EvD Γ t (rep a)) : EvN Γ (tLst (tCons t tNil)) (oL [a]) := en_lst (ds := [py a]) (ea_cons h ea_nil)
theorem en_lst2 {α : Type} {_ : ToPy α} {a b : α} {t u : TE} (h : EvD Γ t (rep a)) (h2 : EvD Γ u (rep b)) : EvN Γ (tLst (tCons t (tCons u tNil))) (oL [a, b]) := en_lst (ds := [py a, py b]) (ea_cons h (ea_cons h2 ea_nil))
theorem en_lst3 {α : Type} {_ : ToPy α} {a b c : α} {t u w : TE} (h : EvD Γ t (rep a)) (h2 : EvD Γ u (rep b)) (h3 : EvD Γ w (rep c)) : EvN Γ (tLst (tCons t (tCons u (tCons w tNil)))) (oL [a, b, c]) := en_lst (ds := [py a, py b, py c]) (ea_cons h (ea_cons h2 (ea_cons h3 ea_nil)))
theorem en_lst4 {α : Type} {_ : ToPy α} {a b c d : α} {t u w z : TE} (h : EvD Γ t (rep a)) (h2 : EvD Γ u (rep b)) (h3 : EvD Γ w (rep c)) (h4 : EvD Γ z (rep d)) : EvN Γ (tLst (tCons t (tCons u (tCons w (tCons z tNil))))) (oL [a, b, c, d]) := en_lst (ds := [py a, py b, py c, py d]) (ea_cons h (ea_cons h2 (ea_cons h3 (ea_cons h4 ea_nil))))
theorem ev_pair {α β : Type} {_ : ToPy α} {_ : ToPy β} {a : α} {b : β} {t u : TE} (h : EvD Γ t (rep a)) (h2 : EvD Γ u (rep b)) : EvD Γ (tTup (tCons t (tCons u tNil))) (rep (a, b)) := ev_tupD (ds := [py a, py b]) (ea_cons h (ea_cons h2 ea_nil))
theorem ev_t3 {α β γ : Type} {_ : ToPy α} {_ : ToPy β} {_ : ToPy γ} {a : α} {b : β} {c : γ} {t u w : TE} (h : EvD Γ t (rep a)) (h2 : EvD Γ u (rep b)) (h3 : EvD Γ w (rep c)) : EvD Γ (tTup (tCons t (tCons u (tCons w tNil)))) (rep (T3.mk a b c)) := ev_tupD (ds := [py a, py b, py c]) (ea_cons h (ea_cons h2 (ea_cons h3 ea_nil)))
/-! ### calls of built-ins -/
theorem c_lenL {ds : List PyData} : RcD (rLenX K) [rpD (.list ds)] (rep (ds.length : Int)) := fun vs f hp s rs Q q => by
  obtain ⟨v, rfl, rv⟩ := rs.one
  have rv : repD (.list ds) v f := rv
  simp only [repD] at rv
  obtain ⟨p, us, rfl, h1, h2⟩ := rv
  exact .inl ⟨p, us, rfl, .inl (SqL.of1 (s _ _ h1)), q _ f hp (.refl s) (by rw [repL_length h2]; exact rep_of_int _ _)⟩
theorem c_lenT {ds : List PyData} : RcD (rLenX K) [rpD (.tuple ds)] (rep (ds.length : Int)) := fun vs f hp s rs Q q => by
  obtain ⟨v, rfl, rv⟩ := rs.one
  have rv : repD (.tuple ds) v f := rv
  simp only [repD] at rv
  obtain ⟨p, us, rfl, h1, h2⟩ := rv
  exact .inl ⟨p, us, rfl, .inr (SqT.of1 (s _ _ h1)), q _ f hp (.refl s) (by rw [repL_length h2]; exact rep_of_int _ _)⟩
theorem c_len {α : Type} {_ : ToPy α} {xs : List α} : RcD (rLenX K) [rep xs] (rep (xs.length : Int)) := by
  have h := c_lenL (K := K) (ds := xs.map py)
  rw [List.length_map] at h
  exact h
theorem c_lenTup {α : Type} {_ : ToPy α} {xs : List α} : RcD (rLenX K) [rep (Tup.mk xs)] (rep (xs.length : Int)) := by
  have h := c_lenT (K := K) (ds := xs.map py)
  rw [List.length_map] at h
  exact h
theorem c_lenScr {ns : List Int} : RcD (rLenX K) [scr K ns] (rep (ns.length : Int)) := fun vs f hp s rs Q q => by
  obtain ⟨v, rfl, a, rfl, h⟩ := rs.one
  exact .inl ⟨a, _, rfl, .inl (s.seq h), q _ f hp (.refl s) (by rw [List.length_map]; exact rep_of_int _ _)⟩
theorem c_lenS {x : Str} (hl : x.length ≤ 1000000) : RcD (rLenX K) [rep x] (rep (x.length : Int)) := fun vs f hp s rs Q q => by
  obtain ⟨v, rfl, rv⟩ := rs.one
  cases rep_str rv
  exact .inr ⟨x, rfl, Nat.le_trans hl (by decide), q _ f hp (.refl s) (rep_of_int _ _)⟩
theorem c_listN {ds : List PyData} : RcN (rListX K) [rpD (.list ds)] (oLD ds) := fun vs f hp s rs Q q => by
  obtain ⟨v, rfl, rv⟩ := rs.one
  have rv : repD (.list ds) v f := rv
  simp only [repD] at rv
  obtain ⟨p, us, rfl, h1, h2⟩ := rv
  exact ⟨p, us, rfl, .inl (SqL.of1 (s _ _ h1)), fun n hn => q n _ f _ (.newH s hn) hn (s.free hn) upd_same ⟨us, rfl, h2⟩⟩
theorem c_list {α : Type} {_ : ToPy α} {xs : List α} : RcN (rListX K) [rep xs] (oL xs) := c_listN
theorem c_listTN {ds : List PyData} : RcN (rListX K) [rpD (.tuple ds)] (oLD ds) := fun vs f hp s rs Q q => by
  obtain ⟨v, rfl, rv⟩ := rs.one
  have rv : repD (.tuple ds) v f := rv
  simp only [repD] at rv
  obtain ⟨p, us, rfl, h1, h2⟩ := rv
  exact ⟨p, us, rfl, .inr (SqT.of1 (s _ _ h1)), fun n hn => q n _ f _ (.newH s hn) hn (s.free hn) upd_same ⟨us, rfl, h2⟩⟩
theorem c_listT {α : Type} {_ : ToPy α} {xs : List α} : RcN (rListX K) [rep (Tup.mk xs)] (oL xs) := c_listTN
theorem c_tupD {ds : List PyData} : RcD (rTupX K) [rpD (.list ds)] (rpD (.tuple ds)) := fun vs f hp s rs Q q => by
  obtain ⟨v, rfl, rv⟩ := rs.one
  have rv : repD (.list ds) v f := rv
  simp only [repD] at rv
  obtain ⟨p, us, rfl, h1, h2⟩ := rv
  refine ⟨p, us, rfl, .inl ⟨SqL.of1 (s _ _ h1), fun n hn => q (.ref n) _ _ (.new s hn) ?_⟩⟩
  show repD (.tuple ds) _ _
  simp only [repD]
  exact ⟨n, us, rfl, upd_same, repL_mono (same_new (s.free hn)) _ _ h2⟩
theorem c_tup {α : Type} {_ : ToPy α} {xs : List α} : RcD (rTupX K) [rep xs] (rep (Tup.mk xs)) := c_tupD
theorem c_abs {i : Int} : RcD rAbsX [rep i] (rep (if i < 0 then -i else i)) := fun vs f hp s rs Q q => by
  obtain ⟨v, rfl, rv⟩ := rs.one
  cases rep_int rv
  exact ⟨i, rfl, q _ f hp (.refl s) (rep_of_int _ _)⟩
theorem c_min2 {i j : Int} : RcD rMin2X [rep i, rep j] (rep (if j < i then j else i)) := fun vs f hp s rs Q q => by
  obtain ⟨v, u, rfl, rv, ru⟩ := rs.two
  cases rep_int rv
  cases rep_int ru
  exact ⟨i, j, rfl, q _ f hp (.refl s) (rep_of_int _ _)⟩
theorem c_max2 {i j : Int} : RcD rMax2X [rep i, rep j] (rep (if j > i then j else i)) := fun vs f hp s rs Q q => by
  obtain ⟨v, u, rfl, rv, ru⟩ := rs.two
  cases rep_int rv
  cases rep_int ru
  exact ⟨i, j, rfl, q _ f hp (.refl s) (rep_of_int _ _)⟩
theorem c_intB {b : Bool} : RcD rIntX [rep b] (rep (if b = true then 1 else 0 : Int)) := fun vs f hp s rs Q q => by
  obtain ⟨v, rfl, rv⟩ := rs.one
  cases rep_bool rv
  exact .inl (.inr ⟨b, rfl, q _ f hp (.refl s) (rep_of_int _ _)⟩)
theorem c_intS {x : Str} {n : Int} (h : PySem.intText? x = some n) (hl : x.length ≤ 640) : RcD rIntX [rep x] (rep n) := fun vs f hp s rs Q q => by
  obtain ⟨v, rfl, rv⟩ := rs.one
  cases rep_str rv
  exact .inr ⟨x, n, rfl, h, hl, q _ f hp (.refl s) (rep_of_int _ _)⟩
theorem c_str {i : Int} (h : i.natAbs.log2 < 1920) : RcD rStrX [rep i] (rep (toString i : Str)) := fun vs f hp s rs Q q => by
  obtain ⟨v, rfl, rv⟩ := rs.one
  cases rep_int rv
  exact ⟨i, rfl, h, q _ f hp (.refl s) (rep_of_str _ _)⟩
theorem c_sum {ns : List Int} : RcD (rSum K) [rep ns] (rep ns.sum) := fun vs f hp s rs Q q => by
  obtain ⟨v, rfl, rv⟩ := rs.one
  obtain ⟨p, us, rfl, h1, h2⟩ := rep_list rv
  have e := repL_ints h2
  subst e
  exact ⟨p, ns, rfl, SqL.of1 (s _ _ h1), q _ f hp (.refl s) (rep_of_int _ _)⟩
/-- the least of some numbers, not none -/
def least : List Int → Int
  | [] => 0
  | a :: l => l.foldl (fun x y => if y < x then y else x) a
def greatest : List Int → Int
  | [] => 0
  | a :: l => l.foldl (fun x y => if x < y then y else x) a
theorem fold_least : ∀ (l : List Int) (a : Int), (l.foldl (fun x y => if y < x then y else x) a = a ∨ l.foldl (fun x y => if y < x then y else x) a ∈ l) ∧ l.foldl (fun x y => if y < x then y else x) a ≤ a ∧ ∀ y ∈ l, l.foldl (fun x y => if y < x then y else x) a ≤ y
  | [], a => by simp
  | b :: l, a => by
    rw [List.foldl_cons]
    obtain ⟨h1, h2, h3⟩ := fold_least l (if b < a then b else a)
    refine ⟨?_, ?_, ?_⟩
    · rcases h1 with h1 | h1
      · rw [h1]
        split
        · right; simp
        · left; rfl
      · right; simp [h1]
    · refine Int.le_trans h2 ?_
      split <;> omega
    · intro y hy
      rcases List.mem_cons.mp hy with rfl | hy
      · refine Int.le_trans h2 ?_
        split <;> omega
      · exact h3 y hy
theorem fold_greatest : ∀ (l : List Int) (a : Int), (l.foldl (fun x y => if x < y then y else x) a = a ∨ l.foldl (fun x y => if x < y then y else x) a ∈ l) ∧ a ≤ l.foldl (fun x y => if x < y then y else x) a ∧ ∀ y ∈ l, y ≤ l.foldl (fun x y => if x < y then y else x) a
  | [], a => by simp
  | b :: l, a => by
    rw [List.foldl_cons]
    obtain ⟨h1, h2, h3⟩ := fold_greatest l (if a < b then b else a)
    refine ⟨?_, ?_, ?_⟩
    · rcases h1 with h1 | h1
      · rw [h1]
        split
        · right; simp
        · left; rfl
      · right; simp [h1]
    · refine Int.le_trans ?_ h2
      split <;> omega
    · intro y hy
      rcases List.mem_cons.mp hy with rfl | hy
      · refine Int.le_trans ?_ h2
        split <;> omega
      · exact h3 y hy
theorem least_mem {l : List Int} (h : 0 < l.length) : least l ∈ l ∧ ∀ y ∈ l, least l ≤ y := by
  cases l with
  | nil => simp at h
  | cons a l =>
    obtain ⟨h1, h2, h3⟩ := fold_least l a
    refine ⟨?_, ?_⟩
    · show l.foldl _ a ∈ a :: l
      rcases h1 with h1 | h1
      · rw [h1]; simp
      · simp [h1]
    · intro y hy
      rcases List.mem_cons.mp hy with rfl | hy
      · exact h2
      · exact h3 y hy
theorem greatest_mem {l : List Int} (h : 0 < l.length) : greatest l ∈ l ∧ ∀ y ∈ l, y ≤ greatest l := by
  cases l with
  | nil => simp at h
  | cons a l =>
    obtain ⟨h1, h2, h3⟩ := fold_greatest l a
    refine ⟨?_, ?_⟩
    · show l.foldl _ a ∈ a :: l
      rcases h1 with h1 | h1
      · rw [h1]; simp
      · simp [h1]
    · intro y hy
      rcases List.mem_cons.mp hy with rfl | hy
      · exact h2
      · exact h3 y hy
theorem c_min {ns : List Int} (h : 0 < ns.length) : RcD (rMin K) [rep ns] (rep (least ns)) := fun vs f hp s rs Q q => by
  obtain ⟨v, rfl, rv⟩ := rs.one
  obtain ⟨p, us, rfl, h1, h2⟩ := rep_list rv
  have e := repL_ints h2
  subst e
  refine ⟨p, ns, rfl, SqL.of1 (s _ _ h1), h, fun m hm hle => ?_⟩
  have l := least_mem h
  have e : m = least ns := Int.le_antisymm (hle _ l.1) (l.2 _ hm)
  rw [e]
  exact q _ f hp (.refl s) (rep_of_int _ _)
theorem c_max {ns : List Int} (h : 0 < ns.length) : RcD (rMax K) [rep ns] (rep (greatest ns)) := fun vs f hp s rs Q q => by
  obtain ⟨v, rfl, rv⟩ := rs.one
  obtain ⟨p, us, rfl, h1, h2⟩ := rep_list rv
  have e := repL_ints h2
  subst e
  refine ⟨p, ns, rfl, SqL.of1 (s _ _ h1), h, fun m hm hle => ?_⟩
  have l := greatest_mem h
  have e : m = greatest ns := Int.le_antisymm (l.2 _ hm) (hle _ l.1)
  rw [e]
  exact q _ f hp (.refl s) (rep_of_int _ _)
/-! ### isinstance -/
def tyName : PyData → String
  | .none => "NoneType" | .bool _ => "bool" | .int _ => "int" | .str _ => "str" | .list _ => "list" | .tuple _ => "tuple" | .dict _ => "dict"
/-- isinstance(x, T) of data -/
def isiN (a T : String) : Bool := a == T || (T == "int" && a == "bool")
def isi (d : PyData) (T : String) : Bool := isiN (tyName d) T
/-! ### the slices -/
def tSlX (K : PySem.W.Frag) (te : TE) (tl th : TO) : TE := tSl (rSlX K) te tl th
theorem en_sl {ds : List PyData} {tl th : TO} {lo hi : Option Int} (h : EvD Γ te (rpD (.list ds))) (h1 : EvP Γ tl lo) (h2 : EvP Γ th hi) :
    EvN Γ (tSl (rSlX K) te tl th) (oLD ((ds.drop (HT.sIx ds.length 0 lo)).take (HT.sIx ds.length ds.length hi - HT.sIx ds.length 0 lo))) := fun σ f hp s ok Q q =>
  h σ f hp s ok _ fun v f1 hp1 e1 rv => h1 σ f1 hp1 e1.fh (ok.mono e1.ff) _ fun f2 hp2 e2 => h2 σ f2 hp2 e2.fh (ok.mono (e1.trans e2).ff) _ fun f3 hp3 e3 => by
    have rv := RP.mono (rpD (.list ds)) rv (e2.trans e3).ff
    have rv : repD (.list ds) v f3 := rv
    simp only [repD] at rv
    obtain ⟨p, us, rfl, g1, g2⟩ := rv
    have E := (e1.trans e2).trans e3
    refine .inl (.inl ⟨p, us, rfl, SqL.of1 (E.fh _ _ g1), fun n hn => q n _ f3 _ (E.trans (.newH E.fh hn)) (E.hh.free hn) (E.fh.free hn) upd_same ⟨_, rfl, ?_⟩⟩)
    unfold cutV
    rw [repL_length g2]
    exact repL_take _ (repL_drop _ g2)
def cut {α : Type} (xs : List α) (lo hi : Option Int) : List α := (xs.drop (HT.sIx xs.length 0 lo)).take (HT.sIx xs.length xs.length hi - HT.sIx xs.length 0 lo)
theorem en_cut {α : Type} {_ : ToPy α} {xs : List α} {tl th : TO} {lo hi : Option Int} (h : EvD Γ te (rep xs)) (h1 : EvP Γ tl lo) (h2 : EvP Γ th hi) : EvN Γ (tSl (rSlX K) te tl th) (oL (cut xs lo hi)) := by
  have z := en_sl (K := K) (ds := xs.map py) h h1 h2
  have e : (cut xs lo hi).map py = (((xs.map py).drop (HT.sIx (xs.map (py : α → PyData)).length 0 lo)).take (HT.sIx (xs.map (py : α → PyData)).length (xs.map (py : α → PyData)).length hi - HT.sIx (xs.map (py : α → PyData)).length 0 lo)) := by
    unfold cut
    rw [List.map_take, List.map_drop, List.length_map]
  unfold oL
  rw [e]
  exact z
end
end D

set_option Elab.async false
set_option linter.all false
set_option maxRecDepth 100000
set_option maxHeartbeats 4000000
namespace D
open PySem PySem.Spec PyProof.Rows L2
open ToPy (py)

/-! ### states: a base (the part that stands, the whole heap, what of it may change), slots, our own objects -/
structure Base where
  f : Hp
  h : Hp
  m : List Addr
abbrev Own := List (Addr × OT)
structure Sta (B : Base) (Γ : Ctx) (O : Own) (σ : L2.St) (f h : Hp) : Prop where
  ff : Same B.f f
  fh : Same f h
  hh : ∀ a o, B.h a = some o → a ∉ B.m → h a = some o
  th : ∀ a, B.h a ≠ none → h a ≠ none
  nf : ∀ a, B.h a ≠ none → B.f a = none → f a = none
  ok : Ok Γ σ f
  ow : ∀ p T, (p, T) ∈ O → f p = none ∧ (B.h p = none ∨ p ∈ B.m) ∧ ∃ o, h p = some o ∧ T.q o f
  nd : (O.map (·.1)).Nodup
structure Post where
  nx : L2.St → Hp → Hp → Prop
  rt : V → Hp → Hp → Prop
  bk : L2.St → Hp → Hp → Prop
  ct : L2.St → Hp → Hp → Prop
structure PostOk (L : Hp) (P : Post) (D : Ends) : Prop where
  nx : ∀ σ f h, Same L f → P.nx σ f h → D.nx σ h
  rt : ∀ v f h, Same L f → P.rt v f h → D.rt v h
  bk : ∀ σ f h, Same L f → P.bk σ f h → D.bk σ h
  ct : ∀ σ f h, Same L f → P.ct σ f h → D.ct σ h
def BDe (B : Base) (Γ : Ctx) (O : Own) (t : TS) (P : Post) : Prop := ∀ L σ f h, Sta B Γ O σ f h → Same L f → ∀ D : Ends, PostOk L P D → t D σ h
def EvS (B : Base) (Γ : Ctx) (O : Own) (te : TE) (R : RP) : Prop := ∀ σ f h, Sta B Γ O σ f h → ∀ Q : VK, (∀ v f' h', Ext f h f' h' → R.p v f' → Q v h') → te σ h Q
def EvTS (B : Base) (Γ : Ctx) (O : Own) (tt : TT) (b : Bool) : Prop := ∀ σ f h, Sta B Γ O σ f h → ∀ Q : Bool → Hp → Prop, (∀ f' h', Ext f h f' h' → Q b h') → tt σ h Q
def EvNS (B : Base) (Γ : Ctx) (O : Own) (te : TE) (T : OT) : Prop := ∀ σ f h, Sta B Γ O σ f h → ∀ Q : VK, (∀ p o f' h', Ext f h f' h' → h p = none → f' p = none → h' p = some o → T.q o f' → Q (.ref p) h') → te σ h Q
/-- the heap that stands, with our own objects -/
def lent (O : Own) (f h : Hp) : Hp := fun a => if a ∈ O.map (·.1) then h a else f a
/-- one thing lent: as R it is known, as R' the expression may see it -/
def Lend (O : Own) (R R' : RP) : Prop := ∀ v f h, Same f (lent O f h) → (∀ p T, (p, T) ∈ O → ∃ o, h p = some o ∧ T.q o f) → R.p v f → R'.p v (lent O f h)
inductive LendC (O : Own) : Ctx → Ctx → Prop where
  | nil : LendC O [] []
  | no {G G' : Ctx} (h : LendC O G G') : LendC O (none :: G) (none :: G')
  | skip {G G' : Ctx} {R : RP} (h : LendC O G G') : LendC O (some R :: G) (none :: G')
  | one {G G' : Ctx} {R R' : RP} (l : Lend O R R') (h : LendC O G G') : LendC O (some R :: G) (some R' :: G')
section
variable {B : Base} {Γ Γ' : Ctx} {O O' : Own} {σ : L2.St} {f h f' h' : Hp} {te ta : TE} {tt : TT} {R R' : RP} {T T' : OT} {t u t1 t2 : TS} {P : Post} {b : Bool} {i j : Nat} {K : PySem.W.Frag}
theorem Sta.ext (s : Sta B Γ O σ f h) (e : Ext f h f' h') : Sta B Γ O σ f' h' where
  ff := s.ff.trans e.ff
  fh := e.fh
  hh := fun a o q n => e.hh _ _ (s.hh a o q n)
  th := fun a n z => s.th a n (e.hh.free z)
  nf := fun a n z => e.nf a (s.th a n) (s.nf a n z)
  ok := s.ok.mono e.ff
  ow := fun p T hp => by
    obtain ⟨h1, h2, o, h3, h4⟩ := s.ow p T hp
    exact ⟨e.nf p (by rw [h3]; exact fun z => nomatch z) h1, h2, o, e.hh _ _ h3, T.mono h4 e.ff⟩
  nd := s.nd
theorem Sta.toExt (s : Sta B Γ O σ f h) (hm : B.m = []) : Ext B.f B.h f h := ⟨s.ff, fun a o e => s.hh a o e (by rw [hm]; simp), s.fh, s.nf⟩
theorem EvD.s (x : EvD Γ te R) : EvS B Γ O te R := fun σ f h s Q q => x σ f h s.fh s.ok Q q
theorem EvT.s (x : EvT Γ tt b) : EvTS B Γ O tt b := fun σ f h s Q q => x σ f h s.fh s.ok Q q
theorem EvN.s (x : EvN Γ te T) : EvNS B Γ O te T := fun σ f h s Q q => x σ f h s.fh s.ok Q q
theorem PostOk.seq {L : Hp} {D : Ends} (p : PostOk L P D) (k : ∀ σ f h, Same L f → Sta B Γ' O' σ f h → u D σ h) : PostOk L { P with nx := fun σ f h => Sta B Γ' O' σ f h } { D with nx := u D } :=
  ⟨k, p.rt, p.bk, p.ct⟩
theorem bd_next (k : ∀ σ f h, Sta B Γ O σ f h → P.nx σ f h) : BDe B Γ O tNext P := fun L σ f h s l D p => p.nx σ f h l (k σ f h s)
theorem bd_cont (k : ∀ σ f h, Sta B Γ O σ f h → P.ct σ f h) : BDe B Γ O (tSeq tCont u) P := fun L σ f h s l D p => p.ct σ f h l (k σ f h s)
theorem bd_seq (h1 : BDe B Γ O t { P with nx := fun σ f h => Sta B Γ' O' σ f h }) (h2 : BDe B Γ' O' u P) : BDe B Γ O (tSeq t u) P := fun L σ f h s l D p =>
  h1 L σ f h s l _ (p.seq fun σ' f' h' l' s' => h2 L σ' f' h' s' l' D p)
theorem Sta.set (s : Sta B Γ O σ f h) {v : V} (hv : R.p v f) : Sta B (Γ.set i (some R)) O (σ.set i (some v)) f h := { s with ok := s.ok.set i hv }
theorem Sta.setn (s : Sta B Γ O σ f h) {v : Option V} : Sta B (Γ.set i none) O (σ.set i v) f h := { s with ok := s.ok.setn i }
/-- x = e -/
theorem bd_set (he : EvS B Γ O te R) (hr : BDe B (Γ.set i (some R)) O u P) : BDe B Γ O (tSeq (tAsg te (gName i)) u) P := fun L σ f h s l D p =>
  he σ f h s _ fun v f1 h1 e rv => hr L _ f1 h1 ((s.ext e).set rv) (l.trans e.ff) D p
/-- x = e, its value by a letter -/
theorem bd_let {α : Type} {_ : ToPy α} {a : α} (he : EvS B Γ O te (rep a)) (hr : ∀ x : α, x = a → BDe B (Γ.set i (some (rep x))) O u P) : BDe B Γ O (tSeq (tAsg te (gName i)) u) P := bd_set he (hr a rfl)
/-- x = e, a new object of our own -/
theorem bd_own (he : EvNS B Γ O te T) (hr : ∀ p, BDe B (Γ.set i (some (own p))) ((p, T) :: O) u P) : BDe B Γ O (tSeq (tAsg te (gName i)) u) P := fun L σ f h s l D q =>
  he σ f h s _ fun p o f1 h1 e n nf ho ht => by
    have s1 := s.ext e
    refine hr p L _ f1 h1 { s1 with ok := s1.ok.set i (R := own p) rfl, ow := ?_, nd := ?_ } (l.trans e.ff) D q
    · intro p' T' hm
      rcases List.mem_cons.mp hm with z | z
      · cases z
        refine ⟨nf, .inl ?_, o, ho, ht⟩
        cases hb : B.h p with
        | none => rfl
        | some o' => exact absurd n (s.th p (by rw [hb]; exact fun z => nomatch z))
      · exact s1.ow p' T' z
    · rw [List.map_cons, List.nodup_cons]
      refine ⟨fun z => ?_, s1.nd⟩
      obtain ⟨⟨p', T'⟩, z1, z2⟩ := List.mem_map.mp z
      obtain ⟨_, _, o', h3, _⟩ := s.ow p' T' z1
      cases z2
      rw [n] at h3
      cases h3
theorem bd_drop (he : EvS B Γ O te R) (hr : BDe B Γ O u P) : BDe B Γ O (tSeq (tDrop te) u) P := fun L σ f h s l D p =>
  he σ f h s _ fun v f1 h1 e rv => hr L _ f1 h1 (s.ext e) (l.trans e.ff) D p
theorem bd_ret (he : EvS B Γ O te R) (hm : B.m = []) (hP : ∀ v f h, Ext B.f B.h f h → R.p v f → P.rt v f h) : BDe B Γ O (tSeq (tRet te) u) P := fun L σ f h s l D p =>
  he σ f h s _ fun v f1 h1 e rv => p.rt v f1 h1 (l.trans e.ff) (hP v f1 h1 ((s.ext e).toExt hm) rv)
theorem bd_retN (hm : B.m = []) (hP : ∀ f h, Ext B.f B.h f h → P.rt .non f h) : BDe B Γ O (tSeq tRetN u) P := fun L σ f h s l D p => p.rt .non f h l (hP f h (s.toExt hm))
theorem bd_if (hc : EvTS B Γ O tt b) (h1 : b = true → BDe B Γ O t1 { P with nx := fun σ f h => Sta B Γ' O' σ f h }) (h2 : b = false → BDe B Γ O t2 { P with nx := fun σ f h => Sta B Γ' O' σ f h }) (hr : BDe B Γ' O' u P) :
    BDe B Γ O (tSeq (tIfS tt t1 t2) u) P := fun L σ f h s l D p => hc σ f h s _ fun f1 hp1 e => by
  have s1 := s.ext e
  have l1 := l.trans e.ff
  have p1 : PostOk L { P with nx := fun σ f h => Sta B Γ' O' σ f h } { D with nx := u D } := p.seq fun σ' f' h' l' s' => hr L σ' f' h' s' l' D p
  cases b with
  | true => exact iteT (h1 rfl L σ f1 hp1 s1 l1 _ p1)
  | false => exact iteF (h2 rfl L σ f1 hp1 s1 l1 _ p1)
/-- if c: a way that does not fall through -/
theorem bd_ifr (hc : EvTS B Γ O tt b) (h1 : b = true → BDe B Γ O t1 { P with nx := fun _ _ _ => False }) (hr : b = false → BDe B Γ O u P) : BDe B Γ O (tSeq (tIfS tt t1 tNext) u) P := fun L σ f h s l D p =>
  hc σ f h s _ fun f1 hp1 e => by
    have s1 := s.ext e
    have l1 := l.trans e.ff
    cases b with
    | true => exact iteT (h1 rfl L σ f1 hp1 s1 l1 _ ⟨fun _ _ _ _ z => z.elim, p.rt, p.bk, p.ct⟩)
    | false => exact iteF (hr rfl L σ f1 hp1 s1 l1 D p)
/-- both ways go on alone -/
theorem bd_if2 (hc : EvTS B Γ O tt b) (h1 : b = true → BDe B Γ O (tSeq t1 u) P) (h2 : b = false → BDe B Γ O (tSeq t2 u) P) : BDe B Γ O (tSeq (tIfS tt t1 t2) u) P := fun L σ f h s l D p =>
  hc σ f h s _ fun f1 hp1 e => by
    have s1 := s.ext e
    have l1 := l.trans e.ff
    cases b with
    | true => exact iteT (h1 rfl L σ f1 hp1 s1 l1 D p)
    | false => exact iteF (h2 rfl L σ f1 hp1 s1 l1 D p)
/-- if c: x = e, both ways in one -/
theorem bd_ifset {α : Type} [ToPy α] {a c : α} (hc : EvTS B Γ O tt b) (h1 : b = true → EvS B Γ O te (rep a)) (h2 : Γ[i]? = some (some (rep c))) (hr : BDe B (Γ.set i (some (rep (if b = true then a else c)))) O u P) :
    BDe B Γ O (tSeq (tIfS tt (tSeq (tAsg te (gName i)) tNext) tNext) u) P := fun L σ f h s l D p => hc σ f h s _ fun f1 hp1 e => by
  have s1 := s.ext e
  have l1 := l.trans e.ff
  cases b with
  | true => exact iteT (h1 rfl σ f1 hp1 s1 _ fun v f2 h2 e2 rv => hr L _ f2 h2 ((s1.ext e2).set rv) (l1.trans e2.ff) D p)
  | false =>
    refine iteF (hr L σ f1 hp1 ?_ l1 D p)
    have e : Γ.set i (some (rep (if false = true then a else c))) = Γ := by
      apply List.ext_getElem?
      intro n
      by_cases hn : i = n
      · subst hn
        rw [h2, List.getElem?_set_self (List.getElem?_eq_some_iff.mp h2).1]
        simp
      · rw [List.getElem?_set_ne hn]
    rw [e]
    exact s1
theorem bd_weak (w : ∀ σ f h, Sta B Γ O σ f h → Sta B Γ' O' σ f h) (k : BDe B Γ' O' t P) : BDe B Γ O t P := fun L σ f h s l D p => k L σ f h (w σ f h s) l D p
theorem sta_forget (hl : Γ'.length = Γ.length) (w : ∀ (i : Nat) (R : RP), Γ'[i]? = some (some R) → Γ[i]? = some (some R)) : ∀ σ f h, Sta B Γ O σ f h → Sta B Γ' O σ f h := fun σ f h s =>
  { s with ok := ⟨by rw [s.ok.1, hl], fun i R e => s.ok.2 i R (w i R e)⟩ }
/-! ### our own objects -/
theorem Sta.get (s : Sta B Γ O σ f h) {p : Addr} (hi : O[i]? = some (p, T)) : ∃ o, h p = some o ∧ T.q o f := (s.ow p T (List.mem_of_getElem? hi)).2.2
theorem nodup_at {O : Own} (nd : (O.map (·.1)).Nodup) {i j : Nat} {p : Addr} {T T' : OT} (h1 : O[i]? = some (p, T)) (h2 : O[j]? = some (p, T')) : i = j := by
  have e1 : (O.map (·.1))[i]? = some p := by rw [List.getElem?_map, h1]; rfl
  have e2 : (O.map (·.1))[j]? = some p := by rw [List.getElem?_map, h2]; rfl
  obtain ⟨l1, g1⟩ := List.getElem?_eq_some_iff.mp e1
  obtain ⟨l2, g2⟩ := List.getElem?_eq_some_iff.mp e2
  exact (List.getElem_inj nd).mp (g1.trans g2.symm)
theorem Sta.put (s : Sta B Γ O σ f h) {p : Addr} {o : HO} (hi : O[i]? = some (p, T)) (hq : T'.q o f) : Sta B Γ (O.set i (p, T')) σ f (upd h p o) := by
  obtain ⟨h1, h2, o1, h3, _⟩ := s.ow p T (List.mem_of_getElem? hi)
  refine { s with fh := same_upd s.fh h1, hh := ?_, th := ?_, ow := ?_, nd := ?_ }
  · intro a o' e n
    by_cases hp : a = p
    · subst hp
      rcases h2 with h2 | h2
      · rw [h2] at e; cases e
      · exact absurd h2 n
    · rw [upd_ne hp]
      exact s.hh a o' e n
  · intro a n
    by_cases hp : a = p
    · subst hp
      rw [upd_same]
      exact fun z => nomatch z
    · rw [upd_ne hp]
      exact s.th a n
  · intro p' U hm
    obtain ⟨j, hj⟩ := List.getElem?_of_mem hm
    by_cases hij : i = j
    · subst hij
      rw [List.getElem?_set_self (List.getElem?_eq_some_iff.mp hi).1] at hj
      cases hj
      exact ⟨h1, h2, o, upd_same, hq⟩
    · rw [List.getElem?_set_ne hij] at hj
      obtain ⟨g1, g2, o2, g3, g4⟩ := s.ow p' U (List.mem_of_getElem? hj)
      have ne : p' ≠ p := fun z => hij (nodup_at s.nd hi (z ▸ hj))
      exact ⟨g1, g2, o2, by rw [upd_ne ne]; exact g3, g4⟩
  · have e : (O.set i (p, T')).map (·.1) = O.map (·.1) := by
      rw [List.map_set]
      apply List.ext_getElem?
      intro n
      by_cases hn : i = n
      · subst hn
        rw [List.getElem?_set_self (by simpa using (List.getElem?_eq_some_iff.mp hi).1), List.getElem?_map, hi]
        rfl
      · rw [List.getElem?_set_ne hn]
    rw [e]
    exact s.nd
/-- an object of our own stands for good from now on -/
theorem Sta.freeze (s : Sta B Γ O σ f h) {p : Addr} {o : HO} (hi : O[i]? = some (p, T)) (ho : h p = some o) (hm : B.m = []) : Sta B Γ (O.eraseIdx i) σ (upd f p o) h ∧ Same f (upd f p o) := by
  obtain ⟨h1, h2, o1, h3, h4⟩ := s.ow p T (List.mem_of_getElem? hi)
  have hb : B.h p = none := by
    rcases h2 with h2 | h2
    · exact h2
    · rw [hm] at h2; cases h2
  have k := same_new (o := o) h1
  refine ⟨{ s with ff := s.ff.trans k, fh := ?_, nf := ?_, ok := s.ok.mono k, ow := ?_, nd := ?_ }, k⟩
  · intro a u e
    by_cases hp : a = p
    · subst hp
      rw [upd_same] at e
      cases e
      exact ho
    · rw [upd_ne hp] at e
      exact s.fh a u e
  · intro a n z
    rw [upd_ne (fun y => n (by rw [y]; exact hb))]
    exact s.nf a n z
  · intro p' U hm'
    obtain ⟨j, hj⟩ := List.getElem?_of_mem hm'
    have hj' : O[if j < i then j else j + 1]? = some (p', U) := by
      rw [List.getElem?_eraseIdx] at hj
      split at hj
      · rename_i c; rw [if_pos c]; exact hj
      · rename_i c; rw [if_neg c]; exact hj
    obtain ⟨g1, g2, o2, g3, g4⟩ := s.ow p' U (List.mem_of_getElem? hj')
    have ne : p' ≠ p := fun z => by
      have := nodup_at s.nd hi (z ▸ hj')
      split at this <;> omega
    exact ⟨by rw [upd_ne ne]; exact g1, g2, o2, g3, U.mono g4 k⟩
  · rw [List.eraseIdx_eq_take_drop_succ, List.map_append]
    have nd := s.nd
    rw [← List.take_append_drop i O, List.map_append] at nd
    rw [List.nodup_append] at nd ⊢
    obtain ⟨n1, n2, n3⟩ := nd
    have sub : (List.map (·.1) (O.drop (i + 1))).Sublist (List.map (·.1) (O.drop i)) := by
      refine List.Sublist.map _ ?_
      have : O.drop (i + 1) = (O.drop i).drop 1 := by rw [List.drop_drop]
      rw [this]
      exact List.drop_sublist 1 _
    exact ⟨n1, n2.sublist sub, fun a ha b hb => n3 a ha b (sub.subset hb)⟩
theorem bd_frz {α : Type} {_ : ToPy α} {xs : List α} {p : Addr} (j : Nat) (i : Nat) (hi : Γ[i]? = some (some (own p))) (hj : O[j]? = some (p, oL xs)) (hm : B.m = []) (k : BDe B (Γ.set i (some (rep xs))) (O.eraseIdx j) u P) : BDe B Γ O u P := fun L σ f h s l D q => by
  obtain ⟨o, ho, vs, rfl, hr⟩ := s.get hj
  obtain ⟨s1, k1⟩ := s.freeze hj ho hm
  obtain ⟨v, hv, rv⟩ := s.ok.2 i _ hi
  cases rv
  have z : (rep xs).p (.ref p) (upd f p (.lst vs)) := by
    show repD (.list (xs.map py)) _ _
    simp only [repD]
    exact ⟨p, vs, rfl, upd_same, repL_mono k1 _ _ hr⟩
  refine k L σ _ h ?_ (l.trans k1) D q
  have s2 := s1.set (i := i) z
  have e : σ.set i (some (.ref p)) = σ := by
    apply List.ext_getElem?
    intro n
    by_cases hn : i = n
    · subst hn
      rw [List.getElem?_set_self (List.getElem?_eq_some_iff.mp hv).1, hv]
    · rw [List.getElem?_set_ne hn]
  rw [e] at s2
  exact s2
/-! ### lending our own objects to an expression that leaves nothing of them behind -/
theorem lent_f {f h : Hp} (s : Sta B Γ O σ f h) : Same f (lent O f h) := fun a o e => by
  unfold lent
  split
  · exact s.fh a o e
  · exact e
theorem lent_h {f h : Hp} (s : Sta B Γ O σ f h) : Same (lent O f h) h := fun a o e => by
  unfold lent at e
  split at e
  · exact e
  · exact s.fh a o e
theorem lent_at {p : Addr} {f h : Hp} (hi : O[i]? = some (p, T)) : lent O f h p = h p := by
  unfold lent
  rw [if_pos (List.mem_map.mpr ⟨_, List.mem_of_getElem? hi, rfl⟩)]
theorem lend_same : Lend O R R := fun v f h s _ hv => R.mono hv s
theorem lend_list {α : Type} {_ : ToPy α} {xs : List α} {p : Addr} (j : Nat) (hj : O[j]? = some (p, oL xs)) : Lend O (own p) (rep xs) := fun v f h s w hv => by
  cases hv
  obtain ⟨o, ho, vs, rfl, hr⟩ := w p _ (List.mem_of_getElem? hj)
  show repD (.list (xs.map py)) _ _
  simp only [repD]
  exact ⟨p, vs, rfl, by rw [lent_at hj]; exact ho, repL_mono s _ _ hr⟩
theorem LendC.ok (c : LendC O Γ Γ') : ∀ {σ : L2.St} {f h : Hp}, Same f (lent O f h) → (∀ p T, (p, T) ∈ O → ∃ o, h p = some o ∧ T.q o f) → Ok Γ σ f → Ok Γ' σ (lent O f h) := by
  induction c with
  | nil => intro σ f h s w ok; exact ⟨ok.1, fun i R e => by simp at e⟩
  | @no Γ Γ' c ih =>
    intro σ f h s w ok
    cases σ with
    | nil => have := ok.1; simp at this
    | cons x σ =>
      have ok' : Ok Γ σ f := ⟨by have := ok.1; simpa using this, fun i R e => by have := ok.2 (i + 1) R (by simpa using e); simpa using this⟩
      have r := ih s w ok'
      refine ⟨by simp [r.1], fun i R e => ?_⟩
      cases i with
      | zero => simp at e
      | succ i => simpa using r.2 i R (by simpa using e)
  | @skip Γ Γ' Q c ih =>
    intro σ f h s w ok
    cases σ with
    | nil => have := ok.1; simp at this
    | cons x σ =>
      have ok' : Ok Γ σ f := ⟨by have := ok.1; simpa using this, fun i R e => by have := ok.2 (i + 1) R (by simpa using e); simpa using this⟩
      have r := ih s w ok'
      refine ⟨by simp [r.1], fun i R e => ?_⟩
      cases i with
      | zero => simp at e
      | succ i => simpa using r.2 i R (by simpa using e)
  | @one Γ Γ' Q Q' l c ih =>
    intro σ f h s w ok
    cases σ with
    | nil => have := ok.1; simp at this
    | cons x σ =>
      have ok' : Ok Γ σ f := ⟨by have := ok.1; simpa using this, fun i R e => by have := ok.2 (i + 1) R (by simpa using e); simpa using this⟩
      have r := ih s w ok'
      refine ⟨by simp [r.1], fun i R e => ?_⟩
      cases i with
      | zero =>
        simp at e
        subst e
        obtain ⟨v, h1, h2⟩ := ok.2 0 Q rfl
        exact ⟨v, h1, l v f h s w h2⟩
      | succ i => simpa using r.2 i R (by simpa using e)
theorem ev_lend (c : LendC O Γ Γ') (x : EvD Γ' te R) (fl : Flat R) : EvS B Γ O te R := fun σ f h s Q q =>
  x σ (lent O f h) h (lent_h s) (c.ok (lent_f s) (fun p T m => (s.ow p T m).2.2) s.ok) Q fun v f' h' e rv =>
    q v f h' ⟨.refl _, e.hh, s.fh.trans e.hh, fun _ _ z => z⟩ (fl v f' f rv)
theorem et_lend (c : LendC O Γ Γ') (x : EvT Γ' tt b) : EvTS B Γ O tt b := fun σ f h s Q q =>
  x σ (lent O f h) h (lent_h s) (c.ok (lent_f s) (fun p T m => (s.ow p T m).2.2) s.ok) Q fun f' h' e =>
    q f h' ⟨.refl _, e.hh, s.fh.trans e.hh, fun _ _ z => z⟩
/-! ### changes of our own objects -/
/-- xs.append(e) -/
theorem bd_app {α : Type} {_ : ToPy α} {xs : List α} {a : α} {p : Addr} {to : TE} (j : Nat) (ho : EvD Γ to (own p)) (hj : O[j]? = some (p, oL xs)) (he : EvS B Γ O te (rep a)) (hz : xs.length < 1000000) (k : BDe B Γ (O.set j (p, oL (xs ++ [a]))) u P) :
    BDe B Γ O (tSeq (tDrop (tBM K "list" rAppend to (tCons te tNil))) u) P := fun L σ f h s l D q =>
  ho σ f h s.fh s.ok _ fun v f1 h1 e1 rv => by
    cases rv
    have s1 := s.ext e1
    obtain ⟨o, hp, vs, rfl, hr⟩ := s1.get hj
    refine ⟨.inl ⟨rfl, vs, SqL.of1 hp⟩, he σ f1 h1 s1 _ fun y f2 h2 e2 ry => ?_⟩
    have s2 := s1.ext e2
    have hp2 : h2 p = some (.lst vs) := e2.hh _ _ hp
    refine ⟨p, vs, y, rfl, rfl, hp2, ?_, ?_⟩
    · rw [repL_length hr, List.length_map]
      exact Nat.lt_trans hz (by decide)
    · refine k L σ f2 _ (s2.put hj ?_) ((l.trans e1.ff).trans e2.ff) D q
      refine ⟨_, rfl, ?_⟩
      rw [List.map_append]
      exact repL_append (repL_mono e2.ff _ _ hr) (repL_one ry)
/-- xs[i] = e -/
theorem bd_setI {α : Type} {_ : ToPy α} {xs : List α} {a : α} {z : Int} {p : Addr} {to ti : TE} (j : Nat) (he : EvS B Γ O te (rep a)) (ho : EvD Γ to (own p)) (hi : EvS B Γ O ti (rep z)) (hj : O[j]? = some (p, oL xs)) (h0 : 0 ≤ z) (h1 : z < (xs.length : Int))
    (k : BDe B Γ (O.set j (p, oL (xs.set z.toNat a))) u P) : BDe B Γ O (tSeq (tAsg te (gSub to ti rSetL)) u) P := fun L σ f h s l D q =>
  he σ f h s _ fun y f1 hp1 e1 ry => ho σ f1 hp1 e1.fh (s.ext e1).ok _ fun v f2 hp2 e2 rv => hi σ f2 hp2 ((s.ext e1).ext e2) _ fun w f3 hp3 e3 rw_ => by
    cases rv
    cases rep_int rw_
    have s3 := ((s.ext e1).ext e2).ext e3
    obtain ⟨o, hp, vs, rfl, hr⟩ := s3.get hj
    refine ⟨p, vs, z, z.toNat, rfl, rfl, hp, ?_, ?_⟩
    · unfold ixN
      rw [if_pos h0, if_pos]
      rw [repL_length hr, List.length_map]
      exact h1
    · refine k L σ f3 _ (s3.put hj ?_) (((l.trans e1.ff).trans e2.ff).trans e3.ff) D q
      refine ⟨_, rfl, ?_⟩
      rw [List.map_set]
      exact repL_set _ hr ((rpD (py a)).mono ry (e2.trans e3).ff)
end
end D

set_option Elab.async false
set_option linter.all false
set_option maxRecDepth 100000
set_option maxHeartbeats 4000000
namespace D
open PySem PySem.Spec PyProof.Rows L2
open ToPy (py)

/-! ### what a for walks: n items, the i-th as item i tells -/
structure ItOk (J : It) (f0 : Hp) (n : Nat) (item : Nat → RP) : Prop where
  go : ∀ i f h, i < n → Same f0 f → Same f h → J.go i h
  yld : ∀ i f h x h', i < n → Same f0 f → Same f h → J.yld i h x h' → ∃ f', Ext f h f' h' ∧ (item i).p x f'
  stop : ∀ f h, Same f0 f → Same f h → J.stop n h
def WiD (Γ : Ctx) (wi : TI) (n : Nat) (item : Nat → RP) : Prop := ∀ σ f h, Same f h → Ok Γ σ f → ∀ Rk : It → Hp → Prop, (∀ J f' h', Ext f h f' h' → ItOk J f' n item → Rk J h') → wi σ h Rk
def WiS (B : Base) (Γ : Ctx) (O : Own) (wi : TI) (n : Nat) (item : Nat → RP) : Prop := ∀ σ f h, Sta B Γ O σ f h → ∀ Rk : It → Hp → Prop, (∀ J f' h', Ext f h f' h' → ItOk J f' n item → Rk J h') → wi σ h Rk
/-- a target: what the slots hold behind it -/
def TgD (g : TG) (R : RP) (Γ Γ' : Ctx) : Prop := ∀ σ f h, Same f h → Ok Γ σ f → ∀ v, R.p v f → ∀ Q : L2.St → Hp → Prop, (∀ σ', Ok Γ' σ' f → Q σ' h) → g v σ h Q
section
variable {B : Base} {Γ Γ' : Ctx} {O O' : Own} {σ : L2.St} {te ta tl : TE} {tt : TT} {R R' : RP} {T T' : OT} {t u t1 t2 tb : TS} {P : Post} {b : Bool} {i j n : Nat} {K : PySem.W.Frag} {wi : TI} {item : Nat → RP} {g : TG}
theorem WiD.s (x : WiD Γ wi n item) : WiS B Γ O wi n item := fun σ f h s Q q => x σ f h s.fh s.ok Q q
theorem tg_name {j : Nat} : TgD (gName j) R Γ (Γ.set j (some R)) := fun σ f h s ok v rv Q q => q _ (ok.set j rv)
theorem tg_pair {α β : Type} {_ : ToPy α} {_ : ToPy β} {a : α} {c : β} {i j : Nat} : TgD (gTup K 2 (gCons (gName i) (gCons (gName j) gNil))) (rep (a, c)) Γ ((Γ.set i (some (rep a))).set j (some (rep c))) := fun σ f h s ok v rv Q q => by
  have rv : repD (.tuple [py a, py c]) v f := rv
  simp only [repD, repL] at rv
  obtain ⟨p, vs, rfl, h1, x, r, rfl, hx, y, r2, rfl, hy, rfl⟩ := rv
  exact ⟨p, _, rfl, SqT.of1 (s _ _ h1), rfl, x, [y], rfl, y, [], rfl, rfl, q _ ((ok.set i (R := rep a) hx).set j (R := rep c) hy)⟩
theorem tg_t3 {α β γ : Type} {_ : ToPy α} {_ : ToPy β} {_ : ToPy γ} {a : α} {c : β} {d : γ} {i j k : Nat} :
    TgD (gTup K 3 (gCons (gName i) (gCons (gName j) (gCons (gName k) gNil)))) (rep (T3.mk a c d)) Γ (((Γ.set i (some (rep a))).set j (some (rep c))).set k (some (rep d))) := fun σ f h s ok v rv Q q => by
  have rv : repD (.tuple [py a, py c, py d]) v f := rv
  simp only [repD, repL] at rv
  obtain ⟨p, vs, rfl, h1, x, r, rfl, hx, y, r2, rfl, hy, z, r3, rfl, hz, rfl⟩ := rv
  exact ⟨p, _, rfl, SqT.of1 (s _ _ h1), rfl, x, [y, z], rfl, y, [z], rfl, z, [], rfl, rfl, q _ (((ok.set i (R := rep a) hx).set j (R := rep c) hy).set k (R := rep d) hz)⟩
/-- for .. in ..: the word by the turn: slots G, our own W, a fact F -/
theorem bd_for (hw : WiS B Γ O wi n item) (G : Nat → Ctx) (W : Nat → Own) (F : Nat → Prop) (h0 : ∀ σ f h, Sta B Γ O σ f h → Sta B (G 0) (W 0) σ f h) (f0 : F 0) {G' : Nat → Ctx}
    (ht : ∀ i, i < n → TgD g (item i) (G i) (G' i))
    (hb : ∀ i, i < n → F i → BDe B (G' i) (W i) tb { P with nx := fun σ f h => F (i + 1) ∧ Sta B (G (i + 1)) (W (i + 1)) σ f h, ct := fun σ f h => F (i + 1) ∧ Sta B (G (i + 1)) (W (i + 1)) σ f h, bk := fun _ _ _ => False })
    (hn : F n → BDe B (G n) (W n) u P) : BDe B Γ O (tSeq (tFor wi g tb) u) P := fun L σ f h s l D p =>
  hw σ f h s _ fun J f1 h1 e J1 => by
    have s1 := s.ext e
    refine ⟨fun i m σ' h' => ∃ f', m = n - i ∧ i ≤ n ∧ F i ∧ Same f1 f' ∧ Sta B (G i) (W i) σ' f' h', ⟨n, f1, by simp, Nat.zero_le _, f0, .refl _, h0 _ _ _ s1⟩, ?_⟩
    rintro i m σ' h' ⟨f', rfl, hi, fi, k1, s'⟩
    by_cases hlt : i < n
    · refine .inr ⟨J1.go i f' h' hlt k1 s'.fh, fun σ2 h2 => ∃ f2, F (i + 1) ∧ Same f1 f2 ∧ Sta B (G (i + 1)) (W (i + 1)) σ2 f2 h2, fun σ2 h2 ⟨f2, a, c, d⟩ => ⟨n - (i + 1), by omega, f2, rfl, hlt, a, c, d⟩, fun x h2 y => ?_⟩
      obtain ⟨f2, e2, rx⟩ := J1.yld i f' h' x h2 hlt k1 s'.fh y
      have s2 := s'.ext e2
      refine ht i hlt σ' f2 h2 s2.fh s2.ok x rx _ fun σ3 ok3 => ?_
      have s3 : Sta B (G' i) (W i) σ3 f2 h2 := { s2 with ok := ok3 }
      have k2 := k1.trans e2.ff
      refine hb i hlt fi f1 σ3 f2 h2 s3 k2 _ ⟨fun σ4 f4 h4 l4 z => ⟨f4, z.1, l4, z.2⟩, fun v f4 h4 l4 z => p.rt v f4 h4 ((l.trans e.ff).trans l4) z, fun σ4 f4 h4 l4 z => z.elim, fun σ4 f4 h4 l4 z => ⟨f4, z.1, l4, z.2⟩⟩
    · have e3 : i = n := by omega
      subst e3
      exact .inl ⟨J1.stop f' h' k1 s'.fh, hn fi L σ' f' h' s' ((l.trans e.ff).trans k1) D p⟩
/-- while ..: at most n turns -/
theorem bd_while (n : Nat) (G : Nat → Ctx) (W : Nat → Own) (F : Nat → Prop) (h0 : ∀ σ f h, Sta B Γ O σ f h → Sta B (G 0) (W 0) σ f h) (f0 : F 0) (c : Nat → Bool) (hc : ∀ i, i ≤ n → F i → EvTS B (G i) (W i) tt (c i))
    (hb : ∀ i, i ≤ n → F i → c i = true → BDe B (G i) (W i) tb { P with nx := fun σ f h => i < n ∧ F (i + 1) ∧ Sta B (G (i + 1)) (W (i + 1)) σ f h, ct := fun σ f h => i < n ∧ F (i + 1) ∧ Sta B (G (i + 1)) (W (i + 1)) σ f h, bk := fun _ _ _ => False })
    (hn : ∀ i, i ≤ n → F i → c i = false → BDe B (G i) (W i) u P) : BDe B Γ O (tSeq (tWhile tt tb) u) P := fun L σ f h s l D p => by
  refine ⟨fun m σ' h' => ∃ i f', m = n - i ∧ i ≤ n ∧ F i ∧ Same f f' ∧ Sta B (G i) (W i) σ' f' h', ⟨n, 0, f, by simp, Nat.zero_le _, f0, .refl _, h0 _ _ _ s⟩, ?_⟩
  rintro m σ' h' ⟨i, f', rfl, hi, fi, k1, s'⟩
  refine hc i hi fi σ' f' h' s' _ fun f2 h2 e => ?_
  have s2 := s'.ext e
  have k2 := k1.trans e.ff
  cases hci : c i with
  | true =>
    refine iteT ⟨fun σ2 h2 => ∃ f2, i < n ∧ F (i + 1) ∧ Same f f2 ∧ Sta B (G (i + 1)) (W (i + 1)) σ2 f2 h2, fun σ2 h2 ⟨f2, a, b, c, d⟩ => ⟨n - (i + 1), by omega, i + 1, f2, rfl, a, b, c, d⟩, ?_⟩
    exact hb i hi fi hci f σ' f2 h2 s2 k2 _ ⟨fun σ4 f4 h4 l4 z => ⟨f4, z.1, z.2.1, l4, z.2.2⟩, fun v f4 h4 l4 z => p.rt v f4 h4 (l.trans l4) z, fun σ4 f4 h4 l4 z => z.elim, fun σ4 f4 h4 l4 z => ⟨f4, z.1, z.2.1, l4, z.2.2⟩⟩
  | false => exact iteF (hn i hi fi hci L σ' f2 h2 s2 (l.trans k2) D p)
/-! the things walked -/
theorem wi_list {ds : List PyData} (h : EvD Γ tl (rpD (.list ds))) {it : Nat → RP} (hi : ∀ i d, ds[i]? = some d → it i = rpD d) : WiD Γ (iList K tl) ds.length it := fun σ f hp s ok Rk q =>
  h σ f hp s ok _ fun v f1 h1 e rv => by
    have rv : repD (.list ds) v f1 := rv
    simp only [repD] at rv
    obtain ⟨p, vs, rfl, g1, g2⟩ := rv
    refine ⟨p, rfl, ⟨vs, SqL.of1 (e.fh _ _ g1)⟩, q _ f1 h1 e ⟨fun i f h hi s0 s1 => ?_, fun i f h x h' hlt s0 s1 y => ?_, fun f h s0 s1 => ⟨vs, SqL.of1 (s1 _ _ (s0 _ _ g1)), by rw [repL_length g2]; exact Nat.le_refl _⟩⟩⟩
    · have hv : i < vs.length := by rw [repL_length g2]; exact hi
      exact ⟨vs, vs[i], SqL.of1 (s1 _ _ (s0 _ _ g1)), by simp [hv]⟩
    · obtain ⟨rfl, y⟩ := y
      have y := y vs (SqL.of1 (s1 _ _ (s0 _ _ g1)))
      have hd : ds[i]? = some ds[i] := by simp [hlt]
      obtain ⟨v, h3, h4⟩ := repL_get g2 hd
      rw [y] at h3
      cases h3
      exact ⟨f, .refl s1, by rw [hi i _ hd]; exact repD_mono s0 _ _ h4⟩
theorem wi_tup {ds : List PyData} (h : EvD Γ tl (rpD (.tuple ds))) {it : Nat → RP} (hi : ∀ i d, ds[i]? = some d → it i = rpD d) : WiD Γ (iTup K tl) ds.length it := fun σ f hp s ok Rk q =>
  h σ f hp s ok _ fun v f1 h1 e rv => by
    have rv : repD (.tuple ds) v f1 := rv
    simp only [repD] at rv
    obtain ⟨p, vs, rfl, g1, g2⟩ := rv
    refine ⟨p, rfl, ⟨vs, SqT.of1 (e.fh _ _ g1)⟩, q _ f1 h1 e ⟨fun i f h hi s0 s1 => ?_, fun i f h x h' hlt s0 s1 y => ?_, fun f h s0 s1 => ⟨vs, SqT.of1 (s1 _ _ (s0 _ _ g1)), by rw [repL_length g2]; exact Nat.le_refl _⟩⟩⟩
    · have hv : i < vs.length := by rw [repL_length g2]; exact hi
      exact ⟨vs, vs[i], SqT.of1 (s1 _ _ (s0 _ _ g1)), by simp [hv]⟩
    · obtain ⟨rfl, y⟩ := y
      have y := y vs (SqT.of1 (s1 _ _ (s0 _ _ g1)))
      have hd : ds[i]? = some ds[i] := by simp [hlt]
      obtain ⟨v, h3, h4⟩ := repL_get g2 hd
      rw [y] at h3
      cases h3
      exact ⟨f, .refl s1, by rw [hi i _ hd]; exact repD_mono s0 _ _ h4⟩
/-- the item at i (a nat) -/
def at_ {α : Type} [ToPy α] (xs : List α) (i : Nat) : α := xs.getD i ToPy.dft
theorem at_some {α : Type} [ToPy α] {xs : List α} {i : Nat} (h : i < xs.length) : xs[i]? = some (at_ xs i) := by
  unfold at_
  rw [List.getD_eq_getElem?_getD, List.getElem?_eq_getElem h]
  rfl
theorem map_at {α : Type} {_ : ToPy α} {xs : List α} {i : Nat} {d : PyData} (h : (xs.map py)[i]? = some d) : rep (at_ xs i) = rpD d := by
  rw [List.getElem?_map] at h
  unfold at_
  rw [List.getD_eq_getElem?_getD]
  cases e : xs[i]? with
  | none => rw [e] at h; cases h
  | some a => rw [e] at h; cases h; rfl
theorem wi_L {α : Type} {_ : ToPy α} {xs : List α} (h : EvD Γ tl (rep xs)) : WiD Γ (iList K tl) xs.length (fun i => rep (at_ xs i)) := by
  have z := wi_list (K := K) (ds := xs.map py) h (it := fun i => rep (at_ xs i)) fun i d e => map_at e
  rw [List.length_map] at z
  exact z
theorem wi_T {α : Type} {_ : ToPy α} {xs : List α} (h : EvD Γ tl (rep (Tup.mk xs))) : WiD Γ (iTup K tl) xs.length (fun i => rep (at_ xs i)) := by
  have z := wi_tup (K := K) (ds := xs.map py) h (it := fun i => rep (at_ xs i)) fun i d e => map_at e
  rw [List.length_map] at z
  exact z
theorem wi_range {ta : TE} {z : Int} (h : EvD Γ ta (rep z)) (h0 : -(2 ^ 62) ≤ z) (h1 : z < 2 ^ 62) : WiD Γ (iRng1 (tCons ta tNil)) z.toNat (fun i => rep (i : Int)) := fun σ f hp s ok Rk q =>
  h σ f hp s ok _ fun v f1 hp1 e rv => by
    cases rep_int rv
    refine ⟨z, rfl, h0, h1, q _ f1 hp1 e ⟨fun i f h hi s0 s1 => hi, fun i f h x h' hlt s0 s1 y => ?_, fun f h s0 s1 => Nat.le_refl _⟩⟩
    obtain ⟨rfl, rfl⟩ := y
    exact ⟨f, .refl s1, by rw [Int.zero_add]; exact rep_of_int _ _⟩
theorem wi_zip {α β : Type} {_ : ToPy α} {_ : ToPy β} {xs : List α} {ys : List β} {ta tc : TE} (h : EvD Γ ta (rep xs)) (h2 : EvD Γ tc (rep ys)) (hl : xs.length = ys.length) :
    WiD Γ (iZip K (tCons ta (tCons tc tNil))) xs.length (fun i => rep (at_ xs i, at_ ys i)) := fun σ f hp s ok Rk q =>
  h σ f hp s ok _ fun v f1 hp1 e1 rv => h2 σ f1 hp1 e1.fh (ok.mono e1.ff) _ fun w f2 hp2 e2 rw_ => by
    have rv := (rep xs).mono rv e2.ff
    obtain ⟨p, vs, rfl, g1, g2⟩ := rep_list rv
    obtain ⟨p', vs', rfl, g1', g2'⟩ := rep_list rw_
    have l1 : vs.length = xs.length := by rw [repL_length g2, List.length_map]
    have l2 : vs'.length = ys.length := by rw [repL_length g2', List.length_map]
    have E := e1.trans e2
    refine ⟨p, p', vs, vs', rfl, SqL.of1 (E.fh _ _ g1), SqL.of1 (E.fh _ _ g1'), q _ f2 hp2 E ⟨fun i f h hi s0 s1 => ?_, fun i f h x h' hlt s0 s1 y => ?_, fun f h s0 s1 => ?_⟩⟩
    · have a1 : i < vs.length := by omega
      have a2 : i < vs'.length := by omega
      exact ⟨vs, vs', vs[i], vs'[i], SqL.of1 (s1 _ _ (s0 _ _ g1)), SqL.of1 (s1 _ _ (s0 _ _ g1')), by simp [a1], by simp [a2]⟩
    · obtain ⟨T, x1, y1, rfl, hT, rfl, hx1, hx2⟩ := y
      have q1 := hx1 vs (SqL.of1 (s1 _ _ (s0 _ _ g1)))
      have q2 := hx2 vs' (SqL.of1 (s1 _ _ (s0 _ _ g1')))
      refine ⟨_, .new s1 hT, ?_⟩
      have b1 : (xs.map py)[i]? = some (py (at_ xs i)) := by rw [List.getElem?_map, at_some hlt]; rfl
      have b2 : (ys.map py)[i]? = some (py (at_ ys i)) := by rw [List.getElem?_map, at_some (by omega)]; rfl
      obtain ⟨c1, c2, c3⟩ := repL_get g2 b1
      obtain ⟨d1, d2, d3⟩ := repL_get g2' b2
      have z1 : x1 = c1 := Option.some.inj (q1.symm.trans c2)
      have z2 : y1 = d1 := Option.some.inj (q2.symm.trans d2)
      subst z1
      subst z2
      show repD (.tuple [py (at_ xs i), py (at_ ys i)]) _ _
      simp only [repD, repL]
      have k := s0.trans (same_new (o := HO.tup [x1, y1]) (s1.free hT))
      exact ⟨T, _, rfl, upd_same, x1, [y1], rfl, repD_mono k _ _ c3, y1, [], rfl, repD_mono k _ _ d3, rfl⟩
    · exact ⟨vs, vs', SqL.of1 (s1 _ _ (s0 _ _ g1)), SqL.of1 (s1 _ _ (s0 _ _ g1')), .inl (by omega)⟩
/-! ### comprehensions -/
/-- the slots that a comprehension's own names take are forgotten -/
def wipeC (Γ : Ctx) : List Nat → Ctx
  | [] => Γ
  | v :: vs => (wipeC Γ vs).set v none
theorem Ok.wipe {f : Hp} (ok : Ok Γ σ f) : ∀ vs : List Nat, Ok (wipeC Γ vs) (wipe σ vs) f
  | [] => ok
  | v :: vs => by
    unfold wipeC L2.wipe
    exact (Ok.wipe ok vs).setn v
/-- a target that stores into the comprehension's own slots alone -/
def TgL (g : TG) (vs : List Nat) (R : RP) (Γ Γ' : Ctx) : Prop := ∀ σ f h, Same f h → Ok Γ σ f → ∀ v, R.p v f → ∀ Q : L2.St → Hp → Prop, (∀ σ', wipe σ' vs = wipe σ vs → Ok Γ' σ' f → Q σ' h) → g v σ h Q
theorem wipe_wipe_set {σ : L2.St} {j : Nat} {x : Option V} : ∀ {vs : List Nat}, j ∈ vs → wipe (σ.set j x) vs = wipe σ vs
  | [], h => by cases h
  | v :: vs, h => by
    unfold L2.wipe
    by_cases e : j ∈ vs
    · rw [wipe_wipe_set e]
    · have e1 : j = v := by
        rcases List.mem_cons.mp h with z | z
        · exact z
        · exact absurd z e
      subst e1
      have key : ∀ (us : List Nat) (τ : L2.St), (wipe (τ.set j x) us).set j none = (wipe τ us).set j none := by
        intro us
        induction us with
        | nil => intro τ; show (τ.set j x).set j none = τ.set j none; rw [List.set_set]
        | cons u us ih =>
          intro τ
          unfold L2.wipe
          by_cases hu : u = j
          · subst hu
            rw [List.set_set, List.set_set]
            exact ih τ
          · rw [List.set_comm _ _ hu, ih τ, List.set_comm _ _ (Ne.symm hu)]
      exact key vs σ
theorem wipe_idem {σ : L2.St} : ∀ (us vs : List Nat), (∀ u ∈ us, u ∈ vs) → wipe (wipe σ us) vs = wipe σ vs
  | [], vs, _ => rfl
  | u :: us, vs, h => by
    show wipe ((wipe σ us).set u none) vs = wipe σ vs
    rw [wipe_wipe_set (h u (by simp)), wipe_idem us vs fun z hz => h z (List.mem_cons_of_mem _ hz)]
theorem tl_name {j : Nat} {vs : List Nat} (hj : j ∈ vs) : TgL (gName j) vs R Γ (Γ.set j (some R)) := fun σ f h s ok v rv Q q => q _ (wipe_wipe_set hj) (ok.set j rv)
theorem tl_pair {α β : Type} {_ : ToPy α} {_ : ToPy β} {a : α} {c : β} {i j : Nat} {vs : List Nat} (hi : i ∈ vs) (hj : j ∈ vs) : TgL (gTup K 2 (gCons (gName i) (gCons (gName j) gNil))) vs (rep (a, c)) Γ ((Γ.set i (some (rep a))).set j (some (rep c))) := fun σ f h s ok v rv Q q => by
  have rv : repD (.tuple [py a, py c]) v f := rv
  simp only [repD, repL] at rv
  obtain ⟨p, us, rfl, h1, x, r, rfl, hx, y, r2, rfl, hy, rfl⟩ := rv
  exact ⟨p, _, rfl, SqT.of1 (s _ _ h1), rfl, x, [y], rfl, y, [], rfl, rfl, q _ (by rw [wipe_wipe_set hj, wipe_wipe_set hi]) ((ok.set i (R := rep a) hx).set j (R := rep c) hy)⟩
/-- [e for .. in .. if ..]: item by item kept or not -/
theorem en_lcD {vs : List Nat} {keep : Nat → Bool} {val : Nat → PyData} {te : TE} (hw : WiD Γ wi n item) {G' : Nat → Ctx} (ht : ∀ i, i < n → TgL g vs (item i) (wipeC Γ vs) (G' i)) (hc : ∀ i, i < n → EvT (G' i) tt (keep i))
    (he : ∀ i, i < n → keep i = true → EvD (G' i) te (rpD (val i))) (hz : n ≤ 100000) : EvN Γ (tLc wi g tt te vs) (oLD (((List.range n).filter keep).map val)) := fun σ f h s ok Q q =>
  hw σ f h s ok _ fun J f1 h1 e J1 D hD => by
    refine ⟨fun i m h' => m = n - i ∧ i ≤ n ∧ ∃ f', Same f1 f' ∧ Ext f h f' h' ∧ f' D = none ∧ ∃ us, h' D = some (.lst us) ∧ repL (((List.range i).filter keep).map val) us f', ⟨n, by simp, Nat.zero_le _, f1, .refl _, ?_, e.fh.free hD, [], upd_same, by simp [repL]⟩, ?_⟩
    · exact ⟨e.ff, e.hh.trans (same_new hD), e.fh.trans (same_new hD), e.nf⟩
    rintro i m h' ⟨rfl, hi, f', k1, E, hf, us, hu, hr⟩
    by_cases hlt : i < n
    · refine .inr ⟨J1.go i f' h' hlt k1 E.fh, fun h2 => ∃ f2, Same f1 f2 ∧ Ext f h f2 h2 ∧ f2 D = none ∧ ∃ us, h2 D = some (.lst us) ∧ repL (((List.range (i + 1)).filter keep).map val) us f2, fun h2 ⟨f2, a, b, c⟩ => ⟨n - (i + 1), by omega, rfl, hlt, f2, a, b, c⟩, fun x h2 y => ?_⟩
      obtain ⟨f2, e2, rx⟩ := J1.yld i f' h' x h2 hlt k1 E.fh y
      have ok2 : Ok (wipeC Γ vs) (wipe σ vs) f2 := (ok.mono (E.trans e2).ff).wipe vs
      refine ht i hlt _ f2 h2 e2.fh ok2 x rx _ fun σ3 hw3 ok3 => ⟨by rw [hw3]; exact wipe_idem vs vs fun _ z => z, ?_⟩
      refine hc i hlt σ3 f2 h2 e2.fh ok3 _ fun f3 h3 e3 => ?_
      have fD2 : f2 D = none := e2.nf D (by rw [hu]; exact fun z => nomatch z) hf
      have hu2 : h2 D = some (.lst us) := e2.hh _ _ hu
      have fD3 : f3 D = none := e3.nf D (by rw [hu2]; exact fun z => nomatch z) fD2
      have hu3 : h3 D = some (.lst us) := e3.hh _ _ hu2
      have k3 := (k1.trans e2.ff).trans e3.ff
      have E3 := (E.trans e2).trans e3
      cases hk : keep i with
      | true =>
        refine iteT (he i hlt hk σ3 f3 h3 e3.fh (ok3.mono e3.ff) _ fun v f4 h4 e4 rv => ⟨us, e4.hh _ _ hu3, ?_, f4, k3.trans e4.ff, ?_, e4.nf D (by rw [hu3]; exact fun z => nomatch z) fD3, _, upd_same, ?_⟩)
        · rw [repL_length hr, List.length_map]
          have := List.length_filter_le keep (List.range i)
          rw [List.length_range] at this
          exact Nat.lt_of_le_of_lt (Nat.le_trans this (Nat.le_trans (Nat.le_of_lt hlt) hz)) (by decide)
        · have E4 := E3.trans e4
          have f4D : f4 D = none := e4.nf D (by rw [hu3]; exact fun z => nomatch z) fD3
          have hD0 : h D = none := e.hh.free hD
          have kk : Same h (upd h4 D (.lst (us ++ [v]))) := same_upd E4.hh hD0
          exact ⟨E4.ff, kk, same_upd E4.fh f4D, E4.nf⟩
        · rw [List.range_succ, List.filter_append, List.map_append]
          have z : ([i].filter keep).map val = [val i] := by simp [hk]
          rw [z]
          exact repL_append (repL_mono ((e2.ff.trans e3.ff).trans e4.ff) _ _ hr) (repL_one rv)
      | false =>
        refine iteF ⟨f3, k3, E3, fD3, us, hu3, ?_⟩
        rw [List.range_succ, List.filter_append, List.map_append]
        have z : ([i].filter keep).map val = [] := by simp [hk]
        rw [z, List.append_nil]
        exact repL_mono (e2.ff.trans e3.ff) _ _ hr
    · have e3 : i = n := by omega
      subst e3
      exact .inl ⟨J1.stop f' h' k1 E.fh, q D _ f' h' E (e.hh.free hD) hf hu ⟨us, rfl, hr⟩⟩
theorem et_yes : EvT Γ tYes true := fun σ f h s ok Q q => q f h (.refl s)
theorem range_true (n : Nat) : (List.range n).filter (fun _ => true) = List.range n := by simp
/-- [e for .. in ..] -/
theorem en_lc {α : Type} {_ : ToPy α} {vs : List Nat} {val : Nat → α} {te : TE} (hw : WiD Γ wi n item) {G' : Nat → Ctx} (ht : ∀ i, i < n → TgL g vs (item i) (wipeC Γ vs) (G' i))
    (he : ∀ i, i < n → EvD (G' i) te (rep (val i))) (hz : n ≤ 100000) : EvN Γ (tLc wi g tYes te vs) (oL ((List.range n).map val)) := by
  have z := en_lcD (keep := fun _ => true) (val := fun i => py (val i)) hw ht (fun i _ => et_yes) (fun i hi _ => he i hi) hz
  rw [range_true] at z
  unfold oL
  rw [List.map_map]
  exact z
theorem en_lcIf {α : Type} {_ : ToPy α} {vs : List Nat} {val : Nat → α} {keep : Nat → Bool} {te : TE} (hw : WiD Γ wi n item) {G' : Nat → Ctx} (ht : ∀ i, i < n → TgL g vs (item i) (wipeC Γ vs) (G' i)) (hc : ∀ i, i < n → EvT (G' i) tt (keep i))
    (he : ∀ i, i < n → keep i = true → EvD (G' i) te (rep (val i))) (hz : n ≤ 100000) : EvN Γ (tLc wi g tt te vs) (oL (((List.range n).filter keep).map val)) := by
  have z := en_lcD (keep := keep) (val := fun i => py (val i)) hw ht hc (fun i hi h => he i hi h) hz
  unfold oL
  rw [List.map_map]
  exact z
end
end D

set_option Elab.async false
set_option linter.all false
set_option maxRecDepth 100000
set_option maxHeartbeats 4000000
namespace D
open PySem PySem.Spec PyProof.Rows L2
open ToPy (py)

/-! ### promises -/
abbrev Spec := List RP → RP → Prop
/-- a def that hands back what S tells and leaves all that stood -/
def spD (S : Spec) : Sp := fun vs H Q _ => ∃ Rs R f, S Rs R ∧ Same f H ∧ All Rs vs f ∧ ∀ v f' H', Ext f H f' H' → R.p v f' → Q v H'
/-- .. or raises an error of the class at C where SE tells so -/
def spX (S : Spec) (SE : List RP → Addr → Prop) : Sp := fun vs H Q E => ∃ Rs f, Same f H ∧ All Rs vs f ∧ ((∃ R, S Rs R ∧ ∀ v f' H', Ext f H f' H' → R.p v f' → Q v H') ∨ (∃ C, SE Rs C ∧ ∀ f' H', Ext f H f' H' → E (.ref C) none H'))
/-- a def by its name -/
def Okd (P : Program) (w : World) (K : PySem.W.Frag) (mg : Str → Option Value) (base : Heap) (CX : CXT) (k : Nat) (x : Str) (ps : List Str) (sp : Sp) : Prop :=
  ∃ f fd, mg x = some (.ref f) ∧ PySem.W.keepIn K (.ref f) = true ∧ Binds K fd ps [] ∧ FnOk P w K mg base CX k f fd ps sp
/-- a def of the text, by its name, as the top leaves it -/
def Def (K : PySem.W.Frag) (mg : Str → Option Value) (x : Str) (st : Stmt) (ps : List Str) : Prop := ∃ f fd, Fun K x x st f fd ∧ mg x = some (.ref f) ∧ Binds K fd ps []
/-- a method -/
def Okm (P : Program) (w : World) (K : PySem.W.Frag) (mg : Str → Option Value) (base : Heap) (CX : CXT) (k : Nat) (C : Addr) (m : Str) (ps : List Str) (sp : Sp) : Prop :=
  ∃ f fd, Meth K C m f ∧ Binds K fd ps [] ∧ FnOk P w K mg base CX k f fd ps sp
def DefM (K : PySem.W.Frag) (C : Addr) (m q : Str) (st : Stmt) (ps : List Str) : Prop := ∃ f fd, Fun K m q st f fd ∧ Meth K C m f ∧ Binds K fd ps []
/-- a class, made by its __init__ -/
def Oki (P : Program) (w : World) (K : PySem.W.Frag) (mg : Str → Option Value) (base : Heap) (CX : CXT) (k : Nat) (x : Str) (C : Addr) (ps : List Str) (sp : Sp) : Prop :=
  mg x = some (.ref C) ∧ ∃ f fd, Mk K C f ∧ Binds K fd ps [] ∧ FnOk P w K mg base CX k f fd ps sp
section
variable {X : Cx} {CX : CXT} {k j : Nat} {x m : Str} {ps : List Str} {sp : Sp} {p pos apos : Pos} {e o : Expr} {es : List Expr} {t : TA} {ta : TE} {E : XK} {C : Addr}
theorem pe_callD (F : Okd X.prog X.w X.K X.mg X.base CX k x ps sp) (hr : Room j X.A) (hx : Passes CX X E) (ha : PA X (e :: es) t) (hk : k ≤ j := by decide) (hg : Gl X x := by rfl) (hdb : (x == ("__debug__" : Str)) = false := by decide)
    (he : starEach (e :: es) X.env = (false, eval e X.env) :: starEach es X.env := by rfl) (hpl : (backTo pos (starEach es X.env)).any (·.1) = false := by rfl) :
    PE X (.Call (.Name x p) (e :: es) [] pos) (tCall sp [] E t) := by
  obtain ⟨f, fd, h1, h2, h3, h4⟩ := F
  exact pe_call h4 (hr.mono hk) hg h1 h2 h3 .nil hx ha hdb he hpl
theorem pe_makeD (F : Oki X.prog X.w X.K X.mg X.base CX k x C ps sp) (hr : Room j X.A) (hx : Passes CX X E) (ha : PA X (e :: es) t) (hk : k + 1 ≤ j := by decide) (hg : Gl X x := by rfl) (hdb : (x == ("__debug__" : Str)) = false := by decide)
    (he : starEach (e :: es) X.env = (false, eval e X.env) :: starEach es X.env := by rfl) (hpl : (backTo pos (starEach es X.env)).any (·.1) = false := by rfl) :
    PE X (.Call (.Name x p) (e :: es) [] pos) (tMake C sp [] E t) := by
  obtain ⟨h1, f, fd, h2, h3, h4⟩ := F
  exact pe_make h2 h4 (hr.mono hk) hg h1 h3 .nil hx ha hdb he hpl
theorem pe_methD {pl : Sem Bool} (he : PE X o ta) (c : Cls X.K C) (F : Okm X.prog X.w X.K X.mg X.base CX k C m ps sp) (hr : Room j X.A) (hx : Passes CX X E) (ha : PA X (e :: es) t) (hk : k ≤ j := by decide)
    (hst : starEach (e :: es) X.env = (false, eval e X.env) :: starEach es X.env := by rfl) (hpl : (backTo pos (starEach es X.env)).any (·.1) = false := by rfl)
    (ht : eval (.Call (.Attribute o m apos) (e :: es) [] pos) X.env = (do
      let ov ← eval o X.env
      standAt apos.atName
      let (f, first) ← holding [ov] (getMethod ov m pl)
      callWith pos f first (backTo pos (starEach (e :: es) X.env)) (backToKw pos (keywordEach [] X.env))) := by rfl) :
    PE X (.Call (.Attribute o m apos) (e :: es) [] pos) (tMeth C m sp [] E ta t) := by
  obtain ⟨f, fd, h1, h3, h4⟩ := F
  exact pe_meth he c h1 h4 (hr.mono hk) h3 .nil hx ha hst hpl ht
theorem pe_methD0 {pl : Sem Bool} (he : PE X o ta) (c : Cls X.K C) (F : Okm X.prog X.w X.K X.mg X.base CX k C m ps sp) (hr : Room j X.A) (hx : Passes CX X E) (hk : k ≤ j := by decide)
    (ht : eval (.Call (.Attribute o m apos) [] [] pos) X.env = (do
      let ov ← eval o X.env
      standAt apos.atName
      let (f, first) ← holding [ov] (getMethod ov m pl)
      callWith pos f first (backTo pos (starEach [] X.env)) (backToKw pos (keywordEach [] X.env))) := by rfl) :
    PE X (.Call (.Attribute o m apos) [] [] pos) (tMeth C m sp [] E ta tNil) := by
  obtain ⟨f, fd, h1, h3, h4⟩ := F
  exact pe_meth0 he c h1 h4 (hr.mono hk) h3 .nil hx ht
end
/-! ### instances that stand -/
def RepF : List (Str × RP) → List (Str × V) → Hp → Prop
  | [], fvs, _ => fvs = []
  | (n, R) :: fs, fvs, H => ∃ v r, fvs = (n, v) :: r ∧ R.p v H ∧ RepF fs r H
theorem RepF.mono {H H' : Hp} (s : Same H H') : ∀ {fs : List (Str × RP)} {fvs : List (Str × V)}, RepF fs fvs H → RepF fs fvs H'
  | [], _, h => h
  | (n, R) :: fs, _, ⟨v, r, e, h1, h2⟩ => ⟨v, r, e, R.mono h1 s, RepF.mono s h2⟩
theorem RepF.get {H : Hp} {n : Str} {R : RP} : ∀ {fs : List (Str × RP)} {fvs : List (Str × V)}, RepF fs fvs H → fs.lookup n = some R → ∃ v, fvs.lookup n = some v ∧ R.p v H
  | [], _, _, h => by simp at h
  | (n', R') :: fs, _, ⟨v, r, e, h1, h2⟩, h => by
    subst e
    by_cases c : n = n'
    · subst c
      simp at h
      subst h
      exact ⟨v, by simp, h1⟩
    · have c' : (n == n') = false := by simpa using c
      rw [List.lookup_cons, c'] at h
      obtain ⟨v', h3, h4⟩ := RepF.get h2 h
      exact ⟨v', by rw [List.lookup_cons, c']; exact h3, h4⟩
theorem RepF.none {H : Hp} {n : Str} : ∀ {fs : List (Str × RP)} {fvs : List (Str × V)}, RepF fs fvs H → fs.lookup n = Option.none → fvs.lookup n = Option.none
  | [], _, h, _ => by cases h; rfl
  | (n', R') :: fs, _, ⟨v, r, e, h1, h2⟩, h => by
    subst e
    by_cases c : n = n'
    · subst c
      simp at h
    · have c' : (n == n') = false := by simpa using c
      rw [List.lookup_cons, c'] at h ⊢
      exact RepF.none h2 h
def insR (C : Addr) (fs : List (Str × RP)) : RP := ⟨fun v H => ∃ a dx fvs, v = .ref a ∧ H a = some (.ins C dx fvs) ∧ RepF fs fvs H, fun ⟨a, dx, fvs, e, h1, h2⟩ s => ⟨a, dx, fvs, e, s _ _ h1, h2.mono s⟩⟩
def insO (C : Addr) (fs : List (Str × RP)) : OT := ⟨fun o f => ∃ dx fvs, o = .ins C dx fvs ∧ RepF fs fvs f, fun ⟨dx, fvs, e, h2⟩ s => ⟨dx, fvs, e, h2.mono s⟩⟩
section
variable {Γ : Ctx} {te ta tb tc : TE} {t : TA} {R Ra Rb Rc R' : RP} {Rs : List RP} {T : OT} {K : PySem.W.Frag} {C : Addr} {n m : Str} {fs : List (Str × RP)} {E : XK} {S : Spec}
theorem ev_fld (h : EvD Γ ta (insR C fs)) (hc : Cls K C) (hn : NoAttr K C n) (hl : fs.lookup n = some R) : EvD Γ (tFld K ta n) R := fun σ f hp s ok Q q =>
  h σ f hp s ok _ fun v f1 h1 e ⟨a, dx, fvs, ev, g1, g2⟩ => by
    obtain ⟨v', l, rv⟩ := g2.get hl
    exact ⟨a, C, dx, fvs, v', ev, e.fh _ _ g1, hc, hn, l, q v' f1 h1 e rv⟩
theorem ev_call (ha : EvA Γ t Rs) (hS : S Rs R) : EvD Γ (tCall (spD S) [] E t) R := fun σ f hp s ok Q q =>
  ha σ f hp s ok _ fun vs f1 h1 e rs => by
    rw [List.append_nil]
    exact ⟨Rs, R, f1, hS, e.fh, rs, fun v f' H' e2 rv => q v f' H' (e.trans e2) rv⟩
theorem ev_callX {SE : List RP → Addr → Prop} (ha : EvA Γ t Rs) (hS : S Rs R) : EvD Γ (tCall (spX S SE) [] E t) R := fun σ f hp s ok Q q =>
  ha σ f hp s ok _ fun vs f1 h1 e rs => by
    rw [List.append_nil]
    exact ⟨Rs, f1, e.fh, rs, .inl ⟨R, hS, fun v f' H' e2 rv => q v f' H' (e.trans e2) rv⟩⟩
theorem ev_meth (h : EvD Γ ta (insR C fs)) (hl : fs.lookup m = none) (ha : EvA Γ t Rs) (hS : S (insR C fs :: Rs) R) : EvD Γ (tMeth C m (spD S) [] E ta t) R := fun σ f hp s ok Q q =>
  h σ f hp s ok _ fun v f1 h1 e rv => by
    obtain ⟨a, dx, fvs, ev, g1, g2⟩ := id rv
    subst ev
    refine ⟨a, dx, fvs, rfl, e.fh _ _ g1, g2.none hl, ha σ f1 h1 e.fh (ok.mono e.ff) _ fun vs f2 h2 e2 rs => ?_⟩
    rw [List.append_nil]
    exact ⟨insR C fs :: Rs, R, f2, hS, e2.fh, ⟨_, vs, rfl, RP.mono (insR C fs) rv e2.ff, rs⟩, fun v f' H' e3 rv => q v f' H' ((e.trans e2).trans e3) rv⟩
end
/-! ### a def's body -/
def startC (N : List Str) (Rs : List RP) : Ctx := Rs.map some ++ List.replicate (N.length - Rs.length) none
theorem ok_start {N : List Str} {Rs : List RP} {vs : List V} {f : Hp} (a : All Rs vs f) : Ok (startC N Rs) (L2.start N vs) f := by
  have hl := a.length
  refine ⟨by unfold startC L2.start; simp [hl], fun i R e => ?_⟩
  unfold startC at e
  by_cases hi : i < Rs.length
  · rw [List.getElem?_append_left (by simpa using hi), List.getElem?_map] at e
    cases e1 : Rs[i]? with
    | none => rw [e1] at e; cases e
    | some R' =>
      rw [e1] at e
      cases e
      obtain ⟨v, h1, h2⟩ := a.get e1
      refine ⟨v, ?_, h2⟩
      unfold L2.start
      rw [List.getElem?_append_left (by simpa [hl] using hi), List.getElem?_map, h1]
      rfl
  · rw [List.getElem?_append_right (by simpa using Nat.le_of_not_lt hi), List.getElem?_replicate] at e
    split at e <;> cases e
/-- what a body is to reach: the heap goes on from the entry, R is handed back -/
def fnP (B : Base) (R : RP) : Post := ⟨fun _ f h => Ext B.f B.h f h ∧ R.p .non f, fun v f h => Ext B.f B.h f h ∧ R.p v f, fun _ _ _ => False, fun _ _ _ => False⟩
section
variable {P : Program} {w : World} {K : PySem.W.Frag} {mg : Str → Option Value} {base : Heap} {x q : Str} {st : Stmt} {N ps : List Str} {k : Nat} {S : Spec} {C : Addr} {m : Str} {t : TS}
/-- the context of a def's body -/
abbrev cx0 (P : Program) (w : World) (K : PySem.W.Frag) (mg : Str → Option Value) (base : Heap) (N : List Str) (q : Str) (st : Stmt) (f : Addr) (cdv : Value) (A : Around) (outer : List Env) (s : Shared) (H : Hp) (E : XK) : Cx := (cxOf CX0 P w K mg base N q (defScope st) f cdv A outer s H E).nox
theorem run_spD {t : TS} (ev : ∀ Rs R, S Rs R → ∀ B : Base, B.m = [] → BDe B (startC N Rs) [] t (fnP B R)) {vs : List V} {H : Hp} {Q : VK} {E : XK} (h : spD S vs H Q E) : t { nx := fun _ H' => Q .non H', rt := Q } (L2.start N vs) H := by
  obtain ⟨Rs, R, f, hS, s, a, k⟩ := h
  refine ev Rs R hS ⟨f, H, []⟩ rfl f (L2.start N vs) f H ?_ (.refl _) _ ⟨fun σ f' h' _ z => k .non f' h' z.1 z.2, fun v f' h' _ z => k v f' h' z.1 z.2, fun _ _ _ _ z => z.elim, fun _ _ _ _ z => z.elim⟩
  exact { ff := .refl _, fh := s, hh := fun a o e _ => e, th := fun _ n => n, nf := fun _ _ e => e, ok := ok_start a, ow := fun _ _ z => (nomatch z), nd := List.nodup_nil }
theorem okd (F : Def K mg x st ps) (sc : FnScope N ps (defScope st)) (hlen : ∀ Rs R, S Rs R → Rs.length = ps.length)
    (hps : ∀ (f : Addr) (cdv : Value) (A : Around) (outer : List Env) (s : Shared) (H : Hp) (E : XK), Room k (A.deeper (envOfC x (defScope st) s.heap.objs.size f cdv)) → PSs (cx0 P w K mg base N x st f cdv A outer s H E) (defBody st) t)
    (ev : ∀ Rs R, S Rs R → ∀ B : Base, B.m = [] → BDe B (startC N Rs) [] t (fnP B R)) : Okd P w K mg base CX0 (k + 1) x ps (spD S) := by
  obtain ⟨f, fd, hF, hm, hb⟩ := F
  refine ⟨f, fd, hm, hF.kp, hb, hF.ok sc (fun vs H Q E h => ?_) fun cdv A outer s H vs Q E hr h => ⟨t, hps f cdv A outer s H E hr, run_spD ev h⟩⟩
  obtain ⟨Rs, R, f, hS, _, a, _⟩ := h
  rw [a.length, hlen Rs R hS]
theorem okm (F : DefM K C m q st ps) (sc : FnScope N ps (defScope st)) (hlen : ∀ Rs R, S Rs R → Rs.length = ps.length)
    (hps : ∀ (f : Addr) (cdv : Value) (A : Around) (outer : List Env) (s : Shared) (H : Hp) (E : XK), Room k (A.deeper (envOfC q (defScope st) s.heap.objs.size f cdv)) → PSs (cx0 P w K mg base N q st f cdv A outer s H E) (defBody st) t)
    (ev : ∀ Rs R, S Rs R → ∀ B : Base, B.m = [] → BDe B (startC N Rs) [] t (fnP B R)) : Okm P w K mg base CX0 (k + 1) C m ps (spD S) := by
  obtain ⟨f, fd, hF, hm, hb⟩ := F
  refine ⟨f, fd, hm, hb, hF.ok sc (fun vs H Q E h => ?_) fun cdv A outer s H vs Q E hr h => ⟨t, hps f cdv A outer s H E hr, run_spD ev h⟩⟩
  obtain ⟨Rs, R, f, hS, _, a, _⟩ := h
  rw [a.length, hlen Rs R hS]
end
end D

set_option Elab.async false
set_option linter.all false
set_option maxRecDepth 100000
set_option maxHeartbeats 4000000
namespace D
open PySem PySem.Spec PyProof.Rows L2
open ToPy (py)
def Wd (x : Int) : Prop := x.natAbs < 2 ^ 1000
theorem wd_mul {a b : Int} (ha : Wd a) (hb : Wd b) : CMulW a b := wide_mul ha hb (by decide) (by decide) (by decide)
theorem wd_div {a b : Int} (h0 : 0 < b) (hb : Wd b) : CDivW a b := wide_div h0 hb (by decide) (by decide)
def rNegI : V → Hp → VK → Prop := rU fun i => .int (-i)
section
variable {K : PySem.W.Frag} {Γ : Ctx} {te ta tb tc : TE} {tt tu : TT} {R Ra Rb Rc R' : RP} {T : OT} {r r' : R2} {B : Base} {O : Own} {P : Post} {i : Nat}
theorem R2N.d {ds : List PyData} (h : R2N r Ra Rb (oLD ds)) : R2D r Ra Rb (rpD (.list ds)) := fun x y f hp s rx ry Q q =>
  h x y f hp s rx ry Q fun p o f' h' e n nf ho ht => by
    obtain ⟨vs, rfl, hr⟩ := ht
    refine q (.ref p) (upd f' p (.lst vs)) h' (e.frz n ho nf) ?_
    show repD (.list ds) _ _
    simp only [repD]
    exact ⟨p, vs, rfl, upd_same, repL_mono (same_new nf) _ _ hr⟩
theorem R2N.dL {α : Type} {_ : ToPy α} {xs : List α} (h : R2N r Ra Rb (oL xs)) : R2D r Ra Rb (rep xs) := R2N.d h
theorem RcN.d {r : List V → Hp → VK → Prop} {Rs : List RP} {ds : List PyData} (h : RcN r Rs (oLD ds)) : RcD r Rs (rpD (.list ds)) := fun vs f hp s rs Q q =>
  h vs f hp s rs Q fun p o f' h' e n nf ho ht => by
    obtain ⟨vs, rfl, hr⟩ := ht
    refine q (.ref p) (upd f' p (.lst vs)) h' (e.frz n ho nf) ?_
    show repD (.list ds) _ _
    simp only [repD]
    exact ⟨p, vs, rfl, upd_same, repL_mono (same_new nf) _ _ hr⟩
theorem RcN.dL {α : Type} {_ : ToPy α} {r : List V → Hp → VK → Prop} {Rs : List RP} {xs : List α} (h : RcN r Rs (oL xs)) : RcD r Rs (rep xs) := RcN.d h
theorem s_catL {α : Type} {_ : ToPy α} {xs ys : List α} (hl : xs.length + ys.length ≤ 1000000) : R2D (rAddX K) (rep xs) (rep ys) (rep (xs ++ ys)) := (s_cat hl).dL
theorem s_repL {α : Type} {_ : ToPy α} {a : α} {k : Int} (h0 : 0 ≤ k) (hk : k ≤ 100000) : R2D (rMulX K) (rep [a]) (rep k) (rep (List.replicate k.toNat a)) := (s_rep h0 hk).dL
theorem c_listD {α : Type} {_ : ToPy α} {xs : List α} : RcD (rListX K) [rep xs] (rep xs) := c_list.dL
theorem c_listTD {α : Type} {_ : ToPy α} {xs : List α} : RcD (rListX K) [rep (Tup.mk xs)] (rep xs) := c_listT.dL
theorem s_negI {i : Int} : R1D rNegI (rep i) (rep (-i)) := s_neg
theorem cmul_l {i j : Int} (h : -(2 ^ 64) < i ∧ i < 2 ^ 64) : CMul i j := .inl h
theorem cmul_r {i j : Int} (h : -(2 ^ 64) < j ∧ j < 2 ^ 64) : CMul i j := .inr h
/-- what a body's end asks where R is handed back -/
theorem bd_retR {nx bk ct : L2.St → Hp → Hp → Prop} (hm : B.m = []) (he : EvS B Γ O te R) {u : TS} : BDe B Γ O (tSeq (tRet te) u) ⟨nx, (fnP B R).rt, bk, ct⟩ := bd_ret he hm fun v f h e r => ⟨e, r⟩
theorem bd_retE {nx bk ct : L2.St → Hp → Hp → Prop} {α : Type} {_ : ToPy α} {a b : α} (hm : B.m = []) (he : EvS B Γ O te (rep a)) (e : a = b) {u : TS} : BDe B Γ O (tSeq (tRet te) u) ⟨nx, (fnP B (rep b)).rt, bk, ct⟩ := bd_retR hm (e ▸ he)
theorem bd_endN (hm : B.m = []) : BDe B Γ O tNext (fnP B (rep ())) := bd_next fun σ f h s => ⟨s.toExt hm, rep_of_unit _⟩
/-- the end of a way that others join -/
theorem bd_join {rt : V → Hp → Hp → Prop} {bk ct : L2.St → Hp → Hp → Prop} : BDe B Γ O tNext ⟨fun σ f h => Sta B Γ O σ f h, rt, bk, ct⟩ := bd_next fun σ f h s => s
theorem bd_joinW {rt : V → Hp → Hp → Prop} {bk ct : L2.St → Hp → Hp → Prop} {Γ' : Ctx} {O' : Own} (w : ∀ σ f h, Sta B Γ O σ f h → Sta B Γ' O' σ f h) : BDe B Γ O tNext ⟨fun σ f h => Sta B Γ' O' σ f h, rt, bk, ct⟩ := bd_next fun σ f h s => w σ f h s
/-- the end of a turn -/
theorem bd_turn {rt : V → Hp → Hp → Prop} {bk ct : L2.St → Hp → Hp → Prop} {Γ' : Ctx} {O' : Own} {F : Prop} (hF : F) (w : ∀ σ f h, Sta B Γ O σ f h → Sta B Γ' O' σ f h) : BDe B Γ O tNext ⟨fun σ f h => F ∧ Sta B Γ' O' σ f h, rt, bk, ct⟩ := bd_next fun σ f h s => ⟨hF, w σ f h s⟩
theorem sta_set_none {Γ : Ctx} {O : Own} {i : Nat} {R : RP} : ∀ σ f h, Sta B (Γ.set i (some R)) O σ f h → Sta B (Γ.set i none) O σ f h :=
  sta_forget (by simp) fun j R' e => by
    by_cases hj : i = j
    · subst hj
      by_cases hl : i < Γ.length
      · rw [List.getElem?_set_self hl] at e; cases e
      · rw [List.getElem?_eq_none (by simpa using Nat.le_of_not_lt hl)] at e; cases e
    · rw [List.getElem?_set_ne hj] at e ⊢
      exact e
theorem ev_lst0 {α : Type} {_ : ToPy α} : EvD Γ (tLst tNil) (rep ([] : List α)) := ev_new en_lst0
theorem ev_lst1 {α : Type} {_ : ToPy α} {a : α} {t : TE} (h : EvD Γ t (rep a)) : EvD Γ (tLst (tCons t tNil)) (rep [a]) := ev_new (en_lst1 h)
theorem ev_lst2 {α : Type} {_ : ToPy α} {a b : α} {t u : TE} (h : EvD Γ t (rep a)) (h2 : EvD Γ u (rep b)) : EvD Γ (tLst (tCons t (tCons u tNil))) (rep [a, b]) := ev_new (en_lst2 h h2)
theorem ev_lst3 {α : Type} {_ : ToPy α} {a b c : α} {t u w : TE} (h : EvD Γ t (rep a)) (h2 : EvD Γ u (rep b)) (h3 : EvD Γ w (rep c)) : EvD Γ (tLst (tCons t (tCons u (tCons w tNil)))) (rep [a, b, c]) := ev_new (en_lst3 h h2 h3)
theorem ev_lst4 {α : Type} {_ : ToPy α} {a b c d : α} {t u w z : TE} (h : EvD Γ t (rep a)) (h2 : EvD Γ u (rep b)) (h3 : EvD Γ w (rep c)) (h4 : EvD Γ z (rep d)) : EvD Γ (tLst (tCons t (tCons u (tCons w (tCons z tNil))))) (rep [a, b, c, d]) := ev_new (en_lst4 h h2 h3 h4)
theorem ev_cut {α : Type} {_ : ToPy α} {xs : List α} {tl th : TO} {lo hi : Option Int} (h : EvD Γ te (rep xs)) (h1 : EvP Γ tl lo) (h2 : EvP Γ th hi) : EvD Γ (tSl (rSlX K) te tl th) (rep (cut xs lo hi)) := ev_new (en_cut h h1 h2)
theorem ev_lc {α : Type} {_ : ToPy α} {wi : TI} {g : TG} {n : Nat} {item : Nat → RP} {vs : List Nat} {val : Nat → α} {te : TE} (hw : WiD Γ wi n item) {G' : Nat → Ctx} (ht : ∀ i, i < n → TgL g vs (item i) (wipeC Γ vs) (G' i))
    (he : ∀ i, i < n → EvD (G' i) te (rep (val i))) (hz : n ≤ 100000) : EvD Γ (tLc wi g tYes te vs) (rep ((List.range n).map val)) := ev_new (en_lc hw ht he hz)
theorem ev_lcIf {α : Type} {_ : ToPy α} {wi : TI} {g : TG} {n : Nat} {item : Nat → RP} {vs : List Nat} {val : Nat → α} {keep : Nat → Bool} {te : TE} (hw : WiD Γ wi n item) {G' : Nat → Ctx} (ht : ∀ i, i < n → TgL g vs (item i) (wipeC Γ vs) (G' i)) (hc : ∀ i, i < n → EvT (G' i) tt (keep i))
    (he : ∀ i, i < n → keep i = true → EvD (G' i) te (rep (val i))) (hz : n ≤ 100000) : EvD Γ (tLc wi g tt te vs) (rep (((List.range n).filter keep).map val)) := ev_new (en_lcIf hw ht hc he hz)
end
end D

set_option Elab.async false
set_option linter.all false
set_option maxRecDepth 100000
set_option maxHeartbeats 4000000
namespace D
open PySem PySem.Spec PyProof.Rows L2
open ToPy (py)
/-- what is forgotten of the slots -/
inductive Fg : Ctx → Ctx → Prop where
  | nil : Fg [] []
  | same {G G' : Ctx} {x : Option RP} (h : Fg G G') : Fg (x :: G) (x :: G')
  | drop {G G' : Ctx} {x : Option RP} (h : Fg G G') : Fg (x :: G) (none :: G')
  | eq {G G' : Ctx} {R R' : RP} (e : R = R') (h : Fg G G') : Fg (some R :: G) (some R' :: G')
theorem Fg.to {G G' : Ctx} (h : Fg G G') : G'.length = G.length ∧ ∀ (i : Nat) (R : RP), G'[i]? = some (some R) → G[i]? = some (some R) := by
  induction h with
  | nil => exact ⟨rfl, fun _ _ e => e⟩
  | same h ih =>
    refine ⟨by simp [ih.1], fun i R e => ?_⟩
    cases i with
    | zero => exact e
    | succ i => exact ih.2 i R (by simpa using e)
  | drop h ih =>
    refine ⟨by simp [ih.1], fun i R e => ?_⟩
    cases i with
    | zero => simp at e
    | succ i => exact ih.2 i R (by simpa using e)
  | eq q h ih =>
    refine ⟨by simp [ih.1], fun i R e => ?_⟩
    cases i with
    | zero => rw [q]; exact e
    | succ i => exact ih.2 i R (by simpa using e)
theorem Fg.sta {B : Base} {G G' : Ctx} {O O' : Own} (h : Fg G G') (e : O = O') : ∀ σ f hp, Sta B G O σ f hp → Sta B G' O' σ f hp := fun σ f hp s => e ▸ sta_forget h.to.1 h.to.2 σ f hp s
theorem bd_turnE {B : Base} {Γ Γ' : Ctx} {O O' : Own} {rt : V → Hp → Hp → Prop} {bk ct : L2.St → Hp → Hp → Prop} {F : Prop} (hF : F) (ho : O = O') (g : Fg Γ Γ') : BDe B Γ O tNext ⟨fun σ f h => F ∧ Sta B Γ' O' σ f h, rt, bk, ct⟩ := bd_turn hF (g.sta ho)
theorem bd_joinE {B : Base} {Γ Γ' : Ctx} {O O' : Own} {rt : V → Hp → Hp → Prop} {bk ct : L2.St → Hp → Hp → Prop} (ho : O = O') (g : Fg Γ Γ') : BDe B Γ O tNext ⟨fun σ f h => Sta B Γ' O' σ f h, rt, bk, ct⟩ := bd_joinW (g.sta ho)
theorem bd_nil (α : Type) [ToPy α] {B : Base} {Γ : Ctx} {O : Own} {i : Nat} {u : TS} {P : Post} (hr : ∀ p, BDe B (Γ.set i (some (own p))) ((p, oL ([] : List α)) :: O) u P) : BDe B Γ O (tSeq (tAsg (tLst tNil) (gName i)) u) P := bd_own (en_lst0 (α := α)).s hr
theorem bd_forE {B : Base} {Γ : Ctx} {O : Own} {wi : TI} {n : Nat} {item : Nat → RP} {g : TG} {tb u : TS} {P : Post} (G : Nat → Ctx) (W : Nat → Own) (F : Nat → Prop) (hw : WiS B Γ O wi n item) (fg : Fg Γ (G 0)) (ho : O = W 0) (f0 : F 0) {G' : Nat → Ctx}
    (ht : ∀ i, i < n → TgD g (item i) (G i) (G' i))
    (hb : ∀ i, i < n → F i → BDe B (G' i) (W i) tb ⟨fun σ f h => F (i + 1) ∧ Sta B (G (i + 1)) (W (i + 1)) σ f h, P.rt, fun _ _ _ => False, fun σ f h => F (i + 1) ∧ Sta B (G (i + 1)) (W (i + 1)) σ f h⟩)
    (hn : F n → BDe B (G n) (W n) u P) : BDe B Γ O (tSeq (tFor wi g tb) u) P := bd_for hw G W F (fg.sta ho) f0 ht hb hn
/-! ### isinstance of data -/
def tyR (n : String) : RP := ⟨fun v _ => v = .ty n, fun h _ => h⟩
theorem ev_ty {Γ : Ctx} {n : String} : EvD Γ (tC (.ty n)) (tyR n) := ev_c fun _ => rfl
def NoDict : PyData → Prop
  | .dict _ => False
  | _ => True
theorem kit_int (d : PyData) : kitB (tyName d) "int" = some (isi d "int") := by cases d <;> (simp only [isi, tyName]; decide +kernel)
theorem kit_bool (d : PyData) : kitB (tyName d) "bool" = some (isi d "bool") := by cases d <;> (simp only [isi, tyName]; decide +kernel)
theorem kit_str (d : PyData) : kitB (tyName d) "str" = some (isi d "str") := by cases d <;> (simp only [isi, tyName]; decide +kernel)
theorem kit_list (d : PyData) : kitB (tyName d) "list" = some (isi d "list") := by cases d <;> (simp only [isi, tyName]; decide +kernel)
theorem kit_tuple (d : PyData) : kitB (tyName d) "tuple" = some (isi d "tuple") := by cases d <;> (simp only [isi, tyName]; decide +kernel)
theorem ty_of {K : PySem.W.Frag} {H : Hp} : ∀ (d : PyData) (v : V), repD d v H → TyX K H v (.type (tyName d))
  | .none, _, h => by simp only [repD] at h; subst h; exact .base .non
  | .bool b, _, h => by simp only [repD] at h; subst h; exact .base (.bl b)
  | .int i, _, h => by simp only [repD] at h; subst h; exact .base (.int i)
  | .str x, _, h => by simp only [repD] at h; subst h; exact .base (.str x)
  | .list ds, _, h => by
    simp only [repD] at h
    obtain ⟨p, vs, e, h1, h2⟩ := h
    subst e
    exact .base (.lst h1)
  | .tuple ds, _, h => by
    simp only [repD] at h
    obtain ⟨p, vs, e, h1, h2⟩ := h
    subst e
    exact .base (.tup h1)
  | .dict _, _, h => by simp only [repD] at h
theorem c_isi {K : PySem.W.Frag} {d : PyData} {n : String} (h : kitB (tyName d) n = some (isi d n)) : RcD (rIsi K) [rpD d, tyR n] (rep (isi d n)) := fun vs f hp s rs Q q => by
  obtain ⟨v, u, rfl, rv, ru⟩ := rs.two
  cases ru
  exact ⟨v, .ty n, .type (tyName d), .type n, isi d n, rfl, .ty n, ty_of d v (repD_mono s d v rv), kit_ty h, q _ f hp (.refl s) (rep_of_bool _ _)⟩
theorem c_isInt {K : PySem.W.Frag} {d : PyData} : RcD (rIsi K) [rpD d, tyR "int"] (rep (isi d "int")) := c_isi (kit_int d)
theorem c_isBool {K : PySem.W.Frag} {d : PyData} : RcD (rIsi K) [rpD d, tyR "bool"] (rep (isi d "bool")) := c_isi (kit_bool d)
theorem c_isStr {K : PySem.W.Frag} {d : PyData} : RcD (rIsi K) [rpD d, tyR "str"] (rep (isi d "str")) := c_isi (kit_str d)
theorem c_isList {K : PySem.W.Frag} {d : PyData} : RcD (rIsi K) [rpD d, tyR "list"] (rep (isi d "list")) := c_isi (kit_list d)
theorem c_isTup {K : PySem.W.Frag} {d : PyData} : RcD (rIsi K) [rpD d, tyR "tuple"] (rep (isi d "tuple")) := c_isi (kit_tuple d)
section
variable {K : PySem.W.Frag} {α β γ : Type} [ToPy α] [ToPy β] [ToPy γ]
theorem c_lI {xs : List α} : RcD (rIsi K) [rep xs, tyR "list"] (rep true) := c_isList (d := .list (xs.map py))
theorem c_tI {xs : List α} : RcD (rIsi K) [rep (Tup.mk xs), tyR "tuple"] (rep true) := c_isTup (d := .tuple (xs.map py))
theorem c_pI {x : α × β} : RcD (rIsi K) [rep x, tyR "tuple"] (rep true) := c_isTup (d := .tuple [py x.1, py x.2])
theorem c_t3I {x : T3 α β γ} : RcD (rIsi K) [rep x, tyR "tuple"] (rep true) := c_isTup (d := .tuple [py x.a, py x.b, py x.c])
theorem c_lenP {x : α × β} : RcD (rLenX K) [rep x] (rep (2 : Int)) := c_lenT (ds := [py x.1, py x.2])
theorem c_len3 {x : T3 α β γ} : RcD (rLenX K) [rep x] (rep (3 : Int)) := c_lenT (ds := [py x.a, py x.b, py x.c])
theorem c_sI {x : Str} : RcD (rIsi K) [rep x, tyR "str"] (rep true) := c_isStr (d := .str x)
theorem c_iI {x : Int} : RcD (rIsi K) [rep x, tyR "int"] (rep true) := c_isInt (d := .int x)
theorem c_iB {x : Int} : RcD (rIsi K) [rep x, tyR "bool"] (rep false) := c_isBool (d := .int x)
end
section
variable {B : Base} {Γ Γ' : Ctx} {O O' : Own} {te ta : TE} {t t1 t2 u : TS} {P : Post}
theorem bd_assoc (h : BDe B Γ O (tSeq t1 (tSeq t2 u)) P) : BDe B Γ O (tSeq (tSeq t1 t2) u) P := h
theorem bd_skip (h : BDe B Γ O u P) : BDe B Γ O (tSeq tNext u) P := h
theorem map_snoc {α : Type} {g : Nat → α} {a : α} {n : Nat} (e : a = g n) : (List.range n).map g ++ [a] = (List.range (n + 1)).map g := by
  rw [List.range_succ, List.map_append, e]
  rfl
/-- an item more of a list that is a map over the turns -/
theorem bd_appR {K : PySem.W.Frag} {α : Type} {_ : ToPy α} {g : Nat → α} {n : Nat} {a : α} {p : Addr} {to : TE} (j : Nat) (ho : EvD Γ to (own p)) (hj : O[j]? = some (p, oL ((List.range n).map g))) (he : EvS B Γ O te (rep a)) (e : a = g n) (hz : n < 1000000)
    (k : BDe B Γ (O.set j (p, oL ((List.range (n + 1)).map g))) u P) : BDe B Γ O (tSeq (tDrop (tBM K "list" rAppend to (tCons te tNil))) u) P := by
  refine bd_app j ho hj he (by simpa using hz) ?_
  rw [map_snoc e]
  exact k
end
/-- where the classes of the text stand -/
structure Cs where
  Problem : Addr
  Tableau : Addr
  Search : Addr
  CutError : Addr
  BadProblem : Addr
  BadPoint : Addr
  BadBox : Addr
  BadWeights : Addr
  NoTurn : Addr
  BadText : Addr
def tRaiseC (E : XK) (C : Addr) : TS := fun _ σ H => E (.ref C) none H
def tCallE (sp : Sp) (E : XK) (t : TA) : TE := fun σ H Q => t σ H fun vs H1 => sp vs H1 Q E
/-- an expression that raises -/
def EvX (Γ : Ctx) (te : TE) (E : XK) (C : Addr) : Prop := ∀ σ f h, Same f h → Ok Γ σ f → (∀ f' h', Ext f h f' h' → E (.ref C) none h') → ∀ Q, te σ h Q
/-- nothing is reached -/
def noP : Post := ⟨fun _ _ _ => False, fun _ _ _ => False, fun _ _ _ => False, fun _ _ _ => False⟩
def Raises (B : Base) (E : XK) (C : Addr) : Prop := ∀ f h, Ext B.f B.h f h → E (.ref C) none h
section
variable {B : Base} {Γ Γ' : Ctx} {O O' : Own} {te ta : TE} {t : TA} {tt : TT} {R : RP} {Rs : List RP} {u t1 t2 : TS} {P : Post} {i : Nat} {E : XK} {C : Addr} {S : Spec} {SE : List RP → Addr → Prop} {b : Bool}
theorem bd_raise (hm : B.m = []) (hE : Raises B E C) : BDe B Γ O (tSeq (tRaiseC E C) u) P := fun L σ f h s l D p => hE f h (s.toExt hm)
theorem ev_callE (ha : EvA Γ t Rs) (hS : S Rs R) : EvD Γ (tCallE (spX S SE) E t) R := fun σ f hp s ok Q q =>
  ha σ f hp s ok _ fun vs f1 h1 e rs => ⟨Rs, f1, e.fh, rs, .inl ⟨R, hS, fun v f' H' e2 rv => q v f' H' (e.trans e2) rv⟩⟩
theorem ex_callE (ha : EvA Γ t Rs) (hS : SE Rs C) : EvX Γ (tCallE (spX S SE) E t) E C := fun σ f hp s ok q Q =>
  ha σ f hp s ok _ fun vs f1 h1 e rs => ⟨Rs, f1, e.fh, rs, .inr ⟨C, hS, fun f' H' e2 => q f' H' (e.trans e2)⟩⟩
theorem bd_dropX (hm : B.m = []) (hE : Raises B E C) (he : EvX Γ te E C) : BDe B Γ O (tSeq (tDrop te) u) P := fun L σ f h s l D p =>
  he σ f h s.fh s.ok (fun f' h' e => hE f' h' ((s.toExt hm).trans e)) _
theorem bd_setX (hm : B.m = []) (hE : Raises B E C) (he : EvX Γ te E C) : BDe B Γ O (tSeq (tAsg te (gName i)) u) P := fun L σ f h s l D p =>
  he σ f h s.fh s.ok (fun f' h' e => hE f' h' ((s.toExt hm).trans e)) _
theorem bd_retX (hm : B.m = []) (hE : Raises B E C) (he : EvX Γ te E C) : BDe B Γ O (tSeq (tRet te) u) P := fun L σ f h s l D p =>
  he σ f h s.fh s.ok (fun f' h' e => hE f' h' ((s.toExt hm).trans e)) _
end
section
variable {X : Cx} {k j : Nat} {x : Str} {ps : List Str} {sp : Sp} {p pos : Pos} {e : Expr} {es : List Expr} {t : TA} {E : XK}
theorem pe_globI {i : Int} {pos : Pos} (hm : ∃ t, X.mg x = some (.int i t)) (hg : Gl X x := by rfl) (hd : (x == ("__debug__" : Str)) = false := by decide) : PE X (.Name x pos) (tC (.int i)) := by
  obtain ⟨t, h⟩ := hm
  exact pe_glob hg h ⟨t, rfl⟩ hd
theorem pe_globS {i : Str} {pos : Pos} (hm : ∃ t, X.mg x = some (.str i t)) (hg : Gl X x := by rfl) (hd : (x == ("__debug__" : Str)) = false := by decide) : PE X (.Name x pos) (tC (.str i)) := by
  obtain ⟨t, h⟩ := hm
  exact pe_glob hg h ⟨t, rfl⟩ hd
theorem pe_callE (F : Okd X.prog X.w X.K X.mg X.base (L2.CX X.prog X.w) k x ps sp) (hr : Room j X.A) (tk : Takes X (fun cls d _ H => E cls d H)) (ha : PA X (e :: es) t) (hk : k ≤ j := by decide) (hg : Gl X x := by rfl) (hdb : (x == ("__debug__" : Str)) = false := by decide)
    (he : starEach (e :: es) X.env = (false, eval e X.env) :: starEach es X.env := by rfl) (hpl : (backTo pos (starEach es X.env)).any (·.1) = false := by rfl) :
    PE X (.Call (.Name x p) (e :: es) [] pos) (tCallE sp E t) := by
  obtain ⟨f, fd, h1, h2, h3, h4⟩ := F
  exact pe_callS (E := WE (fun cls d _ H => E cls d H)) h4 (hr.mono hk) hg h1 h2 h3 (fun σ => passAt tk σ) ha hdb he hpl
end
section
variable {P : Program} {w : World} {K : PySem.W.Frag} {mg : Str → Option Value} {base : Heap} {x q : Str} {st : Stmt} {N ps : List Str} {k : Nat} {S : Spec} {SE : List RP → Addr → Prop} {t : XK → TS}
abbrev cxX (P : Program) (w : World) (K : PySem.W.Frag) (mg : Str → Option Value) (base : Heap) (N : List Str) (q : Str) (st : Stmt) (f : Addr) (cdv : Value) (A : Around) (outer : List Env) (s : Shared) (H : Hp) (E : XK) : Cx := cxOf (L2.CX P w) P w K mg base N q (defScope st) f cdv A outer s H E
theorem okdX (F : Def K mg x st ps) (sc : FnScope N ps (defScope st)) (hlen : ∀ Rs R, S Rs R → Rs.length = ps.length) (hlenE : ∀ Rs C, SE Rs C → Rs.length = ps.length)
    (hps : ∀ (f : Addr) (cdv : Value) (A : Around) (outer : List Env) (s : Shared) (H : Hp) (E : XK), Room k (A.deeper (envOfC x (defScope st) s.heap.objs.size f cdv)) → PSs (cxX P w K mg base N x st f cdv A outer s H E) (defBody st) (t E))
    (ev : ∀ Rs R, S Rs R → ∀ (B : Base) (E : XK), B.m = [] → BDe B (startC N Rs) [] (t E) (fnP B R))
    (evE : ∀ Rs C, SE Rs C → ∀ (B : Base) (E : XK), B.m = [] → D.Raises B E C → BDe B (startC N Rs) [] (t E) noP) : Okd P w K mg base (L2.CX P w) (k + 1) x ps (spX S SE) := by
  obtain ⟨f, fd, hF, hm, hb⟩ := F
  refine ⟨f, fd, hm, hF.kp, hb, hF.okX sc (fun vs H Q E h => ?_) fun cdv A outer s H vs Q E hr h => ⟨t E, hps f cdv A outer s H E hr, ?_⟩⟩
  · obtain ⟨Rs, f, _, a, ⟨R, hS, _⟩ | ⟨C, hS, _⟩⟩ := h
    · rw [a.length, hlen Rs R hS]
    · rw [a.length, hlenE Rs C hS]
  · obtain ⟨Rs, f, s0, a, ⟨R, hS, k⟩ | ⟨C, hS, k⟩⟩ := h
    · refine ev Rs R hS ⟨f, H, []⟩ E rfl f (L2.start N vs) f H ?_ (.refl _) _ ⟨fun σ f' h' _ z => k .non f' h' z.1 z.2, fun v f' h' _ z => k v f' h' z.1 z.2, fun _ _ _ _ z => z.elim, fun _ _ _ _ z => z.elim⟩
      exact { ff := .refl _, fh := s0, hh := fun a o e _ => e, th := fun _ n => n, nf := fun _ _ e => e, ok := ok_start a, ow := fun _ _ z => (nomatch z), nd := List.nodup_nil }
    · refine evE Rs C hS ⟨f, H, []⟩ E rfl (fun f' h' e => k f' h' e) f (L2.start N vs) f H ?_ (.refl _) _ ⟨fun σ f' h' _ z => z.elim, fun v f' h' _ z => z.elim, fun _ _ _ _ z => z.elim, fun _ _ _ _ z => z.elim⟩
      exact { ff := .refl _, fh := s0, hh := fun a o e _ => e, th := fun _ n => n, nf := fun _ _ e => e, ok := ok_start a, ow := fun _ _ z => (nomatch z), nd := List.nodup_nil }
end
end D

set_option Elab.async false
set_option linter.all false
set_option maxRecDepth 100000
set_option maxHeartbeats 4000000
namespace D
open PySem PySem.Spec PyProof.Rows L2
open ToPy (py)
/-! ### try: f(..) except C as e: .. -/
def tUnder (cls : Value) (d : Option Addr) (C : Addr) (t : TS) : TS := fun D σ H => (cls = .ref C ∧ d = none) ∧ t D σ H
theorem pss_under {X : Cx} {ss : List Stmt} {cls : Value} {d : Option Addr} {C : Addr} {t : TS} (h : cls = .ref C → d = none → PSs X ss t) : PSs X ss (tUnder cls d C t) :=
  ⟨fun pins s σ H D I z => (h z.1.1 z.1.2).run pins s σ H D I z.2⟩
/-- the try's reading -/
def tTry (K : PySem.W.Frag) (C : Addr) (i : Nat) (tb : WX → TS) (ts : Addr → TS) : TS := fun D σ H => tb (wAs K (.ref C) i (fun a cls d => tUnder cls d C (ts a)) (fun _ _ _ _ => False) D) D σ H
theorem ps_tryD {X : Cx} {x n : Str} {C : Addr} {i : Nat} {body suite : List Stmt} {b₀ : Stmt} {np pos pos' : Pos} {tb : WX → TS} {ts : Addr → TS} (gC : X.mg x = some (.ref C)) (ec : ExcC X.K C)
    (hb : ∀ (W : WX) (pn : List (Addr × Obj)) (xe : Value → Shared → Prop), Takes (X.tr pn xe) W → PSs (X.tr pn xe) body (tb W))
    (hsu : ∀ (a : Addr) (oe : Obj) (pn : List (Addr × Obj)), Zc (.ref C) none oe → (∃ vs, oe.data = .fields vs) → PSs (X.suite a ((a, oe) :: pn)) (b₀ :: suite) (ts a))
    (hs : X.stack = X.env :: X.outer := by rfl) (hf : X.env.frame = some X.env.locals := by rfl) (hN : X.N.Nodup) (hi : X.N[i]? = some n := by rfl) (hln : X.env.kindOf n = some .local := by rfl) (gx : Gl X x := by rfl) (dx : (x == ("__debug__" : Str)) = false := by decide) :
    PS X (.Try body [.ExceptHandler (some (.Name x np)) (some n) (b₀ :: suite) pos'] [] [] pos) (tTry X.K C i tb ts) :=
  ps_try_as hs hf hN hi hln ⟨gx, dx, .inl gC⟩ takes0 (fun W pn xe tk _ => hb W pn xe tk) fun a oe cls d pn hz hv => pss_under fun e1 e2 => by
    subst e1 e2
    exact hsu a oe pn hz hv
section
variable {X : Cx} {k j : Nat} {x : Str} {ps : List Str} {sp : Sp} {p pos : Pos} {e : Expr} {es : List Expr} {t : TA} {W : WX}
theorem pe_callW (F : Okd X.prog X.w X.K X.mg X.base (L2.CX X.prog X.w) k x ps sp) (hr : Room j X.A) (tk : Takes X W) (ha : PA X (e :: es) t) (hk : k ≤ j := by decide) (hg : Gl X x := by rfl) (hdb : (x == ("__debug__" : Str)) = false := by decide)
    (he : starEach (e :: es) X.env = (false, eval e X.env) :: starEach es X.env := by rfl) (hpl : (backTo pos (starEach es X.env)).any (·.1) = false := by rfl) :
    PE X (.Call (.Name x p) (e :: es) [] pos) (tCallS sp (WE W) t) := by
  obtain ⟨f, fd, h1, h2, h3, h4⟩ := F
  exact pe_callS h4 (hr.mono hk) hg h1 h2 h3 (fun σ => passAt tk σ) ha hdb he hpl
/-- isinstance(e, T) of the exception at hand -/
theorem pe_isEC {i : Nat} {a C T : Addr} {oe : Obj} {pn : List (Addr × Obj)} {n x : Str} {p0 p1 p2 : Pos} (ec : ExcC X.K C) (hz : Zc (.ref C) none oe) (hf : ∃ vs, oe.data = .fields vs) (hv : PE (X.suite a ((a, oe) :: pn)) (.Name n p1) (tVar i)) (gT : X.mg x = some (.ref T)) (bi : X.mg "isinstance" = none)
    (gi : Gl X "isinstance" := by rfl) (gx : Gl X x := by rfl) (dx : (x == ("__debug__" : Str)) = false := by decide)
    (he : starEach ([.Name n p1, .Name x p2] : List Expr) X.env = (false, eval (.Name n p1) X.env) :: starEach [.Name x p2] X.env := by rfl) (he2 : starEach ([.Name x p2] : List Expr) X.env = (false, eval (.Name x p2) X.env) :: starEach [] X.env := by rfl) (hpl : (backTo pos (starEach ([.Name x p2] : List Expr) X.env)).any (·.1) = false := by rfl) :
    PE (X.suite a ((a, oe) :: pn)) (.Call (.Name "isinstance" p0) [.Name n p1, .Name x p2] [] pos) (tCB (rIsE X.K C a) (tCons (tVar i) (tCons (tC (.ref T)) tNil))) :=
  pe_callB (X := X.suite a ((a, oe) :: pn)) (call_isE ec hz hf) gi bi b_isi (pa_cons hv (pa_cons (pe_glob (X := X.suite a ((a, oe) :: pn)) gx gT rfl dx) pa_nil he2) he) (by decide) (by decide) he hpl
theorem pe_isET {i : Nat} {a C : Addr} {T : String} {oe : Obj} {pn : List (Addr × Obj)} {n x : Str} {p0 p1 p2 : Pos} (ec : ExcC X.K C) (hz : Zc (.ref C) none oe) (hf : ∃ vs, oe.data = .fields vs) (hv : PE (X.suite a ((a, oe) :: pn)) (.Name n p1) (tVar i)) (bT : X.mg x = none) (bx : bootBuiltins x = some (.type T)) (bi : X.mg "isinstance" = none)
    (gi : Gl X "isinstance" := by rfl) (gx : Gl X x := by rfl) (nx : x ≠ "__name__" := by decide) (dx : (x == ("__debug__" : Str)) = false := by decide)
    (he : starEach ([.Name n p1, .Name x p2] : List Expr) X.env = (false, eval (.Name n p1) X.env) :: starEach [.Name x p2] X.env := by rfl) (he2 : starEach ([.Name x p2] : List Expr) X.env = (false, eval (.Name x p2) X.env) :: starEach [] X.env := by rfl) (hpl : (backTo pos (starEach ([.Name x p2] : List Expr) X.env)).any (·.1) = false := by rfl) :
    PE (X.suite a ((a, oe) :: pn)) (.Call (.Name "isinstance" p0) [.Name n p1, .Name x p2] [] pos) (tCB (rIsE X.K C a) (tCons (tVar i) (tCons (tC (.ty T)) tNil))) :=
  pe_callB (X := X.suite a ((a, oe) :: pn)) (call_isE ec hz hf) gi bi b_isi (pa_cons hv (pa_cons (pe_bltn (X := X.suite a ((a, oe) :: pn)) gx bT bx rfl nx dx) pa_nil he2) he) (by decide) (by decide) he hpl
end
/-- a body that raises C -/
def TBe (B : Base) (Γ : Ctx) (O : Own) (tb : WX → TS) (C : Addr) : Prop := ∀ L σ f h, Sta B Γ O σ f h → Same L f → ∀ (D : Ends) (W : WX), (∀ f' h', Sta B Γ O σ f' h' → Same L f' → W (.ref C) none σ h') → tb W D σ h
section
variable {B : Base} {Γ : Ctx} {O : Own} {tb t1 t2 : WX → TS} {C : Addr} {t : TA} {Rs : List RP} {S : Spec} {SE : List RP → Addr → Prop} {tt : TT} {b : Bool} {P : Post} {u : TS} {K : PySem.W.Frag} {i : Nat} {ts : Addr → TS}
theorem tbe_drop (ha : EvA Γ t Rs) (hS : SE Rs C) : TBe B Γ O (fun W => tSeq (tDrop (tCallS (spX S SE) (WE W) t)) tNext) C := fun L σ f h s l D W hW =>
  ha σ f h s.fh s.ok _ fun vs f1 h1 e rs => ⟨Rs, f1, e.fh, rs, .inr ⟨C, hS, fun f' H' e2 => hW f' H' (s.ext (e.trans e2)) (l.trans (e.trans e2).ff)⟩⟩
theorem tbe_if (hc : EvT Γ tt b) (h1 : b = true → TBe B Γ O t1 C) (h2 : b = false → TBe B Γ O t2 C) : TBe B Γ O (fun W => tSeq (tIfS tt (t1 W) (t2 W)) tNext) C := fun L σ f h s l D W hW =>
  hc σ f h s.fh s.ok _ fun f1 hp1 e => by
    cases b with
    | true => exact iteT (h1 rfl L σ f1 hp1 (s.ext e) (l.trans e.ff) _ W hW)
    | false => exact iteF (h2 rfl L σ f1 hp1 (s.ext e) (l.trans e.ff) _ W hW)
theorem bd_try (hb : TBe B Γ O tb C) (he : PySem.W.exmOne K (.ref C) (.ref C) = some true) (hs : ∀ a, BDe B (Γ.set i (some (own a))) O (ts a) ⟨fun _ _ _ => False, P.rt, fun _ _ _ => False, fun _ _ _ => False⟩) : BDe B Γ O (tSeq (tTry K C i tb ts) u) P := fun L σ f h s l D p =>
  hb L σ f h s l _ _ fun f' h' s' l' => ⟨true, he, fun _ a _ => ⟨⟨rfl, rfl⟩, hs a L _ f' h' { s' with ok := s'.ok.set i rfl } l' _ ⟨fun _ _ _ _ z => z.elim, p.rt, fun _ _ _ _ z => z.elim, fun _ _ _ _ z => z.elim⟩⟩, fun z => nomatch z⟩
theorem c_isE {a C T : Addr} {b : Bool} (h : PySem.W.kitOne K (.ref C) (.ref T) = some b) : RcD (rIsE K C a) [own a, own T] (rep b) := fun vs f hp s rs Q q => by
  obtain ⟨v, u, rfl, rv, ru⟩ := rs.two
  cases rv
  cases ru
  exact ⟨.ref T, .ref T, b, rfl, fun u r => r, h, q _ f hp (.refl s) (rep_of_bool _ _)⟩
theorem c_isET {a C : Addr} {n : String} {b : Bool} (h : PySem.W.kitOne K (.ref C) (.type n) = some b) : RcD (rIsE K C a) [own a, tyR n] (rep b) := fun vs f hp s rs Q q => by
  obtain ⟨v, u, rfl, rv, ru⟩ := rs.two
  cases rv
  cases ru
  exact ⟨.ty n, .type n, b, rfl, fun u r => r, h, q _ f hp (.refl s) (rep_of_bool _ _)⟩
theorem ev_isE {a C T : Addr} {b : Bool} (hv : Γ[i]? = some (some (own a))) (h : PySem.W.kitOne K (.ref C) (.ref T) = some b) : EvD Γ (tCB (rIsE K C a) (tCons (tVar i) (tCons (tC (.ref T)) tNil))) (rep b) := ev_cb (ea_cons (ev_var hv) (ea_cons (ev_c fun _ => rfl) ea_nil)) (c_isE h)
theorem ev_isET {a C : Addr} {n : String} {b : Bool} (hv : Γ[i]? = some (some (own a))) (h : PySem.W.kitOne K (.ref C) (.type n) = some b) : EvD Γ (tCB (rIsE K C a) (tCons (tVar i) (tCons (tC (.ty n)) tNil))) (rep b) := ev_cb (ea_cons (ev_var hv) (ea_cons (ev_c fun _ => rfl) ea_nil)) (c_isET h)
theorem ev_cls {T : Addr} : EvD Γ (tC (.ref T)) (own T) := ev_c fun _ => rfl
end
end D

set_option Elab.async false
set_option linter.all false
set_option maxRecDepth 100000
set_option maxHeartbeats 4000000
namespace D
open PySem PySem.Spec PyProof.Rows L2
open ToPy (py)
/-! ### data that may be compared: its shape -/
structure Shd (d : PyData) (n : Nat) : Prop where
  lay : d.canLay0 = true
  dep : d.depth ≤ n
theorem Shd.ok {d : PyData} {n : Nat} (h : Shd d n) (hn : n ≤ 64 := by decide) : SeqAt.shaped d = true := by
  unfold SeqAt.shaped
  rw [h.lay, decide_eq_true (Nat.le_trans h.dep hn)]
  rfl
theorem shd_int (i : Int) : Shd (.int i) 0 := ⟨by simp only [PyData.canLay0], by simp only [PyData.depth]; exact Nat.le_refl _⟩
theorem shd_bool (i : Bool) : Shd (.bool i) 0 := ⟨by simp only [PyData.canLay0], by simp only [PyData.depth]; exact Nat.le_refl _⟩
theorem shd_none : Shd .none 0 := ⟨by simp only [PyData.canLay0], by simp only [PyData.depth]; exact Nat.le_refl _⟩
theorem shd_str {x : Str} (h : PyData.strOk x = true) : Shd (.str x) 0 := ⟨by simp only [PyData.canLay0]; exact h, by simp only [PyData.depth]; exact Nat.le_refl _⟩
theorem lay_all : ∀ {ds : List PyData}, (∀ d ∈ ds, d.canLay0 = true) → PyData.canLayAll0 ds = true
  | [], _ => by simp only [PyData.canLayAll0]
  | d :: ds, h => by
    simp only [PyData.canLayAll0, Bool.and_eq_true]
    exact ⟨h d (by simp), lay_all fun e he => h e (List.mem_cons_of_mem _ he)⟩
theorem dep_all {n : Nat} : ∀ {ds : List PyData}, (∀ d ∈ ds, d.depth ≤ n) → PyData.depthAll ds ≤ n
  | [], _ => by simp only [PyData.depthAll]; omega
  | d :: ds, h => by
    simp only [PyData.depthAll]
    exact Nat.max_le.mpr ⟨h d (by simp), dep_all fun e he => h e (List.mem_cons_of_mem _ he)⟩
theorem shd_list {ds : List PyData} {n : Nat} (h : ∀ d ∈ ds, Shd d n) : Shd (.list ds) (n + 1) :=
  ⟨by simp only [PyData.canLay0]; exact lay_all fun d hd => (h d hd).lay, by simp only [PyData.depth]; exact Nat.succ_le_succ (dep_all fun d hd => (h d hd).dep)⟩
theorem shd_tup {ds : List PyData} {n : Nat} (h : ∀ d ∈ ds, Shd d n) : Shd (.tuple ds) (n + 1) :=
  ⟨by simp only [PyData.canLay0]; exact lay_all fun d hd => (h d hd).lay, by simp only [PyData.depth]; exact Nat.succ_le_succ (dep_all fun d hd => (h d hd).dep)⟩
theorem Shd.mono {d : PyData} {m n : Nat} (h : Shd d m) (k : m ≤ n) : Shd d n := ⟨h.lay, Nat.le_trans h.dep k⟩
theorem shL {α : Type} [ToPy α] {xs : List α} {n : Nat} (h : ∀ x ∈ xs, Shd (py x) n) : Shd (py xs) (n + 1) := shd_list (ds := xs.map py) fun d hd => by
  obtain ⟨x, hx, rfl⟩ := List.mem_map.mp hd
  exact h x hx
theorem sh_ints (xs : List Int) : Shd (py xs) 1 := shL fun x _ => shd_int x
theorem sh_ints2 (xs : List (List Int)) : Shd (py xs) 2 := shL fun x _ => sh_ints x
section
variable {K : PySem.W.Frag} {α : Type} [ToPy α] {n : Nat}
theorem s_eqSame {a : α} (h : Shd (py a) n) (hn : n ≤ 64 := by decide) : R2D (rEqX K) (rep a) (rep a) (rep true) := by
  have z := s_eqD (K := K) (h.ok hn) (h.ok hn)
  rw [SeqAt.eqv_refl _ h.lay] at z
  exact z
theorem s_neSame {a : α} (h : Shd (py a) n) (hn : n ≤ 64 := by decide) : R2D (rNeX K) (rep a) (rep a) (rep false) := by
  have z := s_neD (K := K) (h.ok hn) (h.ok hn)
  rw [SeqAt.eqv_refl _ h.lay] at z
  exact z
theorem s_eqA {β : Type} [ToPy β] {a : α} {b : β} {m : Nat} (h : Shd (py a) n) (h' : Shd (py b) m) (hn : n ≤ 64 := by decide) (hm : m ≤ 64 := by decide) : R2D (rEqX K) (rep a) (rep b) (rep (PyData.eqv (py a) (py b))) := s_eqD (h.ok hn) (h'.ok hm)
theorem s_neA {β : Type} [ToPy β] {a : α} {b : β} {m : Nat} (h : Shd (py a) n) (h' : Shd (py b) m) (hn : n ≤ 64 := by decide) (hm : m ≤ 64 := by decide) : R2D (rNeX K) (rep a) (rep b) (rep (!PyData.eqv (py a) (py b))) := s_neD (h.ok hn) (h'.ok hm)
end
/-! ### the cells of the script -/
def cellAt (ns : List Int) (k : Int) : Int := (((if 0 < ns.length then ix ns (k % ns.length) else 0) + 17 * k) * 48271) % 1000003
def S_law_cell_at (K : PySem.W.Frag) (c : Cs) : Spec := fun Rs R => ∃ (ns : List Int) (k : Int), Rs = [scr K ns, rep k] ∧ 0 ≤ k ∧ k < 1000 ∧ R = rep (cellAt ns k)
theorem spec_cell {K : PySem.W.Frag} {c : Cs} {ns : List Int} {k : Int} (h0 : 0 ≤ k) (h1 : k < 1000) : S_law_cell_at K c [scr K ns, rep k] (rep (cellAt ns k)) := ⟨ns, k, rfl, h0, h1, rfl⟩
theorem cell_pos (ns : List Int) (k : Int) : 0 ≤ cellAt ns k := Int.emod_nonneg _ (by decide)
theorem cell_lt (ns : List Int) (k : Int) : cellAt ns k < 1000003 := Int.emod_lt_of_pos _ (by decide)
/-! ### a walk over a list or a tuple -/
def iLT (K : PySem.W.Frag) (t : TE) : TI := fun σ H R => iList K t σ H R ∨ iTup K t σ H R
theorem pi_lt {X : Cx} {tg e : Expr} {t : TE} (h : PE X e t) : PI X tg e (iLT X.K t) := ⟨fun pins s σ H R I w => by
  rcases w with w | w
  · exact (pi_list h).run pins s σ H R I w
  · exact (pi_tup h).run pins s σ H R I w⟩
section
variable {K : PySem.W.Frag} {Γ : Ctx} {tl : TE} {it : Nat → RP}
theorem wi_ltL {n : Nat} (h : WiD Γ (iList K tl) n it) : WiD Γ (iLT K tl) n it := fun σ f hp s ok Rk q => .inl (h σ f hp s ok Rk q)
theorem wi_ltT {n : Nat} (h : WiD Γ (iTup K tl) n it) : WiD Γ (iLT K tl) n it := fun σ f hp s ok Rk q => .inr (h σ f hp s ok Rk q)
/-- a list or a tuple of data -/
def seqD (b : Bool) (ds : List PyData) : PyData := if b = true then .list ds else .tuple ds
theorem wi_seq {b : Bool} {ds : List PyData} (h : EvD Γ tl (rpD (seqD b ds))) : WiD Γ (iLT K tl) ds.length (fun i => rpD (at_ ds i)) := by
  have e : ∀ i d, ds[i]? = some d → rpD (at_ ds i) = rpD d := fun i d h => by
    unfold at_
    rw [List.getD_eq_getElem?_getD, h]
    rfl
  cases b with
  | true => exact wi_ltL (wi_list h e)
  | false => exact wi_ltT (wi_tup h e)
theorem c_lenSeq {b : Bool} {ds : List PyData} : RcD (rLenX K) [rpD (seqD b ds)] (rep (ds.length : Int)) := by
  cases b with
  | true => exact c_lenL
  | false => exact c_lenT
theorem et_orT {tt tu : TT} (h : EvT Γ tt true) : EvT Γ (tOr tt tu) true := et_eq (et_or (b := true) h fun z => nomatch z) rfl
theorem et_orF {tt tu : TT} {b : Bool} (h : EvT Γ tt false) (h2 : EvT Γ tu b) : EvT Γ (tOr tt tu) b := et_eq (et_or h fun _ => h2) (Bool.false_or b)
theorem et_andF {tt tu : TT} (h : EvT Γ tt false) : EvT Γ (tAnd tt tu) false := et_eq (et_and (b := true) h fun z => nomatch z) rfl
theorem et_andT {tt tu : TT} {b : Bool} (h : EvT Γ tt true) (h2 : EvT Γ tu b) : EvT Γ (tAnd tt tu) b := et_eq (et_and h fun _ => h2) (Bool.true_and b)
theorem ev_andF {ta tb : TE} (h : EvD Γ ta (rep false)) : EvD Γ (tAndV ta tb) (rep false) := ev_eq (ev_and (b := true) h fun z => nomatch z) rfl
theorem ev_andT {ta tb : TE} {b : Bool} (h : EvD Γ ta (rep true)) (h2 : EvD Γ tb (rep b)) : EvD Γ (tAndV ta tb) (rep b) := ev_eq (ev_and h fun _ => h2) (Bool.true_and b)
theorem ev_orT {ta tb : TE} (h : EvD Γ ta (rep true)) : EvD Γ (tOrV ta tb) (rep true) := ev_eq (ev_or (b := true) h fun z => nomatch z) rfl
theorem ev_orF {ta tb : TE} {b : Bool} (h : EvD Γ ta (rep false)) (h2 : EvD Γ tb (rep b)) : EvD Γ (tOrV ta tb) (rep b) := ev_eq (ev_or h fun _ => h2) (Bool.false_or b)
end
theorem ix_mem {α : Type} [ToPy α] {xs : List α} {k : Int} (h0 : 0 ≤ k) (h1 : k < (xs.length : Int)) : ix xs k ∈ xs := by
  unfold ix
  rw [List.getD_eq_getElem?_getD, List.getElem?_eq_getElem (by omega : k.toNat < xs.length)]
  exact List.getElem_mem _
theorem at_mem {α : Type} [ToPy α] {xs : List α} {k : Nat} (h1 : k < xs.length) : at_ xs k ∈ xs := by
  unfold at_
  rw [List.getD_eq_getElem?_getD, List.getElem?_eq_getElem h1]
  exact List.getElem_mem _
theorem s_inS2 {K : PySem.W.Frag} {x a b : Str} : R2D (rInX K) (rep x) (rpD (.tuple [.str a, .str b])) (rep (decide (x = a) || decide (x = b))) := fun u y f hp s rx ry Q q => by
  cases rep_str rx
  have ry : repD (.tuple [.str a, .str b]) y f := ry
  simp only [repD, repL] at ry
  obtain ⟨p, vs, rfl, h1, v, r, rfl, rfl, v2, r2, rfl, rfl, rfl⟩ := ry
  refine .inl ⟨p, _, rfl, .inr (SqT.of1 (s _ _ h1)), rfl, rfl, ?_⟩
  have e : (if false = true then !inV (.str x) [V.str a, V.str b] else inV (.str x) [V.str a, V.str b]) = (decide (x = a) || decide (x = b)) := by
    have q : ∀ a b : Str, (a == b) = decide (b = a) := fun a b => by
      by_cases e : a = b
      · subst e; simp
      · rw [decide_eq_false (fun z => e z.symm)]; exact beq_eq_false_iff_ne.mpr e
    simp [inV, eqV, q]
  rw [e]
  exact q _ f hp (.refl s) (rep_of_bool _ _)
/-! ### what the top leaves, and the law's end -/
def DefK (K : PySem.W.Frag) (x : Str) (st : Stmt) : Prop := ∃ (f : Addr) (oc : Value) (od : Option Addr) (kV doc pm : Value) (an : Option Addr) (cdv ct : Value) (osl : Array (Option Value)),
  PySem.W.nsIn K mainGlobals x = some (some (.ref f)) ∧ K.lookup f = some ⟨oc, od, .func (PySem.W.fnOf x x (defArgs st) (defBody st) (defScope st) .none kV doc pm an cdv ct), osl⟩ ∧ PySem.W.codeIn K cdv x = true ∧ PySem.W.keepIn K (.ref f) = true
def DefMK (K : PySem.W.Frag) (C : Addr) (m q : Str) (st : Stmt) : Prop := ∃ (f : Addr) (oc : Value) (od : Option Addr) (kV doc pm : Value) (an : Option Addr) (cdv ct : Value) (osl : Array (Option Value)),
  PySem.W.findIn K (.ref C) m = some (some (.ref f)) ∧ PySem.W.isFn K (.ref f) = true ∧ K.lookup f = some ⟨oc, od, .func (PySem.W.fnOf m q (defArgs st) (defBody st) (defScope st) .none kV doc pm an cdv ct), osl⟩ ∧ PySem.W.codeIn K cdv q = true ∧ PySem.W.keepIn K (.ref f) = true
def DefIK (K : PySem.W.Frag) (C : Addr) (st : Stmt) (q : Str) : Prop := ∃ (f : Addr) (oc : Value) (od : Option Addr) (kV doc pm : Value) (an : Option Addr) (cdv ct : Value) (osl : Array (Option Value)),
  PySem.W.findIn K (.ref C) "__init__" = some (some (.ref f)) ∧ PySem.W.isFn K (.ref f) = true ∧ K.lookup f = some ⟨oc, od, .func (PySem.W.fnOf "__init__" q (defArgs st) (defBody st) (defScope st) .none kV doc pm an cdv ct), osl⟩ ∧ PySem.W.codeIn K cdv q = true ∧ PySem.W.keepIn K (.ref f) = true ∧
    PySem.W.makesIn K C = true ∧ PySem.W.keepIn K (.ref C) = true
theorem DefK.mk_ {K : PySem.W.Frag} {x : Str} {st : Stmt} {f : Addr} {oc : Value} {od : Option Addr} {kV doc pm : Value} {an : Option Addr} {cdv ct : Value} {osl : Array (Option Value)} (a : PySem.W.nsIn K mainGlobals x = some (some (.ref f)))
    (l : K.lookup f = some ⟨oc, od, .func (PySem.W.fnOf x x (defArgs st) (defBody st) (defScope st) .none kV doc pm an cdv ct), osl⟩) (c : PySem.W.codeIn K cdv x = true) (k : PySem.W.keepIn K (.ref f) = true) : DefK K x st := ⟨f, oc, od, kV, doc, pm, an, cdv, ct, osl, a, l, c, k⟩
theorem DefMK.mk_ {K : PySem.W.Frag} {C : Addr} {m q : Str} {st : Stmt} {f : Addr} {oc : Value} {od : Option Addr} {kV doc pm : Value} {an : Option Addr} {cdv ct : Value} {osl : Array (Option Value)} (a : PySem.W.findIn K (.ref C) m = some (some (.ref f))) (b : PySem.W.isFn K (.ref f) = true)
    (l : K.lookup f = some ⟨oc, od, .func (PySem.W.fnOf m q (defArgs st) (defBody st) (defScope st) .none kV doc pm an cdv ct), osl⟩) (c : PySem.W.codeIn K cdv q = true) (k : PySem.W.keepIn K (.ref f) = true) : DefMK K C m q st := ⟨f, oc, od, kV, doc, pm, an, cdv, ct, osl, a, b, l, c, k⟩
theorem DefIK.mk_ {K : PySem.W.Frag} {C : Addr} {q : Str} {st : Stmt} {f : Addr} {oc : Value} {od : Option Addr} {kV doc pm : Value} {an : Option Addr} {cdv ct : Value} {osl : Array (Option Value)} (a : PySem.W.findIn K (.ref C) "__init__" = some (some (.ref f))) (b : PySem.W.isFn K (.ref f) = true)
    (l : K.lookup f = some ⟨oc, od, .func (PySem.W.fnOf "__init__" q (defArgs st) (defBody st) (defScope st) .none kV doc pm an cdv ct), osl⟩) (c : PySem.W.codeIn K cdv q = true) (k : PySem.W.keepIn K (.ref f) = true) (m1 : PySem.W.makesIn K C = true) (m2 : PySem.W.keepIn K (.ref C) = true) : DefIK K C st q := ⟨f, oc, od, kV, doc, pm, an, cdv, ct, osl, a, b, l, c, k, m1, m2⟩
theorem ex_int {K : PySem.W.Frag} {x : Str} {i : Int} {t : Tok} (h : PySem.W.nsIn K mainGlobals x = some (some (.int i t))) : ∃ t, PySem.W.nsIn K mainGlobals x = some (some (.int i t)) := ⟨t, h⟩
theorem ex_str {K : PySem.W.Frag} {x : Str} {i : Str} {t : Tok} (h : PySem.W.nsIn K mainGlobals x = some (some (.str i t))) : ∃ t, PySem.W.nsIn K mainGlobals x = some (some (.str i t)) := ⟨t, h⟩
/-- a class and its __init__ -/
def DefI (K : PySem.W.Frag) (mg : Str → Option Value) (x : Str) (C : Addr) (st : Stmt) (ps : List Str) : Prop := mg x = some (.ref C) ∧ ∃ (f : Addr) (fd : FuncData) (q : Str), Fun K "__init__" q st f fd ∧ Mk K C f ∧ Binds K fd ps []
section
variable {K : PySem.W.Frag} {mg : Str → Option Value} {h : Heap} {x m q : Str} {st : Stmt} {ps : List Str} {C : Addr}
theorem def_of (X : K.In h) (G : h.Ns mainGlobals mg) (d : DefK K x st)
    (hb : ∀ (kV doc pm : Value) (an : Option Addr) (cdv ct : Value) (us : List Value), us.length = ps.length → bindArgs (PySem.W.fnOf x x (defArgs st) (defBody st) (defScope st) .none kV doc pm an cdv ct) ⟨us, []⟩ = pure (ps.zip us)) : Def K mg x st ps := by
  obtain ⟨f, oc, od, kV, doc, pm, an, cdv, ct, osl, a, l, c, k⟩ := d
  have F := fun_mk (st := st) l c k
  exact ⟨f, _, F, PySem.W.mg_of X G a, F.binds hb⟩
theorem defm_of (d : DefMK K C m q st)
    (hb : ∀ (kV doc pm : Value) (an : Option Addr) (cdv ct : Value) (us : List Value), us.length = ps.length → bindArgs (PySem.W.fnOf m q (defArgs st) (defBody st) (defScope st) .none kV doc pm an cdv ct) ⟨us, []⟩ = pure (ps.zip us)) : DefM K C m q st ps := by
  obtain ⟨f, oc, od, kV, doc, pm, an, cdv, ct, osl, a, b, l, c, k⟩ := d
  have F := fun_mk (st := st) l c k
  exact ⟨f, _, F, ⟨a, b, k⟩, F.binds hb⟩
theorem defi_of (X : K.In h) (G : h.Ns mainGlobals mg) (g : PySem.W.nsIn K mainGlobals x = some (some (.ref C))) (d : DefIK K C st q)
    (hb : ∀ (kV doc pm : Value) (an : Option Addr) (cdv ct : Value) (us : List Value), us.length = ps.length → bindArgs (PySem.W.fnOf "__init__" q (defArgs st) (defBody st) (defScope st) .none kV doc pm an cdv ct) ⟨us, []⟩ = pure (ps.zip us)) : DefI K mg x C st ps := by
  obtain ⟨f, oc, od, kV, doc, pm, an, cdv, ct, osl, a, b, l, c, k, m1, m2⟩ := d
  have F := fun_mk (st := st) l c k
  exact ⟨PySem.W.mg_of X G g, f, _, q, F, ⟨m1, a, b, m2⟩, F.binds hb⟩
def cs0 : Cs := ⟨0, 0, 0, 0, 0, 0, 0, 0, 0, 0⟩
def S_law (K : PySem.W.Frag) (c : Cs) : Spec := fun Rs R => ∃ ns : List Int, Rs = [scr K ns] ∧ ns.length ≤ 63 ∧ R = rep true
theorem sp_law_of {H : Hp} {a : Addr} {ns : List Int} (hl : ns.length ≤ 63) (hS : SqL K H a (ns.map V.int)) : spD (S_law K cs0) [.ref a] H (fun v _ => v = .bl true) (fun _ _ _ => False) :=
  ⟨[scr K ns], rep true, H, ⟨ns, rfl, hl, rfl⟩, .refl _, ⟨.ref a, [], rfl, ⟨a, rfl, hS⟩, rfl⟩, fun v f' H' e rv => rep_bool rv⟩
theorem okf {P : Program} {w : World} {base : Heap} {S : Spec} {f : Addr} {fd : FuncData} {N : List Str} {k : Nat} {t : TS} (F : Fun K x x st f fd) (sc : FnScope N ps (defScope st)) (hlen : ∀ Rs R, S Rs R → Rs.length = ps.length)
    (hps : ∀ (f : Addr) (cdv : Value) (A : Around) (outer : List Env) (s : Shared) (H : Hp) (E : XK), Room k (A.deeper (envOfC x (defScope st) s.heap.objs.size f cdv)) → PSs (cx0 P w K mg base N x st f cdv A outer s H E) (defBody st) t)
    (ev : ∀ Rs R, S Rs R → ∀ B : Base, B.m = [] → BDe B (startC N Rs) [] t (fnP B R)) : FnOk P w K mg base CX0 (k + 1) f fd ps (spD S) := by
  refine F.ok sc (fun vs H Q E h => ?_) fun cdv A outer s H vs Q E hr h => ⟨t, hps f cdv A outer s H E hr, run_spD ev h⟩
  obtain ⟨Rs, R, f, hS, _, a, _⟩ := h
  rw [a.length, hlen Rs R hS]
theorem fin_of {P : Program} {w : World} {fa : Addr} {k : Nat} {sp : Sp} (X : K.In h) (G : h.Ns mainGlobals mg) (hfa : mg "law" = some (.ref fa)) (d : DefK K "law" st)
    (hb : ∀ (kV doc pm : Value) (an : Option Addr) (cdv ct : Value) (v : Value), bindArgs (PySem.W.fnOf "law" "law" (defArgs st) (defBody st) (defScope st) .none kV doc pm an cdv ct) ⟨[v], []⟩ = pure [(("_law_script" : Str), v)])
    (ok : ∀ (base : Heap) (f : Addr) (fd : FuncData), Fun K "law" "law" st f fd → FnOk P w K mg base CX0 k f fd ["_law_script"] sp) :
    ∃ fd : FuncData, (∀ (s : Shared) (v : Value), BindsTo s fd ⟨[v], []⟩ [("_law_script", v)]) ∧ ∀ base : Heap, K.In base → base.Ns mainGlobals mg → FnOk P w K mg base CX0 k fa fd ["_law_script"] sp := by
  obtain ⟨f, oc, od, kV, doc, pm, an, cdv, ct, osl, a, l, c, kk⟩ := d
  have e := hfa.symm.trans (PySem.W.mg_of X G a)
  cases e
  have F := fun_mk (st := st) l c kk
  exact ⟨_, fun s v => .of_eq (hb kV doc pm an cdv ct v), fun base _ _ => ok base _ _ F⟩
end
end D

set_option Elab.async false
set_option linter.all false
set_option maxRecDepth 100000
set_option maxHeartbeats 4000000
namespace D
open PySem PySem.Spec PyProof.Rows L2
open ToPy (py)
local macro_rules | `(tactic| walk_at "side") => `(tactic| first | assumption | omega | (refine Int.emod_nonneg _ ?_; omega) | (refine Int.emod_lt_of_pos _ ?_; omega) | (simp at *; omega) | (simp; done) | decide | skip)
local macro_rules | `(tactic| walk_at "d") => `(tactic| first
  | with_reducible exact ev_int | with_reducible exact ev_str | with_reducible exact ev_bl | with_reducible exact ev_non
  | exact ev_var rfl
  | with_reducible exact ev_ty
  | with_reducible exact ev_cls
  | ((with_reducible apply ev_op) <;> walk_at "d")
  | ((with_reducible apply ev_un) <;> walk_at "d")
  | ((with_reducible apply ev_call) <;> walk_at "d")
  | ((with_reducible apply ev_callX) <;> walk_at "d")
  | ((with_reducible apply ev_cb) <;> walk_at "d")
  | with_reducible exact ea_nil
  | ((with_reducible apply ea_cons) <;> walk_at "d")
  | with_reducible exact s_add
  | with_reducible exact s_sub
  | with_reducible exact s_lt
  | with_reducible exact s_le
  | with_reducible exact s_gt
  | with_reducible exact s_ge
  | with_reducible exact s_eqI
  | with_reducible exact s_neI
  | with_reducible exact s_eqS
  | with_reducible exact s_neS
  | with_reducible exact s_neB
  | exact s_eqSame (sh_ints2 _) | exact s_neSame (sh_ints2 _) | exact s_eqSame (sh_ints _) | exact s_neSame (sh_ints _)
  | ((with_reducible apply s_mod) <;> walk_at "side")
  | walk_at "div" | walk_at "mul"
  | ((with_reducible apply s_catL) <;> walk_at "side")
  | ((with_reducible apply s_repL) <;> walk_at "side")
  | with_reducible exact s_fst
  | with_reducible exact s_snd
  | with_reducible exact s_t0
  | with_reducible exact s_t1
  | with_reducible exact s_t2
  | ((with_reducible apply s_last) <;> walk_at "side")
  | ((with_reducible apply s_ixS) <;> walk_at "side")
  | ((with_reducible apply s_ix) <;> walk_at "side")
  | ((with_reducible apply s_ixT) <;> walk_at "side")
  | with_reducible exact s_negI
  | with_reducible exact c_len
  | with_reducible exact c_lI
  | with_reducible exact c_tI
  | with_reducible exact c_pI
  | with_reducible exact c_t3I
  | with_reducible exact c_sI
  | with_reducible exact c_iI
  | with_reducible exact c_iB
  | with_reducible exact c_lenP
  | with_reducible exact c_len3
  | with_reducible exact c_isInt
  | with_reducible exact c_isBool
  | with_reducible exact c_isStr
  | with_reducible exact c_isList
  | with_reducible exact c_isTup
  | with_reducible exact c_lenTup
  | with_reducible exact c_lenScr
  | with_reducible exact c_listD
  | with_reducible exact c_listTD
  | with_reducible exact c_tup
  | with_reducible exact c_abs
  | with_reducible exact c_min2
  | with_reducible exact c_max2
  | with_reducible exact c_intB
  | with_reducible exact c_sum
  | ((with_reducible apply c_min) <;> walk_at "side")
  | ((with_reducible apply c_max) <;> walk_at "side")
  | ((with_reducible apply et_val) <;> walk_at "d")
  | ((with_reducible apply et_test) <;> walk_at "d")
  | ((with_reducible apply et_not) <;> walk_at "d")
  | ((with_reducible apply et_and) <;> (try with_reducible intro _) <;> walk_at "d")
  | ((with_reducible apply et_or) <;> (try with_reducible intro _) <;> walk_at "d")
  | ((with_reducible apply ev_and) <;> (try with_reducible intro _) <;> walk_at "d")
  | ((with_reducible apply ev_or) <;> (try with_reducible intro _) <;> walk_at "d")
  | ((with_reducible apply ev_chain) <;> (try with_reducible intro _) <;> walk_at "d")
  | ((with_reducible apply ev_not) <;> walk_at "d")
  | ((with_reducible apply ev_pair) <;> walk_at "d")
  | ((with_reducible apply ev_t3) <;> walk_at "d")
  | ((with_reducible apply ev_lst1) <;> walk_at "d")
  | ((with_reducible apply ev_lst2) <;> walk_at "d")
  | ((with_reducible apply ev_lst3) <;> walk_at "d")
  | ((with_reducible apply ev_lst4) <;> walk_at "d")
  | ((with_reducible apply ev_cut) <;> walk_at "d")
  | ((with_reducible apply ep_some) <;> walk_at "d")
  | ((with_reducible apply EvD.s) <;> walk_at "d")
  | ((with_reducible apply EvT.s) <;> walk_at "d")
  | ((with_reducible apply EvN.s) <;> walk_at "d")
  | ((with_reducible apply en_lst1) <;> walk_at "d")
  | ((with_reducible apply en_lst2) <;> walk_at "d")
  | ((with_reducible apply en_lst3) <;> walk_at "d")
  | ((with_reducible apply en_lst4) <;> walk_at "d")
  | ((with_reducible apply en_cut) <;> walk_at "d")
  | with_reducible exact ev_lst0
  | with_reducible exact ep_none
  | with_reducible exact en_lst0
  | ((with_reducible apply wi_L) <;> walk_at "d")
  | ((with_reducible apply wi_T) <;> walk_at "d")
  | ((with_reducible apply wi_zip) <;> walk_at "d")
  | ((with_reducible apply WiD.s) <;> walk_at "d")
  | ((with_reducible apply wi_range) <;> walk_at "side")
  | exact spec_cell (by omega) (by omega)
  | skip)
local macro_rules | `(tactic| walk_at "div") => `(tactic| first
  | exact s_div ⟨by omega, by omega⟩
  | exact s_divW (wd_div (by first | assumption | omega) (by assumption))
  | with_reducible apply s_div)
local macro_rules | `(tactic| walk_at "mul") => `(tactic| first
  | exact s_mul (Or.inl ⟨by omega, by omega⟩) | exact s_mul (Or.inr ⟨by omega, by omega⟩)
  | exact s_mulW (wd_mul (by assumption) (by assumption))
  | with_reducible apply s_mulW)
local macro_rules | `(tactic| walk_at "fg") => `(tactic| repeat (first | exact Fg.nil | apply Fg.same | apply Fg.drop | (refine Fg.eq ?_ ?_; rotate_left)))
local macro_rules | `(tactic| walk_at "end") => `(tactic| exact bd_turnE trivial rfl (by walk_at "fg"))
local macro_rules | `(tactic| walk_at "range") => `(tactic| (apply WiD.s; apply wi_range; (walk_at "d"); omega; omega))
local macro_rules | `(tactic| walk_at "app") => `(tactic| (refine' bd_appR 0 ?_ rfl ?_ ?_ ?_ ?_; (walk_at "d"); (walk_at "d"); rotate_right))
local macro_rules | `(tactic| walk_at "lend") => `(tactic| repeat (first | exact LendC.nil | apply LendC.no | (apply LendC.one; (exact lend_list 0 rfl)) | (apply LendC.one; (exact lend_same))))
/-! ### problems: what is within bounds, rows, what is refused (over data of any kind) -/
def betw (d : PyData) (lo hi : Int) : Bool := match d with
  | .int i => decide (lo ≤ i) && decide (i ≤ hi)
  | _ => false
def S_between (K : PySem.W.Frag) (c : Cs) : Spec := fun Rs R => ∃ (d : PyData) (lo hi : Int), Rs = [rpD d, rep lo, rep hi] ∧ R = rep (betw d lo hi)
def S_are_between (K : PySem.W.Frag) (c : Cs) : Spec := fun Rs R => ∃ (b : Bool) (ds : List PyData) (many lo hi : Int), Rs = [rpD (seqD b ds), rep many, rep lo, rep hi] ∧ R = rep (decide ((ds.length : Int) = many) && ds.all (betw · lo hi))
def wordOk (d : PyData) : Bool := match d with
  | .str x => decide (x = "most") || decide (x = "least")
  | _ => false
def isRow (d : PyData) (many : Int) : Bool := match d with
  | .tuple [.tuple ns, w, b] => (decide ((ns.length : Int) = many) && ns.all (betw · (-50) 50)) && wordOk w && betw b (-2000) 2000
  | _ => false
def S_is_row (K : PySem.W.Frag) (c : Cs) : Spec := fun Rs R => ∃ (d : PyData) (many : Int), Rs = [rpD d, rep many] ∧ R = rep (isRow d many)
def n_between : List Str := ["thing", "low", "high"]
def t_between (K : PySem.W.Frag) (c : Cs) : TS := (tSeq (tRet (tAndV (tCB (rIsi K) (tCons (tVar 0) (tCons (tC (.ty "int")) tNil))) (tAndV (tNotV (tCB (rIsi K) (tCons (tVar 0) (tCons (tC (.ty "bool")) tNil)))) (tChain rLeI rLeI (tVar 1) (tVar 0) (tVar 2)))))
  tNext)
def n_are_between : List Str := ["things", "many", "low", "high", "thing"]
def t_are_between (K : PySem.W.Frag) (c : Cs) : TS := (tSeq (tIfS (tTest (tOp (rNeX K) (tCB (rLenX K) (tCons (tVar 0) tNil)) (tVar 1))) (tSeq (tRet (tC (.bl false)))
  tNext) tNext)
  (tSeq (tFor (iLT K (tVar 0)) (gName 4) (tSeq (tIfS (tNot (tB (tCall (spD (S_between K c)) [] E0 (tCons (tVar 4) (tCons (tVar 2) (tCons (tVar 3) tNil)))))) (tSeq (tRet (tC (.bl false)))
  tNext) tNext)
  tNext))
  (tSeq (tRet (tC (.bl true)))
  tNext)))
def n_is_row : List Str := ["row", "many"]
def t_is_row (K : PySem.W.Frag) (c : Cs) : TS := (tSeq (tIfS (tOr (tNot (tB (tCB (rIsi K) (tCons (tVar 0) (tCons (tC (.ty "tuple")) tNil))))) (tOr (tTest (tOp (rNeX K) (tCB (rLenX K) (tCons (tVar 0) tNil)) (tC (.int 3)))) (tNot (tB (tCB (rIsi K) (tCons (tOp (rIx K) (tVar 0) (tC (.int 0))) (tCons (tC (.ty "tuple")) tNil))))))) (tSeq (tRet (tC (.bl false)))
  tNext) tNext)
  (tSeq (tIfS (tOr (tNot (tB (tCall (spD (S_are_between K c)) [] E0 (tCons (tOp (rIx K) (tVar 0) (tC (.int 0))) (tCons (tVar 1) (tCons (tUn rNegI (tC (.int 50))) (tCons (tC (.int 50)) tNil))))))) (tNot (tB (tCB (rIsi K) (tCons (tOp (rIx K) (tVar 0) (tC (.int 1))) (tCons (tC (.ty "str")) tNil)))))) (tSeq (tRet (tC (.bl false)))
  tNext) tNext)
  (tSeq (tRet (tAndV (tOp (rInX K) (tOp (rIx K) (tVar 0) (tC (.int 1))) (tTup (tCons (tC (.str "most")) (tCons (tC (.str "least")) tNil)))) (tCall (spD (S_between K c)) [] E0 (tCons (tOp (rIx K) (tVar 0) (tC (.int 2))) (tCons (tUn rNegI (tC (.int 2000))) (tCons (tC (.int 2000)) tNil))))))
  tNext)))
theorem isi_int_not {d : PyData} (h : ∀ i, d ≠ .int i) : (isi d "int" && !isi d "bool") = false := by
  cases d <;> first | rfl | (exact absurd rfl (h _))
theorem rd_between {K : PySem.W.Frag} {c : Cs} : ∀ Rs R, S_between K c Rs R → ∀ B : Base, B.m = [] → BDe B (startC n_between Rs) [] (t_between K c) (fnP B R) := by
  rintro _ _ ⟨d, lo, hi, rfl, rfl⟩ B hm
  by_cases h : ∃ i, d = .int i
  · obtain ⟨i, rfl⟩ := h
    apply bd_retE (α := Bool) hm
    · apply EvD.s
      apply ev_and (a := true) (b := true && (decide (lo ≤ i) && decide (i ≤ hi)))
      · exact ev_cb (ea_cons (ev_var rfl) (ea_cons ev_ty ea_nil)) (c_isInt (d := .int i))
      · intro _
        apply ev_and (a := true)
        · exact ev_not (ev_cb (ea_cons (ev_var rfl) (ea_cons ev_ty ea_nil)) (c_isBool (d := .int i)))
        · intro _
          refine ev_chain (Rb := rep i) (ev_var rfl) (ev_var rfl) (ev_var rfl) s_le fun _ => s_le
    · simp [betw]
  · have hb : betw d lo hi = false := by
      cases d <;> first | rfl | (exact absurd ⟨_, rfl⟩ h)
    rw [hb]
    apply bd_retR hm
    apply EvD.s
    by_cases h1 : isi d "int" = true
    · have h2 : isi d "bool" = true := by
        cases d <;> first | rfl | (exact absurd ⟨_, rfl⟩ h) | (simp [isi, tyName, isiN] at h1)
      apply ev_andT
      · rw [← h1]
        exact ev_cb (ea_cons (ev_var rfl) (ea_cons ev_ty ea_nil)) c_isInt
      · apply ev_andF
        refine ev_eq (ev_not (ev_cb (ea_cons (ev_var rfl) (ea_cons ev_ty ea_nil)) c_isBool)) ?_
        rw [h2]
        rfl
    · apply ev_andF
      rw [← Bool.eq_false_iff.mpr h1]
      exact ev_cb (ea_cons (ev_var rfl) (ea_cons ev_ty ea_nil)) c_isInt
theorem all_range (ds : List PyData) (p : PyData → Bool) (h : ∀ i, i < ds.length → p (at_ ds i) = true) : ds.all p = true := by
  rw [List.all_eq_true]
  intro x hx
  obtain ⟨i, hi, e⟩ := List.getElem_of_mem hx
  have := h i hi
  unfold at_ at this
  rw [List.getD_eq_getElem?_getD, List.getElem?_eq_getElem hi] at this
  rw [← e]
  exact this
theorem rd_are_between {K : PySem.W.Frag} {c : Cs} : ∀ Rs R, S_are_between K c Rs R → ∀ B : Base, B.m = [] → BDe B (startC n_are_between Rs) [] (t_are_between K c) (fnP B R) := by
  rintro _ _ ⟨b, ds, many, lo, hi, rfl, rfl⟩ B hm
  apply bd_ifr (b := !decide ((ds.length : Int) = many))
  · exact EvT.s (et_test (ev_op (ev_cb (ea_cons (ev_var rfl) ea_nil) c_lenSeq) (ev_var rfl) s_neI))
  · intro h
    apply bd_retE hm
    · walk_at "d"
    · simp at h
      simp [h]
  intro h
  simp at h
  apply bd_forE (fun _ => [some (rpD (seqD b ds)), some (rep many), some (rep lo), some (rep hi), none]) (fun _ => []) (fun i => ∀ j, j < i → betw (at_ ds j) lo hi = true)
  · exact WiD.s (wi_seq (ev_var rfl))
  · walk_at "fg"
  · rfl
  · intro j hj
    omega
  · intro i hi
    exact tg_name
  · intro i hlt F
    apply bd_ifr (b := !betw (at_ ds i) lo hi)
    · apply EvT.s
      apply et_not
      apply et_val
      apply ev_call
      · walk_at "d"
      · exact ⟨_, _, _, rfl, rfl⟩
    · intro hb
      simp at hb
      apply bd_retE hm
      · walk_at "d"
      · have : ds.all (betw · lo hi) = false := by
          rw [List.all_eq_false]
          exact ⟨_, at_mem hlt, by rw [hb]; exact Bool.false_ne_true⟩
        simp [this]
    · intro hb
      simp at hb
      refine bd_turnE ?_ rfl (by walk_at "fg")
      intro j hj
      by_cases e : j = i
      · rw [e]
        exact hb
      · exact F j (by omega)
  · intro F
    apply bd_retE hm
    · walk_at "d"
    · rw [all_range ds _ F]
      simp [h]
theorem tri (d : PyData) : (∃ a b c : PyData, d = .tuple [a, b, c]) ∨ (∃ ds, d = .tuple ds ∧ ds.length ≠ 3) ∨ isi d "tuple" = false := by
  cases d with
  | tuple ds =>
    match ds with
    | [a, b, c] => exact .inl ⟨a, b, c, rfl⟩
    | [] => exact .inr (.inl ⟨_, rfl, by simp⟩)
    | [_] => exact .inr (.inl ⟨_, rfl, by simp⟩)
    | [_, _] => exact .inr (.inl ⟨_, rfl, by simp⟩)
    | _ :: _ :: _ :: _ :: r => exact .inr (.inl ⟨_, rfl, by simp⟩)
  | _ => exact .inr (.inr rfl)
theorem rd_is_row {K : PySem.W.Frag} {c : Cs} : ∀ Rs R, S_is_row K c Rs R → ∀ B : Base, B.m = [] → BDe B (startC n_is_row Rs) [] (t_is_row K c) (fnP B R) := by
  rintro _ _ ⟨d, many, rfl, rfl⟩ B hm
  have isT : ∀ {te : TE} {x : PyData}, EvD (startC n_is_row [rpD d, rep many]) te (rpD x) → EvD (startC n_is_row [rpD d, rep many]) (tCB (rIsi K) (tCons te (tCons (tC (.ty "tuple")) tNil))) (rep (isi x "tuple")) := fun h => ev_cb (ea_cons h (ea_cons ev_ty ea_nil)) c_isTup
  have first : ∀ {b : Bool} {tt tu tw : TT}, (isi d "tuple" = b) → EvT (startC n_is_row [rpD d, rep many]) (tNot (tB (tCB (rIsi K) (tCons (tVar 0) (tCons (tC (.ty "tuple")) tNil))))) (!b) := fun e => by
    rw [← e]
    exact et_not (et_val (isT (ev_var rfl)))
  rcases tri d with ⟨a, w, bd, rfl⟩ | ⟨ds, rfl, hl⟩ | hn
  · have ixs : ∀ {i : Int} {x : PyData}, atI [a, w, bd] i = some x → ∀ {te : TE}, te = tC (.int i) → EvD (startC n_is_row [rpD (.tuple [a, w, bd]), rep many]) (tOp (rIx K) (tVar 0) te) (rpD x) := fun h _ e => by
      rw [e]
      exact ev_op (ev_var rfl) ev_int (s_ixTD h)
    have e0 := ixs (i := 0) (x := a) rfl rfl
    have e1 := ixs (i := 1) (x := w) rfl rfl
    have e2 := ixs (i := 2) (x := bd) rfl rfl
    have len3 : EvT (startC n_is_row [rpD (.tuple [a, w, bd]), rep many]) (tTest (tOp (rNeX K) (tCB (rLenX K) (tCons (tVar 0) tNil)) (tC (.int 3)))) false :=
      et_eq (et_test (ev_op (ev_cb (ea_cons (ev_var rfl) ea_nil) (c_lenT (ds := [a, w, bd]))) ev_int s_neI)) rfl
    by_cases ht : ∃ ns, a = .tuple ns
    · obtain ⟨ns, rfl⟩ := ht
      apply bd_ifr (b := false)
      · refine EvT.s (et_orF (first (tt := tNot (tB (tVar 0))) (tu := tNot (tB (tVar 0))) (tw := tNot (tB (tVar 0))) (b := true) rfl) (et_orF len3 (et_eq (et_not (et_val (isT e0))) rfl)))
      · intro h
        cases h
      intro _
      have ab : EvD (startC n_is_row [rpD (.tuple [.tuple ns, w, bd]), rep many]) (tCall (spD (S_are_between K c)) [] E0 (tCons (tOp (rIx K) (tVar 0) (tC (.int 0))) (tCons (tVar 1) (tCons (tUn rNegI (tC (.int 50))) (tCons (tC (.int 50)) tNil))))) (rep (decide ((ns.length : Int) = many) && ns.all (betw · (-50) 50))) :=
        ev_call (ea_cons e0 (ea_cons (ev_var rfl) (ea_cons (ev_un ev_int s_negI) (ea_cons ev_int ea_nil)))) ⟨false, ns, many, -50, 50, rfl, rfl⟩
      by_cases hA : (decide ((ns.length : Int) = many) && ns.all (betw · (-50) 50)) = true
      · by_cases hw : ∃ x, w = .str x
        · obtain ⟨x, rfl⟩ := hw
          apply bd_ifr (b := false)
          · refine EvT.s (et_orF ?_ ?_)
            · refine et_eq (et_not (et_val ab)) ?_
              rw [hA]
              rfl
            · exact et_eq (et_not (et_val (ev_cb (ea_cons e1 (ea_cons ev_ty ea_nil)) c_isStr))) rfl
          · intro h
            cases h
          intro _
          have inn : EvD (startC n_is_row [rpD (.tuple [.tuple ns, .str x, bd]), rep many]) (tOp (rInX K) (tOp (rIx K) (tVar 0) (tC (.int 1))) (tTup (tCons (tC (.str "most")) (tCons (tC (.str "least")) tNil)))) (rep (wordOk (.str x))) :=
            ev_op (ev_cast e1 rfl) (ev_tupD (ds := [.str "most", .str "least"]) (ea_cons ev_str (ea_cons ev_str ea_nil))) s_inS2
          have eR : isRow (.tuple [.tuple ns, .str x, bd]) many = (wordOk (.str x) && betw bd (-2000) 2000) := by
            simp only [isRow, hA, Bool.true_and]
          rw [eR]
          apply bd_retR hm
          apply EvD.s
          apply ev_and inn
          intro _
          exact ev_call (ea_cons e2 (ea_cons (ev_un ev_int s_negI) (ea_cons ev_int ea_nil))) ⟨bd, -2000, 2000, rfl, rfl⟩
        · have hs : isi w "str" = false := by
            cases w <;> first | rfl | (exact absurd ⟨_, rfl⟩ hw)
          have hw' : wordOk w = false := by
            cases w <;> first | rfl | (exact absurd ⟨_, rfl⟩ hw)
          apply bd_ifr (b := true)
          · refine EvT.s (et_orF ?_ ?_)
            · refine et_eq (et_not (et_val ab)) ?_
              rw [hA]
              rfl
            · refine et_eq (et_not (et_val (ev_cb (ea_cons e1 (ea_cons ev_ty ea_nil)) c_isStr))) ?_
              rw [hs]
              rfl
          · intro _
            have eR : isRow (.tuple [.tuple ns, w, bd]) many = false := by
              simp only [isRow, hw', Bool.and_false, Bool.false_and]
            rw [eR]
            apply bd_retR hm
            walk_at "d"
          · intro h
            cases h
      · have hA := Bool.eq_false_iff.mpr hA
        apply bd_ifr (b := true)
        · refine EvT.s (et_orT ?_)
          refine et_eq (et_not (et_val ab)) ?_
          rw [hA]
          rfl
        · intro _
          have eR : isRow (.tuple [.tuple ns, w, bd]) many = false := by
            simp only [isRow, hA, Bool.false_and]
          rw [eR]
          apply bd_retR hm
          walk_at "d"
        · intro h
          cases h
    · have hs : isi a "tuple" = false := by
        cases a <;> first | rfl | (exact absurd ⟨_, rfl⟩ ht)
      apply bd_ifr (b := true)
      · refine EvT.s (et_orF (first (tt := tNot (tB (tVar 0))) (tu := tNot (tB (tVar 0))) (tw := tNot (tB (tVar 0))) (b := true) rfl) (et_orF len3 (et_eq (et_not (et_val (isT e0))) ?_)))
        rw [hs]
        rfl
      · intro _
        have eR : isRow (.tuple [a, w, bd]) many = false := by
          cases a <;> first | rfl | (exact absurd ⟨_, rfl⟩ ht)
        rw [eR]
        apply bd_retR hm
        walk_at "d"
      · intro h
        cases h
  · apply bd_ifr (b := true)
    · refine EvT.s (et_orF (first (tt := tNot (tB (tVar 0))) (tu := tNot (tB (tVar 0))) (tw := tNot (tB (tVar 0))) (b := true) rfl) (et_orT ?_))
      refine et_eq (et_test (ev_op (ev_cb (ea_cons (ev_var rfl) ea_nil) (c_lenT (ds := ds))) ev_int s_neI)) ?_
      simp
      omega
    · intro _
      have eR : isRow (.tuple ds) many = false := by
        match ds, hl with
        | [], _ => rfl
        | [a], _ => cases a <;> rfl
        | [a, _], _ => cases a <;> rfl
        | [_, _, _], h => exact absurd rfl h
        | a :: _ :: _ :: _ :: r, _ => cases a <;> rfl
      rw [eR]
      apply bd_retR hm
      walk_at "d"
    · intro h
      cases h
  · apply bd_ifr (b := true)
    · exact EvT.s (et_orT (first (tt := tNot (tB (tVar 0))) (tu := tNot (tB (tVar 0))) (tw := tNot (tB (tVar 0))) (b := false) hn))
    · intro _
      have eR : isRow d many = false := by
        cases d <;> first | rfl | (simp [isi, tyName, isiN] at hn)
      rw [eR]
      apply bd_retR hm
      walk_at "d"
    · intro h
      cases h
end D

set_option Elab.async false
set_option linter.all false
set_option maxRecDepth 100000
set_option maxHeartbeats 4000000
namespace D
open PySem PySem.Spec PyProof.Rows L2
open ToPy (py)
local macro_rules | `(tactic| walk_at "side") => `(tactic| first | assumption | omega | (refine Int.emod_nonneg _ ?_; omega) | (refine Int.emod_lt_of_pos _ ?_; omega) | (simp at *; omega) | (simp; done) | decide | skip)
local macro_rules | `(tactic| walk_at "d") => `(tactic| first
  | with_reducible exact ev_int | with_reducible exact ev_str | with_reducible exact ev_bl | with_reducible exact ev_non
  | exact ev_var rfl
  | with_reducible exact ev_ty
  | with_reducible exact ev_cls
  | ((with_reducible apply ev_op) <;> walk_at "d")
  | ((with_reducible apply ev_un) <;> walk_at "d")
  | ((with_reducible apply ev_call) <;> walk_at "d")
  | ((with_reducible apply ev_callX) <;> walk_at "d")
  | ((with_reducible apply ev_cb) <;> walk_at "d")
  | with_reducible exact ea_nil
  | ((with_reducible apply ea_cons) <;> walk_at "d")
  | with_reducible exact s_add
  | with_reducible exact s_sub
  | with_reducible exact s_lt
  | with_reducible exact s_le
  | with_reducible exact s_gt
  | with_reducible exact s_ge
  | with_reducible exact s_eqI
  | with_reducible exact s_neI
  | with_reducible exact s_eqS
  | with_reducible exact s_neS
  | with_reducible exact s_neB
  | exact s_eqSame (sh_ints2 _) | exact s_neSame (sh_ints2 _) | exact s_eqSame (sh_ints _) | exact s_neSame (sh_ints _)
  | ((with_reducible apply s_mod) <;> walk_at "side")
  | walk_at "div" | walk_at "mul"
  | ((with_reducible apply s_catL) <;> walk_at "side")
  | ((with_reducible apply s_repL) <;> walk_at "side")
  | with_reducible exact s_fst
  | with_reducible exact s_snd
  | with_reducible exact s_t0
  | with_reducible exact s_t1
  | with_reducible exact s_t2
  | ((with_reducible apply s_last) <;> walk_at "side")
  | ((with_reducible apply s_ixS) <;> walk_at "side")
  | ((with_reducible apply s_ix) <;> walk_at "side")
  | ((with_reducible apply s_ixT) <;> walk_at "side")
  | with_reducible exact s_negI
  | with_reducible exact c_len
  | with_reducible exact c_lI
  | with_reducible exact c_tI
  | with_reducible exact c_pI
  | with_reducible exact c_t3I
  | with_reducible exact c_sI
  | with_reducible exact c_iI
  | with_reducible exact c_iB
  | with_reducible exact c_lenP
  | with_reducible exact c_len3
  | with_reducible exact c_isInt
  | with_reducible exact c_isBool
  | with_reducible exact c_isStr
  | with_reducible exact c_isList
  | with_reducible exact c_isTup
  | with_reducible exact c_lenTup
  | with_reducible exact c_lenScr
  | with_reducible exact c_listD
  | with_reducible exact c_listTD
  | with_reducible exact c_tup
  | with_reducible exact c_abs
  | with_reducible exact c_min2
  | with_reducible exact c_max2
  | with_reducible exact c_intB
  | with_reducible exact c_sum
  | ((with_reducible apply c_min) <;> walk_at "side")
  | ((with_reducible apply c_max) <;> walk_at "side")
  | ((with_reducible apply et_val) <;> walk_at "d")
  | ((with_reducible apply et_test) <;> walk_at "d")
  | ((with_reducible apply et_not) <;> walk_at "d")
  | ((with_reducible apply et_and) <;> (try with_reducible intro _) <;> walk_at "d")
  | ((with_reducible apply et_or) <;> (try with_reducible intro _) <;> walk_at "d")
  | ((with_reducible apply ev_and) <;> (try with_reducible intro _) <;> walk_at "d")
  | ((with_reducible apply ev_or) <;> (try with_reducible intro _) <;> walk_at "d")
  | ((with_reducible apply ev_chain) <;> (try with_reducible intro _) <;> walk_at "d")
  | ((with_reducible apply ev_not) <;> walk_at "d")
  | ((with_reducible apply ev_pair) <;> walk_at "d")
  | ((with_reducible apply ev_t3) <;> walk_at "d")
  | ((with_reducible apply ev_lst1) <;> walk_at "d")
  | ((with_reducible apply ev_lst2) <;> walk_at "d")
  | ((with_reducible apply ev_lst3) <;> walk_at "d")
  | ((with_reducible apply ev_lst4) <;> walk_at "d")
  | ((with_reducible apply ev_cut) <;> walk_at "d")
  | ((with_reducible apply ep_some) <;> walk_at "d")
  | ((with_reducible apply EvD.s) <;> walk_at "d")
  | ((with_reducible apply EvT.s) <;> walk_at "d")
  | ((with_reducible apply EvN.s) <;> walk_at "d")
  | ((with_reducible apply en_lst1) <;> walk_at "d")
  | ((with_reducible apply en_lst2) <;> walk_at "d")
  | ((with_reducible apply en_lst3) <;> walk_at "d")
  | ((with_reducible apply en_lst4) <;> walk_at "d")
  | ((with_reducible apply en_cut) <;> walk_at "d")
  | with_reducible exact ev_lst0
  | with_reducible exact ep_none
  | with_reducible exact en_lst0
  | ((with_reducible apply wi_L) <;> walk_at "d")
  | ((with_reducible apply wi_T) <;> walk_at "d")
  | ((with_reducible apply wi_zip) <;> walk_at "d")
  | ((with_reducible apply WiD.s) <;> walk_at "d")
  | ((with_reducible apply wi_range) <;> walk_at "side")
  | exact spec_cell (by omega) (by omega)
  | skip)
local macro_rules | `(tactic| walk_at "div") => `(tactic| first
  | exact s_div ⟨by omega, by omega⟩
  | exact s_divW (wd_div (by first | assumption | omega) (by assumption))
  | with_reducible apply s_div)
local macro_rules | `(tactic| walk_at "mul") => `(tactic| first
  | exact s_mul (Or.inl ⟨by omega, by omega⟩) | exact s_mul (Or.inr ⟨by omega, by omega⟩)
  | exact s_mulW (wd_mul (by assumption) (by assumption))
  | with_reducible apply s_mulW)
local macro_rules | `(tactic| walk_at "fg") => `(tactic| repeat (first | exact Fg.nil | apply Fg.same | apply Fg.drop | (refine Fg.eq ?_ ?_; rotate_left)))
local macro_rules | `(tactic| walk_at "end") => `(tactic| exact bd_turnE trivial rfl (by walk_at "fg"))
local macro_rules | `(tactic| walk_at "range") => `(tactic| (apply WiD.s; apply wi_range; (walk_at "d"); omega; omega))
local macro_rules | `(tactic| walk_at "app") => `(tactic| (refine' bd_appR 0 ?_ rfl ?_ ?_ ?_ ?_; (walk_at "d"); (walk_at "d"); rotate_right))
local macro_rules | `(tactic| walk_at "lend") => `(tactic| repeat (first | exact LendC.nil | apply LendC.no | (apply LendC.one; (exact lend_list 0 rfl)) | (apply LendC.one; (exact lend_same))))
/-! ### problems: what is refused -/
def topsB (d : PyData) : Option Nat := match d with
  | .list ts => if decide (1 ≤ ts.length) && decide (ts.length ≤ 3) && ts.all (betw · 0 20) then some ts.length else none
  | _ => none
def rowsB (d : PyData) (n : Nat) : Bool := match d with
  | .list rs => decide (rs.length ≤ 6) && rs.all (isRow · (n : Int))
  | _ => false
def gainB (d : PyData) (n : Nat) : Bool := match d with
  | .list gs => decide ((gs.length : Int) = (n : Int)) && gs.all (betw · (-50) 50)
  | _ => false
def probB (tops rows gain : PyData) : Bool := match topsB tops with
  | some n => rowsB rows n && gainB gain n
  | none => false
def S_need_problem (K : PySem.W.Frag) (c : Cs) : Spec := fun Rs R => ∃ tops rows gain : PyData, Rs = [rpD tops, rpD rows, rpD gain] ∧ probB tops rows gain = true ∧ R = rep ()
def SE_need_problem (K : PySem.W.Frag) (c : Cs) : List RP → Addr → Prop := fun Rs C => ∃ tops rows gain : PyData, Rs = [rpD tops, rpD rows, rpD gain] ∧ probB tops rows gain = false ∧ C = c.BadProblem
def n_need_problem : List Str := ["tops", "rows", "gain", "row"]
def t_need_problem (K : PySem.W.Frag) (c : Cs) (E : XK) : TS := (tSeq (tIfS (tOr (tNot (tB (tCB (rIsi K) (tCons (tVar 0) (tCons (tC (.ty "list")) tNil))))) (tNot (tTest (tChain rLeI rLeI (tC (.int 1)) (tCB (rLenX K) (tCons (tVar 0) tNil)) (tC (.int 3)))))) (tSeq (tRaiseC E c.BadProblem)
  tNext) tNext)
  (tSeq (tIfS (tNot (tB (tCall (spD (S_are_between K c)) [] E0 (tCons (tVar 0) (tCons (tCB (rLenX K) (tCons (tVar 0) tNil)) (tCons (tC (.int 0)) (tCons (tC (.int 20)) tNil))))))) (tSeq (tRaiseC E c.BadProblem)
  tNext) tNext)
  (tSeq (tIfS (tOr (tNot (tB (tCB (rIsi K) (tCons (tVar 1) (tCons (tC (.ty "list")) tNil))))) (tTest (tOp rGtI (tCB (rLenX K) (tCons (tVar 1) tNil)) (tC (.int 6))))) (tSeq (tRaiseC E c.BadProblem)
  tNext) tNext)
  (tSeq (tFor (iList K (tVar 1)) (gName 3) (tSeq (tIfS (tNot (tB (tCall (spD (S_is_row K c)) [] E0 (tCons (tVar 3) (tCons (tCB (rLenX K) (tCons (tVar 0) tNil)) tNil))))) (tSeq (tRaiseC E c.BadProblem)
  tNext) tNext)
  tNext))
  (tSeq (tIfS (tOr (tNot (tB (tCB (rIsi K) (tCons (tVar 2) (tCons (tC (.ty "list")) tNil))))) (tNot (tB (tCall (spD (S_are_between K c)) [] E0 (tCons (tVar 2) (tCons (tCB (rLenX K) (tCons (tVar 0) tNil)) (tCons (tUn rNegI (tC (.int 50))) (tCons (tC (.int 50)) tNil)))))))) (tSeq (tRaiseC E c.BadProblem)
  tNext) tNext)
  tNext)))))
theorem lst_or (d : PyData) : (∃ ds, d = .list ds) ∨ isi d "list" = false := by
  cases d with
  | list ds => exact .inl ⟨ds, rfl⟩
  | _ => exact .inr rfl
theorem np_core {K : PySem.W.Frag} {c : Cs} {tops rows gain : PyData} {B : Base} {E : XK} {P : Post} (hm : B.m = []) (hE : probB tops rows gain = false → Raises B E c.BadProblem) (hP : probB tops rows gain = true → ∀ σ f h, Ext B.f B.h f h → P.nx σ f h) :
    BDe B (startC n_need_problem [rpD tops, rpD rows, rpD gain]) [] (t_need_problem K c E) P := by
  generalize hG : startC n_need_problem [rpD tops, rpD rows, rpD gain] = G
  have v0 : EvD G (tVar 0) (rpD tops) := by rw [← hG]; exact ev_var rfl
  have v1 : EvD G (tVar 1) (rpD rows) := by rw [← hG]; exact ev_var rfl
  have v2 : EvD G (tVar 2) (rpD gain) := by rw [← hG]; exact ev_var rfl
  have isL : ∀ {te : TE} {x : PyData}, EvD G te (rpD x) → EvD G (tCB (rIsi K) (tCons te (tCons (tC (.ty "list")) tNil))) (rep (isi x "list")) := fun h => ev_cb (ea_cons h (ea_cons ev_ty ea_nil)) c_isList
  -- tops is a list of one to three
  by_cases h1 : ∃ ts, tops = .list ts ∧ 1 ≤ ts.length ∧ ts.length ≤ 3
  rotate_left
  · have hf : probB tops rows gain = false := by
      unfold probB topsB
      cases tops with
      | list ts =>
        have : (decide (1 ≤ ts.length) && decide (ts.length ≤ 3)) = false := by
          by_cases a : 1 ≤ ts.length
          · by_cases b : ts.length ≤ 3
            · exact absurd ⟨ts, rfl, a, b⟩ h1
            · simp [b]
          · simp [a]
        simp [this]
      | _ => rfl
    apply bd_ifr (b := true)
    · apply EvT.s
      rcases lst_or tops with ⟨ts, rfl⟩ | hn
      · refine et_orF (et_eq (et_not (et_val (isL v0))) rfl) ?_
        refine et_eq (et_not (et_test (ev_chain (Rb := rep (ts.length : Int)) ev_int (ev_cb (ea_cons v0 ea_nil) c_lenL) ev_int s_le fun _ => s_le))) ?_
        have : ¬ (1 ≤ ts.length ∧ ts.length ≤ 3) := fun z => h1 ⟨ts, rfl, z.1, z.2⟩
        simp
        omega
      · refine et_orT (et_eq (et_not (et_val (isL v0))) ?_)
        rw [hn]
        rfl
    · intro _
      exact bd_raise hm (hE hf)
    · intro h
      cases h
  obtain ⟨ts, rfl, l1, l3⟩ := h1
  apply bd_ifr (b := false)
  · apply EvT.s
    refine et_orF (et_eq (et_not (et_val (isL v0))) rfl) ?_
    refine et_eq (et_not (et_test (ev_chain (Rb := rep (ts.length : Int)) ev_int (ev_cb (ea_cons v0 ea_nil) c_lenL) ev_int s_le fun _ => s_le))) ?_
    simp
    omega
  · intro h
    cases h
  intro _
  have hlen : (decide (1 ≤ ts.length) && decide (ts.length ≤ 3)) = true := by simp [l1, l3]
  apply bd_ifr (b := !(ts.all (betw · 0 20)))
  · apply EvT.s
    apply et_not
    apply et_val
    refine ev_eq (ev_call (ea_cons v0 (ea_cons (ev_cb (ea_cons v0 ea_nil) c_lenL) (ea_cons ev_int (ea_cons ev_int ea_nil)))) ⟨true, ts, ts.length, 0, 20, rfl, rfl⟩) ?_
    simp
  · intro h
    refine bd_raise hm (hE ?_)
    simp only [Bool.not_eq_true'] at h
    unfold probB topsB
    simp only [hlen, h, Bool.and_false]
    rfl
  intro hts
  simp only [Bool.not_eq_false'] at hts
  have et : topsB (.list ts) = some ts.length := by
    simp only [topsB, hlen, hts, Bool.and_self, if_true]
  have eP : probB (.list ts) rows gain = (rowsB rows ts.length && gainB gain ts.length) := by
    unfold probB
    rw [et]
  rw [eP] at hE hP
  -- rows
  by_cases h2 : ∃ rs, rows = .list rs ∧ rs.length ≤ 6
  rotate_left
  · have hf : rowsB rows ts.length = false := by
      cases rows with
      | list rs =>
        have : ¬ rs.length ≤ 6 := fun z => h2 ⟨rs, rfl, z⟩
        simp [rowsB, this]
      | _ => rfl
    apply bd_ifr (b := true)
    · apply EvT.s
      rcases lst_or rows with ⟨rs, rfl⟩ | hn
      · refine et_orF (et_eq (et_not (et_val (isL v1))) rfl) ?_
        refine et_eq (et_test (ev_op (ev_cb (ea_cons v1 ea_nil) c_lenL) ev_int s_gt)) ?_
        have : ¬ rs.length ≤ 6 := fun z => h2 ⟨rs, rfl, z⟩
        simp
        omega
      · refine et_orT (et_eq (et_not (et_val (isL v1))) ?_)
        rw [hn]
        rfl
    · intro _
      exact bd_raise hm (hE (by rw [hf]; rfl))
    · intro h
      cases h
  obtain ⟨rs, rfl, l6⟩ := h2
  apply bd_ifr (b := false)
  · apply EvT.s
    refine et_orF (et_eq (et_not (et_val (isL v1))) rfl) ?_
    refine et_eq (et_test (ev_op (ev_cb (ea_cons v1 ea_nil) c_lenL) ev_int s_gt)) ?_
    simp
    omega
  · intro h
    cases h
  intro _
  subst hG
  apply bd_forE (fun _ => startC n_need_problem [rpD (.list ts), rpD (.list rs), rpD gain]) (fun _ => []) (fun i => ∀ j, j < i → isRow (at_ rs j) ts.length = true)
  · refine WiD.s (wi_list (it := fun i => rpD (at_ rs i)) v1 fun i d h => ?_)
    unfold at_
    rw [List.getD_eq_getElem?_getD, h]
    rfl
  · walk_at "fg"
  · rfl
  · intro j hj
    omega
  · intro i hi
    exact tg_name
  · intro i hlt F
    apply bd_ifr (b := !isRow (at_ rs i) ts.length)
    · apply EvT.s
      apply et_not
      apply et_val
      exact ev_call (ea_cons (ev_var rfl) (ea_cons (ev_cb (ea_cons (ev_var rfl) ea_nil) c_lenL) ea_nil)) ⟨_, _, rfl, rfl⟩
    · intro hb
      simp only [Bool.not_eq_true'] at hb
      refine bd_raise hm (hE ?_)
      have : rs.all (isRow · (ts.length : Int)) = false := by
        rw [List.all_eq_false]
        exact ⟨_, at_mem hlt, by rw [hb]; exact Bool.false_ne_true⟩
      simp only [rowsB, this, Bool.and_false, Bool.false_and]
    · intro hb
      simp only [Bool.not_eq_false'] at hb
      refine bd_turnE ?_ rfl (by walk_at "fg")
      intro j hj
      by_cases e : j = i
      · rw [e]
        exact hb
      · exact F j (by omega)
  intro F
  have hr : rowsB (.list rs) ts.length = true := by
    simp only [rowsB, decide_eq_true l6, all_range rs (isRow · (ts.length : Int)) F, Bool.and_self]
  rw [hr, Bool.true_and] at hE hP
  -- the gain
  apply bd_ifr (b := !gainB gain ts.length)
  · apply EvT.s
    rcases lst_or gain with ⟨gs, rfl⟩ | hn
    · refine et_orF (et_eq (et_not (et_val (isL v2))) rfl) ?_
      apply et_not
      apply et_val
      exact ev_call (ea_cons v2 (ea_cons (ev_cb (ea_cons v0 ea_nil) c_lenL) (ea_cons (ev_un ev_int s_negI) (ea_cons ev_int ea_nil)))) ⟨true, gs, ts.length, -50, 50, rfl, rfl⟩
    · have e : gainB gain ts.length = false := by
        cases gain <;> first | rfl | (simp [isi, tyName, isiN] at hn)
      rw [e]
      refine et_orT (et_eq (et_not (et_val (isL v2))) ?_)
      rw [hn]
      rfl
  · intro h
    simp only [Bool.not_eq_true'] at h
    exact bd_raise hm (hE h)
  intro h
  simp only [Bool.not_eq_false'] at h
  exact bd_next fun σ f hp s => hP h σ f hp (s.toExt hm)
theorem rd_need_problem {K : PySem.W.Frag} {c : Cs} : ∀ Rs R, S_need_problem K c Rs R → ∀ (B : Base) (E : XK), B.m = [] → BDe B (startC n_need_problem Rs) [] (t_need_problem K c E) (fnP B R) := by
  rintro _ _ ⟨tops, rows, gain, rfl, h, rfl⟩ B E hm
  refine np_core hm (fun z => ?_) fun _ σ f hp e => ⟨e, rep_of_unit _⟩
  rw [h] at z
  cases z
theorem rd_need_problemX {K : PySem.W.Frag} {c : Cs} : ∀ Rs C, SE_need_problem K c Rs C → ∀ (B : Base) (E : XK), B.m = [] → Raises B E C → BDe B (startC n_need_problem Rs) [] (t_need_problem K c E) noP := by
  rintro _ _ ⟨tops, rows, gain, rfl, h, rfl⟩ B E hm hE
  refine np_core hm (fun _ => hE) fun z => ?_
  rw [h] at z
  cases z
end D

set_option Elab.async false
set_option linter.all false
set_option maxRecDepth 100000
set_option maxHeartbeats 4000000
namespace D
open PySem PySem.Spec PyProof.Rows L2
open ToPy (py)
abbrev own_ := own
/-! ### defs that change objects lent to them, or make objects of the caller's own -/
structure ExtM (m : List Addr) (f h f' h' : Hp) : Prop where
  ff : Same f f'
  fh : Same f' h'
  hh : ∀ a o, h a = some o → a ∉ m → h' a = some o
  th : ∀ a, h a ≠ none → h' a ≠ none
  nf : ∀ a, h a ≠ none → f a = none → f' a = none
structure OwnOk (m : List Addr) (h : Hp) (O : Own) (f' h' : Hp) : Prop where
  ow : ∀ p T, (p, T) ∈ O → f' p = none ∧ (h p = none ∨ p ∈ m) ∧ ∃ o, h' p = some o ∧ T.q o f'
  nd : (O.map (·.1)).Nodup
/-- S: from the arguments and the objects lent to what may come back, and the objects then -/
abbrev SpecO := List RP → Own → (RP → Own → Prop) → Prop
def spO (S : SpecO) : Sp := fun vs H Q _ => ∃ Rs O Po f, S Rs O Po ∧ Same f H ∧ All Rs vs f ∧ OwnOk (O.map (·.1)) H O f H ∧ ∀ v f' H' R O', Po R O' → ExtM (O.map (·.1)) f H f' H' → OwnOk (O.map (·.1)) H O' f' H' → R.p v f' → Q v H'
def fnO (B : Base) (Po : RP → Own → Prop) : Post :=
  ⟨fun _ f h => ∃ R O', Po R O' ∧ ExtM B.m B.f B.h f h ∧ OwnOk B.m B.h O' f h ∧ R.p .non f, fun v f h => ∃ R O', Po R O' ∧ ExtM B.m B.f B.h f h ∧ OwnOk B.m B.h O' f h ∧ R.p v f, fun _ _ _ => False, fun _ _ _ => False⟩
def EvAS (B : Base) (Γ : Ctx) (O : Own) (ta : TA) (Rs : List RP) : Prop := ∀ σ f h, Sta B Γ O σ f h → ∀ Q : List V → Hp → Prop, (∀ vs f' h', Ext f h f' h' → All Rs vs f' → Q vs h') → ta σ h Q
section
variable {B : Base} {Γ Γ' : Ctx} {O O' : Own} {σ : L2.St} {f h f' h' : Hp} {te ta to : TE} {t : TA} {R R' : RP} {Rs : List RP} {u : TS} {P : Post} {i : Nat} {C : Addr} {S : SpecO} {E : XK} {K : PySem.W.Frag} {Po : RP → Own → Prop} {m : Str}
theorem EvA.s (x : EvA Γ t Rs) : EvAS B Γ O t Rs := fun σ f h s Q q => x σ f h s.fh s.ok Q q
theorem ea_nilS : EvAS B Γ O tNil [] := fun σ f h s Q q => q [] f h (.refl s.fh) rfl
theorem ea_consS (h1 : EvS B Γ O te R) (h2 : EvAS B Γ O t Rs) : EvAS B Γ O (tCons te t) (R :: Rs) := fun σ f h s Q q =>
  h1 σ f h s _ fun v f1 h1 e1 rv => h2 σ f1 h1 (s.ext e1) _ fun vs f2 h2 e2 rs => q (v :: vs) f2 h2 (e1.trans e2) ⟨v, vs, rfl, R.mono rv e2.ff, rs⟩
theorem Sta.toM (s : Sta B Γ O σ f h) : ExtM B.m B.f B.h f h ∧ OwnOk B.m B.h O f h := ⟨⟨s.ff, s.fh, s.hh, s.th, s.nf⟩, ⟨s.ow, s.nd⟩⟩
theorem bd_endO (hp : Po R O) (hr : ∀ f, R.p .non f) : BDe B Γ O tNext (fnO B Po) := bd_next fun σ f h s => ⟨R, O, hp, s.toM.1, s.toM.2, hr f⟩
theorem bd_retO {nx bk ct : L2.St → Hp → Hp → Prop} (he : EvS B Γ O te R) (hp : Po R O) : BDe B Γ O (tSeq (tRet te) u) ⟨nx, (fnO B Po).rt, bk, ct⟩ := fun L σ f h s l D p =>
  he σ f h s _ fun v f1 h1 e rv => p.rt v f1 h1 (l.trans e.ff) ⟨R, O, hp, (s.ext e).toM.1, (s.ext e).toM.2, rv⟩
theorem bd_retNO {nx bk ct : L2.St → Hp → Hp → Prop} (hp : Po R O) (hr : ∀ f, R.p .non f) : BDe B Γ O (tSeq tRetN u) ⟨nx, (fnO B Po).rt, bk, ct⟩ := fun L σ f h s l D p => p.rt .non f h l ⟨R, O, hp, s.toM.1, s.toM.2, hr f⟩
/-- behind a call that may have changed all our own objects -/
theorem Sta.called (s : Sta B Γ O σ f h) (e : ExtM (O.map (·.1)) f h f' h') (w : OwnOk (O.map (·.1)) h O' f' h') : Sta B Γ O' σ f' h' where
  ff := s.ff.trans e.ff
  fh := e.fh
  hh := fun a o q n => by
    by_cases ha : a ∈ O.map (·.1)
    · obtain ⟨⟨p, T⟩, hp, rfl⟩ := List.mem_map.mp ha
      obtain ⟨_, g2, _⟩ := s.ow p T hp
      rcases g2 with g2 | g2
      · rw [g2] at q; cases q
      · exact absurd g2 n
    · exact e.hh a o (s.hh a o q n) ha
  th := fun a n => e.th a (s.th a n)
  nf := fun a n z => e.nf a (s.th a n) (s.nf a n z)
  ok := s.ok.mono e.ff
  ow := fun p T hp => by
    obtain ⟨g1, g2, g3⟩ := w.ow p T hp
    refine ⟨g1, ?_, g3⟩
    rcases g2 with g2 | g2
    · cases hb : B.h p with
      | none => exact .inl rfl
      | some o => exact absurd g2 (s.th p (by rw [hb]; exact fun z => nomatch z))
    · obtain ⟨⟨p', T'⟩, hp', e'⟩ := List.mem_map.mp g2
      cases e'
      exact (s.ow _ T' hp').2.1
  nd := w.nd
theorem Sta.own (s : Sta B Γ O σ f h) : OwnOk (O.map (·.1)) h O f h := ⟨fun p T hp => ⟨(s.ow p T hp).1, .inr (List.mem_map.mpr ⟨_, hp, rfl⟩), (s.ow p T hp).2.2⟩, s.nd⟩
/-- o.m(..), o our own instance; what comes back is kept under a name -/
theorem ev_methO {fs : List (Str × RP)} {p : Addr} (j : Nat) (ho : EvD Γ to (own p)) (hj : O[j]? = some (p, insO C fs)) (hl : fs.lookup m = none) (ha : EvAS B Γ O t Rs) (hS : S (D.own p :: Rs) O Po) {Q : V → Hp → Prop} (s : Sta B Γ O σ f h)
    (k : ∀ v f' h' R O', Po R O' → Same f f' → Sta B Γ O' σ f' h' → R.p v f' → Q v h') : tMeth C m (spO S) [] E to t σ h Q :=
  ho σ f h s.fh s.ok _ fun v f1 h1 e1 rv => by
    cases rv
    have s1 := s.ext e1
    obtain ⟨o, hp, dx, fvs, rfl, hr⟩ := s1.get hj
    refine ⟨p, dx, fvs, rfl, hp, hr.none hl, ha σ f1 h1 s1 _ fun vs f2 h2 e2 rs => ?_⟩
    have s2 := s1.ext e2
    rw [List.append_nil]
    refine ⟨_, O, Po, f2, hS, s2.fh, ⟨_, vs, rfl, rfl, rs⟩, s2.own, fun v f' H' R O' hp e3 w rv => ?_⟩
    exact k v f' H' R O' hp ((e1.trans e2).ff.trans e3.ff) (s2.called e3 w) rv
theorem bd_methO {fs : List (Str × RP)} {p : Addr} (j : Nat) (ho : EvD Γ to (own p)) (hj : O[j]? = some (p, insO C fs)) (hl : fs.lookup m = none) (ha : EvAS B Γ O t Rs) (hS : S (D.own p :: Rs) O Po)
    (k : ∀ R O', Po R O' → BDe B Γ O' u P) : BDe B Γ O (tSeq (tDrop (tMeth C m (spO S) [] E to t)) u) P := fun L σ f h s l D q =>
  ev_methO j ho hj hl ha hS s fun v f' h' R O' hp e s' rv => k R O' hp L σ f' h' s' (l.trans e) D q
theorem bd_setMO {fs : List (Str × RP)} {p : Addr} (j : Nat) (ho : EvD Γ to (own p)) (hj : O[j]? = some (p, insO C fs)) (hl : fs.lookup m = none) (ha : EvAS B Γ O t Rs) (hS : S (D.own p :: Rs) O Po)
    (k : ∀ R O', Po R O' → BDe B (Γ.set i (some R)) O' u P) : BDe B Γ O (tSeq (tAsg (tMeth C m (spO S) [] E to t) (gName i)) u) P := fun L σ f h s l D q =>
  ev_methO j ho hj hl ha hS s fun v f' h' R O' hp e s' rv => k R O' hp L _ f' h' (s'.set rv) (l.trans e) D q

/-- the heap with a new instance -/
theorem sta_make {x dx : Addr} (s : Sta B Γ [] σ f h) (hx : h x = none) (hdx : h dx = none) : Sta B Γ [(x, insO C [])] σ f (upd (upd h dx (.own x)) x (.ins C dx [])) := by
  have fx : f x = none := s.fh.free hx
  have hh2 : Same h (upd (upd h dx (.own x)) x (.ins C dx [])) := fun b o e => by
    rw [upd_ne (ne_of_none e hx), upd_ne (ne_of_none e hdx)]
    exact e
  have hb : B.h x = none := by
    cases hb : B.h x with
    | none => rfl
    | some o => exact absurd hx (s.th x (by rw [hb]; exact fun z => nomatch z))
  have hw : ∀ p T, (p, T) ∈ [(x, insO C [])] → f p = none ∧ (B.h p = none ∨ p ∈ B.m) ∧ ∃ o, upd (upd h dx (.own x)) x (.ins C dx []) p = some o ∧ T.q o f := fun p T hp => by
    rcases List.mem_cons.mp hp with z | z
    · cases z
      exact ⟨fx, .inl hb, _, upd_same, dx, [], rfl, rfl⟩
    · cases z
  exact ⟨s.ff, s.fh.trans hh2, fun a o q n => hh2 _ _ (s.hh a o q n), fun a n z => s.th a n (hh2.free z), s.nf, s.ok, hw, by simp⟩
/-- a new instance of a class of the text, our own -/
theorem bd_make (ha : EvAS B Γ [] t Rs) (hS : ∀ x, ∃ Po, S (D.own x :: Rs) [(x, insO C [])] Po ∧ ∀ R O', Po R O' → R = rep () ∧ BDe B (Γ.set i (some (D.own x))) O' u P) : BDe B Γ [] (tSeq (tAsg (tMake C (spO S) [] E t) (gName i)) u) P := fun L σ f h s l D q => by
  refine ha σ f h s _ fun vs f1 h1 e1 rs => ?_
  intro x dx hx hdx hne
  have s1 := s.ext e1
  rw [List.append_nil]
  obtain ⟨Po, hS, k⟩ := hS x
  have s2 := sta_make (C := C) s1 hx hdx
  refine ⟨_, _, Po, f1, hS, s2.fh, ⟨_, vs, rfl, rfl, rs⟩, s2.own, fun v f' H' R O' hp e3 w rv => ?_⟩
  obtain ⟨rfl, k⟩ := k R O' hp
  cases rep_unit rv
  have s3 := s2.called e3 w
  exact ⟨rfl, k L _ f' H' (s3.set (R := own_ x) rfl) ((l.trans e1.ff).trans e3.ff) D q⟩
/-- .. that stands from now on -/
theorem ev_make {fs : List (Str × RP)} (ha : EvA Γ t Rs) (hS : ∀ x, ∃ Po, S (D.own x :: Rs) [(x, insO C [])] Po ∧ ∀ R O', Po R O' → R = rep () ∧ O' = [(x, insO C fs)]) : EvD Γ (tMake C (spO S) [] E t) (insR C fs) := fun σ f h s ok Q q => by
  refine ha σ f h s ok _ fun vs f1 h1 e1 rs => ?_
  intro x dx hx hdx hne
  rw [List.append_nil]
  obtain ⟨Po, hS, k⟩ := hS x
  have s1 : Sta ⟨f1, h1, []⟩ Γ [] σ f1 h1 := ⟨.refl _, e1.fh, fun _ _ e _ => e, fun _ n => n, fun _ _ e => e, ok.mono e1.ff, fun _ _ z => (nomatch z), List.nodup_nil⟩
  have s2 := sta_make (C := C) s1 hx hdx
  refine ⟨_, _, Po, f1, hS, s2.fh, ⟨_, vs, rfl, rfl, rs⟩, s2.own, fun v f' H' R O' hp e3 w rv => ?_⟩
  obtain ⟨rfl, rfl⟩ := k R O' hp
  cases rep_unit rv
  have s3 := s2.called e3 w
  obtain ⟨o, ho, ht⟩ := s3.get (i := 0) rfl
  obtain ⟨s4, k4⟩ := s3.freeze (i := 0) rfl ho rfl
  obtain ⟨dx', fvs, rfl, hr⟩ := ht
  have E := s4.toExt rfl
  exact ⟨rfl, q _ _ H' (e1.trans E) ⟨x, dx', fvs, rfl, upd_same, hr.mono k4⟩⟩
/-! fields of our own instances -/
def putR (n : Str) (R : RP) : List (Str × RP) → List (Str × RP)
  | [] => [(n, R)]
  | (g, x) :: r => if g = n then (g, R) :: r else (g, x) :: putR n R r
theorem RepF.put {n : Str} {R : RP} {v : V} {H : Hp} (hv : R.p v H) : ∀ {fs : List (Str × RP)} {fvs : List (Str × V)}, RepF fs fvs H → RepF (putR n R fs) (putF n v fvs) H
  | [], _, h => by cases h; exact ⟨v, [], rfl, hv, rfl⟩
  | (g, x) :: r, _, ⟨w, r', e, h1, h2⟩ => by
    subst e
    unfold putR putF
    by_cases c : g = n
    · rw [if_pos c, if_pos c]
      exact ⟨v, r', rfl, hv, h2⟩
    · rw [if_neg c, if_neg c]
      exact ⟨w, _, rfl, h1, RepF.put hv h2⟩
theorem RepF.length {H : Hp} : ∀ {fs : List (Str × RP)} {fvs : List (Str × V)}, RepF fs fvs H → fvs.length = fs.length
  | [], _, h => by cases h; rfl
  | (g, x) :: r, _, ⟨w, r', e, h1, h2⟩ => by subst e; simp [RepF.length h2]
/-- self.n = e -/
theorem bd_setF {fs : List (Str × RP)} {p : Addr} {n : Str} (j : Nat) (he : EvS B Γ O te R) (ho : EvD Γ to (D.own p)) (hj : O[j]? = some (p, insO C fs)) (hc : Cls K C) (hn : NoAttr K C n) (hz : fs.length < 1000)
    (k : BDe B Γ (O.set j (p, insO C (putR n R fs))) u P) : BDe B Γ O (tSeq (sFld K to te n) u) P := fun L σ f h s l D q =>
  he σ f h s _ fun y f1 h1 e1 ry => ho σ f1 h1 e1.fh (s.ext e1).ok _ fun v f2 h2 e2 rv => by
    cases rv
    have s2 := (s.ext e1).ext e2
    obtain ⟨o, hp, dx, fvs, rfl, hr⟩ := s2.get hj
    refine ⟨p, C, dx, fvs, rfl, hp, hc, hn, by rw [hr.length]; exact hz, ?_⟩
    exact k L σ f2 _ (s2.put hj ⟨dx, _, rfl, hr.put (R.mono ry e2.ff)⟩) ((l.trans e1.ff).trans e2.ff) D q
/-- self.n = e, a new object of our own -/
theorem bd_setFO {fs : List (Str × RP)} {p : Addr} {n : Str} {T : OT} (j : Nat) (he : EvNS B Γ O te T) (ho : EvD Γ to (D.own p)) (hj : O[j]? = some (p, insO C fs)) (hc : Cls K C) (hn : NoAttr K C n) (hz : fs.length < 1000)
    (k : ∀ p', BDe B Γ (((p', T) :: O).set (j + 1) (p, insO C (putR n (D.own p') fs))) u P) : BDe B Γ O (tSeq (sFld K to te n) u) P := fun L σ f h s l D q =>
  he σ f h s _ fun p' o f1 h1 e1 nn nf ho' ht => ho σ f1 h1 e1.fh (s.ext e1).ok _ fun v f2 h2 e2 rv => by
    cases rv
    have s1 := s.ext e1
    have hb : B.h p' = none := by
      cases hb : B.h p' with
      | none => rfl
      | some o' => exact absurd nn (s.th p' (by rw [hb]; exact fun z => nomatch z))
    have s1' : Sta B Γ ((p', T) :: O) σ f1 h1 := by
      refine ⟨s1.ff, s1.fh, s1.hh, s1.th, s1.nf, s1.ok, fun p2 T2 hm => ?_, ?_⟩
      · rcases List.mem_cons.mp hm with z | z
        · cases z
          exact ⟨nf, .inl hb, o, ho', ht⟩
        · exact s1.ow p2 T2 z
      · rw [List.map_cons, List.nodup_cons]
        refine ⟨fun z => ?_, s1.nd⟩
        obtain ⟨⟨p2, T2⟩, z1, z2⟩ := List.mem_map.mp z
        obtain ⟨_, _, o2, h3, _⟩ := s.ow p2 T2 z1
        cases z2
        rw [nn] at h3
        cases h3
    have s2 := s1'.ext e2
    have hj' : ((p', T) :: O)[j + 1]? = some (p, insO C fs) := hj
    obtain ⟨o2, hp, dx, fvs, rfl, hr⟩ := s2.get hj'
    refine ⟨p, C, dx, fvs, rfl, hp, hc, hn, by rw [hr.length]; exact hz, ?_⟩
    exact k p' L σ f2 _ (s2.put hj' ⟨dx, _, rfl, hr.put (R := own_ p') rfl⟩) ((l.trans e1.ff).trans e2.ff) D q
theorem es_fld {fs : List (Str × RP)} {p : Addr} {n : Str} (j : Nat) (ho : EvD Γ to (D.own p)) (hj : O[j]? = some (p, insO C fs)) (hc : Cls K C) (hn : NoAttr K C n) (hl : fs.lookup n = some R) : EvS B Γ O (tFld K to n) R := fun σ f h s Q q =>
  ho σ f h s.fh s.ok _ fun v f1 h1 e rv => by
    cases rv
    obtain ⟨o, hp, dx, fvs, rfl, hr⟩ := (s.ext e).get hj
    obtain ⟨v', l, rv⟩ := hr.get hl
    exact ⟨p, C, dx, fvs, v', rfl, hp, hc, hn, l, q v' f1 h1 e rv⟩
theorem es_op {Ra Rb : RP} {r : R2} (ha : EvS B Γ O ta Ra) (hb : EvS B Γ O te Rb) (hr : R2D r Ra Rb R) : EvS B Γ O (tOp r ta te) R := fun σ f h s Q q =>
  ha σ f h s _ fun x f1 h1 e1 rx => hb σ f1 h1 (s.ext e1) _ fun y f2 h2 e2 ry => hr x y f2 h2 e2.fh (Ra.mono rx e2.ff) ry _ fun v f3 h3 e3 rv => q v f3 h3 ((e1.trans e2).trans e3) rv
theorem es_callX {S : Spec} {SE : List RP → Addr → Prop} (ha : EvAS B Γ O t Rs) (hS : S Rs R) : EvS B Γ O (tCall (spX S SE) [] E t) R := fun σ f h s Q q =>
  ha σ f h s _ fun vs f1 h1 e rs => by
    rw [List.append_nil]
    exact ⟨Rs, f1, e.fh, rs, .inl ⟨R, hS, fun v f' H' e2 rv => q v f' H' (e.trans e2) rv⟩⟩
theorem es_call {S : Spec} (ha : EvAS B Γ O t Rs) (hS : S Rs R) : EvS B Γ O (tCall (spD S) [] E t) R := fun σ f h s Q q =>
  ha σ f h s _ fun vs f1 h1 e rs => by
    rw [List.append_nil]
    exact ⟨Rs, R, f1, hS, e.fh, rs, fun v f' H' e2 rv => q v f' H' (e.trans e2) rv⟩
/-- .append and [i] = .. of an object that a field names -/
theorem bd_appS {α : Type} {_ : ToPy α} {xs : List α} {a : α} {p : Addr} (j : Nat) (ho : EvS B Γ O to (D.own p)) (hj : O[j]? = some (p, oL xs)) (he : EvS B Γ O te (rep a)) (hz : xs.length < 1000000) (k : BDe B Γ (O.set j (p, oL (xs ++ [a]))) u P) :
    BDe B Γ O (tSeq (tDrop (tBM K "list" rAppend to (tCons te tNil))) u) P := fun L σ f h s l D q =>
  ho σ f h s _ fun v f1 h1 e1 rv => by
    cases rv
    have s1 := s.ext e1
    obtain ⟨o, hp, vs, rfl, hr⟩ := s1.get hj
    refine ⟨.inl ⟨rfl, vs, SqL.of1 hp⟩, he σ f1 h1 s1 _ fun y f2 h2 e2 ry => ?_⟩
    have s2 := s1.ext e2
    have hp2 : h2 p = some (.lst vs) := e2.hh _ _ hp
    refine ⟨p, vs, y, rfl, rfl, hp2, ?_, ?_⟩
    · rw [repL_length hr, List.length_map]
      exact Nat.lt_trans hz (by decide)
    · refine k L σ f2 _ (s2.put hj ?_) ((l.trans e1.ff).trans e2.ff) D q
      refine ⟨_, rfl, ?_⟩
      rw [List.map_append]
      exact repL_append (repL_mono e2.ff _ _ hr) (repL_one ry)
theorem bd_setIS {α : Type} {_ : ToPy α} {xs : List α} {a : α} {z : Int} {p : Addr} {ti : TE} (j : Nat) (he : EvS B Γ O te (rep a)) (ho : EvS B Γ O to (D.own p)) (hi : EvS B Γ O ti (rep z)) (hj : O[j]? = some (p, oL xs)) (h0 : 0 ≤ z) (h1 : z < (xs.length : Int))
    (k : BDe B Γ (O.set j (p, oL (xs.set z.toNat a))) u P) : BDe B Γ O (tSeq (tAsg te (gSub to ti rSetL)) u) P := fun L σ f h s l D q =>
  he σ f h s _ fun y f1 hp1 e1 ry => ho σ f1 hp1 (s.ext e1) _ fun v f2 hp2 e2 rv => hi σ f2 hp2 ((s.ext e1).ext e2) _ fun w f3 hp3 e3 rw_ => by
    cases rv
    cases rep_int rw_
    have s3 := ((s.ext e1).ext e2).ext e3
    obtain ⟨o, hp, vs, rfl, hr⟩ := s3.get hj
    refine ⟨p, vs, z, z.toNat, rfl, rfl, hp, ?_, ?_⟩
    · unfold ixN
      rw [if_pos h0, if_pos]
      rw [repL_length hr, List.length_map]
      exact h1
    · refine k L σ f3 _ (s3.put hj ?_) (((l.trans e1.ff).trans e2.ff).trans e3.ff) D q
      refine ⟨_, rfl, ?_⟩
      rw [List.map_set]
      exact repL_set _ hr ((rpD (py a)).mono ry (e2.trans e3).ff)
/-! our own objects that stand from now on: fields that name them -/
theorem map_set_key {p : Addr} {T T' : OT} (hi : O[i]? = some (p, T)) : (O.set i (p, T')).map (·.1) = O.map (·.1) := by
  rw [List.map_set]
  apply List.ext_getElem?
  intro n
  by_cases hn : i = n
  · subst hn
    rw [List.getElem?_set_self (by simpa using (List.getElem?_eq_some_iff.mp hi).1), List.getElem?_map, hi]
    rfl
  · rw [List.getElem?_set_ne hn]
/-- what we know of our own objects may be told otherwise -/
theorem Sta.up (s : Sta B Γ O σ f h) (hk : O'.map (·.1) = O.map (·.1)) (w : ∀ p T', (p, T') ∈ O' → ∃ T, (p, T) ∈ O ∧ ∀ o, h p = some o → T.q o f → T'.q o f) : Sta B Γ O' σ f h :=
  ⟨s.ff, s.fh, s.hh, s.th, s.nf, s.ok, fun p T' hp => by
    obtain ⟨T, h1, h2⟩ := w p T' hp
    obtain ⟨g1, g2, o, g3, g4⟩ := s.ow p T h1
    exact ⟨g1, g2, o, g3, h2 o g3 g4⟩, by rw [hk]; exact s.nd⟩
/-- freezing what was made new here -/
theorem Sta.freeze1 (s : Sta B Γ O σ f h) {p : Addr} {o : HO} {T : OT} (hi : O[i]? = some (p, T)) (ho : h p = some o) (hb : B.h p = none) : Sta B Γ (O.eraseIdx i) σ (upd f p o) h ∧ Same f (upd f p o) := by
  obtain ⟨h1, h2, o1, h3, h4⟩ := s.ow p T (List.mem_of_getElem? hi)
  have k := same_new (o := o) h1
  refine ⟨{ s with ff := s.ff.trans k, fh := ?_, nf := ?_, ok := s.ok.mono k, ow := ?_, nd := ?_ }, k⟩
  · intro a u e
    by_cases hp : a = p
    · subst hp
      rw [upd_same] at e
      cases e
      exact ho
    · rw [upd_ne hp] at e
      exact s.fh a u e
  · intro a n z
    rw [upd_ne (fun y => n (by rw [y]; exact hb))]
    exact s.nf a n z
  · intro p' U hm'
    obtain ⟨j, hj⟩ := List.getElem?_of_mem hm'
    have hj' : O[if j < i then j else j + 1]? = some (p', U) := by
      rw [List.getElem?_eraseIdx] at hj
      split at hj
      · rename_i c; rw [if_pos c]; exact hj
      · rename_i c; rw [if_neg c]; exact hj
    obtain ⟨g1, g2, o2, g3, g4⟩ := s.ow p' U (List.mem_of_getElem? hj')
    have ne : p' ≠ p := fun z => by
      have := nodup_at s.nd hi (z ▸ hj')
      split at this <;> omega
    exact ⟨by rw [upd_ne ne]; exact g1, g2, o2, g3, U.mono g4 k⟩
  · rw [List.eraseIdx_eq_take_drop_succ, List.map_append]
    have nd := s.nd
    rw [← List.take_append_drop i O, List.map_append] at nd
    rw [List.nodup_append] at nd ⊢
    obtain ⟨n1, n2, n3⟩ := nd
    have sub : (List.map (·.1) (O.drop (i + 1))).Sublist (List.map (·.1) (O.drop i)) := by
      refine List.Sublist.map _ ?_
      have : O.drop (i + 1) = (O.drop i).drop 1 := by rw [List.drop_drop]
      rw [this]
      exact List.drop_sublist 1 _
    exact ⟨n1, n2.sublist sub, fun a ha b hb => n3 a ha b (sub.subset hb)⟩
/-- the object at j was made new here: what may change of the base are other objects -/
def Fresh (B : Base) (O : Own) (j : Nat) : Prop := ∀ a ∈ B.m, ∃ k T, O[k]? = some (a, T) ∧ k ≠ j
theorem Fresh.none {p : Addr} {T : OT} (s : Sta B Γ O σ f h) {j : Nat} (hj : O[j]? = some (p, T)) (F : Fresh B O j) : B.h p = none := by
  rcases (s.ow p T (List.mem_of_getElem? hj)).2.1 with z | z
  · exact z
  · obtain ⟨k, T', hk, ne⟩ := F p z
    exact absurd (nodup_at s.nd hk hj) ne
theorem fresh_nil (hm : B.m = []) {j : Nat} : Fresh B O j := fun a h => by rw [hm] at h; cases h
theorem fresh_one {x : Addr} {T : OT} {j : Nat} (k : Nat) (hm : B.m = [x]) (hk : O[k]? = some (x, T)) (ne : k ≠ j) : Fresh B O j := fun a h => by
  rw [hm] at h
  simp at h
  exact ⟨k, T, by rw [h]; exact hk, ne⟩
def Up (p : Addr) (N : RP) (R R' : RP) : Prop := ∀ v f, R.p v f → N.p (.ref p) f → R'.p v f
theorem up_same {p : Addr} {N : RP} : Up p N R R := fun _ _ h _ => h
theorem up_own {p : Addr} {N : RP} : Up p N (D.own p) N := fun v f h n => by cases h; exact n
inductive UpF (p : Addr) (N : RP) : List (Str × RP) → List (Str × RP) → Prop where
  | nil : UpF p N [] []
  | cons {n : Str} {R R' : RP} {fs fs' : List (Str × RP)} (h : Up p N R R') (t : UpF p N fs fs') : UpF p N ((n, R) :: fs) ((n, R') :: fs')
theorem UpF.rep {p : Addr} {N : RP} {fs fs' : List (Str × RP)} (u : UpF p N fs fs') : ∀ {fvs : List (Str × V)}, RepF fs fvs f → N.p (.ref p) f → RepF fs' fvs f := by
  induction u with
  | nil => intro fvs h _; exact h
  | cons hu t ih =>
    rintro fvs ⟨v, r, e, h1, h2⟩ n
    exact ⟨v, r, e, hu v f h1 n, ih h2 n⟩
theorem set_eraseIdx_mem {p q : Addr} {T T' : OT} {j j' : Nat} (hj' : O[j']? = some (q, T)) {a : Addr} {U : OT} (h : (a, U) ∈ (O.set j' (q, T')).eraseIdx j) (ne : j ≠ j') : ((a, U) = (q, T') ∧ (q, T) ∈ O.eraseIdx j) ∨ (a, U) ∈ O.eraseIdx j := by
  obtain ⟨m, hm⟩ := List.getElem?_of_mem h
  rw [List.getElem?_eraseIdx] at hm
  split at hm
  · rename_i c
    by_cases e : j' = m
    · subst e
      rw [List.getElem?_set_self (List.getElem?_eq_some_iff.mp hj').1] at hm
      cases hm
      refine .inl ⟨rfl, List.mem_of_getElem? (i := j') ?_⟩
      rw [List.getElem?_eraseIdx, if_pos c]
      exact hj'
    · rw [List.getElem?_set_ne e] at hm
      refine .inr (List.mem_of_getElem? (i := m) ?_)
      rw [List.getElem?_eraseIdx, if_pos c]
      exact hm
  · rename_i c
    by_cases e : j' = m + 1
    · subst e
      rw [List.getElem?_set_self (List.getElem?_eq_some_iff.mp hj').1] at hm
      cases hm
      refine .inl ⟨rfl, List.mem_of_getElem? (i := m) ?_⟩
      rw [List.getElem?_eraseIdx, if_neg c]
      exact hj'
    · rw [List.getElem?_set_ne e] at hm
      refine .inr (List.mem_of_getElem? (i := m) ?_)
      rw [List.getElem?_eraseIdx, if_neg c]
      exact hm
theorem map_eraseIdx {α β : Type} (g : α → β) : ∀ (l : List α) (j : Nat), (l.eraseIdx j).map g = (l.map g).eraseIdx j
  | [], _ => rfl
  | a :: l, 0 => rfl
  | a :: l, j + 1 => by simp [map_eraseIdx g l j]
/-- a list of ours that a field of an instance of ours names -/
theorem bd_frzF {α : Type} {_ : ToPy α} {xs : List α} {p q : Addr} {fs fs' : List (Str × RP)} (j j' : Nat) (ne : j ≠ j') (hj : O[j]? = some (p, oL xs)) (hj' : O[j']? = some (q, insO C fs)) (F : Fresh B O j) (hu : UpF p (rep xs) fs fs')
    (k : BDe B Γ ((O.set j' (q, insO C fs')).eraseIdx j) u P) : BDe B Γ O u P := fun L σ f h s l D z => by
  obtain ⟨o, ho, vs, rfl, hr⟩ := s.get hj
  obtain ⟨s1, k1⟩ := s.freeze1 hj ho (F.none s hj)
  have N : (rep xs).p (.ref p) (upd f p (.lst vs)) := by
    show repD (.list (xs.map py)) _ _
    simp only [repD]
    exact ⟨p, vs, rfl, upd_same, repL_mono k1 _ _ hr⟩
  refine k L σ _ h (s1.up ?_ fun a T' hm => ?_) (l.trans k1) D z
  · rw [map_eraseIdx, map_eraseIdx, map_set_key hj']
  · rcases set_eraseIdx_mem (p := p) hj' hm ne with ⟨e, m⟩ | m
    · cases e
      exact ⟨_, m, fun o _ ⟨dx, fvs, e, hr⟩ => ⟨dx, fvs, e, hu.rep hr N⟩⟩
    · exact ⟨_, m, fun o _ h => h⟩
/-- an instance of ours stands from now on -/
theorem bd_frzI {p : Addr} {fs : List (Str × RP)} (j i : Nat) (hi : Γ[i]? = some (some (D.own p))) (hj : O[j]? = some (p, insO C fs)) (F : Fresh B O j) (k : BDe B (Γ.set i (some (insR C fs))) (O.eraseIdx j) u P) : BDe B Γ O u P := fun L σ f h s l D q => by
  obtain ⟨o, ho, dx, fvs, rfl, hr⟩ := s.get hj
  obtain ⟨s1, k1⟩ := s.freeze1 hj ho (F.none s hj)
  obtain ⟨v, hv, rv⟩ := s.ok.2 i _ hi
  cases rv
  have z : (insR C fs).p (.ref p) (upd f p (.ins C dx fvs)) := ⟨p, dx, fvs, rfl, upd_same, hr.mono k1⟩
  refine k L σ _ h ?_ (l.trans k1) D q
  have s2 := s1.set (i := i) z
  have e : σ.set i (some (.ref p)) = σ := by
    apply List.ext_getElem?
    intro n
    by_cases hn : i = n
    · subst hn
      rw [List.getElem?_set_self (List.getElem?_eq_some_iff.mp hv).1, hv]
    · rw [List.getElem?_set_ne hn]
  rw [e] at s2
  exact s2
/-- lending an instance of ours: its fields lent -/
inductive LendF (O : Own) : List (Str × RP) → List (Str × RP) → Prop where
  | nil : LendF O [] []
  | cons {n : Str} {R R' : RP} {fs fs' : List (Str × RP)} (h : Lend O R R') (t : LendF O fs fs') : LendF O ((n, R) :: fs) ((n, R') :: fs')
theorem LendF.rep {fs fs' : List (Str × RP)} (u : LendF O fs fs') (sm : Same f (lent O f h)) (w : ∀ p T, (p, T) ∈ O → ∃ o, h p = some o ∧ T.q o f) : ∀ {fvs : List (Str × V)}, RepF fs fvs f → RepF fs' fvs (lent O f h) := by
  induction u with
  | nil => intro fvs h; exact h
  | cons hu t ih =>
    rintro fvs ⟨v, r, e, h1, h2⟩
    exact ⟨v, r, e, hu v f h sm w h1, ih h2⟩
theorem lend_ins {p : Addr} {fs fs' : List (Str × RP)} (j : Nat) (hj : O[j]? = some (p, insO C fs)) (u : LendF O fs fs') : Lend O (D.own p) (insR C fs') := fun v f h s w hv => by
  cases hv
  obtain ⟨o, ho, dx, fvs, rfl, hr⟩ := w p _ (List.mem_of_getElem? hj)
  exact ⟨p, dx, fvs, rfl, by rw [lent_at hj]; exact ho, u.rep s w hr⟩
theorem bd_perm {O' : Own} (hp : O.Perm O') (k : BDe B Γ O' u P) : BDe B Γ O u P := fun L σ f h s l D q =>
  k L σ f h ⟨s.ff, s.fh, s.hh, s.th, s.nf, s.ok, fun p T m => s.ow p T (hp.mem_iff.mpr m), (hp.map _).nodup_iff.mp s.nd⟩ l D q
end
/-! ### the bodies -/
section
variable {P : Program} {w : World} {K : PySem.W.Frag} {mg : Str → Option Value} {base : Heap} {x q : Str} {st : Stmt} {N ps : List Str} {k : Nat} {S : SpecO} {C : Addr} {m : Str} {t : TS}
def RdO (S : SpecO) (N : List Str) (t : TS) : Prop := ∀ Rs O Po, S Rs O Po → ∀ B : Base, B.m = O.map (·.1) → BDe B (startC N Rs) O t (fnO B Po)
theorem run_spO {t : TS} (ev : RdO S N t) {vs : List V} {H : Hp} {Q : VK} {E : XK} (h : spO S vs H Q E) : t { nx := fun _ H' => Q .non H', rt := Q } (L2.start N vs) H := by
  obtain ⟨Rs, O, Po, f, hS, s, a, w, k⟩ := h
  have st : Sta ⟨f, H, O.map (·.1)⟩ (startC N Rs) O (L2.start N vs) f H := ⟨.refl _, s, fun a o e _ => e, fun _ n => n, fun _ _ e => e, ok_start a, w.ow, w.nd⟩
  refine ev Rs O Po hS ⟨f, H, O.map (·.1)⟩ rfl f (L2.start N vs) f H st (.refl _) _ ⟨fun σ f' h' _ z => ?_, fun v f' h' _ z => ?_, fun _ _ _ _ z => z.elim, fun _ _ _ _ z => z.elim⟩
  · obtain ⟨R, O', z1, z2, z3, z4⟩ := z
    exact k .non f' h' R O' z1 z2 z3 z4
  · obtain ⟨R, O', z1, z2, z3, z4⟩ := z
    exact k v f' h' R O' z1 z2 z3 z4
theorem okO (F : Fun K m q st f fd) (sc : FnScope N ps (defScope st)) (hlen : ∀ Rs O Po, S Rs O Po → Rs.length = ps.length)
    (hps : ∀ (f : Addr) (cdv : Value) (A : Around) (outer : List Env) (s : Shared) (H : Hp) (E : XK), Room k (A.deeper (envOfC q (defScope st) s.heap.objs.size f cdv)) → PSs (cx0 P w K mg base N q st f cdv A outer s H E) (defBody st) t)
    (ev : RdO S N t) : FnOk P w K mg base CX0 (k + 1) f fd ps (spO S) :=
  F.ok sc (fun vs H Q E h => by
    obtain ⟨Rs, O, Po, f, hS, _, a, _⟩ := h
    rw [a.length, hlen Rs O Po hS]) fun cdv A outer s H vs Q E hr h => ⟨t, hps f cdv A outer s H E hr, run_spO ev h⟩
theorem okmO (F : DefM K C m q st ps) (sc : FnScope N ps (defScope st)) (hlen : ∀ Rs O Po, S Rs O Po → Rs.length = ps.length)
    (hps : ∀ (f : Addr) (cdv : Value) (A : Around) (outer : List Env) (s : Shared) (H : Hp) (E : XK), Room k (A.deeper (envOfC q (defScope st) s.heap.objs.size f cdv)) → PSs (cx0 P w K mg base N q st f cdv A outer s H E) (defBody st) t)
    (ev : RdO S N t) : Okm P w K mg base CX0 (k + 1) C m ps (spO S) := by
  obtain ⟨f, fd, hF, hm, hb⟩ := F
  exact ⟨f, fd, hm, hb, okO hF sc hlen hps ev⟩
theorem okiO (F : DefI K mg x C st ps) (sc : FnScope N ps (defScope st)) (hlen : ∀ Rs O Po, S Rs O Po → Rs.length = ps.length)
    (hps : ∀ (q : Str) (f : Addr) (cdv : Value) (A : Around) (outer : List Env) (s : Shared) (H : Hp) (E : XK), Room k (A.deeper (envOfC q (defScope st) s.heap.objs.size f cdv)) → PSs (cx0 P w K mg base N q st f cdv A outer s H E) (defBody st) t)
    (ev : RdO S N t) : Oki P w K mg base CX0 (k + 1) x C ps (spO S) := by
  obtain ⟨h1, f, fd, q, hF, hm, hb⟩ := F
  exact ⟨h1, f, fd, hm, hb, okO hF sc hlen (hps q) ev⟩
end
end D
namespace D
open PySem PySem.Spec PyProof.Rows L2
/-- a class and its __init__, by its qualified name -/
def DefJ (K : PySem.W.Frag) (mg : Str → Option Value) (x : Str) (C : Addr) (q : Str) (st : Stmt) (ps : List Str) : Prop := mg x = some (.ref C) ∧ ∃ (f : Addr) (fd : FuncData), Fun K "__init__" q st f fd ∧ Mk K C f ∧ Binds K fd ps []
section
variable {P : Program} {w : World} {K : PySem.W.Frag} {mg : Str → Option Value} {base h : Heap} {x q : Str} {st : Stmt} {N ps : List Str} {k : Nat} {S : SpecO} {C : Addr} {t : TS}
theorem defj_of (X : K.In h) (G : h.Ns mainGlobals mg) (g : PySem.W.nsIn K mainGlobals x = some (some (.ref C))) (d : DefIK K C st q)
    (hb : ∀ (kV doc pm : Value) (an : Option Addr) (cdv ct : Value) (us : List Value), us.length = ps.length → bindArgs (PySem.W.fnOf "__init__" q (defArgs st) (defBody st) (defScope st) .none kV doc pm an cdv ct) ⟨us, []⟩ = pure (ps.zip us)) : DefJ K mg x C q st ps := by
  obtain ⟨f, oc, od, kV, doc, pm, an, cdv, ct, osl, a, b, l, c, k, m1, m2⟩ := d
  have F := fun_mk (st := st) l c k
  exact ⟨PySem.W.mg_of X G g, f, _, F, ⟨m1, a, b, m2⟩, F.binds hb⟩
theorem okjO (F : DefJ K mg x C q st ps) (sc : FnScope N ps (defScope st)) (hlen : ∀ Rs O Po, S Rs O Po → Rs.length = ps.length)
    (hps : ∀ (f : Addr) (cdv : Value) (A : Around) (outer : List Env) (s : Shared) (H : Hp) (E : XK), Room k (A.deeper (envOfC q (defScope st) s.heap.objs.size f cdv)) → PSs (cx0 P w K mg base N q st f cdv A outer s H E) (defBody st) t)
    (ev : RdO S N t) : Oki P w K mg base CX0 (k + 1) x C ps (spO S) := by
  obtain ⟨h1, f, fd, hF, hm, hb⟩ := F
  exact ⟨h1, f, fd, hm, hb, okO hF sc hlen hps ev⟩
end
end D

set_option Elab.async false
set_option linter.all false
set_option maxRecDepth 100000
set_option maxHeartbeats 4000000
namespace D
open PySem PySem.Spec PyProof.Rows L2
open PySem.Sem (wp)
open RZ (nextOf_tuple_item nextOf_tuple_end)
/-! ### zip of a tuple and a list -/
section
variable {prog : Program} {w : World} {A : Around} {E : Value → Shared → Prop} {s : Shared}
theorem zipM_next_item {z TI TO i1 i2 l1 l2 : Addr} {k1 k2 : Nat} {xs ys : Array Value} {x y a b : Value} {Q : Value → Shared → Prop} (D : ZipApart z TI TO i1 i2 l1 l2)
    (hz : IsZip s.heap z TI TO .none) (hTI : IsPair s.heap TI (.ref i1) (.ref i2)) (hTO : IsPair s.heap TO a b)
    (h1 : s.heap.IsTupleIter i1 l1 k1) (h2 : s.heap.IsListIter i2 l2 k2) (hl1 : s.heap.IsTuple l1 xs) (hl2 : s.heap.IsList l2 ys) (hx : xs[k1]? = some x) (hy : ys[k2]? = some y)
    (hQ : ∀ h', IsZip h' z TI TO (rawInt s.heap.objs.size) → IsPair h' TO x y → h'.IsTupleIter i1 l1 (k1 + 1) → h'.IsListIter i2 l2 (k2 + 1) → IsPair h' s.heap.objs.size x y → h'.objs.size = s.heap.objs.size + 1 →
      (∀ c o, c ≠ z → c ≠ TO → c ≠ i1 → c ≠ i2 → s.heap.get? c = some o → h'.get? c = some o) → Q (.ref s.heap.objs.size) { s with heap := h' }) :
    wpAny (model prog w) A (Builtin.«zip.__next__» ⟨[.ref z], []⟩) (fun fin s' => ∃ v, fin = .done (.ret v) ∧ Q v s') E s := by
  show wpAny _ _ (field (.ref z) 2 >>= _) _ _ _
  refine wpAny_bind (wpAny_field hz rfl (x := .bool false) rfl ?_)
  show wpAny _ _ (field (.ref z) 3 >>= _) _ _ _
  refine wpAny_bind (wpAny_field hz rfl (x := .ref TI) rfl ?_)
  refine wpAny_bind (wpAny_seqItems hTI rfl ?_)
  show wpAny _ _ (Builtin.SmallTypes.ownedTupleIsFree (.ref z) >>= _) _ _ _
  refine wpAny_bind ?_
  unfold Builtin.SmallTypes.ownedTupleIsFree
  refine wpAny_bind (wpAny_field hz rfl (x := .none) rfl (wpAny_pure ?_))
  simp only [if_true]
  refine wpAny_bind (wpAny_rule ?_)
  refine wpAny_bind (wpAny_field hz rfl (x := .ref TO) rfl ?_)
  refine wpAny_bind (wpAny_setField_rec hz (by simp) fun h₁ hz₁ hs₁ => ?_)
  replace hz₁ : IsZip h₁ z TI TO .ellipsis := hz₁
  refine wpAny_bind ?_
  simp only [List.zipIdx_cons, List.zipIdx_nil, List.forIn_cons, List.forIn_nil]

  refine wpAny_bind (wpAny_bind (wpAny_onRaise ?_))
  show wpAny _ _ (Builtin.SmallTypes.nextOf (.ref i1) >>= _) _ _ _
  refine wpAny_bind (nextOf_tuple_item (h1.extBut hs₁.extBut D.i1z) (hl1.extBut hs₁.extBut D.l1z) hx fun h₂ h1₂ hs₂ => wpAny_pure ?_)
  have hTO₂ : IsPair h₂ TO a b := hs₂.extBut _ _ D.TOi1 (hs₁.extBut _ _ D.TOz hTO)
  refine wpAny_bind (wpAny_seqItems hTO₂ rfl ?_)
  refine wpAny_bind (wpAny_updateSeq_pair hTO₂ fun h₃ hTO₃ hs₃ => ?_)
  replace hTO₃ : IsPair h₃ TO x b := hTO₃
  refine wpAny_bind (wpAny_letGo (wpAny_pure ?_))

  refine wpAny_bind (wpAny_bind (wpAny_onRaise ?_))
  show wpAny _ _ (Builtin.SmallTypes.nextOf (.ref i2) >>= _) _ _ _
  refine wpAny_bind (wpAny_nextOf_list_item (((h2.extBut hs₁.extBut D.i2z).extBut hs₂.extBut D.i12.symm).extBut hs₃.extBut D.TOi2.symm)
    (((hl2.extBut hs₁.extBut D.l2z).extBut hs₂.extBut D.l2i1).extBut hs₃.extBut D.l2TO) hy fun h₄ h2₄ hs₄ => wpAny_pure ?_)
  have hTO₄ : IsPair h₄ TO x b := hs₄.extBut _ _ D.TOi2 hTO₃
  refine wpAny_bind (wpAny_seqItems hTO₄ rfl ?_)
  refine wpAny_bind (wpAny_updateSeq_pair hTO₄ fun h₅ hTO₅ hs₅ => ?_)
  replace hTO₅ : IsPair h₅ TO x y := hTO₅
  refine wpAny_bind (wpAny_letGo (wpAny_pure (wpAny_pure ?_)))

  refine wpAny_bind (wpAny_seqItems hTO₅ rfl ?_)
  refine wpAny_bind (wpAny_newTuple ?_)
  have hsz : h₅.objs.size = s.heap.objs.size := by rw [hs₅.1, hs₄.1, hs₃.1, hs₂.1, hs₁.1]
  have hz₅ : IsZip h₅ z TI TO .ellipsis := hs₅.extBut _ _ D.TOz.symm (hs₄.extBut _ _ D.i2z.symm (hs₃.extBut _ _ D.TOz.symm (hs₂.extBut _ _ D.i1z.symm hz₁)))
  have hk₅ : ∀ c o, c ≠ z → c ≠ TO → c ≠ i1 → c ≠ i2 → s.heap.get? c = some o → h₅.get? c = some o := fun c o c1 c2 c3 c4 e =>
    hs₅.extBut _ _ c2 (hs₄.extBut _ _ c4 (hs₃.extBut _ _ c2 (hs₂.extBut _ _ c3 (hs₁.extBut _ _ c1 e))))
  have h1₅ : h₅.IsTupleIter i1 l1 (k1 + 1) := ((h1₂.extBut hs₃.extBut D.TOi1.symm).extBut hs₄.extBut D.i12).extBut hs₅.extBut D.TOi1.symm
  have h2₅ : h₅.IsListIter i2 l2 (k2 + 1) := h2₄.extBut hs₅.extBut D.TOi2.symm
  have hzlt : z < h₅.objs.size := Heap.lt_size hz₅
  have hTOlt : TO < h₅.objs.size := Heap.lt_size hTO₅
  have hi1lt : i1 < h₅.objs.size := by obtain ⟨_, e, _⟩ := h1₅; exact Heap.lt_size e
  have hi2lt : i2 < h₅.objs.size := by obtain ⟨_, e, _⟩ := h2₅; exact Heap.lt_size e
  show wpAny _ _ (Builtin.SmallTypes.ownedTupleHandOut (.ref z) (.ref h₅.objs.size) >>= _) _ _ _
  refine wpAny_bind ?_
  unfold Builtin.SmallTypes.ownedTupleHandOut
  have hz₆ : IsZip (h₅.push { cls := .type "tuple", data := .seq #[x, y] }) z TI TO .ellipsis := Heap.get?_push_of_some _ hz₅
  refine wpAny_bind (wpAny_setField_rec hz₆ (by simp) fun h₇ hz₇ hs₇ => ?_)
  replace hz₇ : IsZip h₇ z TI TO (rawInt h₅.objs.size) := hz₇
  refine wpAny_setField_rec hz₇ (by simp) fun h₈ hz₈ hs₈ => ?_
  replace hz₈ : IsZip h₈ z TI TO (rawInt h₅.objs.size) := hz₈
  have up : ∀ c o, c ≠ z → h₅.get? c = some o → h₈.get? c = some o := fun c o c1 e => hs₈.extBut _ _ c1 (hs₇.extBut _ _ c1 (Heap.get?_push_of_some _ e))
  have hT₈ : IsPair h₈ h₅.objs.size x y := hs₈.extBut _ _ (Nat.ne_of_gt hzlt) (hs₇.extBut _ _ (Nat.ne_of_gt hzlt) (Heap.get?_push_size _ rfl))
  have hz8 : h₈.objs.size = h₅.objs.size + 1 := by rw [hs₈.1, hs₇.1, Heap.size_push]
  rw [hsz] at hz₈ hT₈ hz8
  refine wpAny_pure ⟨_, rfl, ?_⟩
  show Q (.ref h₅.objs.size) _
  rw [hsz]
  exact hQ h₈ hz₈ (up _ _ D.TOz hTO₅) (h1₅.at fun o e => up _ o D.i1z e) (h2₅.at fun o e => up _ o D.i2z e) hT₈ hz8 fun c o c1 c2 c3 c4 e => up c o c1 (hk₅ c o c1 c2 c3 c4 e)

theorem zipM_next_end {z TI TO i1 i2 l1 l2 : Addr} {k1 k2 : Nat} {xs ys : Array Value} {a b : Value} {Q : Fin → Shared → Prop} (hh : A.handled = none) (D : ZipApart z TI TO i1 i2 l1 l2)
    (hz : IsZip s.heap z TI TO .none) (hTI : IsPair s.heap TI (.ref i1) (.ref i2)) (hTO : IsPair s.heap TO a b)
    (h1 : s.heap.IsTupleIter i1 l1 k1) (h2 : s.heap.IsListIter i2 l2 k2) (hl1 : s.heap.IsTuple l1 xs) (hl2 : s.heap.IsList l2 ys) (hend : xs[k1]? = none ∨ ys[k2]? = none)
    (hE : ∀ h' e, (∀ c o, c ≠ z → c ≠ TO → c ≠ i1 → c ≠ i2 → s.heap.get? c = some o → h'.get? c = some o) → (∃ o, h'.get? e = some o ∧ o.cls = .type "StopIteration") → E (.ref e) { s with heap := h' }) :
    wpAny (model prog w) A (Builtin.«zip.__next__» ⟨[.ref z], []⟩) Q E s := by
  show wpAny _ _ (field (.ref z) 2 >>= _) _ _ _
  refine wpAny_bind (wpAny_field hz rfl (x := .bool false) rfl ?_)
  show wpAny _ _ (field (.ref z) 3 >>= _) _ _ _
  refine wpAny_bind (wpAny_field hz rfl (x := .ref TI) rfl ?_)
  refine wpAny_bind (wpAny_seqItems hTI rfl ?_)
  show wpAny _ _ (Builtin.SmallTypes.ownedTupleIsFree (.ref z) >>= _) _ _ _
  refine wpAny_bind ?_
  unfold Builtin.SmallTypes.ownedTupleIsFree
  refine wpAny_bind (wpAny_field hz rfl (x := .none) rfl (wpAny_pure ?_))
  simp only [if_true]
  refine wpAny_bind (wpAny_rule ?_)
  refine wpAny_bind (wpAny_field hz rfl (x := .ref TO) rfl ?_)
  refine wpAny_bind (wpAny_setField_rec hz (by simp) fun h₁ hz₁ hs₁ => ?_)
  replace hz₁ : IsZip h₁ z TI TO .ellipsis := hz₁
  refine wpAny_bind ?_
  simp only [List.zipIdx_cons, List.zipIdx_nil, List.forIn_cons, List.forIn_nil]
  refine wpAny_bind (wpAny_bind (wpAny_onRaise ?_))
  show wpAny _ _ (Builtin.SmallTypes.nextOf (.ref i1) >>= _) _ _ _
  cases hx : xs[k1]? with
  | none =>
    refine wpAny_bind (nextOf_tuple_end hh (h1.extBut hs₁.extBut D.i1z) (hl1.extBut hs₁.extBut D.l1z) hx fun h₂ e hs₂ he => ?_)
    obtain ⟨oe, hoe, hce⟩ := he
    have hz₂ : IsZip h₂ z TI TO .ellipsis := hs₂ _ _ D.i1z.symm hz₁
    have hez : e ≠ z := fun x => by subst x; rw [hz₂] at hoe; cases hoe; simp at hce
    refine wpAny_setField_rec hz₂ (by simp) fun h₃ _ hs₃ => hE h₃ e (fun c o c1 _ c3 _ x => hs₃.extBut _ _ c1 (hs₂ _ _ c3 (hs₁.extBut _ _ c1 x))) ⟨oe, hs₃.extBut _ _ hez hoe, hce⟩
  | some x =>
    have hy : ys[k2]? = none := by rcases hend with h | h; rw [hx] at h; cases h; exact h
    refine wpAny_bind (nextOf_tuple_item (h1.extBut hs₁.extBut D.i1z) (hl1.extBut hs₁.extBut D.l1z) hx fun h₂ h1₂ hs₂ => wpAny_pure ?_)
    have hTO₂ : IsPair h₂ TO a b := hs₂.extBut _ _ D.TOi1 (hs₁.extBut _ _ D.TOz hTO)
    refine wpAny_bind (wpAny_seqItems hTO₂ rfl ?_)
    refine wpAny_bind (wpAny_updateSeq_pair hTO₂ fun h₃ hTO₃ hs₃ => ?_)
    refine wpAny_bind (wpAny_letGo (wpAny_pure ?_))
    refine wpAny_bind (wpAny_bind (wpAny_onRaise ?_))
    show wpAny _ _ (Builtin.SmallTypes.nextOf (.ref i2) >>= _) _ _ _
    refine wpAny_bind (wpAny_nextOf_list_end hh (((h2.extBut hs₁.extBut D.i2z).extBut hs₂.extBut D.i12.symm).extBut hs₃.extBut D.TOi2.symm)
      (((hl2.extBut hs₁.extBut D.l2z).extBut hs₂.extBut D.l2i1).extBut hs₃.extBut D.l2TO) hy fun h₄ e hs₄ he => ?_)
    obtain ⟨oe, hoe, hce⟩ := he
    have hz₄ : IsZip h₄ z TI TO .ellipsis := hs₄ _ _ D.i2z.symm (hs₃.extBut _ _ D.TOz.symm (hs₂.extBut _ _ D.i1z.symm hz₁))
    have hez : e ≠ z := fun x => by subst x; rw [hz₄] at hoe; cases hoe; simp at hce
    refine wpAny_setField_rec hz₄ (by simp) fun h₅ _ hs₅ => hE h₅ e (fun c o c1 c2 c3 c4 x => hs₅.extBut _ _ c1 (hs₄ _ _ c4 (hs₃.extBut _ _ c2 (hs₂.extBut _ _ c3 (hs₁.extBut _ _ c1 x))))) ⟨oe, hs₅.extBut _ _ hez hoe, hce⟩

theorem pyNext_zipM_item {z TI TO i1 i2 l1 l2 : Addr} {k1 k2 : Nat} {xs ys : Array Value} {x y a b : Value} {Q : Option Value → Shared → Prop} (D : ZipApart z TI TO i1 i2 l1 l2)
    (hz : IsZip s.heap z TI TO .none) (hTI : IsPair s.heap TI (.ref i1) (.ref i2)) (hTO : IsPair s.heap TO a b)
    (h1 : s.heap.IsTupleIter i1 l1 k1) (h2 : s.heap.IsListIter i2 l2 k2) (hl1 : s.heap.IsTuple l1 xs) (hl2 : s.heap.IsList l2 ys) (hx : xs[k1]? = some x) (hy : ys[k2]? = some y)
    (hQ : ∀ h', IsZip h' z TI TO (rawInt s.heap.objs.size) → IsPair h' TO x y → h'.IsTupleIter i1 l1 (k1 + 1) → h'.IsListIter i2 l2 (k2 + 1) → IsPair h' s.heap.objs.size x y → h'.objs.size = s.heap.objs.size + 1 →
      (∀ c o, c ≠ z → c ≠ TO → c ≠ i1 → c ≠ i2 → s.heap.get? c = some o → h'.get? c = some o) → Q (some (.ref s.heap.objs.size)) { s with heap := h' }) :
    wpAny (model prog w) A (pyNext (.ref z)) Q E s := by
  have hT : s.TypeIs (.ref z) "zip" := ⟨_, hz, rfl⟩
  unfold pyNext
  exact wpAny_bind (wpAny_attempt (wpAny_callSpecial?_slot (name := Str.ofString "__next__") hT F.slot_zip_next
    (wpAny_call_entry F.slot_zip_next hT F.entry_zip_next
      (zipM_next_item D hz hTI hTO h1 h2 hl1 hl2 hx hy fun h' a1 a2 a3 a4 a5 a6 a7 => wpAny_pure (hQ h' a1 a2 a3 a4 a5 a6 a7)) (F.args_zip_next_1 _))))

theorem pyNext_zipM_end {z TI TO i1 i2 l1 l2 : Addr} {k1 k2 : Nat} {xs ys : Array Value} {a b : Value} {Q : Option Value → Shared → Prop} (hh : A.handled = none) (D : ZipApart z TI TO i1 i2 l1 l2)
    (hz : IsZip s.heap z TI TO .none) (hTI : IsPair s.heap TI (.ref i1) (.ref i2)) (hTO : IsPair s.heap TO a b)
    (h1 : s.heap.IsTupleIter i1 l1 k1) (h2 : s.heap.IsListIter i2 l2 k2) (hl1 : s.heap.IsTuple l1 xs) (hl2 : s.heap.IsList l2 ys) (hend : xs[k1]? = none ∨ ys[k2]? = none)
    (hQ : ∀ h', (∀ c o, c ≠ z → c ≠ TO → c ≠ i1 → c ≠ i2 → s.heap.get? c = some o → h'.get? c = some o) → Q none { s with heap := h' }) : wpAny (model prog w) A (pyNext (.ref z)) Q E s := by
  have hT : s.TypeIs (.ref z) "zip" := ⟨_, hz, rfl⟩
  unfold pyNext
  refine wpAny_bind (wpAny_attempt (wpAny_callSpecial?_slot (name := Str.ofString "__next__") hT F.slot_zip_next
    (wpAny_call_entry F.slot_zip_next hT F.entry_zip_next (zipM_next_end hh D hz hTI hTO h1 h2 hl1 hl2 hend fun h' e hk he => ?_) (F.args_zip_next_1 _))))
  obtain ⟨o, ho, hc⟩ := he
  refine wpAny_bind (wpAny_isInstance (T := "StopIteration") (b := true) ⟨o, ho, hc⟩ isSubtype_stop ?_)
  exact wpAny_pure (hQ _ hk)
end
abbrev zipMH1 (h : Heap) (l1 : Addr) : Heap := h.push { cls := .type "tuple_iterator", data := .fields #[.ref l1, .int 0 0] }
abbrev zipMH2 (h : Heap) (l1 l2 : Addr) : Heap := (zipMH1 h l1).push { cls := .type "list_iterator", data := .fields #[.ref l2, .int 0 0] }
abbrev zipMH3 (h : Heap) (l1 l2 : Addr) : Heap := (zipMH2 h l1 l2).push { cls := .type "tuple", data := .seq #[.ref h.objs.size, .ref (zipMH1 h l1).objs.size] }
abbrev zipMH4 (h : Heap) (l1 l2 : Addr) : Heap := (zipMH3 h l1 l2).push { cls := .type "tuple", data := .seq #[.none, .none] }
abbrev zipMH5 (h : Heap) (l1 l2 : Addr) : Heap := (zipMH4 h l1 l2).push { cls := .type "zip", data := .fields #[.none, .bool false, .bool false, .ref (zipMH2 h l1 l2).objs.size, .ref (zipMH3 h l1 l2).objs.size] }

theorem meets_zipM_new (l1 l2 : Addr) (xs ys : Array Value) :
    Meets (Builtin.«zip.__new__» ⟨[.type "zip", .ref l1, .ref l2], []⟩) (fun _ R s => s.heap.IsTuple l1 xs ∧ s.heap.IsList l2 ys ∧
      R (.ok (.ret (.ref (zipMH4 s.heap l1 l2).objs.size))) { s with heap := zipMH5 s.heap l1 l2 }) :=
  .of_wp fun prog w A R s h => by
    obtain ⟨hp, g, d, tk, os⟩ := s; obtain ⟨hl1, hl2, h⟩ := h
    have hsub := sub_zip
    have hL1 : Heap.IsTuple (Shared.heap ⟨hp, g, d, tk, os⟩) l1 xs := hl1
    have hL2 : Heap.IsList (Shared.heap ⟨hp.push { cls := .type "tuple_iterator", data := .fields #[.ref l1, .int 0 0] }, g, d, tk, os⟩) l2 ys := Heap.IsList.push hl2 _
    wp_walk using wpAny_pyIter_tuple hL1, wpAny_pyIter_list hL2
    exact ⟨_, rfl, h⟩

section
variable {prog : Program} {w : World} {A : Around} {E : Value → Shared → Prop} {s : Shared}

theorem call_zipM {l1 l2 : Addr} {xs ys : Array Value} {Q : Value → Shared → Prop} (hl1 : s.heap.IsTuple l1 xs) (hl2 : s.heap.IsList l2 ys)
    (h : ∀ h', IsZip h' (s.heap.objs.size + 4) (s.heap.objs.size + 2) (s.heap.objs.size + 3) .none → IsPair h' (s.heap.objs.size + 2) (.ref s.heap.objs.size) (.ref (s.heap.objs.size + 1)) →
      IsPair h' (s.heap.objs.size + 3) .none .none → h'.IsTupleIter s.heap.objs.size l1 0 → h'.IsListIter (s.heap.objs.size + 1) l2 0 → h'.objs.size = s.heap.objs.size + 5 →
      (∀ c o, s.heap.get? c = some o → h'.get? c = some o) → Q (.ref (s.heap.objs.size + 4)) { s with heap := h' }) :
    wpAny (model prog w) A (call (.type "zip") [.ref l1, .ref l2]) Q E s := by
  refine callType_new F.called_zip (by decide) (F.typeCall_zip_2 _ _) (F.newCall_zip_2 _ _) (fun obj => F.args_object_init_3 obj _ _) F.entry_zip_new
    (meets_zipM_new l1 l2 xs ys) ⟨hl1, hl2, ?_⟩
  have z1 : (zipMH1 s.heap l1).objs.size = s.heap.objs.size + 1 := Heap.size_push ..
  have z2 : (zipMH2 s.heap l1 l2).objs.size = s.heap.objs.size + 2 := by rw [Heap.size_push, z1]
  have z3 : (zipMH3 s.heap l1 l2).objs.size = s.heap.objs.size + 3 := by rw [Heap.size_push, z2]
  have z4 : (zipMH4 s.heap l1 l2).objs.size = s.heap.objs.size + 4 := by rw [Heap.size_push, z3]
  have z5 : (zipMH5 s.heap l1 l2).objs.size = s.heap.objs.size + 5 := by rw [Heap.size_push, z4]
  have g5 : (zipMH5 s.heap l1 l2).get? (zipMH4 s.heap l1 l2).objs.size = some _ := Heap.get?_push_size _ rfl
  have g4 : (zipMH5 s.heap l1 l2).get? (zipMH3 s.heap l1 l2).objs.size = some _ := Heap.get?_push_of_some _ (Heap.get?_push_size _ rfl)
  have g3 : (zipMH5 s.heap l1 l2).get? (zipMH2 s.heap l1 l2).objs.size = some _ := Heap.get?_push_of_some _ (Heap.get?_push_of_some _ (Heap.get?_push_size _ rfl))
  have g2 : (zipMH5 s.heap l1 l2).get? (zipMH1 s.heap l1).objs.size = some _ := Heap.get?_push_of_some _ (Heap.get?_push_of_some _ (Heap.get?_push_of_some _ (Heap.get?_push_size _ rfl)))
  have g1 : (zipMH5 s.heap l1 l2).get? s.heap.objs.size = some _ := Heap.get?_push_of_some _ (Heap.get?_push_of_some _ (Heap.get?_push_of_some _ (Heap.get?_push_of_some _ (Heap.get?_push_size _ rfl))))
  show _ ∧ _
  rw [z2, z3, z4] at g5
  rw [z1, z2] at g3
  rw [z3] at g4
  rw [z1] at g2
  rw [z4]
  exact ⟨⟨_, g5, rfl⟩, h _ g5 g3 g4 ⟨_, g1, rfl, rfl⟩ ⟨_, g2, rfl, rfl⟩ z5 fun c o x =>
    Heap.get?_push_of_some _ (Heap.get?_push_of_some _ (Heap.get?_push_of_some _ (Heap.get?_push_of_some _ (Heap.get?_push_of_some _ x))))⟩
end
/-- the tuple at a and the list at b as they stand at each turn, the items in new pairs -/
def ItzM (K : PySem.W.Frag) (a b : Addr) : It :=
  ⟨fun i H => ∃ (xs ys : List V) (x y : V), SqT K H a xs ∧ SqL K H b ys ∧ xs[i]? = some x ∧ ys[i]? = some y,
    fun i H v H' => ∃ T x y, v = .ref T ∧ H T = none ∧ H' = upd H T (.tup [x, y]) ∧ (∀ xs, SqT K H a xs → xs[i]? = some x) ∧ ∀ ys, SqL K H b ys → ys[i]? = some y,
    fun i H => ∃ xs ys : List V, SqT K H a xs ∧ SqL K H b ys ∧ (xs.length ≤ i ∨ ys.length ≤ i)⟩
theorem turn_zipM {P : Program} {w : World} {K : PySem.W.Frag} {elts : List Expr} {kk : Nat} {tpos : Pos} {a b z TI TO i1 i2 : Addr} (D : ZipApart z TI TO i1 i2 a b) :
    Turn P w K (.Tuple elts kk tpos) (ItzM K a b) [z, TI, TO, i1, i2] z (fun i h => IsZip h z TI TO .none ∧ IsPair h TI (.ref i1) (.ref i2) ∧ (∃ x y, IsPair h TO x y) ∧ h.IsTupleIter i1 a i ∧ h.IsListIter i2 b i) where
  mem := by simp
  obj := fun i h st c hc => by
    obtain ⟨hz, hTI, ⟨x, y, hTO⟩, ⟨o1, e1, _, d1⟩, ⟨o2, e2, _, d2⟩⟩ := st
    have e' : c = z ∨ c = TI ∨ c = TO ∨ c = i1 ∨ c = i2 := by simpa using hc
    rcases e' with q | q | q | q | q
    · rw [q]; exact ⟨_, hz, fun v q => nomatch q⟩
    · rw [q]; exact ⟨_, hTI, fun v q => nomatch q⟩
    · rw [q]; exact ⟨_, hTO, fun v q => nomatch q⟩
    · rw [q]; exact ⟨o1, e1, fun v q => by rw [d1] at q; cases q⟩
    · rw [q]; exact ⟨o2, e2, fun v q => by rw [d2] at q; cases q⟩
  keep := fun i h h' st k => by
    obtain ⟨hz, hTI, ⟨x, y, hTO⟩, h1, h2⟩ := st
    exact ⟨k z (by simp) _ hz, k TI (by simp) _ hTI, ⟨x, y, k TO (by simp) _ hTO⟩, h1.at fun o q => k i1 (by simp) o q, h2.at fun o q => k i2 (by simp) o q⟩
  item := by
    intro X hP hw hK hc i pins s σ H E I hf st hg
    subst hP hw hK
    obtain ⟨hz, hTI, ⟨x0, y0, hTO⟩, h1, h2⟩ := st
    obtain ⟨xs, ys, x, y, hqx, hqy, hx, hy⟩ := hg
    obtain ⟨its, rv, p, _⟩ := I.tuple hqx
    obtain ⟨its2, rv2, p2, _⟩ := I.list hqy
    obtain ⟨u, hu, ru⟩ := rv.get hx
    obtain ⟨u2, hu2, ru2⟩ := rv2.get hy
    have hzl : z < s.heap.objs.size := Heap.lt_size hz
    refine pyNext_zipM_item D hz hTI hTO h1 h2 p p2.isList (x := u) (y := u2) (by simpa using hu) (by simpa using hu2) fun h' z' TO' h1' h2' hT hsz hk => ?_
    refine ⟨_, rfl, wpAny_letOwnedTupleGo_zip (s := { s with heap := h' }) z' fun h'' z'' sb => ?_⟩
    have hT2 : h''.get? s.heap.objs.size = some { cls := .type "tuple", data := .seq #[u, u2] } := (sb.2 _ (Nat.ne_of_gt hzl)).trans hT
    have new : ObjOk X.prog X.w (upd H s.heap.objs.size (.tup [x, y])) h'' s.heap.objs.size (.tup [x, y]) :=
      ⟨by show 2 ≤ sizeLine; decide, [u, u2], .cons ru (.cons ru2 .nil), ⟨_, hT2, rfl, _, rfl⟩⟩
    have I1 : Inv X pins σ (upd H s.heap.objs.size (.tup [x, y])) { s with heap := h'' } :=
      I.turnedNew (t' := s.toks) (ch := [z, TI, TO, i1, i2]) (fun c o hb q => (sb.2 c (fun q' => hb (by simp [q']))).trans (hk c o (fun q' => hb (by simp [q'])) (fun q' => hb (by simp [q'])) (fun q' => hb (by simp [q'])) (fun q' => hb (by simp [q'])) q)) hf (Nat.le_refl _) new
    refine ⟨.ref s.heap.objs.size, _, I1, rfl, ⟨_, x, y, rfl, I.hok.fresh (Nat.le_refl _), rfl, fun l hl => by rw [I.tuple_inj hl hqx]; exact hx, fun l hl => by rw [I.list_inj hl hqy]; exact hy⟩, ⟨z'', ?_, ⟨u, u2, ?_⟩, ?_, ?_⟩, fun c hcm => ?_⟩
    · exact (sb.2 _ D.TIz).trans (hk _ _ D.TIz D.TITO D.TIi1 D.TIi2 hTI)
    · exact (sb.2 _ D.TOz).trans TO'
    · exact h1'.at fun o q => (sb.2 _ D.i1z).trans q
    · exact h2'.at fun o q => (sb.2 _ D.i2z).trans q
    · have hlt : c < s.heap.objs.size := by
        have e' : c = z ∨ c = TI ∨ c = TO ∨ c = i1 ∨ c = i2 := by simpa using hcm
        rcases e' with q | q | q | q | q
        · rw [q]; exact hzl
        · rw [q]; exact Heap.lt_size hTI
        · rw [q]; exact Heap.lt_size hTO
        · rw [q]; obtain ⟨_, e1, _⟩ := h1; exact Heap.lt_size e1
        · rw [q]; obtain ⟨_, e2, _⟩ := h2; exact Heap.lt_size e2
      rw [upd_ne (Nat.ne_of_lt hlt)]
      exact (hf c hcm).1
  done := by
    intro X hP hw hK hc i pins s σ H E I hf st hg
    subst hP hw hK
    obtain ⟨hz, hTI, ⟨x0, y0, hTO⟩, h1, h2⟩ := st
    obtain ⟨xs, ys, hqx, hqy, hend⟩ := hg
    obtain ⟨its, rv, p, _⟩ := I.tuple hqx
    obtain ⟨its2, rv2, p2, _⟩ := I.list hqy
    have l1 := rv.length
    have l2 := rv2.length
    have he : its.toArray[i]? = none ∨ its2.toArray[i]? = none := by
      rcases hend with q | q
      · exact .inl (by simp; omega)
      · exact .inr (by simp; omega)
    exact pyNext_zipM_end (I.ok.hd hc) D hz hTI hTO h1 h2 p p2.isList he fun h' hk => ⟨rfl, I.turnedL (t' := s.toks) (ch := [z, TI, TO, i1, i2]) (fun c o hb q =>
      hk c o (fun q' => hb (by simp [q'])) (fun q' => hb (by simp [q'])) (fun q' => hb (by simp [q'])) (fun q' => hb (by simp [q'])) q) hf⟩
  self := fun A i s Q E st h => wpAny_pyIter_zip st.1 h


/-- zip of two lists, or of a tuple and a list -/
def iZipX (K : PySem.W.Frag) (ta : TA) : TI := fun σ H R => ta σ H fun vs H1 => ∃ a b xs ys, vs = [.ref a, .ref b] ∧ ((SqL K H1 a xs ∧ SqL K H1 b ys ∧ R (Itz K a b) H1) ∨ (SqT K H1 a xs ∧ SqL K H1 b ys ∧ R (ItzM K a b) H1))
theorem pi_zipX {X : Cx} {e e2 : Expr} {ta : TA} {p pos tpos : Pos} {elts : List Expr} {kk : Nat} (hg : Gl X "zip") (hm : X.mg "zip" = none) (ha : PA X [e, e2] ta)
    (hs : starEach [e, e2] X.env = (false, eval e X.env) :: starEach [e2] X.env := by rfl) (hpl : (backTo pos (starEach [e2] X.env)).any (·.1) = false := by rfl) :
    PI X (.Tuple elts kk tpos) (.Call (.Name "zip" p) [e, e2] [] pos) (iZipX X.K ta) := by
  refine ⟨fun pins s σ H R I h => ?_⟩
  refine Call_ (ld_blt I hg hm PyProof.Rows.boot_zip (PyProof.Rows.callWith_type1 (thn (ha.run pos pins s σ H _ I h) fun us s1 ⟨vs, H1, I1, r1, q1⟩ => ?_) hs hpl))
  obtain ⟨a, b, xs, ys, ex, q1⟩ := q1
  subst ex
  cases r1 with
  | cons r rr =>
    cases rr with
    | cons r' rr =>
      cases rr
      cases r
      cases r'
      have fresh5 : ∀ c, c ∈ [s1.heap.objs.size + 4, s1.heap.objs.size + 2, s1.heap.objs.size + 3, s1.heap.objs.size, s1.heap.objs.size + 1] → FpOk X pins H1 c := fun c hcm => by
        have e' : c = s1.heap.objs.size + 4 ∨ c = s1.heap.objs.size + 2 ∨ c = s1.heap.objs.size + 3 ∨ c = s1.heap.objs.size ∨ c = s1.heap.objs.size + 1 := by simpa using hcm
        have hle : s1.heap.objs.size ≤ c := by
          rcases e' with z | z | z | z | z
          · rw [z]; exact Nat.le_add_right _ _
          · rw [z]; exact Nat.le_add_right _ _
          · rw [z]; exact Nat.le_add_right _ _
          · rw [z]; exact Nat.le_refl _
          · rw [z]; exact Nat.le_add_right _ _
        exact I1.fpOk hle (I1.hok.fresh hle)
      rcases q1 with ⟨hqx, hqy, q⟩ | ⟨hqx, hqy, q⟩
      · obtain ⟨its, rv, p1, _⟩ := I1.list hqx
        obtain ⟨its2, rv2, p2, _⟩ := I1.list hqy
        refine call_zip_2 p1.isList p2.isList fun h' hz hTI hTO h1 h2 hsz hk => wpAny_pyIter_zip hz ?_
        have I2 : Inv X pins σ H1 { s1 with heap := h' } := I1.kept (t' := s1.toks) hk
        exact ⟨s1.heap.objs.size + 4, [s1.heap.objs.size + 4, s1.heap.objs.size + 2, s1.heap.objs.size + 3, s1.heap.objs.size, s1.heap.objs.size + 1], _, _, H1, rfl, I2, turn_zip (PySem.W.ktu_apart s1.heap.objs.size a b p1.lt p2.lt), ⟨hz, hTI, ⟨_, _, hTO⟩, h1, h2⟩, fresh5, q⟩
      · obtain ⟨its, rv, p1, _⟩ := I1.tuple hqx
        obtain ⟨its2, rv2, p2, _⟩ := I1.list hqy
        obtain ⟨o1, ho1, _⟩ := id p1
        refine call_zipM (show s1.heap.IsTuple a its.toArray from p1) p2.isList fun h' hz hTI hTO h1 h2 hsz hk => wpAny_pyIter_zip hz ?_
        have I2 : Inv X pins σ H1 { s1 with heap := h' } := I1.kept (t' := s1.toks) hk
        exact ⟨s1.heap.objs.size + 4, [s1.heap.objs.size + 4, s1.heap.objs.size + 2, s1.heap.objs.size + 3, s1.heap.objs.size, s1.heap.objs.size + 1], _, _, H1, rfl, I2, turn_zipM (PySem.W.ktu_apart s1.heap.objs.size a b (Heap.lt_size ho1) p2.lt), ⟨hz, hTI, ⟨_, _, hTO⟩, h1, h2⟩, fresh5, q⟩


section
open ToPy (py)
variable {K : PySem.W.Frag} {Γ : Ctx}
theorem wi_zipXL {α β : Type} {_ : ToPy α} {_ : ToPy β} {xs : List α} {ys : List β} {ta tc : TE} (h : EvD Γ ta (rep xs)) (h2 : EvD Γ tc (rep ys)) (hl : xs.length = ys.length) :
    WiD Γ (iZipX K (tCons ta (tCons tc tNil))) xs.length (fun i => rep (at_ xs i, at_ ys i)) := fun σ f hp s ok Rk q =>
  h σ f hp s ok _ fun v f1 hp1 e1 rv => h2 σ f1 hp1 e1.fh (ok.mono e1.ff) _ fun w f2 hp2 e2 rw_ => by
    have rv := (rep xs).mono rv e2.ff
    obtain ⟨p, vs, rfl, g1, g2⟩ := rep_list rv
    obtain ⟨p', vs', rfl, g1', g2'⟩ := rep_list rw_
    have l1 : vs.length = xs.length := by rw [repL_length g2, List.length_map]
    have l2 : vs'.length = ys.length := by rw [repL_length g2', List.length_map]
    have E := e1.trans e2
    refine ⟨p, p', vs, vs', rfl, .inl ⟨SqL.of1 (E.fh _ _ g1), SqL.of1 (E.fh _ _ g1'), q _ f2 hp2 E ⟨fun i f h hi s0 s1 => ?_, fun i f h x h' hlt s0 s1 y => ?_, fun f h s0 s1 => ?_⟩⟩⟩
    · have a1 : i < vs.length := by omega
      have a2 : i < vs'.length := by omega
      exact ⟨vs, vs', vs[i], vs'[i], SqL.of1 (s1 _ _ (s0 _ _ g1)), SqL.of1 (s1 _ _ (s0 _ _ g1')), by simp [a1], by simp [a2]⟩
    · obtain ⟨T, x1, y1, rfl, hT, rfl, hx1, hx2⟩ := y
      have q1 := hx1 vs (SqL.of1 (s1 _ _ (s0 _ _ g1)))
      have q2 := hx2 vs' (SqL.of1 (s1 _ _ (s0 _ _ g1')))
      refine ⟨_, .new s1 hT, ?_⟩
      have b1 : (xs.map py)[i]? = some (py (at_ xs i)) := by rw [List.getElem?_map, at_some hlt]; rfl
      have b2 : (ys.map py)[i]? = some (py (at_ ys i)) := by rw [List.getElem?_map, at_some (by omega)]; rfl
      obtain ⟨c1, c2, c3⟩ := repL_get g2 b1
      obtain ⟨d1, d2, d3⟩ := repL_get g2' b2
      have z1 : x1 = c1 := Option.some.inj (q1.symm.trans c2)
      have z2 : y1 = d1 := Option.some.inj (q2.symm.trans d2)
      subst z1
      subst z2
      show repD (.tuple [py (at_ xs i), py (at_ ys i)]) _ _
      simp only [repD, repL]
      have k := s0.trans (same_new (o := HO.tup [x1, y1]) (s1.free hT))
      exact ⟨T, _, rfl, upd_same, x1, [y1], rfl, repD_mono k _ _ c3, y1, [], rfl, repD_mono k _ _ d3, rfl⟩
    · exact ⟨vs, vs', SqL.of1 (s1 _ _ (s0 _ _ g1)), SqL.of1 (s1 _ _ (s0 _ _ g1')), .inl (by omega)⟩
theorem wi_zipXT {α β : Type} {_ : ToPy α} {_ : ToPy β} {xs : List α} {ys : List β} {ta tc : TE} (h : EvD Γ ta (rep (Tup.mk xs))) (h2 : EvD Γ tc (rep ys)) (hl : xs.length = ys.length) :
    WiD Γ (iZipX K (tCons ta (tCons tc tNil))) xs.length (fun i => rep (at_ xs i, at_ ys i)) := fun σ f hp s ok Rk q =>
  h σ f hp s ok _ fun v f1 hp1 e1 rv => h2 σ f1 hp1 e1.fh (ok.mono e1.ff) _ fun w f2 hp2 e2 rw_ => by
    have rv := (rep (Tup.mk xs)).mono rv e2.ff
    have rv : repD (.tuple (xs.map py)) v f2 := rv
    simp only [repD] at rv
    obtain ⟨p, vs, rfl, g1, g2⟩ := rv
    obtain ⟨p', vs', rfl, g1', g2'⟩ := rep_list rw_
    have l1 : vs.length = xs.length := by rw [repL_length g2, List.length_map]
    have l2 : vs'.length = ys.length := by rw [repL_length g2', List.length_map]
    have E := e1.trans e2
    refine ⟨p, p', vs, vs', rfl, .inr ⟨SqT.of1 (E.fh _ _ g1), SqL.of1 (E.fh _ _ g1'), q _ f2 hp2 E ⟨fun i f h hi s0 s1 => ?_, fun i f h x h' hlt s0 s1 y => ?_, fun f h s0 s1 => ?_⟩⟩⟩
    · have a1 : i < vs.length := by omega
      have a2 : i < vs'.length := by omega
      exact ⟨vs, vs', vs[i], vs'[i], SqT.of1 (s1 _ _ (s0 _ _ g1)), SqL.of1 (s1 _ _ (s0 _ _ g1')), by simp [a1], by simp [a2]⟩
    · obtain ⟨T, x1, y1, rfl, hT, rfl, hx1, hx2⟩ := y
      have q1 := hx1 vs (SqT.of1 (s1 _ _ (s0 _ _ g1)))
      have q2 := hx2 vs' (SqL.of1 (s1 _ _ (s0 _ _ g1')))
      refine ⟨_, .new s1 hT, ?_⟩
      have b1 : (xs.map py)[i]? = some (py (at_ xs i)) := by rw [List.getElem?_map, at_some hlt]; rfl
      have b2 : (ys.map py)[i]? = some (py (at_ ys i)) := by rw [List.getElem?_map, at_some (by omega)]; rfl
      obtain ⟨c1, c2, c3⟩ := repL_get g2 b1
      obtain ⟨d1, d2, d3⟩ := repL_get g2' b2
      have z1 : x1 = c1 := Option.some.inj (q1.symm.trans c2)
      have z2 : y1 = d1 := Option.some.inj (q2.symm.trans d2)
      subst z1
      subst z2
      show repD (.tuple [py (at_ xs i), py (at_ ys i)]) _ _
      simp only [repD, repL]
      have k := s0.trans (same_new (o := HO.tup [x1, y1]) (s1.free hT))
      exact ⟨T, _, rfl, upd_same, x1, [y1], rfl, repD_mono k _ _ c3, y1, [], rfl, repD_mono k _ _ d3, rfl⟩
    · exact ⟨vs, vs', SqT.of1 (s1 _ _ (s0 _ _ g1)), SqL.of1 (s1 _ _ (s0 _ _ g1')), .inl (by omega)⟩
end
end D

set_option Elab.async false
set_option linter.all false
set_option maxRecDepth 100000
set_option maxHeartbeats 4000000
namespace D
open PySem PySem.Spec PyProof.Rows L2
open ToPy (py)
local macro_rules | `(tactic| walk_at "side") => `(tactic| first | assumption | omega | (refine Int.emod_nonneg _ ?_; omega) | (refine Int.emod_lt_of_pos _ ?_; omega) | (simp at *; omega) | (simp; done) | decide | skip)
local macro_rules | `(tactic| walk_at "d") => `(tactic| first
  | with_reducible exact ev_int | with_reducible exact ev_str | with_reducible exact ev_bl | with_reducible exact ev_non
  | exact ev_var rfl
  | with_reducible exact ev_ty
  | with_reducible exact ev_cls
  | ((with_reducible apply ev_op) <;> walk_at "d")
  | ((with_reducible apply ev_un) <;> walk_at "d")
  | ((with_reducible apply ev_call) <;> walk_at "d")
  | ((with_reducible apply ev_callX) <;> walk_at "d")
  | ((with_reducible apply ev_cb) <;> walk_at "d")
  | with_reducible exact ea_nil
  | ((with_reducible apply ea_cons) <;> walk_at "d")
  | with_reducible exact s_add
  | with_reducible exact s_sub
  | with_reducible exact s_lt
  | with_reducible exact s_le
  | with_reducible exact s_gt
  | with_reducible exact s_ge
  | with_reducible exact s_eqI
  | with_reducible exact s_neI
  | with_reducible exact s_eqS
  | with_reducible exact s_neS
  | with_reducible exact s_neB
  | exact s_eqSame (sh_ints2 _) | exact s_neSame (sh_ints2 _) | exact s_eqSame (sh_ints _) | exact s_neSame (sh_ints _)
  | ((with_reducible apply s_mod) <;> walk_at "side")
  | walk_at "div" | walk_at "mul"
  | ((with_reducible apply s_catL) <;> walk_at "side")
  | ((with_reducible apply s_repL) <;> walk_at "side")
  | with_reducible exact s_fst
  | with_reducible exact s_snd
  | with_reducible exact s_t0
  | with_reducible exact s_t1
  | with_reducible exact s_t2
  | ((with_reducible apply s_last) <;> walk_at "side")
  | ((with_reducible apply s_ixS) <;> walk_at "side")
  | ((with_reducible apply s_ix) <;> walk_at "side")
  | ((with_reducible apply s_ixT) <;> walk_at "side")
  | with_reducible exact s_negI
  | with_reducible exact c_len
  | with_reducible exact c_lI
  | with_reducible exact c_tI
  | with_reducible exact c_pI
  | with_reducible exact c_t3I
  | with_reducible exact c_sI
  | with_reducible exact c_iI
  | with_reducible exact c_iB
  | with_reducible exact c_lenP
  | with_reducible exact c_len3
  | with_reducible exact c_isInt
  | with_reducible exact c_isBool
  | with_reducible exact c_isStr
  | with_reducible exact c_isList
  | with_reducible exact c_isTup
  | with_reducible exact c_lenTup
  | with_reducible exact c_lenScr
  | with_reducible exact c_listD
  | with_reducible exact c_listTD
  | with_reducible exact c_tup
  | with_reducible exact c_abs
  | with_reducible exact c_min2
  | with_reducible exact c_max2
  | with_reducible exact c_intB
  | with_reducible exact c_sum
  | ((with_reducible apply c_min) <;> walk_at "side")
  | ((with_reducible apply c_max) <;> walk_at "side")
  | ((with_reducible apply et_val) <;> walk_at "d")
  | ((with_reducible apply et_test) <;> walk_at "d")
  | ((with_reducible apply et_not) <;> walk_at "d")
  | ((with_reducible apply et_and) <;> (try with_reducible intro _) <;> walk_at "d")
  | ((with_reducible apply et_or) <;> (try with_reducible intro _) <;> walk_at "d")
  | ((with_reducible apply ev_and) <;> (try with_reducible intro _) <;> walk_at "d")
  | ((with_reducible apply ev_or) <;> (try with_reducible intro _) <;> walk_at "d")
  | ((with_reducible apply ev_chain) <;> (try with_reducible intro _) <;> walk_at "d")
  | ((with_reducible apply ev_not) <;> walk_at "d")
  | ((with_reducible apply ev_pair) <;> walk_at "d")
  | ((with_reducible apply ev_t3) <;> walk_at "d")
  | ((with_reducible apply ev_lst1) <;> walk_at "d")
  | ((with_reducible apply ev_lst2) <;> walk_at "d")
  | ((with_reducible apply ev_lst3) <;> walk_at "d")
  | ((with_reducible apply ev_lst4) <;> walk_at "d")
  | ((with_reducible apply ev_cut) <;> walk_at "d")
  | ((with_reducible apply ep_some) <;> walk_at "d")
  | ((with_reducible apply EvD.s) <;> walk_at "d")
  | ((with_reducible apply EvT.s) <;> walk_at "d")
  | ((with_reducible apply EvN.s) <;> walk_at "d")
  | ((with_reducible apply en_lst1) <;> walk_at "d")
  | ((with_reducible apply en_lst2) <;> walk_at "d")
  | ((with_reducible apply en_lst3) <;> walk_at "d")
  | ((with_reducible apply en_lst4) <;> walk_at "d")
  | ((with_reducible apply en_cut) <;> walk_at "d")
  | with_reducible exact ev_lst0
  | with_reducible exact ep_none
  | with_reducible exact en_lst0
  | ((with_reducible apply wi_L) <;> walk_at "d")
  | ((with_reducible apply wi_T) <;> walk_at "d")
  | ((with_reducible apply wi_zip) <;> walk_at "d")
  | ((with_reducible apply WiD.s) <;> walk_at "d")
  | ((with_reducible apply wi_range) <;> walk_at "side")
  | exact spec_cell (by omega) (by omega)
  | skip)
local macro_rules | `(tactic| walk_at "div") => `(tactic| first
  | exact s_div ⟨by omega, by omega⟩
  | exact s_divW (wd_div (by first | assumption | omega) (by assumption))
  | with_reducible apply s_div)
local macro_rules | `(tactic| walk_at "mul") => `(tactic| first
  | exact s_mul (Or.inl ⟨by omega, by omega⟩) | exact s_mul (Or.inr ⟨by omega, by omega⟩)
  | exact s_mulW (wd_mul (by assumption) (by assumption))
  | with_reducible apply s_mulW)
local macro_rules | `(tactic| walk_at "fg") => `(tactic| repeat (first | exact Fg.nil | apply Fg.same | apply Fg.drop | (refine Fg.eq ?_ ?_; rotate_left)))
local macro_rules | `(tactic| walk_at "end") => `(tactic| exact bd_turnE trivial rfl (by walk_at "fg"))
local macro_rules | `(tactic| walk_at "range") => `(tactic| (apply WiD.s; apply wi_range; (walk_at "d"); omega; omega))
local macro_rules | `(tactic| walk_at "app") => `(tactic| (refine' bd_appR 0 ?_ rfl ?_ ?_ ?_ ?_; (walk_at "d"); (walk_at "d"); rotate_right))
local macro_rules | `(tactic| walk_at "lend") => `(tactic| repeat (first | exact LendC.nil | apply LendC.no | (apply LendC.one; (exact lend_list 0 rfl)) | (apply LendC.one; (exact lend_same))))
/-! ### problems as data -/
abbrev Row := T3 (Tup Int) Str Int
structure Prob where
  tops : List Int
  rows : List Row
  gain : List Int
def Prob.fs (p : Prob) : List (Str × RP) := [("tops", rep p.tops), ("rows", rep p.rows), ("gain", rep p.gain)]
def insP (c : Cs) (p : Prob) : RP := insR c.Problem p.fs
/-- what a problem is -/
structure Prob.Ok (p : Prob) : Prop where
  n1 : 1 ≤ p.tops.length
  n3 : p.tops.length ≤ 3
  tops : ∀ t ∈ p.tops, 0 ≤ t ∧ t ≤ 20
  m6 : p.rows.length ≤ 6
  rl : ∀ r ∈ p.rows, r.a.l.length = p.tops.length
  rn : ∀ r ∈ p.rows, ∀ x ∈ r.a.l, -50 ≤ x ∧ x ≤ 50
  rw : ∀ r ∈ p.rows, r.b = "most" ∨ r.b = "least"
  rb : ∀ r ∈ p.rows, -2000 ≤ r.c ∧ r.c ≤ 2000
  gl : p.gain.length = p.tops.length
  gn : ∀ x ∈ p.gain, -50 ≤ x ∧ x ≤ 50
theorem all_ints (xs : List Int) (lo hi : Int) : (xs.map PyData.int).all (betw · lo hi) = true ↔ ∀ x ∈ xs, lo ≤ x ∧ x ≤ hi := by
  rw [List.all_eq_true]
  constructor
  · intro h x hx
    have := h (.int x) (List.mem_map.mpr ⟨x, hx, rfl⟩)
    simp only [betw, Bool.and_eq_true, decide_eq_true_eq] at this
    exact this
  · intro h d hd
    obtain ⟨x, hx, rfl⟩ := List.mem_map.mp hd
    simp only [betw, Bool.and_eq_true, decide_eq_true_eq]
    exact h x hx
theorem isRow_iff (r : Row) (n : Nat) : isRow (py r) n = true ↔ r.a.l.length = n ∧ (∀ x ∈ r.a.l, -50 ≤ x ∧ x ≤ 50) ∧ (r.b = "most" ∨ r.b = "least") ∧ (-2000 ≤ r.c ∧ r.c ≤ 2000) := by
  show (decide (((r.a.l.map PyData.int).length : Int) = n) && (r.a.l.map PyData.int).all (betw · (-50) 50) && wordOk (.str r.b) && betw (.int r.c) (-2000) 2000) = true ↔ _
  rw [Bool.and_eq_true, Bool.and_eq_true, Bool.and_eq_true, all_ints, List.length_map]
  simp only [wordOk, betw, Bool.and_eq_true, decide_eq_true_eq, Bool.or_eq_true]
  constructor
  · rintro ⟨⟨⟨a, b⟩, c⟩, d⟩
    exact ⟨by omega, b, c, d⟩
  · rintro ⟨a, b, c, d⟩
    exact ⟨⟨⟨by omega, b⟩, c⟩, d⟩
theorem topsB_some (ts : List Int) (n : Nat) : topsB (py ts) = some n ↔ (n = ts.length ∧ 1 ≤ ts.length ∧ ts.length ≤ 3 ∧ ∀ t ∈ ts, 0 ≤ t ∧ t ≤ 20) := by
  show (if (decide (1 ≤ (ts.map PyData.int).length) && decide ((ts.map PyData.int).length ≤ 3) && (ts.map PyData.int).all (betw · 0 20)) = true then some (ts.map PyData.int).length else none) = some n ↔ _
  rw [List.length_map]
  split
  · rename_i h
    simp only [Bool.and_eq_true, all_ints, decide_eq_true_eq] at h
    constructor
    · intro e; cases e; exact ⟨rfl, h.1.1, h.1.2, h.2⟩
    · rintro ⟨rfl, _⟩; rfl
  · rename_i h
    simp only [Bool.and_eq_true, all_ints, decide_eq_true_eq] at h
    constructor
    · intro e; cases e
    · rintro ⟨_, a, b, c⟩
      exact absurd ⟨⟨a, b⟩, c⟩ h
theorem Prob.Ok.is {p : Prob} (k : p.Ok) : probB (py p.tops) (py p.rows) (py p.gain) = true := by
  have e : topsB (py p.tops) = some p.tops.length := (topsB_some _ _).mpr ⟨rfl, k.n1, k.n3, k.tops⟩
  unfold probB
  rw [e]
  show (decide ((p.rows.map py).length ≤ 6) && (p.rows.map py).all (isRow · (p.tops.length : Int)) && (decide (((p.gain.map PyData.int).length : Int) = (p.tops.length : Int)) && (p.gain.map PyData.int).all (betw · (-50) 50))) = true
  simp only [Bool.and_eq_true, all_ints, decide_eq_true_eq, List.length_map]
  refine ⟨⟨k.m6, ?_⟩, by rw [k.gl], k.gn⟩
  rw [List.all_eq_true]
  intro d hd
  obtain ⟨r, hr, rfl⟩ := List.mem_map.mp hd
  exact (isRow_iff r _).mpr ⟨k.rl r hr, k.rn r hr, k.rw r hr, k.rb r hr⟩
structure PF (K : PySem.W.Frag) (c : Cs) : Prop where
  cl : Cls K c.Problem
  tops : NoAttr K c.Problem "tops"
  rows : NoAttr K c.Problem "rows"
  gain : NoAttr K c.Problem "gain"
section
variable {K : PySem.W.Frag} {c : Cs} {Γ : Ctx} {te : TE} {p : Prob}
theorem ev_tops (F : PF K c) (h : EvD Γ te (insP c p)) : EvD Γ (tFld K te "tops") (rep p.tops) := ev_fld h F.cl F.tops rfl
theorem ev_rows (F : PF K c) (h : EvD Γ te (insP c p)) : EvD Γ (tFld K te "rows") (rep p.rows) := ev_fld h F.cl F.rows rfl
theorem ev_gain (F : PF K c) (h : EvD Γ te (insP c p)) : EvD Γ (tFld K te "gain") (rep p.gain) := ev_fld h F.cl F.gain rfl
end
theorem putR_len (n : Str) (R : RP) : ∀ fs : List (Str × RP), (putR n R fs).length ≤ fs.length + 1
  | [] => Nat.le_refl _
  | (g, x) :: r => by
    unfold putR
    split
    · simp
    · have := putR_len n R r
      simp only [List.length_cons]
      omega
def S_Problem (K : PySem.W.Frag) (c : Cs) : SpecO := fun Rs O Po => ∃ (x : Addr) (p : Prob), Rs = [own x, rep p.tops, rep p.rows, rep p.gain] ∧ p.Ok ∧ O = [(x, insO c.Problem [])] ∧ Po = fun R O' => R = rep () ∧ O' = [(x, insO c.Problem p.fs)]
abbrev SP_Problem (K : PySem.W.Frag) (c : Cs) : Sp := spO (S_Problem K c)
theorem ev_Problem {K : PySem.W.Frag} {c : Cs} {Γ : Ctx} {ta tb tc : TE} {E : XK} (p : Prob) (k : p.Ok) (h1 : EvD Γ ta (rep p.tops)) (h2 : EvD Γ tb (rep p.rows)) (h3 : EvD Γ tc (rep p.gain)) :
    EvD Γ (tMake c.Problem (SP_Problem K c) [] E (tCons ta (tCons tb (tCons tc tNil)))) (insP c p) :=
  ev_make (ea_cons h1 (ea_cons h2 (ea_cons h3 ea_nil))) fun x => ⟨_, ⟨x, p, rfl, k, rfl, rfl⟩, fun R O' h => h⟩
/-! ### points -/
def isInt (d : PyData) : Bool := match d with
  | .int _ => true
  | _ => false
def pointB (d : PyData) (n : Nat) : Bool := match d with
  | .list ds => decide (ds.length = n) && ds.all isInt
  | _ => false
def S_need_point (K : PySem.W.Frag) (c : Cs) : Spec := fun Rs R => ∃ (p : Prob) (d : PyData), Rs = [insP c p, rpD d] ∧ pointB d p.tops.length = true ∧ R = rpD d
def SE_need_point (K : PySem.W.Frag) (c : Cs) : List RP → Addr → Prop := fun Rs C => ∃ (p : Prob) (d : PyData), Rs = [insP c p, rpD d] ∧ pointB d p.tops.length = false ∧ C = c.BadPoint
def dot (xs ys : List Int) : Int := ((List.range xs.length).map fun i => at_ xs i * at_ ys i).sum
def seqI (b : Bool) (xs : List Int) : RP := if b = true then rep xs else rep (Tup.mk xs)
def S_sum_at (K : PySem.W.Frag) (c : Cs) : Spec := fun Rs R => ∃ (b : Bool) (xs ys : List Int), Rs = [seqI b xs, rep ys] ∧ xs.length = ys.length ∧ ys.length ≤ 1000 ∧ (∀ x ∈ xs, -50 ≤ x ∧ x ≤ 50) ∧ R = rep (dot xs ys)
/-- a point meets a row -/
def rowMet (r : Row) (ys : List Int) : Bool := if r.b = "most" then decide (dot r.a.l ys ≤ r.c) else decide (r.c ≤ dot r.a.l ys)
def within (xs tops : List Int) : Bool := (List.range xs.length).all fun i => decide (0 ≤ at_ xs i) && decide (at_ xs i ≤ at_ tops i)
def met (p : Prob) (ys : List Int) : Bool := within ys p.tops && p.rows.all (rowMet · ys)
def S_meets (K : PySem.W.Frag) (c : Cs) : Spec := fun Rs R => ∃ (p : Prob) (ys : List Int), Rs = [insP c p, rep ys] ∧ p.Ok ∧ ys.length = p.tops.length ∧ R = rep (met p ys)
def SE_meets (K : PySem.W.Frag) (c : Cs) : List RP → Addr → Prop := SE_need_point K c
def S_gained (K : PySem.W.Frag) (c : Cs) : Spec := fun Rs R => ∃ (p : Prob) (ys : List Int), Rs = [insP c p, rep ys] ∧ p.Ok ∧ ys.length = p.tops.length ∧ R = rep (dot p.gain ys)
def SE_gained (K : PySem.W.Frag) (c : Cs) : List RP → Addr → Prop := SE_need_point K c
def n_Problem_init : List Str := ["self", "tops", "rows", "gain"]
def t_Problem_init (K : PySem.W.Frag) (c : Cs) : TS := (tSeq (tDrop (tCall (spX (S_need_problem K c) (SE_need_problem K c)) [] E0 (tCons (tVar 1) (tCons (tVar 2) (tCons (tVar 3) tNil)))))
  (tSeq (sFld K (tVar 0) (tCB (rListX K) (tCons (tVar 1) tNil)) "tops")
  (tSeq (sFld K (tVar 0) (tCB (rListX K) (tCons (tVar 2) tNil)) "rows")
  (tSeq (sFld K (tVar 0) (tCB (rListX K) (tCons (tVar 3) tNil)) "gain")
  tNext))))
def n_need_point : List Str := ["problem", "point", "number"]
def t_need_point (K : PySem.W.Frag) (c : Cs) (E : XK) : TS := (tSeq (tIfS (tOr (tNot (tB (tCB (rIsi K) (tCons (tVar 1) (tCons (tC (.ty "list")) tNil))))) (tTest (tOp (rNeX K) (tCB (rLenX K) (tCons (tVar 1) tNil)) (tCB (rLenX K) (tCons (tFld K (tVar 0) "tops") tNil))))) (tSeq (tRaiseC E c.BadPoint)
  tNext) tNext)
  (tSeq (tFor (iList K (tVar 1)) (gName 2) (tSeq (tIfS (tOr (tNot (tB (tCB (rIsi K) (tCons (tVar 2) (tCons (tC (.ty "int")) tNil))))) (tB (tCB (rIsi K) (tCons (tVar 2) (tCons (tC (.ty "bool")) tNil))))) (tSeq (tRaiseC E c.BadPoint)
  tNext) tNext)
  tNext))
  (tSeq (tRet (tVar 1))
  tNext)))
def n_sum_at : List Str := ["numbers", "point", "number", "value"]
def t_sum_at (K : PySem.W.Frag) (c : Cs) : TS := (tSeq (tRet (tCB (rSum K) (tCons (tLc (iZipX K (tCons (tVar 0) (tCons (tVar 1) tNil))) (gTup K 2 (gCons (gName 2) (gCons (gName 3) gNil))) tYes (tOp (rMulX K) (tVar 2) (tVar 3)) [2, 3]) tNil)))
  tNext)
def n_meets : List Str := ["problem", "point", "value", "top", "numbers", "word", "bound", "found"]
def t_meets (K : PySem.W.Frag) (c : Cs) (E : XK) : TS := (tSeq (tDrop (tCallE (spX (S_need_point K c) (SE_need_point K c)) E (tCons (tVar 0) (tCons (tVar 1) tNil))))
  (tSeq (tFor (iZip K (tCons (tVar 1) (tCons (tFld K (tVar 0) "tops") tNil))) (gTup K 2 (gCons (gName 2) (gCons (gName 3) gNil))) (tSeq (tIfS (tNot (tTest (tChain rLeI rLeI (tC (.int 0)) (tVar 2) (tVar 3)))) (tSeq (tRet (tC (.bl false)))
  tNext) tNext)
  tNext))
  (tSeq (tFor (iList K (tFld K (tVar 0) "rows")) (gTup K 3 (gCons (gName 4) (gCons (gName 5) (gCons (gName 6) gNil)))) (tSeq (tAsg (tCall (spD (S_sum_at K c)) [] E0 (tCons (tVar 4) (tCons (tVar 1) tNil))) (gName 7))
  (tSeq (tIfS (tOr (tAnd (tTest (tOp (rEqX K) (tVar 5) (tC (.str "most")))) (tTest (tOp rGtI (tVar 7) (tVar 6)))) (tAnd (tTest (tOp (rEqX K) (tVar 5) (tC (.str "least")))) (tTest (tOp rLtI (tVar 7) (tVar 6))))) (tSeq (tRet (tC (.bl false)))
  tNext) tNext)
  tNext)))
  (tSeq (tRet (tC (.bl true)))
  tNext))))
def n_gained : List Str := ["problem", "point"]
def t_gained (K : PySem.W.Frag) (c : Cs) (E : XK) : TS := (tSeq (tRet (tCall (spD (S_sum_at K c)) [] E0 (tCons (tFld K (tVar 0) "gain") (tCons (tCallE (spX (S_need_point K c) (SE_need_point K c)) E (tCons (tVar 0) (tCons (tVar 1) tNil))) tNil))))
  tNext)
theorem rd_Problem_init {K : PySem.W.Frag} {c : Cs} (F : PF K c) : RdO (S_Problem K c) n_Problem_init (t_Problem_init K c) := by
  rintro _ _ _ ⟨x, p, rfl, k, rfl, rfl⟩ B hm
  apply bd_drop
  · apply EvD.s
    apply ev_callX
    · exact ea_cons (ev_var rfl) (ea_cons (ev_var rfl) (ea_cons (ev_var rfl) ea_nil))
    · exact ⟨py p.tops, py p.rows, py p.gain, rfl, k.is, rfl⟩
  have fld : ∀ {te : TE} {R : RP} {n : Str} {fs : List (Str × RP)} {u : TS} {P : Post}, NoAttr K c.Problem n → EvD (startC n_Problem_init [own x, rep p.tops, rep p.rows, rep p.gain]) te R → fs.length < 1000 → BDe B (startC n_Problem_init [own x, rep p.tops, rep p.rows, rep p.gain]) [(x, insO c.Problem (putR n R fs))] u P → BDe B (startC n_Problem_init [own x, rep p.tops, rep p.rows, rep p.gain]) [(x, insO c.Problem fs)] (tSeq (sFld K (tVar 0) te n) u) P :=
    fun hn he hz k => bd_setF 0 he.s (ev_var rfl) rfl F.cl hn hz k
  have l1 := putR_len "tops" (rep p.tops) []
  have l2 := putR_len "rows" (rep p.rows) (putR "tops" (rep p.tops) [])
  simp only [List.length_nil] at l1
  refine fld F.tops (R := rep p.tops) (ev_cb (ea_cons (ev_var rfl) ea_nil) c_listD) (by simp) ?_
  refine fld F.rows (R := rep p.rows) (ev_cb (ea_cons (ev_var rfl) ea_nil) c_listD) (by omega) ?_
  refine fld F.gain (R := rep p.gain) (ev_cb (ea_cons (ev_var rfl) ea_nil) c_listD) (by omega) ?_
  exact bd_endO ⟨rfl, rfl⟩ fun f => rep_of_unit _
theorem npt_core {K : PySem.W.Frag} {c : Cs} (F : PF K c) {p : Prob} {d : PyData} {B : Base} {E : XK} {P : Post} (hm : B.m = []) (hE : pointB d p.tops.length = false → Raises B E c.BadPoint) (hP : pointB d p.tops.length = true → ∀ v f h, Ext B.f B.h f h → (rpD d).p v f → P.rt v f h) :
    BDe B (startC n_need_point [insP c p, rpD d]) [] (t_need_point K c E) P := by
  have v1 : EvD (startC n_need_point [insP c p, rpD d]) (tVar 1) (rpD d) := ev_var rfl
  have isL := ev_cb (ea_cons v1 (ea_cons ev_ty ea_nil)) (c_isList (K := K))
  by_cases h1 : ∃ ds, d = .list ds ∧ ds.length = p.tops.length
  rotate_left
  · have hf : pointB d p.tops.length = false := by
      cases d with
      | list ds =>
        have : ¬ ds.length = p.tops.length := fun z => h1 ⟨ds, rfl, z⟩
        simp only [pointB, decide_eq_false this, Bool.false_and]
      | _ => rfl
    apply bd_ifr (b := true)
    · apply EvT.s
      rcases lst_or d with ⟨ds, rfl⟩ | hn
      · refine et_orF (et_eq (et_not (et_val isL)) rfl) ?_
        refine et_eq (et_test (ev_op (ev_cb (ea_cons v1 ea_nil) c_lenL) (ev_cb (ea_cons (ev_tops F (ev_var rfl)) ea_nil) c_len) s_neI)) ?_
        have : ¬ ds.length = p.tops.length := fun z => h1 ⟨ds, rfl, z⟩
        simp
        omega
      · refine et_orT (et_eq (et_not (et_val isL)) ?_)
        rw [hn]
        rfl
    · intro _
      exact bd_raise hm (hE hf)
    · intro h
      cases h
  obtain ⟨ds, rfl, hl⟩ := h1
  apply bd_ifr (b := false)
  · apply EvT.s
    refine et_orF (et_eq (et_not (et_val isL)) rfl) ?_
    refine et_eq (et_test (ev_op (ev_cb (ea_cons v1 ea_nil) c_lenL) (ev_cb (ea_cons (ev_tops F (ev_var rfl)) ea_nil) c_len) s_neI)) ?_
    simp
    omega
  · intro h
    cases h
  intro _
  apply bd_forE (fun _ => startC n_need_point [insP c p, rpD (.list ds)]) (fun _ => []) (fun i => ∀ j, j < i → isInt (at_ ds j) = true)
  · refine WiD.s (wi_list (it := fun i => rpD (at_ ds i)) v1 fun i d h => ?_)
    unfold at_
    rw [List.getD_eq_getElem?_getD, h]
    rfl
  · walk_at "fg"
  · rfl
  · intro j hj
    omega
  · intro i hi
    exact tg_name
  · intro i hlt Fi
    have e1 : (!isi (at_ ds i) "int" || isi (at_ ds i) "bool") = !isInt (at_ ds i) := by
      cases at_ ds i <;> rfl
    apply bd_ifr (b := !isInt (at_ ds i))
    · apply EvT.s
      rw [← e1]
      exact et_or (et_not (et_val (ev_cb (ea_cons (ev_var rfl) (ea_cons ev_ty ea_nil)) c_isInt))) fun _ => et_val (ev_cb (ea_cons (ev_var rfl) (ea_cons ev_ty ea_nil)) c_isBool)
    · intro hb
      simp only [Bool.not_eq_true'] at hb
      refine bd_raise hm (hE ?_)
      have : ds.all isInt = false := by
        rw [List.all_eq_false]
        exact ⟨_, at_mem hlt, by rw [hb]; exact Bool.false_ne_true⟩
      simp only [pointB, this, Bool.and_false]
    · intro hb
      simp only [Bool.not_eq_false'] at hb
      refine bd_turnE ?_ rfl (by walk_at "fg")
      intro j hj
      by_cases e : j = i
      · rw [e]
        exact hb
      · exact Fi j (by omega)
  intro Fi
  have hr : pointB (.list ds) p.tops.length = true := by
    simp only [pointB, decide_eq_true hl, all_range ds isInt Fi, Bool.and_self]
  exact bd_ret (EvD.s v1) hm fun v f h e r => hP hr v f h e r
theorem rd_need_point {K : PySem.W.Frag} {c : Cs} (F : PF K c) : ∀ Rs R, S_need_point K c Rs R → ∀ (B : Base) (E : XK), B.m = [] → BDe B (startC n_need_point Rs) [] (t_need_point K c E) (fnP B R) := by
  rintro _ _ ⟨p, d, rfl, h, rfl⟩ B E hm
  refine npt_core F hm (fun z => ?_) fun _ v f hp e r => ⟨e, r⟩
  rw [h] at z
  cases z
theorem rd_need_pointX {K : PySem.W.Frag} {c : Cs} (F : PF K c) : ∀ Rs C, SE_need_point K c Rs C → ∀ (B : Base) (E : XK), B.m = [] → Raises B E C → BDe B (startC n_need_point Rs) [] (t_need_point K c E) noP := by
  rintro _ _ ⟨p, d, rfl, h, rfl⟩ B E hm hE
  refine npt_core F hm (fun _ => hE) fun z => ?_
  rw [h] at z
  cases z
theorem point_ints (ys : List Int) (n : Nat) (h : ys.length = n) : pointB (py ys) n = true := by
  show (decide ((ys.map PyData.int).length = n) && (ys.map PyData.int).all isInt) = true
  rw [List.length_map, decide_eq_true h, Bool.true_and, List.all_eq_true]
  intro d hd
  obtain ⟨x, _, rfl⟩ := List.mem_map.mp hd
  rfl
theorem rd_sum_at {K : PySem.W.Frag} {c : Cs} : ∀ Rs R, S_sum_at K c Rs R → ∀ B : Base, B.m = [] → BDe B (startC n_sum_at Rs) [] (t_sum_at K c) (fnP B R) := by
  rintro _ _ ⟨b, xs, ys, rfl, hl, hl2, hb, rfl⟩ B hm
  apply bd_retR hm
  apply EvD.s
  apply ev_cb
  · apply ea_cons
    · apply ev_lc (α := Int) (n := xs.length) (item := fun i => rep (at_ xs i, at_ ys i)) (val := fun i => at_ xs i * at_ ys i)
      · cases b with
        | true => exact wi_zipXL (ev_var rfl) (ev_var rfl) hl
        | false => exact wi_zipXT (ev_var rfl) (ev_var rfl) hl
      · intro i hi
        exact tl_pair (by decide) (by decide)
      · intro i hi
        have := hb _ (at_mem hi)
        exact ev_op (ev_var rfl) (ev_var rfl) (s_mul (.inl ⟨by omega, by omega⟩))
      · omega
    · exact ea_nil
  · exact c_sum
theorem spec_sum_at {K : PySem.W.Frag} {c : Cs} {xs ys : List Int} (b : Bool) (h1 : xs.length = ys.length) (h2 : ys.length ≤ 1000) (h3 : ∀ x ∈ xs, -50 ≤ x ∧ x ≤ 50) : S_sum_at K c [seqI b xs, rep ys] (rep (dot xs ys)) := ⟨b, xs, ys, rfl, h1, h2, h3, rfl⟩
theorem rd_meets {K : PySem.W.Frag} {c : Cs} (F : PF K c) : ∀ Rs R, S_meets K c Rs R → ∀ (B : Base) (E : XK), B.m = [] → BDe B (startC n_meets Rs) [] (t_meets K c E) (fnP B R) := by
  rintro _ _ ⟨p, ys, rfl, k, hl, rfl⟩ B E hm
  apply bd_drop
  · apply EvD.s
    apply ev_callE
    · exact ea_cons (ev_var rfl) (ea_cons (ev_var rfl) ea_nil)
    · exact ⟨p, py ys, rfl, point_ints ys _ hl, rfl⟩
  apply bd_forE (fun _ => startC n_meets [insP c p, rep ys]) (fun _ => []) (fun i => ∀ j, j < i → (decide (0 ≤ at_ ys j) && decide (at_ ys j ≤ at_ p.tops j)) = true)
  · exact WiD.s (wi_zip (ev_var rfl) (ev_tops F (ev_var rfl)) hl)
  · walk_at "fg"
  · rfl
  · intro j hj
    omega
  · intro i hi
    exact tg_pair
  · intro i hlt Fi
    apply bd_ifr (b := !(decide (0 ≤ at_ ys i) && decide (at_ ys i ≤ at_ p.tops i)))
    · apply EvT.s
      apply et_not
      apply et_test
      exact ev_chain (Rb := rep (at_ ys i)) ev_int (ev_var rfl) (ev_var rfl) s_le fun _ => s_le
    · intro hb
      simp only [Bool.not_eq_true'] at hb
      apply bd_retE hm
      · walk_at "d"
      · have : within ys p.tops = false := by
          unfold within
          rw [List.all_eq_false]
          exact ⟨i, List.mem_range.mpr hlt, by rw [hb]; exact Bool.false_ne_true⟩
        unfold met
        rw [this, Bool.false_and]
    · intro hb
      simp only [Bool.not_eq_false'] at hb
      refine bd_turnE ?_ rfl (by walk_at "fg")
      intro j hj
      by_cases e : j = i
      · rw [e]
        exact hb
      · exact Fi j (by omega)
  intro Fi
  have hw : within ys p.tops = true := by
    unfold within
    rw [List.all_eq_true]
    intro i hi
    exact Fi i (List.mem_range.mp hi)
  apply bd_forE (fun _ => startC n_meets [insP c p, rep ys]) (fun _ => []) (fun i => ∀ j, j < i → rowMet (at_ p.rows j) ys = true)
  · exact WiD.s (wi_L (ev_rows F (ev_var rfl)))
  · walk_at "fg"
  · rfl
  · intro j hj
    omega
  · intro i hi
    exact tg_t3
  · intro i hlt Fi
    have hr : at_ p.rows i ∈ p.rows := at_mem hlt
    obtain ⟨r, er⟩ : ∃ r, r = at_ p.rows i := ⟨_, rfl⟩
    rw [← er] at hr
    apply bd_set (R := rep (dot (at_ p.rows i).a.l ys))
    · apply EvD.s
      apply ev_call
      · exact ea_cons (ev_var rfl) (ea_cons (ev_var rfl) ea_nil)
      · refine spec_sum_at (xs := (at_ p.rows i).a.l) (ys := ys) false ?_ (by have := k.n3; omega) ?_
        · rw [← er, k.rl r hr, hl]
        · rw [← er]
          exact k.rn r hr
    have e1 : ((decide (r.b = "most") && decide (r.c < dot r.a.l ys)) || (decide (r.b = "least") && decide (dot r.a.l ys < r.c))) = !rowMet r ys := by
      unfold rowMet
      rcases k.rw r hr with e | e
      · rw [e]
        have z : ¬ (("most" : Str) = "least") := by decide
        simp only [decide_true, Bool.true_and, decide_eq_false z, Bool.false_and, Bool.or_false, if_true]
        by_cases h : dot r.a.l ys ≤ r.c
        · rw [decide_eq_true h, decide_eq_false (by omega)]; rfl
        · rw [decide_eq_false h, decide_eq_true (by omega)]; rfl
      · rw [e]
        have z : ¬ (("least" : Str) = "most") := by decide
        simp only [decide_true, Bool.true_and, decide_eq_false z, Bool.false_and, Bool.false_or, if_neg z]
        by_cases h : r.c ≤ dot r.a.l ys
        · rw [decide_eq_true h, decide_eq_false (by omega)]; rfl
        · rw [decide_eq_false h, decide_eq_true (by omega)]; rfl
    apply bd_ifr (b := !rowMet r ys)
    · apply EvT.s
      rw [← e1, er]
      apply et_or
      · apply et_and
        · exact et_test (ev_op (ev_var rfl) ev_str s_eqS)
        · intro _
          exact et_test (ev_op (ev_var rfl) (ev_var rfl) s_gt)
      · intro _
        apply et_and
        · exact et_test (ev_op (ev_var rfl) ev_str s_eqS)
        · intro _
          exact et_test (ev_op (ev_var rfl) (ev_var rfl) s_lt)
    · intro hb
      simp only [Bool.not_eq_true'] at hb
      apply bd_retE hm
      · walk_at "d"
      · have : p.rows.all (rowMet · ys) = false := by
          rw [List.all_eq_false]
          exact ⟨r, hr, by rw [hb]; exact Bool.false_ne_true⟩
        unfold met
        rw [this, Bool.and_false]
    · intro hb
      simp only [Bool.not_eq_false'] at hb
      refine bd_turnE ?_ rfl (by walk_at "fg")
      intro j hj
      by_cases e : j = i
      · rw [e, ← er]
        exact hb
      · exact Fi j (by omega)
  intro Fi
  apply bd_retE hm
  · walk_at "d"
  · have : p.rows.all (rowMet · ys) = true := by
      rw [List.all_eq_true]
      intro r hr
      obtain ⟨i, hi, e⟩ := List.getElem_of_mem hr
      have := Fi i hi
      unfold at_ at this
      rw [List.getD_eq_getElem?_getD, List.getElem?_eq_getElem hi] at this
      rw [← e]
      exact this
    unfold met
    rw [this, hw]
    rfl
theorem ex_arg2 {Γ : Ctx} {ta tb : TE} {R : RP} {E E' : XK} {C : Addr} {sp : Sp} {dvs : List V} (h1 : EvD Γ ta R) (h2 : EvX Γ tb E C) : EvX Γ (tCall sp dvs E' (tCons ta (tCons tb tNil))) E C := fun σ f hp s ok q Q =>
  h1 σ f hp s ok _ fun v f1 h1 e1 rv => h2 σ f1 h1 e1.fh (ok.mono e1.ff) (fun f' h' e => q f' h' (e1.trans e)) _
theorem rd_gained {K : PySem.W.Frag} {c : Cs} (F : PF K c) : ∀ Rs R, S_gained K c Rs R → ∀ (B : Base) (E : XK), B.m = [] → BDe B (startC n_gained Rs) [] (t_gained K c E) (fnP B R) := by
  rintro _ _ ⟨p, ys, rfl, k, hl, rfl⟩ B E hm
  apply bd_retR hm
  apply EvD.s
  apply ev_call
  · apply ea_cons
    · exact ev_gain F (ev_var rfl)
    · apply ea_cons
      · apply ev_callE
        · exact ea_cons (ev_var rfl) (ea_cons (ev_var rfl) ea_nil)
        · exact ⟨p, py ys, rfl, point_ints ys _ hl, rfl⟩
      · exact ea_nil
  · exact spec_sum_at true (by rw [k.gl, hl]) (by have := k.n3; omega) k.gn
theorem rd_meetsX {K : PySem.W.Frag} {c : Cs} (F : PF K c) : ∀ Rs C, SE_meets K c Rs C → ∀ (B : Base) (E : XK), B.m = [] → Raises B E C → BDe B (startC n_meets Rs) [] (t_meets K c E) noP := by
  rintro _ _ ⟨p, d, rfl, h, rfl⟩ B E hm hE
  exact bd_dropX hm hE (ex_callE (ea_cons (ev_var rfl) (ea_cons (ev_var rfl) ea_nil)) ⟨p, d, rfl, h, rfl⟩)
theorem rd_gainedX {K : PySem.W.Frag} {c : Cs} (F : PF K c) : ∀ Rs C, SE_gained K c Rs C → ∀ (B : Base) (E : XK), B.m = [] → Raises B E C → BDe B (startC n_gained Rs) [] (t_gained K c E) noP := by
  rintro _ _ ⟨p, d, rfl, h, rfl⟩ B E hm hE
  exact bd_retX hm hE (ex_arg2 (ev_gain F (ev_var rfl)) (ex_callE (ea_cons (ev_var rfl) (ea_cons (ev_var rfl) ea_nil)) ⟨p, d, rfl, h, rfl⟩))
end D

set_option Elab.async false
set_option linter.all false
set_option maxRecDepth 100000
set_option maxHeartbeats 4000000
namespace D
open PySem PySem.Spec PyProof.Rows L2
open ToPy (py)
local macro_rules | `(tactic| walk_at "side") => `(tactic| first | assumption | omega | (refine Int.emod_nonneg _ ?_; omega) | (refine Int.emod_lt_of_pos _ ?_; omega) | (simp at *; omega) | (simp; done) | decide | skip)
local macro_rules | `(tactic| walk_at "d") => `(tactic| first
  | with_reducible exact ev_int | with_reducible exact ev_str | with_reducible exact ev_bl | with_reducible exact ev_non
  | exact ev_var rfl
  | with_reducible exact ev_ty
  | with_reducible exact ev_cls
  | ((with_reducible apply ev_op) <;> walk_at "d")
  | ((with_reducible apply ev_un) <;> walk_at "d")
  | ((with_reducible apply ev_call) <;> walk_at "d")
  | ((with_reducible apply ev_callX) <;> walk_at "d")
  | ((with_reducible apply ev_cb) <;> walk_at "d")
  | with_reducible exact ea_nil
  | ((with_reducible apply ea_cons) <;> walk_at "d")
  | with_reducible exact s_add
  | with_reducible exact s_sub
  | with_reducible exact s_lt
  | with_reducible exact s_le
  | with_reducible exact s_gt
  | with_reducible exact s_ge
  | with_reducible exact s_eqI
  | with_reducible exact s_neI
  | with_reducible exact s_eqS
  | with_reducible exact s_neS
  | with_reducible exact s_neB
  | exact s_eqSame (sh_ints2 _) | exact s_neSame (sh_ints2 _) | exact s_eqSame (sh_ints _) | exact s_neSame (sh_ints _)
  | ((with_reducible apply s_mod) <;> walk_at "side")
  | walk_at "div" | walk_at "mul"
  | ((with_reducible apply s_catL) <;> walk_at "side")
  | ((with_reducible apply s_repL) <;> walk_at "side")
  | with_reducible exact s_fst
  | with_reducible exact s_snd
  | with_reducible exact s_t0
  | with_reducible exact s_t1
  | with_reducible exact s_t2
  | ((with_reducible apply s_last) <;> walk_at "side")
  | ((with_reducible apply s_ixS) <;> walk_at "side")
  | ((with_reducible apply s_ix) <;> walk_at "side")
  | ((with_reducible apply s_ixT) <;> walk_at "side")
  | with_reducible exact s_negI
  | with_reducible exact c_len
  | with_reducible exact c_lI
  | with_reducible exact c_tI
  | with_reducible exact c_pI
  | with_reducible exact c_t3I
  | with_reducible exact c_sI
  | with_reducible exact c_iI
  | with_reducible exact c_iB
  | with_reducible exact c_lenP
  | with_reducible exact c_len3
  | with_reducible exact c_isInt
  | with_reducible exact c_isBool
  | with_reducible exact c_isStr
  | with_reducible exact c_isList
  | with_reducible exact c_isTup
  | with_reducible exact c_lenTup
  | with_reducible exact c_lenScr
  | with_reducible exact c_listD
  | with_reducible exact c_listTD
  | with_reducible exact c_tup
  | with_reducible exact c_abs
  | with_reducible exact c_min2
  | with_reducible exact c_max2
  | with_reducible exact c_intB
  | with_reducible exact c_sum
  | ((with_reducible apply c_min) <;> walk_at "side")
  | ((with_reducible apply c_max) <;> walk_at "side")
  | ((with_reducible apply et_val) <;> walk_at "d")
  | ((with_reducible apply et_test) <;> walk_at "d")
  | ((with_reducible apply et_not) <;> walk_at "d")
  | ((with_reducible apply et_and) <;> (try with_reducible intro _) <;> walk_at "d")
  | ((with_reducible apply et_or) <;> (try with_reducible intro _) <;> walk_at "d")
  | ((with_reducible apply ev_and) <;> (try with_reducible intro _) <;> walk_at "d")
  | ((with_reducible apply ev_or) <;> (try with_reducible intro _) <;> walk_at "d")
  | ((with_reducible apply ev_chain) <;> (try with_reducible intro _) <;> walk_at "d")
  | ((with_reducible apply ev_not) <;> walk_at "d")
  | ((with_reducible apply ev_pair) <;> walk_at "d")
  | ((with_reducible apply ev_t3) <;> walk_at "d")
  | ((with_reducible apply ev_lst1) <;> walk_at "d")
  | ((with_reducible apply ev_lst2) <;> walk_at "d")
  | ((with_reducible apply ev_lst3) <;> walk_at "d")
  | ((with_reducible apply ev_lst4) <;> walk_at "d")
  | ((with_reducible apply ev_cut) <;> walk_at "d")
  | ((with_reducible apply ep_some) <;> walk_at "d")
  | ((with_reducible apply EvD.s) <;> walk_at "d")
  | ((with_reducible apply EvT.s) <;> walk_at "d")
  | ((with_reducible apply EvN.s) <;> walk_at "d")
  | ((with_reducible apply en_lst1) <;> walk_at "d")
  | ((with_reducible apply en_lst2) <;> walk_at "d")
  | ((with_reducible apply en_lst3) <;> walk_at "d")
  | ((with_reducible apply en_lst4) <;> walk_at "d")
  | ((with_reducible apply en_cut) <;> walk_at "d")
  | with_reducible exact ev_lst0
  | with_reducible exact ep_none
  | with_reducible exact en_lst0
  | ((with_reducible apply wi_L) <;> walk_at "d")
  | ((with_reducible apply wi_T) <;> walk_at "d")
  | ((with_reducible apply wi_zip) <;> walk_at "d")
  | ((with_reducible apply WiD.s) <;> walk_at "d")
  | ((with_reducible apply wi_range) <;> walk_at "side")
  | exact spec_cell (by omega) (by omega)
  | skip)
local macro_rules | `(tactic| walk_at "div") => `(tactic| first
  | exact s_div ⟨by omega, by omega⟩
  | exact s_divW (wd_div (by first | assumption | omega) (by assumption))
  | with_reducible apply s_div)
local macro_rules | `(tactic| walk_at "mul") => `(tactic| first
  | exact s_mul (Or.inl ⟨by omega, by omega⟩) | exact s_mul (Or.inr ⟨by omega, by omega⟩)
  | exact s_mulW (wd_mul (by assumption) (by assumption))
  | with_reducible apply s_mulW)
local macro_rules | `(tactic| walk_at "fg") => `(tactic| repeat (first | exact Fg.nil | apply Fg.same | apply Fg.drop | (refine Fg.eq ?_ ?_; rotate_left)))
local macro_rules | `(tactic| walk_at "end") => `(tactic| exact bd_turnE trivial rfl (by walk_at "fg"))
local macro_rules | `(tactic| walk_at "range") => `(tactic| (apply WiD.s; apply wi_range; (walk_at "d"); omega; omega))
local macro_rules | `(tactic| walk_at "app") => `(tactic| (refine' bd_appR 0 ?_ rfl ?_ ?_ ?_ ?_; (walk_at "d"); (walk_at "d"); rotate_right))
local macro_rules | `(tactic| walk_at "lend") => `(tactic| repeat (first | exact LendC.nil | apply LendC.no | (apply LendC.one; (exact lend_list 0 rfl)) | (apply LendC.one; (exact lend_same))))
structure KE (K : PySem.W.Frag) (C : Addr) (no : List Addr) (base : Addr) : Prop where
  ex : PySem.W.exmOne K (.ref C) (.ref C) = some true
  no : ∀ a ∈ no, PySem.W.kitOne K (.ref C) (.ref a) = some false
  cut : PySem.W.kitOne K (.ref C) (.ref base) = some true
  ve : PySem.W.kitOne K (.ref C) (.type "ValueError") = some true
/-! ### what a script builds: a problem -/
def numOf (x k : Int) : Int := if k = 0 then x % 7 - 3 else if k = 1 then x % 101 - 50 else if x / 11 % 6 = 5 then 0 - 2 - x % 11 else 2 + x % 11
def bndOf (x k : Int) : Int := if k = 0 then x % 41 - 12 else if k = 1 ∧ x % 4 = 0 then x / 4 % 4001 - 2000 else if k = 1 then x / 4 % 401 - 200 else 2 + x % 31
def manyOf (ns : List Int) : Int := ix [1, 2, 3, 3] (cellAt ns 0 % 4)
def kindOf (ns : List Int) : Int := cellAt ns 0 / 4 % 4
def gainOf (ns : List Int) : List Int := (List.range (manyOf ns).toNat).map fun (k : Nat) => numOf (cellAt ns (4 + (k : Int))) (kindOf ns)
def sizeOf_ (ns : List Int) : Int := if decide (cellAt ns 0 / 96 % 8 = 3) = true then 6 else cellAt ns 0 / 16 % 6
def wordOf (ns : List Int) (i : Nat) : Str := if decide (1 < kindOf ns) = true then ix ["most", "most", "most", "least"] (cellAt ns (7 + 4 * (i : Int) + 3) % 4) else ix ["most", "least"] (cellAt ns (7 + 4 * (i : Int) + 3) % 2)
def rowAt (ns : List Int) (i : Nat) : Row := ⟨⟨(List.range (manyOf ns).toNat).map fun (k : Nat) => numOf (cellAt ns (7 + 4 * (i : Int) + (k : Int))) (kindOf ns)⟩, wordOf ns i, bndOf (cellAt ns (7 + 4 * (i : Int) + 3) / 4) (kindOf ns)⟩
def rowsOf (ns : List Int) : List Row := (List.range (sizeOf_ ns).toNat).map (rowAt ns)
def tops0 (ns : List Int) : List Int := (List.range (manyOf ns).toNat).map fun (k : Nat) => cellAt ns (1 + (k : Int)) / 4 % 5
def tops1 (ns : List Int) : Nat → List Int
  | 0 => tops0 ns
  | i + 1 => (tops1 ns i).set i (cellAt ns (1 + (i : Int)) / 16 % 21)
def tops2 (ns : List Int) : List Int := if decide (cellAt ns 1 % 16 = 9) = true then tops1 ns (if 2 < manyOf ns then 2 else manyOf ns).toNat else tops0 ns
def topsOf (ns : List Int) : List Int := if decide (cellAt ns 1 % 4 = 3) = true then (tops2 ns).set (cellAt ns 0 / 768 % manyOf ns).toNat (cellAt ns 1 / 4 % 21) else tops2 ns
def probOf (ns : List Int) : Prob := ⟨topsOf ns, rowsOf ns, gainOf ns⟩
def metR (tops : List Int) (rows : List Row) (ys : List Int) : Bool := within ys tops && rows.all (rowMet · ys)
theorem four (x : Int) : x % 4 = 0 ∨ x % 4 = 1 ∨ x % 4 = 2 ∨ x % 4 = 3 := by omega
theorem many_range (ns : List Int) : 1 ≤ manyOf ns ∧ manyOf ns ≤ 3 := by
  unfold manyOf
  rcases four (cellAt ns 0) with e | e | e | e <;> rw [e] <;> decide
theorem num_range {x k : Int} : -50 ≤ numOf x k ∧ numOf x k ≤ 50 := by
  unfold numOf
  have := Int.emod_nonneg x (show (7 : Int) ≠ 0 by decide)
  have := Int.emod_lt_of_pos x (show (0 : Int) < 7 by decide)
  repeat' split
  all_goals omega
theorem bnd_range {x k : Int} : -2000 ≤ bndOf x k ∧ bndOf x k ≤ 2000 := by
  unfold bndOf
  repeat' split
  all_goals omega
theorem word_two (ns : List Int) (i : Nat) : wordOf ns i = "most" ∨ wordOf ns i = "least" := by
  unfold wordOf
  have h2 : ∀ x : Int, x % 2 = 0 ∨ x % 2 = 1 := fun x => by omega
  split
  · rcases four (cellAt ns (7 + 4 * (i : Int) + 3)) with e | e | e | e <;> rw [e] <;> decide
  · rcases h2 (cellAt ns (7 + 4 * (i : Int) + 3)) with e | e <;> rw [e] <;> decide
theorem size_range (ns : List Int) : 0 ≤ sizeOf_ ns ∧ sizeOf_ ns ≤ 6 := by
  unfold sizeOf_
  split <;> omega
theorem kind_range (ns : List Int) : 0 ≤ kindOf ns ∧ kindOf ns < 4 := ⟨Int.emod_nonneg _ (by decide), Int.emod_lt_of_pos _ (by decide)⟩
def InR (l : List Int) (n : Nat) (lo hi : Int) : Prop := l.length = n ∧ ∀ x ∈ l, lo ≤ x ∧ x ≤ hi
theorem InR.set {l : List Int} {n : Nat} {lo hi : Int} (h : InR l n lo hi) {k : Nat} {x : Int} (hx : lo ≤ x ∧ x ≤ hi) : InR (l.set k x) n lo hi := by
  refine ⟨by rw [List.length_set]; exact h.1, fun y hy => ?_⟩
  rcases List.mem_or_eq_of_mem_set hy with z | z
  · exact h.2 y z
  · rw [z]; exact hx
theorem tops0_in (ns : List Int) : InR (tops0 ns) (manyOf ns).toNat 0 20 := by
  refine ⟨by simp [tops0], fun x hx => ?_⟩
  unfold tops0 at hx
  obtain ⟨k, _, rfl⟩ := List.mem_map.mp hx
  show 0 ≤ cellAt ns (1 + (k : Int)) / 4 % 5 ∧ cellAt ns (1 + (k : Int)) / 4 % 5 ≤ 20
  omega
theorem tops1_in (ns : List Int) : ∀ i, InR (tops1 ns i) (manyOf ns).toNat 0 20
  | 0 => tops0_in ns
  | i + 1 => (tops1_in ns i).set (by omega)
theorem tops2_in (ns : List Int) : InR (tops2 ns) (manyOf ns).toNat 0 20 := by
  unfold tops2
  split
  · exact tops1_in ns _
  · exact tops0_in ns
theorem tops_in (ns : List Int) : InR (topsOf ns) (manyOf ns).toNat 0 20 := by
  unfold topsOf
  split
  · exact (tops2_in ns).set (by omega)
  · exact tops2_in ns
theorem prob_ok (ns : List Int) : (probOf ns).Ok := by
  have l : (topsOf ns).length = (manyOf ns).toNat := (tops_in ns).1
  have m := many_range ns
  have hs := size_range ns
  have rowm : ∀ r ∈ rowsOf ns, ∃ i, r = rowAt ns i := fun r hr => by
    obtain ⟨i, _, e⟩ := List.mem_map.mp hr
    exact ⟨i, e.symm⟩
  refine ⟨?_, ?_, (tops_in ns).2, ?_, ?_, ?_, ?_, ?_, ?_, ?_⟩
  · show 1 ≤ (topsOf ns).length
    omega
  · show (topsOf ns).length ≤ 3
    omega
  · show (rowsOf ns).length ≤ 6
    simp only [rowsOf, List.length_map, List.length_range]
    omega
  · intro r hr
    obtain ⟨i, rfl⟩ := rowm r hr
    show ((List.range (manyOf ns).toNat).map _).length = (topsOf ns).length
    rw [List.length_map, List.length_range, l]
  · intro r hr x hx
    obtain ⟨i, rfl⟩ := rowm r hr
    obtain ⟨k, _, rfl⟩ := List.mem_map.mp hx
    exact num_range
  · intro r hr
    obtain ⟨i, rfl⟩ := rowm r hr
    exact word_two ns i
  · intro r hr
    obtain ⟨i, rfl⟩ := rowm r hr
    exact bnd_range
  · show (gainOf ns).length = (topsOf ns).length
    rw [l]
    simp [gainOf]
  · intro x hx
    obtain ⟨k, _, rfl⟩ := List.mem_map.mp hx
    exact num_range
def S_law_whole (K : PySem.W.Frag) (c : Cs) : Spec := fun Rs R => ∃ x : Int, Rs = [rep x] ∧ R = rep true
def S_law_number (K : PySem.W.Frag) (c : Cs) : Spec := fun Rs R => ∃ x k : Int, Rs = [rep x, rep k] ∧ R = rep (numOf x k)
def S_law_bound (K : PySem.W.Frag) (c : Cs) : Spec := fun Rs R => ∃ x k : Int, Rs = [rep x, rep k] ∧ R = rep (bndOf x k)
def S_law_tops (K : PySem.W.Frag) (c : Cs) : Spec := fun Rs R => ∃ ns : List Int, Rs = [scr K ns] ∧ R = rep (topsOf ns)
def S_law_kind (K : PySem.W.Frag) (c : Cs) : Spec := fun Rs R => ∃ ns : List Int, Rs = [scr K ns] ∧ R = rep (kindOf ns)
def S_law_gain (K : PySem.W.Frag) (c : Cs) : Spec := fun Rs R => ∃ ns : List Int, Rs = [scr K ns] ∧ R = rep (gainOf ns)
def S_law_rows (K : PySem.W.Frag) (c : Cs) : Spec := fun Rs R => ∃ ns : List Int, Rs = [scr K ns] ∧ R = rep (rowsOf ns)
def S_law_sum (K : PySem.W.Frag) (c : Cs) : Spec := fun Rs R => ∃ (b : Bool) (xs ys : List Int), Rs = [seqI b xs, rep ys] ∧ xs.length = ys.length ∧ ys.length ≤ 1000 ∧ (∀ x ∈ xs, -50 ≤ x ∧ x ≤ 50) ∧ R = rep (dot xs ys)
def S_law_meets (K : PySem.W.Frag) (c : Cs) : Spec := fun Rs R => ∃ (p : Prob) (ys : List Int), Rs = [rep p.tops, rep p.rows, rep ys] ∧ p.Ok ∧ ys.length = p.tops.length ∧ R = rep (met p ys)
def n_law_cell_at : List Str := ["_law_script", "_law_k", "_law_cell"]
def t_law_cell_at (K : PySem.W.Frag) (c : Cs) : TS := (tSeq (tAsg (tC (.int 0)) (gName 2))
  (tSeq (tIfS (tTest (tOp rGtI (tCB (rLenX K) (tCons (tVar 0) tNil)) (tC (.int 0)))) (tSeq (tAsg (tOp (rIx K) (tVar 0) (tOp rModI (tVar 1) (tCB (rLenX K) (tCons (tVar 0) tNil)))) (gName 2))
  tNext) tNext)
  (tSeq (tRet (tOp rModI (tOp (rMulX K) (tOp (rAddX K) (tVar 2) (tOp (rMulX K) (tC (.int 17)) (tVar 1))) (tC (.int 48271))) (tC (.int 1000003))))
  tNext)))
def n_law_whole : List Str := ["_law_found"]
def t_law_whole (K : PySem.W.Frag) (c : Cs) : TS := (tSeq (tRet (tAndV (tCB (rIsi K) (tCons (tVar 0) (tCons (tC (.ty "int")) tNil))) (tNotV (tCB (rIsi K) (tCons (tVar 0) (tCons (tC (.ty "bool")) tNil))))))
  tNext)
def n_law_number : List Str := ["_law_cell", "_law_kind_here"]
def t_law_number (K : PySem.W.Frag) (c : Cs) : TS := (tSeq (tIfS (tTest (tOp (rEqX K) (tVar 1) (tC (.int 0)))) (tSeq (tRet (tOp rSubI (tOp rModI (tVar 0) (tC (.int 7))) (tC (.int 3))))
  tNext) tNext)
  (tSeq (tIfS (tTest (tOp (rEqX K) (tVar 1) (tC (.int 1)))) (tSeq (tRet (tOp rSubI (tOp rModI (tVar 0) (tC (.int 101))) (tC (.int 50))))
  tNext) tNext)
  (tSeq (tIfS (tTest (tOp (rEqX K) (tOp rModI (tOp rDivI (tVar 0) (tC (.int 11))) (tC (.int 6))) (tC (.int 5)))) (tSeq (tRet (tOp rSubI (tOp rSubI (tC (.int 0)) (tC (.int 2))) (tOp rModI (tVar 0) (tC (.int 11)))))
  tNext) tNext)
  (tSeq (tRet (tOp (rAddX K) (tC (.int 2)) (tOp rModI (tVar 0) (tC (.int 11)))))
  tNext))))
def n_law_bound : List Str := ["_law_cell", "_law_kind_here"]
def t_law_bound (K : PySem.W.Frag) (c : Cs) : TS := (tSeq (tIfS (tTest (tOp (rEqX K) (tVar 1) (tC (.int 0)))) (tSeq (tRet (tOp rSubI (tOp rModI (tVar 0) (tC (.int 41))) (tC (.int 12))))
  tNext) tNext)
  (tSeq (tIfS (tAnd (tTest (tOp (rEqX K) (tVar 1) (tC (.int 1)))) (tTest (tOp (rEqX K) (tOp rModI (tVar 0) (tC (.int 4))) (tC (.int 0))))) (tSeq (tRet (tOp rSubI (tOp rModI (tOp rDivI (tVar 0) (tC (.int 4))) (tC (.int 4001))) (tC (.int 2000))))
  tNext) tNext)
  (tSeq (tIfS (tTest (tOp (rEqX K) (tVar 1) (tC (.int 1)))) (tSeq (tRet (tOp rSubI (tOp rModI (tOp rDivI (tVar 0) (tC (.int 4))) (tC (.int 401))) (tC (.int 200))))
  tNext) tNext)
  (tSeq (tRet (tOp (rAddX K) (tC (.int 2)) (tOp rModI (tVar 0) (tC (.int 31)))))
  tNext))))
def n_law_tops : List Str := ["_law_script", "_law_many", "_law_tops_here", "_law_cell", "_law_k"]
def t_law_tops (K : PySem.W.Frag) (c : Cs) : TS := (tSeq (tAsg (tOp (rIx K) (tLst (tCons (tC (.int 1)) (tCons (tC (.int 2)) (tCons (tC (.int 3)) (tCons (tC (.int 3)) tNil))))) (tOp rModI (tCall (spD (S_law_cell_at K c)) [] E0 (tCons (tVar 0) (tCons (tC (.int 0)) tNil))) (tC (.int 4)))) (gName 1))
  (tSeq (tAsg (tLc (iRng1 (tCons (tVar 1) tNil)) (gName 4) tYes (tOp rModI (tOp rDivI (tCall (spD (S_law_cell_at K c)) [] E0 (tCons (tVar 0) (tCons (tOp (rAddX K) (tC (.int 1)) (tVar 4)) tNil))) (tC (.int 4))) (tC (.int 5))) [4]) (gName 2))
  (tSeq (tAsg (tCall (spD (S_law_cell_at K c)) [] E0 (tCons (tVar 0) (tCons (tC (.int 1)) tNil))) (gName 3))
  (tSeq (tIfS (tTest (tOp (rEqX K) (tOp rModI (tVar 3) (tC (.int 16))) (tC (.int 9)))) (tSeq (tFor (iRng1 (tCons (tCB rMin2X (tCons (tVar 1) (tCons (tC (.int 2)) tNil))) tNil)) (gName 4) (tSeq (tAsg (tOp rModI (tOp rDivI (tCall (spD (S_law_cell_at K c)) [] E0 (tCons (tVar 0) (tCons (tOp (rAddX K) (tC (.int 1)) (tVar 4)) tNil))) (tC (.int 16))) (tC (.int 21))) (gSub (tVar 2) (tVar 4) rSetL))
  tNext))
  tNext) tNext)
  (tSeq (tIfS (tTest (tOp (rEqX K) (tOp rModI (tVar 3) (tC (.int 4))) (tC (.int 3)))) (tSeq (tAsg (tOp rModI (tOp rDivI (tVar 3) (tC (.int 4))) (tC (.int 21))) (gSub (tVar 2) (tOp rModI (tOp rDivI (tCall (spD (S_law_cell_at K c)) [] E0 (tCons (tVar 0) (tCons (tC (.int 0)) tNil))) (tC (.int 768))) (tVar 1)) rSetL))
  tNext) tNext)
  (tSeq (tRet (tVar 2))
  tNext))))))
def n_law_kind : List Str := ["_law_script"]
def t_law_kind (K : PySem.W.Frag) (c : Cs) : TS := (tSeq (tRet (tOp rModI (tOp rDivI (tCall (spD (S_law_cell_at K c)) [] E0 (tCons (tVar 0) (tCons (tC (.int 0)) tNil))) (tC (.int 4))) (tC (.int 4))))
  tNext)
def n_law_gain : List Str := ["_law_script", "_law_many", "_law_k"]
def t_law_gain (K : PySem.W.Frag) (c : Cs) : TS := (tSeq (tAsg (tOp (rIx K) (tLst (tCons (tC (.int 1)) (tCons (tC (.int 2)) (tCons (tC (.int 3)) (tCons (tC (.int 3)) tNil))))) (tOp rModI (tCall (spD (S_law_cell_at K c)) [] E0 (tCons (tVar 0) (tCons (tC (.int 0)) tNil))) (tC (.int 4)))) (gName 1))
  (tSeq (tRet (tLc (iRng1 (tCons (tVar 1) tNil)) (gName 2) tYes (tCall (spD (S_law_number K c)) [] E0 (tCons (tCall (spD (S_law_cell_at K c)) [] E0 (tCons (tVar 0) (tCons (tOp (rAddX K) (tC (.int 4)) (tVar 2)) tNil))) (tCons (tCall (spD (S_law_kind K c)) [] E0 (tCons (tVar 0) tNil)) tNil))) [2]))
  tNext))
def n_law_rows : List Str := ["_law_script", "_law_many", "_law_kind_here", "_law_size", "_law_rows_here", "_law_at", "_law_first", "_law_numbers", "_law_last", "_law_word", "_law_k"]
def t_law_rows (K : PySem.W.Frag) (c : Cs) : TS := (tSeq (tAsg (tOp (rIx K) (tLst (tCons (tC (.int 1)) (tCons (tC (.int 2)) (tCons (tC (.int 3)) (tCons (tC (.int 3)) tNil))))) (tOp rModI (tCall (spD (S_law_cell_at K c)) [] E0 (tCons (tVar 0) (tCons (tC (.int 0)) tNil))) (tC (.int 4)))) (gName 1))
  (tSeq (tAsg (tCall (spD (S_law_kind K c)) [] E0 (tCons (tVar 0) tNil)) (gName 2))
  (tSeq (tAsg (tOp rModI (tOp rDivI (tCall (spD (S_law_cell_at K c)) [] E0 (tCons (tVar 0) (tCons (tC (.int 0)) tNil))) (tC (.int 16))) (tC (.int 6))) (gName 3))
  (tSeq (tIfS (tTest (tOp (rEqX K) (tOp rModI (tOp rDivI (tCall (spD (S_law_cell_at K c)) [] E0 (tCons (tVar 0) (tCons (tC (.int 0)) tNil))) (tC (.int 96))) (tC (.int 8))) (tC (.int 3)))) (tSeq (tAsg (tC (.int 6)) (gName 3))
  tNext) tNext)
  (tSeq (tAsg (tLst tNil) (gName 4))
  (tSeq (tFor (iRng1 (tCons (tVar 3) tNil)) (gName 5) (tSeq (tAsg (tOp (rAddX K) (tC (.int 7)) (tOp (rMulX K) (tC (.int 4)) (tVar 5))) (gName 6))
  (tSeq (tAsg (tLc (iRng1 (tCons (tVar 1) tNil)) (gName 10) tYes (tCall (spD (S_law_number K c)) [] E0 (tCons (tCall (spD (S_law_cell_at K c)) [] E0 (tCons (tVar 0) (tCons (tOp (rAddX K) (tVar 6) (tVar 10)) tNil))) (tCons (tVar 2) tNil))) [10]) (gName 7))
  (tSeq (tAsg (tCall (spD (S_law_cell_at K c)) [] E0 (tCons (tVar 0) (tCons (tOp (rAddX K) (tVar 6) (tC (.int 3))) tNil))) (gName 8))
  (tSeq (tAsg (tOp (rIx K) (tLst (tCons (tC (.str "most")) (tCons (tC (.str "least")) tNil))) (tOp rModI (tVar 8) (tC (.int 2)))) (gName 9))
  (tSeq (tIfS (tTest (tOp rGtI (tVar 2) (tC (.int 1)))) (tSeq (tAsg (tOp (rIx K) (tLst (tCons (tC (.str "most")) (tCons (tC (.str "most")) (tCons (tC (.str "most")) (tCons (tC (.str "least")) tNil))))) (tOp rModI (tVar 8) (tC (.int 4)))) (gName 9))
  tNext) tNext)
  (tSeq (tDrop (tBM K "list" rAppend (tVar 4) (tCons (tTup (tCons (tCB (rTupX K) (tCons (tVar 7) tNil)) (tCons (tVar 9) (tCons (tCall (spD (S_law_bound K c)) [] E0 (tCons (tOp rDivI (tVar 8) (tC (.int 4))) (tCons (tVar 2) tNil))) tNil)))) tNil)))
  tNext)))))))
  (tSeq (tRet (tVar 4))
  tNext)))))))
def n_law_sum : List Str := ["_law_numbers", "_law_point", "_law_whole_here", "_law_k"]
def t_law_sum (K : PySem.W.Frag) (c : Cs) : TS := (tSeq (tAsg (tC (.int 0)) (gName 2))
  (tSeq (tFor (iRng1 (tCons (tCB (rLenX K) (tCons (tVar 1) tNil)) tNil)) (gName 3) (tSeq (tAsg (tOp (rAddX K) (tVar 2) (tOp (rMulX K) (tOp (rIx K) (tVar 0) (tVar 3)) (tOp (rIx K) (tVar 1) (tVar 3)))) (gName 2))
  tNext))
  (tSeq (tRet (tVar 2))
  tNext)))
def n_law_meets : List Str := ["_law_tops_here", "_law_rows_here", "_law_point", "_law_k", "_law_row", "_law_found"]
def t_law_meets (K : PySem.W.Frag) (c : Cs) : TS := (tSeq (tFor (iRng1 (tCons (tCB (rLenX K) (tCons (tVar 0) tNil)) tNil)) (gName 3) (tSeq (tIfS (tOr (tTest (tOp rLtI (tOp (rIx K) (tVar 2) (tVar 3)) (tC (.int 0)))) (tTest (tOp rGtI (tOp (rIx K) (tVar 2) (tVar 3)) (tOp (rIx K) (tVar 0) (tVar 3))))) (tSeq (tRet (tC (.bl false)))
  tNext) tNext)
  tNext))
  (tSeq (tFor (iList K (tVar 1)) (gName 4) (tSeq (tAsg (tCall (spD (S_law_sum K c)) [] E0 (tCons (tOp (rIx K) (tVar 4) (tC (.int 0))) (tCons (tVar 2) tNil))) (gName 5))
  (tSeq (tIfS (tOr (tAnd (tTest (tOp (rEqX K) (tOp (rIx K) (tVar 4) (tC (.int 1))) (tC (.str "most")))) (tTest (tOp rGtI (tVar 5) (tOp (rIx K) (tVar 4) (tC (.int 2)))))) (tAnd (tTest (tOp (rEqX K) (tOp (rIx K) (tVar 4) (tC (.int 1))) (tC (.str "least")))) (tTest (tOp rLtI (tVar 5) (tOp (rIx K) (tVar 4) (tC (.int 2))))))) (tSeq (tRet (tC (.bl false)))
  tNext) tNext)
  tNext)))
  (tSeq (tRet (tC (.bl true)))
  tNext)))
section
variable {K : PySem.W.Frag} {c : Cs}
theorem rd_law_cell_at : ∀ Rs R, S_law_cell_at K c Rs R → ∀ B : Base, B.m = [] → BDe B (startC n_law_cell_at Rs) [] (t_law_cell_at K c) (fnP B R) := by
  rintro _ _ ⟨ns, k, rfl, h0, h1, rfl⟩ B hm
  apply bd_set
  · walk_at "d"
  apply bd_ifset (a := ix ns (k % ns.length)) (c := (0:Int))
  · walk_at "d"
  · intro h
    simp at h
    walk_at "d"
  · rfl
  apply bd_retE hm
  · walk_at "d"
  simp [cellAt]
theorem rd_law_whole : ∀ Rs R, S_law_whole K c Rs R → ∀ B : Base, B.m = [] → BDe B (startC n_law_whole Rs) [] (t_law_whole K c) (fnP B R) := by
  rintro _ _ ⟨x, rfl, rfl⟩ B hm
  apply bd_retE (a := true && !false) hm
  · walk_at "d"
  · rfl
theorem rd_law_number : ∀ Rs R, S_law_number K c Rs R → ∀ B : Base, B.m = [] → BDe B (startC n_law_number Rs) [] (t_law_number K c) (fnP B R) := by
  rintro _ _ ⟨x, k, rfl, rfl⟩ B hm
  apply bd_ifr (b := decide (k = 0))
  · walk_at "d"
  · intro h
    simp at h
    apply bd_retE hm
    · walk_at "d"
    · simp [numOf, h]
  intro h0
  simp at h0
  apply bd_ifr (b := decide (k = 1))
  · walk_at "d"
  · intro h
    simp at h
    apply bd_retE hm
    · walk_at "d"
    · simp [numOf, h]
  intro h1
  simp at h1
  apply bd_ifr (b := decide (x / 11 % 6 = 5))
  · walk_at "d"
  · intro h
    simp at h
    apply bd_retE hm
    · walk_at "d"
    · simp [numOf, h, h0, h1]
  intro h2
  simp at h2
  apply bd_retE hm
  · walk_at "d"
  · simp [numOf, h0, h1, h2]
theorem rd_law_bound : ∀ Rs R, S_law_bound K c Rs R → ∀ B : Base, B.m = [] → BDe B (startC n_law_bound Rs) [] (t_law_bound K c) (fnP B R) := by
  rintro _ _ ⟨x, k, rfl, rfl⟩ B hm
  apply bd_ifr (b := decide (k = 0))
  · walk_at "d"
  · intro h
    simp at h
    apply bd_retE hm
    · walk_at "d"
    · simp [bndOf, h]
  intro h0
  simp at h0
  apply bd_ifr (b := decide (k = 1) && decide (x % 4 = 0))
  · walk_at "d"
  · intro h
    simp at h
    apply bd_retE hm
    · walk_at "d"
    · simp [bndOf, h]
  intro h1
  simp at h1
  apply bd_ifr (b := decide (k = 1))
  · walk_at "d"
  · intro h
    simp at h
    apply bd_retE hm
    · walk_at "d"
    · simp [bndOf, h, h1 h]
  intro h2
  simp at h2
  apply bd_retE hm
  · walk_at "d"
  · simp [bndOf, h0, h2]
theorem rd_law_kind : ∀ Rs R, S_law_kind K c Rs R → ∀ B : Base, B.m = [] → BDe B (startC n_law_kind Rs) [] (t_law_kind K c) (fnP B R) := by
  rintro _ _ ⟨ns, rfl, rfl⟩ B hm
  apply bd_retE hm
  · walk_at "d"
  · rfl
theorem ev_many {Γ : Ctx} {ns : List Int} (h : Γ[0]? = some (some (scr K ns))) : EvD Γ (tOp (rIx K) (tLst (tCons (tC (.int 1)) (tCons (tC (.int 2)) (tCons (tC (.int 3)) (tCons (tC (.int 3)) tNil))))) (tOp rModI (tCall (spD (S_law_cell_at K c)) [] E0 (tCons (tVar 0) (tCons (tC (.int 0)) tNil))) (tC (.int 4)))) (rep (manyOf ns)) := by
  apply ev_op
  · exact ev_lst4 ev_int ev_int ev_int ev_int
  · exact ev_op (ev_call (ea_cons (ev_var h) (ea_cons ev_int ea_nil)) (spec_cell (by omega) (by omega))) ev_int (s_mod (by omega))
  · exact s_ix (Int.emod_nonneg _ (by decide)) (Int.emod_lt_of_pos _ (by decide))
theorem rd_law_gain : ∀ Rs R, S_law_gain K c Rs R → ∀ B : Base, B.m = [] → BDe B (startC n_law_gain Rs) [] (t_law_gain K c) (fnP B R) := by
  rintro _ _ ⟨ns, rfl, rfl⟩ B hm
  have m := many_range ns
  apply bd_set (EvD.s (ev_many rfl))
  apply bd_retR hm
  apply EvD.s
  apply ev_lc (α := Int) (n := (manyOf ns).toNat) (item := fun i => rep (i : Int)) (val := fun (k : Nat) => numOf (cellAt ns (4 + (k : Int))) (kindOf ns))
  · exact wi_range (ev_var rfl) (by omega) (by omega)
  · intro i hi
    exact tl_name (by decide)
  · intro i hi
    apply ev_call
    · apply ea_cons
      · exact ev_call (ea_cons (ev_var rfl) (ea_cons (ev_op ev_int (ev_var rfl) s_add) ea_nil)) (spec_cell (by omega) (by omega))
      · apply ea_cons
        · exact ev_call (ea_cons (ev_var rfl) ea_nil) ⟨ns, rfl, rfl⟩
        · exact ea_nil
    · exact ⟨_, _, rfl, rfl⟩
  · omega
theorem rd_law_sum : ∀ Rs R, S_law_sum K c Rs R → ∀ B : Base, B.m = [] → BDe B (startC n_law_sum Rs) [] (t_law_sum K c) (fnP B R) := by
  rintro _ _ ⟨b, xs, ys, rfl, hl, hl2, hb, rfl⟩ B hm
  apply bd_set (EvD.s ev_int)
  apply bd_forE (n := ys.length) (fun i => [some (seqI b xs), some (rep ys), some (rep (((List.range i).map fun k => at_ xs k * at_ ys k).sum)), none]) (fun _ => []) (fun i => True)
  · apply WiD.s
    have e : ys.length = ((ys.length : Int)).toNat := by omega
    rw [e]
    exact wi_range (ev_cb (ea_cons (ev_var rfl) ea_nil) c_len) (by omega) (by omega)
  · walk_at "fg"
  · rfl
  · trivial
  · intro i hi
    exact tg_name
  · intro i hi _
    have hx := hb (at_ xs i) (at_mem (by omega))
    have i1 : ix xs (i : Int) = at_ xs i := rfl
    have i2 : ix ys (i : Int) = at_ ys i := rfl
    apply bd_set (R := rep ((((List.range i).map fun k => at_ xs k * at_ ys k).sum) + at_ xs i * at_ ys i))
    · apply EvD.s
      apply ev_op (ev_var rfl)
      · apply ev_op
        · cases b with
          | true => exact ev_op (ev_var rfl) (ev_var rfl) (s_ix (xs := xs) (by omega) (by omega))
          | false => exact ev_op (ev_var rfl) (ev_var rfl) (s_ixT (xs := xs) (by omega) (by omega))
        · exact ev_op (ev_var rfl) (ev_var rfl) (s_ix (xs := ys) (by omega) (by omega))
        · exact s_mul (.inl ⟨by rw [i1]; omega, by rw [i1]; omega⟩)
      · exact s_add
    refine bd_turnE trivial rfl ?_
    have e : (((List.range (i + 1)).map fun k => at_ xs k * at_ ys k).sum) = (((List.range i).map fun k => at_ xs k * at_ ys k).sum) + at_ xs i * at_ ys i := by
      rw [List.range_succ, List.map_append, List.sum_append]
      simp
    rw [e]
    walk_at "fg"
  · intro _
    apply bd_retE hm
    · walk_at "d"
    · unfold dot
      rw [hl]
theorem spec_law_sum {xs ys : List Int} (b : Bool) (h1 : xs.length = ys.length) (h2 : ys.length ≤ 1000) (h3 : ∀ x ∈ xs, -50 ≤ x ∧ x ≤ 50) : S_law_sum K c [seqI b xs, rep ys] (rep (dot xs ys)) := ⟨b, xs, ys, rfl, h1, h2, h3, rfl⟩
theorem rowMet_not (r : Row) (ys : List Int) (h : r.b = "most" ∨ r.b = "least") : ((decide (r.b = "most") && decide (r.c < dot r.a.l ys)) || (decide (r.b = "least") && decide (dot r.a.l ys < r.c))) = !rowMet r ys := by
  unfold rowMet
  rcases h with e | e
  · rw [e]
    have z : ¬ (("most" : Str) = "least") := by decide
    simp only [decide_true, Bool.true_and, decide_eq_false z, Bool.false_and, Bool.or_false, if_true]
    by_cases h : dot r.a.l ys ≤ r.c
    · rw [decide_eq_true h, decide_eq_false (by omega)]; rfl
    · rw [decide_eq_false h, decide_eq_true (by omega)]; rfl
  · rw [e]
    have z : ¬ (("least" : Str) = "most") := by decide
    simp only [decide_true, Bool.true_and, decide_eq_false z, Bool.false_and, Bool.false_or, if_neg z]
    by_cases h : r.c ≤ dot r.a.l ys
    · rw [decide_eq_true h, decide_eq_false (by omega)]; rfl
    · rw [decide_eq_false h, decide_eq_true (by omega)]; rfl
theorem rd_law_meets : ∀ Rs R, S_law_meets K c Rs R → ∀ B : Base, B.m = [] → BDe B (startC n_law_meets Rs) [] (t_law_meets K c) (fnP B R) := by
  rintro _ _ ⟨p, ys, rfl, k, hl, rfl⟩ B hm
  have n3 := k.n3
  apply bd_forE (n := p.tops.length) (fun _ => startC n_law_meets [rep p.tops, rep p.rows, rep ys]) (fun _ => []) (fun i => ∀ j, j < i → (decide (0 ≤ at_ ys j) && decide (at_ ys j ≤ at_ p.tops j)) = true)
  · apply WiD.s
    have e : p.tops.length = ((p.tops.length : Int)).toNat := by omega
    rw [e]
    exact wi_range (ev_cb (ea_cons (ev_var rfl) ea_nil) c_len) (by omega) (by omega)
  · walk_at "fg"
  · rfl
  · intro j hj
    omega
  · intro i hi
    exact tg_name
  · intro i hlt Fi
    have i1 : ix p.tops (i : Int) = at_ p.tops i := rfl
    have i2 : ix ys (i : Int) = at_ ys i := rfl
    have e1 : (decide (ix ys (i : Int) < 0) || decide (ix p.tops (i : Int) < ix ys (i : Int))) = !(decide (0 ≤ at_ ys i) && decide (at_ ys i ≤ at_ p.tops i)) := by
      rw [i1, i2, Bool.not_and]
      congr 1
      · by_cases h : 0 ≤ at_ ys i
        · rw [decide_eq_true h, decide_eq_false (by omega)]; rfl
        · rw [decide_eq_false h, decide_eq_true (by omega)]; rfl
      · by_cases h : at_ ys i ≤ at_ p.tops i
        · rw [decide_eq_true h, decide_eq_false (by omega)]; rfl
        · rw [decide_eq_false h, decide_eq_true (by omega)]; rfl
    apply bd_ifr (b := !(decide (0 ≤ at_ ys i) && decide (at_ ys i ≤ at_ p.tops i)))
    · apply EvT.s
      rw [← e1]
      have y1 : EvD ((startC n_law_meets [rep p.tops, rep p.rows, rep ys]).set 3 (some (rep (i : Int)))) (tOp (rIx K) (tVar 2) (tVar 3)) (rep (ix ys (i : Int))) := ev_op (ev_var rfl) (ev_var rfl) (s_ix (by omega) (by omega))
      apply et_or
      · exact et_test (ev_op y1 ev_int s_lt)
      · intro _
        exact et_test (ev_op y1 (ev_op (ev_var rfl) (ev_var rfl) (s_ix (by omega) (by omega))) s_gt)
    · intro hb
      simp only [Bool.not_eq_true'] at hb
      apply bd_retE hm
      · walk_at "d"
      · have : within ys p.tops = false := by
          unfold within
          rw [List.all_eq_false]
          exact ⟨i, List.mem_range.mpr (by omega), by rw [hb]; exact Bool.false_ne_true⟩
        unfold met
        rw [this, Bool.false_and]
    · intro hb
      simp only [Bool.not_eq_false'] at hb
      refine bd_turnE ?_ rfl (by walk_at "fg")
      intro j hj
      by_cases e : j = i
      · rw [e]
        exact hb
      · exact Fi j (by omega)
  intro Fi
  have hw : within ys p.tops = true := by
    unfold within
    rw [List.all_eq_true]
    intro i hi
    have := List.mem_range.mp hi
    exact Fi i (by omega)
  apply bd_forE (fun _ => startC n_law_meets [rep p.tops, rep p.rows, rep ys]) (fun _ => []) (fun i => ∀ j, j < i → rowMet (at_ p.rows j) ys = true)
  · exact WiD.s (wi_L (ev_var rfl))
  · walk_at "fg"
  · rfl
  · intro j hj
    omega
  · intro i hi
    exact tg_name
  · intro i hlt Fi
    have hr : at_ p.rows i ∈ p.rows := at_mem hlt
    apply bd_set (R := rep (dot (at_ p.rows i).a.l ys))
    · apply EvD.s
      apply ev_call
      · exact ea_cons (ev_op (ev_var rfl) ev_int s_t0) (ea_cons (ev_var rfl) ea_nil)
      · exact spec_law_sum (xs := (at_ p.rows i).a.l) (ys := ys) false (by rw [k.rl _ hr, hl]) (by omega) (k.rn _ hr)
    apply bd_ifr (b := !rowMet (at_ p.rows i) ys)
    · apply EvT.s
      rw [← rowMet_not _ _ (k.rw _ hr)]
      apply et_or
      · apply et_and
        · exact et_test (ev_op (ev_op (ev_var rfl) ev_int s_t1) ev_str s_eqS)
        · intro _
          exact et_test (ev_op (ev_var rfl) (ev_op (ev_var rfl) ev_int s_t2) s_gt)
      · intro _
        apply et_and
        · exact et_test (ev_op (ev_op (ev_var rfl) ev_int s_t1) ev_str s_eqS)
        · intro _
          exact et_test (ev_op (ev_var rfl) (ev_op (ev_var rfl) ev_int s_t2) s_lt)
    · intro hb
      simp only [Bool.not_eq_true'] at hb
      apply bd_retE hm
      · walk_at "d"
      · have : p.rows.all (rowMet · ys) = false := by
          rw [List.all_eq_false]
          exact ⟨_, hr, by rw [hb]; exact Bool.false_ne_true⟩
        unfold met
        rw [this, Bool.and_false]
    · intro hb
      simp only [Bool.not_eq_false'] at hb
      refine bd_turnE ?_ rfl (by walk_at "fg")
      intro j hj
      by_cases e : j = i
      · rw [e]
        exact hb
      · exact Fi j (by omega)
  intro Fi
  apply bd_retE hm
  · walk_at "d"
  · have : p.rows.all (rowMet · ys) = true := by
      rw [List.all_eq_true]
      intro r hr
      obtain ⟨i, hi, e⟩ := List.getElem_of_mem hr
      have := Fi i hi
      unfold at_ at this
      rw [List.getD_eq_getElem?_getD, List.getElem?_eq_getElem hi] at this
      rw [← e]
      exact this
    unfold met
    rw [this, hw]
    rfl
theorem rd_law_tops : ∀ Rs R, S_law_tops K c Rs R → ∀ B : Base, B.m = [] → BDe B (startC n_law_tops Rs) [] (t_law_tops K c) (fnP B R) := by
  rintro _ _ ⟨ns, rfl, rfl⟩ B hm
  have m := many_range ns
  apply bd_set (EvD.s (ev_many rfl))
  apply bd_own (T := oL (tops0 ns))
  · apply EvN.s
    apply en_lc (α := Int) (n := (manyOf ns).toNat) (item := fun i => rep (i : Int)) (val := fun (k : Nat) => cellAt ns (1 + (k : Int)) / 4 % 5)
    · exact wi_range (ev_var rfl) (by omega) (by omega)
    · intro i hi
      exact tl_name (by decide)
    · intro i hi
      apply ev_op
      · exact ev_op (ev_call (ea_cons (ev_var rfl) (ea_cons (ev_op ev_int (ev_var rfl) s_add) ea_nil)) (spec_cell (by omega) (by omega))) ev_int (s_div ⟨by omega, by omega⟩)
      · exact ev_int
      · exact s_mod (by omega)
    · omega
  intro q
  apply bd_set (R := rep (cellAt ns 1))
  · exact EvD.s (ev_call (ea_cons (ev_var rfl) (ea_cons ev_int ea_nil)) (spec_cell (by omega) (by omega)))
  apply bd_if (b := decide (cellAt ns 1 % 16 = 9)) (Γ' := [some (scr K ns), some (rep (manyOf ns)), some (own q), some (rep (cellAt ns 1)), none]) (O' := [(q, oL (tops2 ns))])
  · walk_at "d"
  · intro h
    simp at h
    have e2 : tops2 ns = tops1 ns (if 2 < manyOf ns then 2 else manyOf ns).toNat := by simp [tops2, h]
    rw [e2]
    apply bd_forE (n := (if 2 < manyOf ns then 2 else manyOf ns).toNat) (fun i => [some (scr K ns), some (rep (manyOf ns)), some (own q), some (rep (cellAt ns 1)), none]) (fun i => [(q, oL (tops1 ns i))]) (fun _ => True)
    · apply WiD.s
      apply wi_range
      · exact ev_cb (ea_cons (ev_var rfl) (ea_cons ev_int ea_nil)) c_min2
      · split <;> omega
      · split <;> omega
    · walk_at "fg"
    · rfl
    · trivial
    · intro i hi
      exact tg_name
    · intro i hi _
      have hl : (tops1 ns i).length = (manyOf ns).toNat := (tops1_in ns i).1
      have hi2 : i < (manyOf ns).toNat := by
        split at hi <;> omega
      refine bd_setI (α := Int) (xs := tops1 ns i) (a := cellAt ns (1 + (i : Int)) / 16 % 21) (z := (i : Int)) 0 ?_ (ev_var rfl) (EvD.s (ev_var rfl)) rfl (by omega) (by omega) ?_
      · apply EvD.s
        apply ev_op
        · exact ev_op (ev_call (ea_cons (ev_var rfl) (ea_cons (ev_op ev_int (ev_var rfl) s_add) ea_nil)) (spec_cell (by omega) (by omega))) ev_int (s_div ⟨by omega, by omega⟩)
        · exact ev_int
        · exact s_mod (by omega)
      · refine bd_turnE trivial rfl ?_
        walk_at "fg"
    · intro _
      exact bd_next fun σ f h s => s
  · intro h
    simp at h
    have e2 : tops2 ns = tops0 ns := by simp [tops2, h]
    rw [e2]
    exact bd_next fun σ f h s => s
  apply bd_if (b := decide (cellAt ns 1 % 4 = 3)) (Γ' := [some (scr K ns), some (rep (manyOf ns)), some (own q), some (rep (cellAt ns 1)), none]) (O' := [(q, oL (topsOf ns))])
  · walk_at "d"
  · intro h
    simp at h
    have e2 : topsOf ns = (tops2 ns).set (cellAt ns 0 / 768 % manyOf ns).toNat (cellAt ns 1 / 4 % 21) := by simp [topsOf, h]
    rw [e2]
    have hl : (tops2 ns).length = (manyOf ns).toNat := (tops2_in ns).1
    have g0 := Int.emod_nonneg (cellAt ns 0 / 768) (b := manyOf ns) (by omega)
    have g1 := Int.emod_lt_of_pos (cellAt ns 0 / 768) (b := manyOf ns) (by omega)
    refine bd_setI (α := Int) (xs := tops2 ns) (a := cellAt ns 1 / 4 % 21) (z := cellAt ns 0 / 768 % manyOf ns) 0 ?_ (ev_var rfl) ?_ rfl (by omega) (by omega) ?_
    · walk_at "d"
    · walk_at "d"
    · exact bd_next fun σ f h s => s
  · intro h
    simp at h
    have e2 : topsOf ns = tops2 ns := by simp [topsOf, h]
    rw [e2]
    exact bd_next fun σ f h s => s
  refine bd_frz 0 2 rfl rfl hm ?_
  apply bd_retR hm
  walk_at "d"
theorem rd_law_rows : ∀ Rs R, S_law_rows K c Rs R → ∀ B : Base, B.m = [] → BDe B (startC n_law_rows Rs) [] (t_law_rows K c) (fnP B R) := by
  rintro _ _ ⟨ns, rfl, rfl⟩ B hm
  have m := many_range ns
  have sz := size_range ns
  apply bd_set (EvD.s (ev_many rfl))
  apply bd_set (EvD.s (ev_call (ea_cons (ev_var rfl) ea_nil) ⟨ns, rfl, rfl⟩))
  apply bd_set (R := rep (cellAt ns 0 / 16 % 6))
  · walk_at "d"
  apply bd_ifset (α := Int) (b := decide (cellAt ns 0 / 96 % 8 = 3)) (a := 6) (c := cellAt ns 0 / 16 % 6)
  · walk_at "d"
  · intro _
    exact EvD.s ev_int
  · rfl
  apply bd_own (T := oL ([] : List Row)) (EvN.s en_lst0)
  intro q
  apply bd_forE (n := (sizeOf_ ns).toNat) (fun i => [some (scr K ns), some (rep (manyOf ns)), some (rep (kindOf ns)), some (rep (sizeOf_ ns)), some (own q), none, none, none, none, none, none]) (fun i => [(q, oL ((List.range i).map (rowAt ns)))]) (fun _ => True)
  · apply WiD.s
    exact wi_range (ev_var rfl) (by omega) (by omega)
  · walk_at "fg"
  · rfl
  · trivial
  · intro i hi
    exact tg_name
  · intro i hi _
    apply bd_set (R := rep (7 + 4 * (i : Int)))
    · walk_at "d"
    apply bd_set (R := rep ((List.range (manyOf ns).toNat).map fun (k : Nat) => numOf (cellAt ns (7 + 4 * (i : Int) + (k : Int))) (kindOf ns)))
    · apply EvD.s
      apply ev_lc (α := Int) (n := (manyOf ns).toNat) (item := fun i => rep (i : Int))
      · exact wi_range (ev_var rfl) (by omega) (by omega)
      · intro k hk
        exact tl_name (by decide)
      · intro k hk
        apply ev_call
        · apply ea_cons
          · exact ev_call (ea_cons (ev_var rfl) (ea_cons (ev_op (ev_var rfl) (ev_var rfl) s_add) ea_nil)) (spec_cell (by omega) (by omega))
          · exact ea_cons (ev_var rfl) ea_nil
        · exact ⟨_, _, rfl, rfl⟩
      · omega
    apply bd_set (R := rep (cellAt ns (7 + 4 * (i : Int) + 3)))
    · exact EvD.s (ev_call (ea_cons (ev_var rfl) (ea_cons (ev_op (ev_var rfl) ev_int s_add) ea_nil)) (spec_cell (by omega) (by omega)))
    apply bd_set (R := rep (ix (["most", "least"] : List Str) (cellAt ns (7 + 4 * (i : Int) + 3) % 2)))
    · apply EvD.s
      exact ev_op (ev_lst2 ev_str ev_str) (ev_op (ev_var rfl) ev_int (s_mod (by omega))) (s_ix (Int.emod_nonneg _ (by decide)) (Int.emod_lt_of_pos _ (by decide)))
    apply bd_ifset (α := Str) (b := decide (1 < kindOf ns)) (a := ix (["most", "most", "most", "least"] : List Str) (cellAt ns (7 + 4 * (i : Int) + 3) % 4)) (c := ix (["most", "least"] : List Str) (cellAt ns (7 + 4 * (i : Int) + 3) % 2))
    · walk_at "d"
    · intro _
      apply EvD.s
      exact ev_op (ev_lst4 ev_str ev_str ev_str ev_str) (ev_op (ev_var rfl) ev_int (s_mod (by omega))) (s_ix (Int.emod_nonneg _ (by decide)) (Int.emod_lt_of_pos _ (by decide)))
    · rfl
    refine bd_appR (α := Row) (g := rowAt ns) (n := i) (a := rowAt ns i) 0 (ev_var rfl) rfl ?_ rfl (by omega) ?_
    · apply EvD.s
      apply ev_t3
      · exact ev_cb (ea_cons (ev_var rfl) ea_nil) c_tup
      · exact ev_var rfl
      · exact ev_call (ea_cons (ev_op (ev_var rfl) ev_int (s_div ⟨by omega, by omega⟩)) (ea_cons (ev_var rfl) ea_nil)) ⟨_, _, rfl, rfl⟩
    · refine bd_turnE trivial rfl ?_
      walk_at "fg"
  · intro _
    refine bd_frz 0 4 rfl rfl hm ?_
    apply bd_retR hm
    exact EvD.s (ev_var rfl)
end
end D

set_option Elab.async false
set_option linter.all false
set_option maxRecDepth 100000
set_option maxHeartbeats 4000000
namespace D
open PySem PySem.Spec PyProof.Rows L2
open ToPy (py)
local macro_rules | `(tactic| walk_at "side") => `(tactic| first | assumption | omega | (refine Int.emod_nonneg _ ?_; omega) | (refine Int.emod_lt_of_pos _ ?_; omega) | (simp at *; omega) | (simp; done) | decide | skip)
local macro_rules | `(tactic| walk_at "d") => `(tactic| first
  | with_reducible exact ev_int | with_reducible exact ev_str | with_reducible exact ev_bl | with_reducible exact ev_non
  | exact ev_var rfl
  | with_reducible exact ev_ty
  | with_reducible exact ev_cls
  | ((with_reducible apply ev_op) <;> walk_at "d")
  | ((with_reducible apply ev_un) <;> walk_at "d")
  | ((with_reducible apply ev_call) <;> walk_at "d")
  | ((with_reducible apply ev_callX) <;> walk_at "d")
  | ((with_reducible apply ev_cb) <;> walk_at "d")
  | with_reducible exact ea_nil
  | ((with_reducible apply ea_cons) <;> walk_at "d")
  | with_reducible exact s_add
  | with_reducible exact s_sub
  | with_reducible exact s_lt
  | with_reducible exact s_le
  | with_reducible exact s_gt
  | with_reducible exact s_ge
  | with_reducible exact s_eqI
  | with_reducible exact s_neI
  | with_reducible exact s_eqS
  | with_reducible exact s_neS
  | with_reducible exact s_neB
  | exact s_eqSame (sh_ints2 _) | exact s_neSame (sh_ints2 _) | exact s_eqSame (sh_ints _) | exact s_neSame (sh_ints _)
  | ((with_reducible apply s_mod) <;> walk_at "side")
  | walk_at "div" | walk_at "mul"
  | ((with_reducible apply s_catL) <;> walk_at "side")
  | ((with_reducible apply s_repL) <;> walk_at "side")
  | with_reducible exact s_fst
  | with_reducible exact s_snd
  | with_reducible exact s_t0
  | with_reducible exact s_t1
  | with_reducible exact s_t2
  | ((with_reducible apply s_last) <;> walk_at "side")
  | ((with_reducible apply s_ixS) <;> walk_at "side")
  | ((with_reducible apply s_ix) <;> walk_at "side")
  | ((with_reducible apply s_ixT) <;> walk_at "side")
  | with_reducible exact s_negI
  | with_reducible exact c_len
  | with_reducible exact c_lI
  | with_reducible exact c_tI
  | with_reducible exact c_pI
  | with_reducible exact c_t3I
  | with_reducible exact c_sI
  | with_reducible exact c_iI
  | with_reducible exact c_iB
  | with_reducible exact c_lenP
  | with_reducible exact c_len3
  | with_reducible exact c_isInt
  | with_reducible exact c_isBool
  | with_reducible exact c_isStr
  | with_reducible exact c_isList
  | with_reducible exact c_isTup
  | with_reducible exact c_lenTup
  | with_reducible exact c_lenScr
  | with_reducible exact c_listD
  | with_reducible exact c_listTD
  | with_reducible exact c_tup
  | with_reducible exact c_abs
  | with_reducible exact c_min2
  | with_reducible exact c_max2
  | with_reducible exact c_intB
  | with_reducible exact c_sum
  | ((with_reducible apply c_min) <;> walk_at "side")
  | ((with_reducible apply c_max) <;> walk_at "side")
  | ((with_reducible apply et_val) <;> walk_at "d")
  | ((with_reducible apply et_test) <;> walk_at "d")
  | ((with_reducible apply et_not) <;> walk_at "d")
  | ((with_reducible apply et_and) <;> (try with_reducible intro _) <;> walk_at "d")
  | ((with_reducible apply et_or) <;> (try with_reducible intro _) <;> walk_at "d")
  | ((with_reducible apply ev_and) <;> (try with_reducible intro _) <;> walk_at "d")
  | ((with_reducible apply ev_or) <;> (try with_reducible intro _) <;> walk_at "d")
  | ((with_reducible apply ev_chain) <;> (try with_reducible intro _) <;> walk_at "d")
  | ((with_reducible apply ev_not) <;> walk_at "d")
  | ((with_reducible apply ev_pair) <;> walk_at "d")
  | ((with_reducible apply ev_t3) <;> walk_at "d")
  | ((with_reducible apply ev_lst1) <;> walk_at "d")
  | ((with_reducible apply ev_lst2) <;> walk_at "d")
  | ((with_reducible apply ev_lst3) <;> walk_at "d")
  | ((with_reducible apply ev_lst4) <;> walk_at "d")
  | ((with_reducible apply ev_cut) <;> walk_at "d")
  | ((with_reducible apply ep_some) <;> walk_at "d")
  | ((with_reducible apply EvD.s) <;> walk_at "d")
  | ((with_reducible apply EvT.s) <;> walk_at "d")
  | ((with_reducible apply EvN.s) <;> walk_at "d")
  | ((with_reducible apply en_lst1) <;> walk_at "d")
  | ((with_reducible apply en_lst2) <;> walk_at "d")
  | ((with_reducible apply en_lst3) <;> walk_at "d")
  | ((with_reducible apply en_lst4) <;> walk_at "d")
  | ((with_reducible apply en_cut) <;> walk_at "d")
  | with_reducible exact ev_lst0
  | with_reducible exact ep_none
  | with_reducible exact en_lst0
  | ((with_reducible apply wi_L) <;> walk_at "d")
  | ((with_reducible apply wi_T) <;> walk_at "d")
  | ((with_reducible apply wi_zip) <;> walk_at "d")
  | ((with_reducible apply WiD.s) <;> walk_at "d")
  | ((with_reducible apply wi_range) <;> walk_at "side")
  | exact spec_cell (by omega) (by omega)
  | skip)
local macro_rules | `(tactic| walk_at "div") => `(tactic| first
  | exact s_div ⟨by omega, by omega⟩
  | exact s_divW (wd_div (by first | assumption | omega) (by assumption))
  | with_reducible apply s_div)
local macro_rules | `(tactic| walk_at "mul") => `(tactic| first
  | exact s_mul (Or.inl ⟨by omega, by omega⟩) | exact s_mul (Or.inr ⟨by omega, by omega⟩)
  | exact s_mulW (wd_mul (by assumption) (by assumption))
  | with_reducible apply s_mulW)
local macro_rules | `(tactic| walk_at "fg") => `(tactic| repeat (first | exact Fg.nil | apply Fg.same | apply Fg.drop | (refine Fg.eq ?_ ?_; rotate_left)))
local macro_rules | `(tactic| walk_at "end") => `(tactic| exact bd_turnE trivial rfl (by walk_at "fg"))
local macro_rules | `(tactic| walk_at "range") => `(tactic| (apply WiD.s; apply wi_range; (walk_at "d"); omega; omega))
local macro_rules | `(tactic| walk_at "app") => `(tactic| (refine' bd_appR 0 ?_ rfl ?_ ?_ ?_ ?_; (walk_at "d"); (walk_at "d"); rotate_right))
local macro_rules | `(tactic| walk_at "lend") => `(tactic| repeat (first | exact LendC.nil | apply LendC.no | (apply LendC.one; (exact lend_list 0 rfl)) | (apply LendC.one; (exact lend_same))))
/-! ### readings of the program's tables -/
def turnLine (table : List (List Int)) (scale row column at' : Int) : List Int :=
  if at' = row then (ix table row).set column.toNat scale
  else ((List.range (ix table at').length).map fun i => (at_ (ix table at') i * ix (ix table row) column - ix (ix table at') column * at_ (ix table row) i) / scale).set column.toNat (0 - ix (ix table at') column)
/-- a table of so many rows and columns, its numbers not great -/
structure Rect (table : List (List Int)) (h w : Nat) : Prop where
  len : table.length = h
  wid : ∀ l ∈ table, l.length = w
  wd : ∀ l ∈ table, ∀ x ∈ l, Wd x
def S_turned_line (K : PySem.W.Frag) (c : Cs) : Spec := fun Rs R => ∃ (table : List (List Int)) (scale row column at' : Int) (h w : Nat), Rs = [rep table, rep scale, rep row, rep column, rep at'] ∧ Rect table h w ∧ h ≤ 100 ∧ w ≤ 100 ∧ 0 ≤ row ∧ row < h ∧ 0 ≤ column ∧ column < w ∧ 0 ≤ at' ∧ at' < h ∧ 0 < scale ∧ Wd scale ∧
  R = rep (turnLine table scale row column at')
def n_turned_line : List Str := ["table", "scale", "row", "column", "at", "pivot", "head", "line", "one", "other"]
def t_turned_line (K : PySem.W.Frag) (c : Cs) : TS := (tSeq (tAsg (tOp (rIx K) (tOp (rIx K) (tVar 0) (tVar 2)) (tVar 3)) (gName 5))
  (tSeq (tIfS (tTest (tOp (rEqX K) (tVar 4) (tVar 2))) (tSeq (tAsg (tCB (rListX K) (tCons (tOp (rIx K) (tVar 0) (tVar 2)) tNil)) (gName 7))
  (tSeq (tAsg (tVar 1) (gSub (tVar 7) (tVar 3) rSetL))
  (tSeq (tRet (tVar 7))
  tNext))) tNext)
  (tSeq (tAsg (tOp (rIx K) (tOp (rIx K) (tVar 0) (tVar 4)) (tVar 3)) (gName 6))
  (tSeq (tAsg (tLc (iZip K (tCons (tOp (rIx K) (tVar 0) (tVar 4)) (tCons (tOp (rIx K) (tVar 0) (tVar 2)) tNil))) (gTup K 2 (gCons (gName 8) (gCons (gName 9) gNil))) tYes (tOp rDivI (tOp rSubI (tOp (rMulX K) (tVar 8) (tVar 5)) (tOp (rMulX K) (tVar 6) (tVar 9))) (tVar 1)) [8, 9]) (gName 7))
  (tSeq (tAsg (tOp rSubI (tC (.int 0)) (tVar 6)) (gSub (tVar 7) (tVar 3) rSetL))
  (tSeq (tRet (tVar 7))
  tNext))))))
theorem rd_turned_line {K : PySem.W.Frag} {c : Cs} : ∀ Rs R, S_turned_line K c Rs R → ∀ B : Base, B.m = [] → BDe B (startC n_turned_line Rs) [] (t_turned_line K c) (fnP B R) := by
  rintro _ _ ⟨table, scale, row, column, at', h, w, rfl, hT, hh, hw, r0, r1, c0, c1, a0, a1, s0, s1, rfl⟩ B hm
  have lT := hT.len
  have m1 : ix table row ∈ table := ix_mem r0 (by omega)
  have m2 : ix table at' ∈ table := ix_mem a0 (by omega)
  have l1 := hT.wid _ m1
  have l2 := hT.wid _ m2
  have p1 : Wd (ix (ix table row) column) := hT.wd _ m1 _ (ix_mem c0 (by omega))
  have p2 : Wd (ix (ix table at') column) := hT.wd _ m2 _ (ix_mem c0 (by omega))
  apply bd_set
  · walk_at "d"
  apply bd_ifr
  · walk_at "d"
  · intro e
    simp at e
    apply bd_own
    · apply EvN.s
      apply ev_cbN
      · walk_at "d"
      · exact c_list
    intro p
    apply bd_setI (α := Int) 0
    · walk_at "d"
    · walk_at "d"
    · walk_at "d"
    · rfl
    · assumption
    · omega
    refine bd_frz 0 7 rfl rfl hm ?_
    apply bd_retE hm
    · walk_at "d"
    · simp [turnLine, e]
  · intro e
    simp at e
    apply bd_set
    · walk_at "d"
    apply bd_own
    · apply EvN.s
      apply en_lc (α := Int)
      · walk_at "d"
        omega
      · intro i hi
        exact tl_pair (by simp) (by simp)
      · intro i hi
        have q1 : Wd (at_ (ix table at') i) := hT.wd _ m2 _ (at_mem hi)
        have q2 : Wd (at_ (ix table row) i) := hT.wd _ m1 _ (at_mem (by omega))
        walk_at "d"
      · omega
    intro p
    apply bd_setI (α := Int) 0
    · walk_at "d"
    · walk_at "d"
    · walk_at "d"
    · rfl
    · assumption
    · simp; omega
    refine bd_frz 0 7 rfl rfl hm ?_
    apply bd_retE hm
    · walk_at "d"
    · simp [turnLine, e]

/-! ### turned -/
def turnF (table : List (List Int)) (scale row column : Int) : List (List Int) × Int :=
  ((List.range table.length).map fun (i : Nat) => if ix (ix table row) column < 0 then (turnLine table scale row column (i : Int)).map fun x => 0 - x else turnLine table scale row column (i : Int),
   if ix (ix table row) column < 0 then -(ix (ix table row) column) else ix (ix table row) column)
def P_turned (table : List (List Int)) (scale row column : Int) : Prop := ∃ h w : Nat, Rect table h w ∧ h ≤ 100 ∧ w ≤ 100 ∧ 0 ≤ row ∧ row < h ∧ 0 ≤ column ∧ column < w ∧ 0 < scale ∧ Wd scale
def S_turned (K : PySem.W.Frag) (c : Cs) : Spec := fun Rs R => ∃ (table : List (List Int)) (scale row column : Int), Rs = [rep table, rep scale, rep row, rep column] ∧ P_turned table scale row column ∧ ix (ix table row) column ≠ 0 ∧ R = rep (turnF table scale row column)
def SE_turned (K : PySem.W.Frag) (c : Cs) : List RP → Addr → Prop := fun Rs C => ∃ (table : List (List Int)) (scale row column : Int), Rs = [rep table, rep scale, rep row, rep column] ∧ P_turned table scale row column ∧ ix (ix table row) column = 0 ∧ C = c.NoTurn
def n_turned : List Str := ["table", "scale", "row", "column", "pivot", "found", "at", "line", "number"]
def t_turned (K : PySem.W.Frag) (c : Cs) (E : XK) : TS := (tSeq (tAsg (tOp (rIx K) (tOp (rIx K) (tVar 0) (tVar 2)) (tVar 3)) (gName 4))
  (tSeq (tIfS (tTest (tOp (rEqX K) (tVar 4) (tC (.int 0)))) (tSeq (tRaiseC E c.NoTurn)
  tNext) tNext)
  (tSeq (tAsg (tLst tNil) (gName 5))
  (tSeq (tFor (iRng1 (tCons (tCB (rLenX K) (tCons (tVar 0) tNil)) tNil)) (gName 6) (tSeq (tAsg (tCall (spD (S_turned_line K c)) [] E0 (tCons (tVar 0) (tCons (tVar 1) (tCons (tVar 2) (tCons (tVar 3) (tCons (tVar 6) tNil)))))) (gName 7))
  (tSeq (tIfS (tTest (tOp rLtI (tVar 4) (tC (.int 0)))) (tSeq (tAsg (tLc (iList K (tVar 7)) (gName 8) tYes (tOp rSubI (tC (.int 0)) (tVar 8)) [8]) (gName 7))
  tNext) tNext)
  (tSeq (tDrop (tBM K "list" rAppend (tVar 5) (tCons (tVar 7) tNil)))
  tNext))))
  (tSeq (tRet (tTup (tCons (tVar 5) (tCons (tCB rAbsX (tCons (tVar 4) tNil)) tNil))))
  tNext)))))
theorem turnLine_len {table : List (List Int)} {scale row column at' : Int} {h w : Nat} (hT : Rect table h w) (r0 : 0 ≤ row) (r1 : row < h) (a0 : 0 ≤ at') (a1 : at' < h) : (turnLine table scale row column at').length = w := by
  have lT := hT.len
  have l1 := hT.wid _ (ix_mem r0 (by omega))
  have l2 := hT.wid _ (ix_mem a0 (by omega))
  unfold turnLine
  split <;> simp [l1, l2]
theorem map_range_len {α β : Type} [ToPy α] (xs : List α) (g : α → β) : (List.range xs.length).map (fun i => g (at_ xs i)) = xs.map g := by
  apply List.ext_getElem?
  intro i
  by_cases hi : i < xs.length
  · rw [List.getElem?_map, List.getElem?_map, List.getElem?_range hi]
    simp [at_some hi]
  · rw [List.getElem?_eq_none (by simpa using hi), List.getElem?_eq_none (by simpa using hi)]
theorem rd_turned {K : PySem.W.Frag} {c : Cs} : ∀ Rs R, S_turned K c Rs R → ∀ (B : Base) (E : XK), B.m = [] → BDe B (startC n_turned Rs) [] (t_turned K c E) (fnP B R) := by
  rintro _ _ ⟨table, scale, row, column, rfl, ⟨h, w, hT, hh, hw, r0, r1, c0, c1, s0, s1⟩, hp, rfl⟩ B E hm
  have lT := hT.len
  have m1 : ix table row ∈ table := ix_mem r0 (by omega)
  have l1 := hT.wid _ m1
  unfold turnF
  generalize hpv : ix (ix table row) column = pv at hp
  apply bd_set (R := rep pv)
  · rw [← hpv]
    walk_at "d"
  apply bd_ifr
  · walk_at "d"
  · intro e
    simp at e
    exact absurd e hp
  · intro _
    refine bd_nil (List Int) fun p => ?_
    apply bd_forE (fun i => [some (rep table), some (rep scale), some (rep row), some (rep column), some (rep pv), some (own p), none, none, none])
      (fun i => [(p, oL ((List.range i).map fun (i : Nat) => if pv < 0 then (turnLine table scale row column (i : Int)).map fun x => 0 - x else turnLine table scale row column (i : Int)))]) (fun _ => True)
    · apply WiD.s
      apply wi_range
      · walk_at "d"
      · omega
      · omega
    · walk_at "fg"
    · rfl
    · trivial
    · intro i hi
      exact tg_name
    · intro i hi _
      apply bd_let
      · apply EvD.s
        apply ev_call
        · walk_at "d"
        · exact ⟨table, scale, row, column, (i : Int), h, w, rfl, hT, hh, hw, r0, r1, c0, c1, by omega, by omega, s0, s1, rfl⟩
      intro line hl
      have ll : line.length = w := by rw [hl]; exact turnLine_len hT r0 r1 (by omega) (by omega)
      apply bd_ifset (a := line.map fun x => 0 - x) (c := line)
      · walk_at "d"
      · intro hneg
        apply EvD.s
        refine ev_eq (ev_lc (α := Int) (val := fun i => 0 - at_ line i) (wi_L (ev_var rfl)) (fun i hi => tl_name (by simp)) (fun i hi => ?_) (by omega)) (map_range_len line fun x => 0 - x)
        walk_at "d"
      · rfl
      apply bd_app 0
      · walk_at "d"
      · rfl
      · walk_at "d"
      · simp
        omega
      refine bd_turnE trivial ?_ (by walk_at "fg")
      rw [List.range_succ, List.map_append, hl]
      simp
    · intro _
      refine bd_frz 0 5 rfl rfl hm ?_
      apply bd_retE hm
      · walk_at "d"
      · have e : Int.toNat (table.length : Int) = table.length := by omega
        rw [e]
theorem rd_turnedX {K : PySem.W.Frag} {c : Cs} : ∀ Rs C, SE_turned K c Rs C → ∀ (B : Base) (E : XK), B.m = [] → Raises B E C → BDe B (startC n_turned Rs) [] (t_turned K c E) noP := by
  rintro _ _ ⟨table, scale, row, column, rfl, ⟨h, w, hT, hh, hw, r0, r1, c0, c1, s0, s1⟩, hp, rfl⟩ B E hm hE
  have lT := hT.len
  have m1 : ix table row ∈ table := ix_mem r0 (by omega)
  have l1 := hT.wid _ m1
  apply bd_set
  · walk_at "d"
  apply bd_ifr
  · walk_at "d"
  · intro _
    exact bd_raise hm hE
  · intro e
    simp [hp] at e
end D

set_option Elab.async false
set_option linter.all false
set_option maxRecDepth 100000
set_option maxHeartbeats 4000000
namespace D
open PySem PySem.Spec PyProof.Rows L2
open ToPy (py)
local macro_rules | `(tactic| walk_at "side") => `(tactic| first | assumption | omega | (refine Int.emod_nonneg _ ?_; omega) | (refine Int.emod_lt_of_pos _ ?_; omega) | (simp at *; omega) | (simp; done) | decide | skip)
local macro_rules | `(tactic| walk_at "d") => `(tactic| first
  | with_reducible exact ev_int | with_reducible exact ev_str | with_reducible exact ev_bl | with_reducible exact ev_non
  | exact ev_var rfl
  | with_reducible exact ev_ty
  | with_reducible exact ev_cls
  | ((with_reducible apply ev_op) <;> walk_at "d")
  | ((with_reducible apply ev_un) <;> walk_at "d")
  | ((with_reducible apply ev_call) <;> walk_at "d")
  | ((with_reducible apply ev_callX) <;> walk_at "d")
  | ((with_reducible apply ev_cb) <;> walk_at "d")
  | with_reducible exact ea_nil
  | ((with_reducible apply ea_cons) <;> walk_at "d")
  | with_reducible exact s_add
  | with_reducible exact s_sub
  | with_reducible exact s_lt
  | with_reducible exact s_le
  | with_reducible exact s_gt
  | with_reducible exact s_ge
  | with_reducible exact s_eqI
  | with_reducible exact s_neI
  | with_reducible exact s_eqS
  | with_reducible exact s_neS
  | with_reducible exact s_neB
  | exact s_eqSame (sh_ints2 _) | exact s_neSame (sh_ints2 _) | exact s_eqSame (sh_ints _) | exact s_neSame (sh_ints _)
  | ((with_reducible apply s_mod) <;> walk_at "side")
  | walk_at "div" | walk_at "mul"
  | ((with_reducible apply s_catL) <;> walk_at "side")
  | ((with_reducible apply s_repL) <;> walk_at "side")
  | with_reducible exact s_fst
  | with_reducible exact s_snd
  | with_reducible exact s_t0
  | with_reducible exact s_t1
  | with_reducible exact s_t2
  | ((with_reducible apply s_last) <;> walk_at "side")
  | ((with_reducible apply s_ixS) <;> walk_at "side")
  | ((with_reducible apply s_ix) <;> walk_at "side")
  | ((with_reducible apply s_ixT) <;> walk_at "side")
  | with_reducible exact s_negI
  | with_reducible exact c_len
  | with_reducible exact c_lI
  | with_reducible exact c_tI
  | with_reducible exact c_pI
  | with_reducible exact c_t3I
  | with_reducible exact c_sI
  | with_reducible exact c_iI
  | with_reducible exact c_iB
  | with_reducible exact c_lenP
  | with_reducible exact c_len3
  | with_reducible exact c_isInt
  | with_reducible exact c_isBool
  | with_reducible exact c_isStr
  | with_reducible exact c_isList
  | with_reducible exact c_isTup
  | with_reducible exact c_lenTup
  | with_reducible exact c_lenScr
  | with_reducible exact c_listD
  | with_reducible exact c_listTD
  | with_reducible exact c_tup
  | with_reducible exact c_abs
  | with_reducible exact c_min2
  | with_reducible exact c_max2
  | with_reducible exact c_intB
  | with_reducible exact c_sum
  | ((with_reducible apply c_min) <;> walk_at "side")
  | ((with_reducible apply c_max) <;> walk_at "side")
  | ((with_reducible apply et_val) <;> walk_at "d")
  | ((with_reducible apply et_test) <;> walk_at "d")
  | ((with_reducible apply et_not) <;> walk_at "d")
  | ((with_reducible apply et_and) <;> (try with_reducible intro _) <;> walk_at "d")
  | ((with_reducible apply et_or) <;> (try with_reducible intro _) <;> walk_at "d")
  | ((with_reducible apply ev_and) <;> (try with_reducible intro _) <;> walk_at "d")
  | ((with_reducible apply ev_or) <;> (try with_reducible intro _) <;> walk_at "d")
  | ((with_reducible apply ev_chain) <;> (try with_reducible intro _) <;> walk_at "d")
  | ((with_reducible apply ev_not) <;> walk_at "d")
  | ((with_reducible apply ev_pair) <;> walk_at "d")
  | ((with_reducible apply ev_t3) <;> walk_at "d")
  | ((with_reducible apply ev_lst1) <;> walk_at "d")
  | ((with_reducible apply ev_lst2) <;> walk_at "d")
  | ((with_reducible apply ev_lst3) <;> walk_at "d")
  | ((with_reducible apply ev_lst4) <;> walk_at "d")
  | ((with_reducible apply ev_cut) <;> walk_at "d")
  | ((with_reducible apply ep_some) <;> walk_at "d")
  | ((with_reducible apply EvD.s) <;> walk_at "d")
  | ((with_reducible apply EvT.s) <;> walk_at "d")
  | ((with_reducible apply EvN.s) <;> walk_at "d")
  | ((with_reducible apply en_lst1) <;> walk_at "d")
  | ((with_reducible apply en_lst2) <;> walk_at "d")
  | ((with_reducible apply en_lst3) <;> walk_at "d")
  | ((with_reducible apply en_lst4) <;> walk_at "d")
  | ((with_reducible apply en_cut) <;> walk_at "d")
  | with_reducible exact ev_lst0
  | with_reducible exact ep_none
  | with_reducible exact en_lst0
  | ((with_reducible apply wi_L) <;> walk_at "d")
  | ((with_reducible apply wi_T) <;> walk_at "d")
  | ((with_reducible apply wi_zip) <;> walk_at "d")
  | ((with_reducible apply WiD.s) <;> walk_at "d")
  | ((with_reducible apply wi_range) <;> walk_at "side")
  | exact spec_cell (by omega) (by omega)
  | skip)
local macro_rules | `(tactic| walk_at "div") => `(tactic| first
  | exact s_div ⟨by omega, by omega⟩
  | exact s_divW (wd_div (by first | assumption | omega) (by assumption))
  | with_reducible apply s_div)
local macro_rules | `(tactic| walk_at "mul") => `(tactic| first
  | exact s_mul (Or.inl ⟨by omega, by omega⟩) | exact s_mul (Or.inr ⟨by omega, by omega⟩)
  | exact s_mulW (wd_mul (by assumption) (by assumption))
  | with_reducible apply s_mulW)
local macro_rules | `(tactic| walk_at "fg") => `(tactic| repeat (first | exact Fg.nil | apply Fg.same | apply Fg.drop | (refine Fg.eq ?_ ?_; rotate_left)))
local macro_rules | `(tactic| walk_at "end") => `(tactic| exact bd_turnE trivial rfl (by walk_at "fg"))
local macro_rules | `(tactic| walk_at "range") => `(tactic| (apply WiD.s; apply wi_range; (walk_at "d"); omega; omega))
local macro_rules | `(tactic| walk_at "app") => `(tactic| (refine' bd_appR 0 ?_ rfl ?_ ?_ ?_ ?_; (walk_at "d"); (walk_at "d"); rotate_right))
local macro_rules | `(tactic| walk_at "lend") => `(tactic| repeat (first | exact LendC.nil | apply LendC.no | (apply LendC.one; (exact lend_list 0 rfl)) | (apply LendC.one; (exact lend_same))))
/-! ### boxes and facts -/
abbrev Fact := Tup Int × Int
abbrev Box := List (Int × Int)
def pairB (d : PyData) (t : Int) : Bool := match d with
  | .tuple [a, b] => match a with
    | .int x => (decide (0 ≤ x) && decide (x ≤ t)) && betw b x t
    | _ => false
  | _ => false
def boxB (d : PyData) (tops : List Int) : Bool := match d with
  | .list ds => decide (ds.length = tops.length) && (List.range ds.length).all fun i => pairB (at_ ds i) (at_ tops i)
  | _ => false
structure BoxOk (p : Prob) (box : Box) : Prop where
  len : box.length = p.tops.length
  lo : ∀ i, i < box.length → 0 ≤ (at_ box i).1
  mid : ∀ i, i < box.length → (at_ box i).1 ≤ (at_ box i).2
  hi : ∀ i, i < box.length → (at_ box i).2 ≤ at_ p.tops i
def aloneT (n : Nat) (u : Nat) (x : Int) : Tup Int := ⟨(List.replicate n 0).set u x⟩
def rowFact (r : Row) : Fact := if r.b = "most" then (r.a, r.c) else (⟨(List.range r.a.l.length).map fun i => 0 - at_ r.a.l i⟩, 0 - r.c)
def factAt (p : Prob) (box : Box) (j : Nat) : Fact :=
  if j < p.rows.length then rowFact (at_ p.rows j) else if (j - p.rows.length) % 2 = 0 then (aloneT box.length ((j - p.rows.length) / 2) 1, (at_ box ((j - p.rows.length) / 2)).2) else (aloneT box.length ((j - p.rows.length) / 2) (-1), 0 - (at_ box ((j - p.rows.length) / 2)).1)
def factsOf (p : Prob) (box : Box) : List Fact := (List.range (p.rows.length + 2 * box.length)).map (factAt p box)
def natB (d : PyData) : Bool := match d with
  | .int x => decide (0 ≤ x)
  | _ => false
def weightsB (d : PyData) (n : Int) : Bool := match d with
  | .list ds => decide ((ds.length : Int) = n) && ds.all natB
  | _ => false
def sumN (fs : List Fact) (ws : List Int) (n : Nat) (u : Nat) : Int := ((List.range n).map fun k => at_ ws k * at_ (at_ fs k).1.l u).sum
def sumB (fs : List Fact) (ws : List Int) (n : Nat) : Int := ((List.range n).map fun k => at_ ws k * (at_ fs k).2).sum
def summedOf (fs : List Fact) (ws : List Int) (n : Nat) : Tup Int × Int := (⟨(List.range n).map (sumN fs ws fs.length)⟩, sumB fs ws fs.length)
def S_whole_box (K : PySem.W.Frag) (c : Cs) : Spec := fun Rs R => ∃ p : Prob, Rs = [insP c p] ∧ p.Ok ∧ R = rep ((List.range p.tops.length).map fun i => ((0 : Int), at_ p.tops i))
def S_need_box (K : PySem.W.Frag) (c : Cs) : Spec := fun Rs R => ∃ (p : Prob) (d : PyData), Rs = [insP c p, rpD d] ∧ boxB d p.tops = true ∧ R = rep ()
def SE_need_box (K : PySem.W.Frag) (c : Cs) : List RP → Addr → Prop := fun Rs C => ∃ (p : Prob) (d : PyData), Rs = [insP c p, rpD d] ∧ boxB d p.tops = false ∧ C = c.BadBox
def S_alone (K : PySem.W.Frag) (c : Cs) : Spec := fun Rs R => ∃ (n u : Nat) (x : Int), Rs = [rep (n : Int), rep (u : Int), rep x] ∧ u < n ∧ n ≤ 100 ∧ R = rep (aloneT n u x)
def S_facts (K : PySem.W.Frag) (c : Cs) : Spec := fun Rs R => ∃ (p : Prob) (box : Box), Rs = [insP c p, rep box] ∧ p.Ok ∧ BoxOk p box ∧ R = rep (factsOf p box)
def SE_facts (K : PySem.W.Frag) (c : Cs) : List RP → Addr → Prop := SE_need_box K c
def S_need_weights (K : PySem.W.Frag) (c : Cs) : Spec := fun Rs R => ∃ (d : PyData) (n : Int), Rs = [rpD d, rep n] ∧ weightsB d n = true ∧ R = rep ()
def SE_need_weights (K : PySem.W.Frag) (c : Cs) : List RP → Addr → Prop := fun Rs C => ∃ (d : PyData) (n : Int), Rs = [rpD d, rep n] ∧ weightsB d n = false ∧ C = c.BadWeights
def S_summed (K : PySem.W.Frag) (c : Cs) : Spec := fun Rs R => ∃ (p : Prob) (box : Box) (ws : List Int), Rs = [insP c p, rep box, rep ws] ∧ p.Ok ∧ BoxOk p box ∧ ws.length = p.rows.length + 2 * box.length ∧ (∀ w ∈ ws, 0 ≤ w) ∧ R = rep (summedOf (factsOf p box) ws box.length)
def SE_summed (K : PySem.W.Frag) (c : Cs) : List RP → Addr → Prop := fun Rs C => (∃ (p : Prob) (d e : PyData), Rs = [insP c p, rpD d, rpD e] ∧ boxB d p.tops = false ∧ C = c.BadBox) ∨
  (∃ (p : Prob) (box : Box) (d : PyData), Rs = [insP c p, rep box, rpD d] ∧ p.Ok ∧ BoxOk p box ∧ weightsB d (p.rows.length + 2 * box.length : Nat) = false ∧ C = c.BadWeights)
def n_whole_box : List Str := ["problem", "top"]
def t_whole_box (K : PySem.W.Frag) (c : Cs) : TS := (tSeq (tRet (tLc (iList K (tFld K (tVar 0) "tops")) (gName 1) tYes (tTup (tCons (tC (.int 0)) (tCons (tVar 1) tNil))) [1]))
  tNext)
def n_need_box : List Str := ["problem", "box", "pair", "top"]
def t_need_box (K : PySem.W.Frag) (c : Cs) (E : XK) : TS := (tSeq (tIfS (tOr (tNot (tB (tCB (rIsi K) (tCons (tVar 1) (tCons (tC (.ty "list")) tNil))))) (tTest (tOp (rNeX K) (tCB (rLenX K) (tCons (tVar 1) tNil)) (tCB (rLenX K) (tCons (tFld K (tVar 0) "tops") tNil))))) (tSeq (tRaiseC E c.BadBox)
  tNext) tNext)
  (tSeq (tFor (iZip K (tCons (tVar 1) (tCons (tFld K (tVar 0) "tops") tNil))) (gTup K 2 (gCons (gName 2) (gCons (gName 3) gNil))) (tSeq (tIfS (tOr (tNot (tB (tCB (rIsi K) (tCons (tVar 2) (tCons (tC (.ty "tuple")) tNil))))) (tTest (tOp (rNeX K) (tCB (rLenX K) (tCons (tVar 2) tNil)) (tC (.int 2))))) (tSeq (tRaiseC E c.BadBox)
  tNext) tNext)
  (tSeq (tIfS (tOr (tNot (tB (tCall (spD (S_between K c)) [] E0 (tCons (tOp (rIx K) (tVar 2) (tC (.int 0))) (tCons (tC (.int 0)) (tCons (tVar 3) tNil)))))) (tNot (tB (tCall (spD (S_between K c)) [] E0 (tCons (tOp (rIx K) (tVar 2) (tC (.int 1))) (tCons (tOp (rIx K) (tVar 2) (tC (.int 0))) (tCons (tVar 3) tNil))))))) (tSeq (tRaiseC E c.BadBox)
  tNext) tNext)
  tNext)))
  tNext))
def n_alone : List Str := ["many", "unknown", "number", "found"]
def t_alone (K : PySem.W.Frag) (c : Cs) : TS := (tSeq (tAsg (tOp (rMulX K) (tLst (tCons (tC (.int 0)) tNil)) (tVar 0)) (gName 3))
  (tSeq (tAsg (tVar 2) (gSub (tVar 3) (tVar 1) rSetL))
  (tSeq (tRet (tCB (rTupX K) (tCons (tVar 3) tNil)))
  tNext)))
def n_facts : List Str := ["problem", "box", "many", "found", "numbers", "word", "bound", "unknown", "number"]
def t_facts (K : PySem.W.Frag) (c : Cs) (E : XK) : TS := (tSeq (tDrop (tCallE (spX (S_need_box K c) (SE_need_box K c)) E (tCons (tVar 0) (tCons (tVar 1) tNil))))
  (tSeq (tAsg (tCB (rLenX K) (tCons (tVar 1) tNil)) (gName 2))
  (tSeq (tAsg (tLst tNil) (gName 3))
  (tSeq (tFor (iList K (tFld K (tVar 0) "rows")) (gTup K 3 (gCons (gName 4) (gCons (gName 5) (gCons (gName 6) gNil)))) (tSeq (tIfS (tTest (tOp (rEqX K) (tVar 5) (tC (.str "most")))) (tSeq (tDrop (tBM K "list" rAppend (tVar 3) (tCons (tTup (tCons (tVar 4) (tCons (tVar 6) tNil))) tNil)))
  tNext) (tSeq (tDrop (tBM K "list" rAppend (tVar 3) (tCons (tTup (tCons (tCB (rTupX K) (tCons (tLc (iTup K (tVar 4)) (gName 8) tYes (tOp rSubI (tC (.int 0)) (tVar 8)) [8]) tNil)) (tCons (tOp rSubI (tC (.int 0)) (tVar 6)) tNil))) tNil)))
  tNext))
  tNext))
  (tSeq (tFor (iRng1 (tCons (tVar 2) tNil)) (gName 7) (tSeq (tDrop (tBM K "list" rAppend (tVar 3) (tCons (tTup (tCons (tCall (spD (S_alone K c)) [] E0 (tCons (tVar 2) (tCons (tVar 7) (tCons (tC (.int 1)) tNil)))) (tCons (tOp (rIx K) (tOp (rIx K) (tVar 1) (tVar 7)) (tC (.int 1))) tNil))) tNil)))
  (tSeq (tDrop (tBM K "list" rAppend (tVar 3) (tCons (tTup (tCons (tCall (spD (S_alone K c)) [] E0 (tCons (tVar 2) (tCons (tVar 7) (tCons (tUn rNegI (tC (.int 1))) tNil)))) (tCons (tOp rSubI (tC (.int 0)) (tOp (rIx K) (tOp (rIx K) (tVar 1) (tVar 7)) (tC (.int 0)))) tNil))) tNil)))
  tNext)))
  (tSeq (tRet (tVar 3))
  tNext))))))
def n_need_weights : List Str := ["weights", "many", "weight"]
def t_need_weights (K : PySem.W.Frag) (c : Cs) (E : XK) : TS := (tSeq (tIfS (tOr (tNot (tB (tCB (rIsi K) (tCons (tVar 0) (tCons (tC (.ty "list")) tNil))))) (tTest (tOp (rNeX K) (tCB (rLenX K) (tCons (tVar 0) tNil)) (tVar 1)))) (tSeq (tRaiseC E c.BadWeights)
  tNext) tNext)
  (tSeq (tFor (iList K (tVar 0)) (gName 2) (tSeq (tIfS (tOr (tNot (tB (tCB (rIsi K) (tCons (tVar 2) (tCons (tC (.ty "int")) tNil))))) (tOr (tB (tCB (rIsi K) (tCons (tVar 2) (tCons (tC (.ty "bool")) tNil)))) (tTest (tOp rLtI (tVar 2) (tC (.int 0)))))) (tSeq (tRaiseC E c.BadWeights)
  tNext) tNext)
  tNext))
  tNext))
def n_summed : List Str := ["problem", "box", "weights", "rows", "numbers", "whole", "weight", "fact", "unknown"]
def t_summed (K : PySem.W.Frag) (c : Cs) (E : XK) : TS := (tSeq (tAsg (tCallE (spX (S_facts K c) (SE_facts K c)) E (tCons (tVar 0) (tCons (tVar 1) tNil))) (gName 3))
  (tSeq (tDrop (tCallE (spX (S_need_weights K c) (SE_need_weights K c)) E (tCons (tVar 2) (tCons (tCB (rLenX K) (tCons (tVar 3) tNil)) tNil))))
  (tSeq (tAsg (tOp (rMulX K) (tLst (tCons (tC (.int 0)) tNil)) (tCB (rLenX K) (tCons (tVar 1) tNil))) (gName 4))
  (tSeq (tAsg (tC (.int 0)) (gName 5))
  (tSeq (tFor (iZip K (tCons (tVar 2) (tCons (tVar 3) tNil))) (gTup K 2 (gCons (gName 6) (gCons (gName 7) gNil))) (tSeq (tFor (iRng1 (tCons (tCB (rLenX K) (tCons (tVar 1) tNil)) tNil)) (gName 8) (tSeq (tAsg (tOp (rAddX K) (tOp (rIx K) (tVar 4) (tVar 8)) (tOp (rMulX K) (tVar 6) (tOp (rIx K) (tOp (rIx K) (tVar 7) (tC (.int 0))) (tVar 8)))) (gSub (tVar 4) (tVar 8) rSetL))
  tNext))
  (tSeq (tAsg (tOp (rAddX K) (tVar 5) (tOp (rMulX K) (tVar 6) (tOp (rIx K) (tVar 7) (tC (.int 1))))) (gName 5))
  tNext)))
  (tSeq (tRet (tTup (tCons (tCB (rTupX K) (tCons (tVar 4) tNil)) (tCons (tVar 5) tNil))))
  tNext))))))
theorem BoxOk.is {p : Prob} {box : Box} (h : BoxOk p box) : boxB (py box) p.tops = true := by
  show (decide ((box.map py).length = p.tops.length) && (List.range (box.map py).length).all fun i => pairB (at_ (box.map py) i) (at_ p.tops i)) = true
  rw [List.length_map, decide_eq_true h.len, Bool.true_and, List.all_eq_true]
  intro i hi
  have hi := List.mem_range.mp hi
  have e : at_ (box.map py) i = .tuple [.int (at_ box i).1, .int (at_ box i).2] := by
    unfold at_
    rw [List.getD_eq_getElem?_getD, List.getD_eq_getElem?_getD, List.getElem?_map, List.getElem?_eq_getElem hi]
    rfl
  rw [e]
  simp only [pairB, betw, Bool.and_eq_true, decide_eq_true_eq]
  have := h.lo i hi
  have := h.mid i hi
  have := h.hi i hi
  omega
theorem factsOf_len (p : Prob) (box : Box) : (factsOf p box).length = p.rows.length + 2 * box.length := by simp [factsOf]
theorem at_map_range {α : Type} [ToPy α] (g : Nat → α) {n i : Nat} (h : i < n) : at_ ((List.range n).map g) i = g i := by
  unfold at_
  rw [List.getD_eq_getElem?_getD, List.getElem?_map, List.getElem?_range h]
  rfl
theorem at_facts (p : Prob) (box : Box) {j : Nat} (h : j < p.rows.length + 2 * box.length) : at_ (factsOf p box) j = factAt p box j := at_map_range _ h
theorem set_replicate_mem {n u : Nat} {x y : Int} (h : y ∈ (List.replicate n (0 : Int)).set u x) : y = 0 ∨ y = x := by
  rcases List.mem_or_eq_of_mem_set h with z | z
  · exact .inl (List.eq_of_mem_replicate z)
  · exact .inr z
theorem fact_num {p : Prob} {box : Box} (k : p.Ok) (hb : BoxOk p box) {j : Nat} (hj : j < p.rows.length + 2 * box.length) : (factAt p box j).1.l.length = box.length ∧ ∀ x ∈ (factAt p box j).1.l, -50 ≤ x ∧ x ≤ 50 := by
  unfold factAt
  split
  · rename_i h
    have hr : at_ p.rows j ∈ p.rows := at_mem h
    unfold rowFact
    split
    · exact ⟨by rw [k.rl _ hr, hb.len], k.rn _ hr⟩
    · refine ⟨by simp [k.rl _ hr, hb.len], fun x hx => ?_⟩
      obtain ⟨i, hi, rfl⟩ := List.mem_map.mp hx
      have := k.rn _ hr _ (at_mem (List.mem_range.mp hi))
      omega
  · split
    · refine ⟨by simp [aloneT], fun x hx => ?_⟩
      rcases set_replicate_mem hx with rfl | rfl <;> omega
    · refine ⟨by simp [aloneT], fun x hx => ?_⟩
      rcases set_replicate_mem hx with rfl | rfl <;> omega
theorem box_hi {p : Prob} {box : Box} (k : p.Ok) (hb : BoxOk p box) {i : Nat} (hi : i < box.length) : 0 ≤ (at_ box i).1 ∧ (at_ box i).1 ≤ (at_ box i).2 ∧ (at_ box i).2 ≤ 20 := by
  have h1 := hb.lo i hi
  have h2 := hb.mid i hi
  have h3 := hb.hi i hi
  have h4 := (k.tops _ (at_mem (by rw [← hb.len]; exact hi) : at_ p.tops i ∈ p.tops)).2
  omega
theorem fact_bnd {p : Prob} {box : Box} (k : p.Ok) (hb : BoxOk p box) {j : Nat} (hj : j < p.rows.length + 2 * box.length) : -2000 ≤ (factAt p box j).2 ∧ (factAt p box j).2 ≤ 2000 := by
  unfold factAt
  split
  · rename_i h
    have hr : at_ p.rows j ∈ p.rows := at_mem h
    have := k.rb _ hr
    unfold rowFact
    split
    · exact this
    · show -2000 ≤ 0 - _ ∧ 0 - _ ≤ 2000
      omega
  · have hi : (j - p.rows.length) / 2 < box.length := by omega
    have := box_hi k hb hi
    split
    · show -2000 ≤ (at_ box _).2 ∧ (at_ box _).2 ≤ 2000
      omega
    · show -2000 ≤ 0 - (at_ box _).1 ∧ 0 - (at_ box _).1 ≤ 2000
      omega
section
variable {K : PySem.W.Frag} {c : Cs}
theorem rd_whole_box (F : PF K c) : ∀ Rs R, S_whole_box K c Rs R → ∀ B : Base, B.m = [] → BDe B (startC n_whole_box Rs) [] (t_whole_box K c) (fnP B R) := by
  rintro _ _ ⟨p, rfl, k, rfl⟩ B hm
  have := k.n3
  apply bd_retR hm
  apply EvD.s
  apply ev_lc (α := Int × Int) (n := p.tops.length) (item := fun i => rep (at_ p.tops i))
  · exact wi_L (ev_tops F (ev_var rfl))
  · intro i hi
    exact tl_name (by decide)
  · intro i hi
    exact ev_pair ev_int (ev_var rfl)
  · omega
theorem two_or (d : PyData) : (∃ a b : PyData, d = .tuple [a, b]) ∨ (∃ ds, d = .tuple ds ∧ ds.length ≠ 2) ∨ isi d "tuple" = false := by
  cases d with
  | tuple ds =>
    match ds with
    | [a, b] => exact .inl ⟨a, b, rfl⟩
    | [] => exact .inr (.inl ⟨_, rfl, by simp⟩)
    | [_] => exact .inr (.inl ⟨_, rfl, by simp⟩)
    | _ :: _ :: _ :: r => exact .inr (.inl ⟨_, rfl, by simp⟩)
  | _ => exact .inr (.inr rfl)
theorem pairB_len {ds : List PyData} {t : Int} (h : ds.length ≠ 2) : pairB (.tuple ds) t = false := by
  match ds, h with
  | [], _ => rfl
  | [_], _ => rfl
  | [_, _], h => exact absurd rfl h
  | _ :: _ :: _ :: _, _ => rfl
theorem nb_core (F : PF K c) {p : Prob} {d : PyData} {B : Base} {E : XK} {P : Post} (hm : B.m = []) (hE : boxB d p.tops = false → Raises B E c.BadBox) (hP : boxB d p.tops = true → ∀ σ f h, Ext B.f B.h f h → P.nx σ f h) :
    BDe B (startC n_need_box [insP c p, rpD d]) [] (t_need_box K c E) P := by
  have v1 : EvD (startC n_need_box [insP c p, rpD d]) (tVar 1) (rpD d) := ev_var rfl
  have isL := ev_cb (ea_cons v1 (ea_cons ev_ty ea_nil)) (c_isList (K := K))
  by_cases h1 : ∃ ds, d = .list ds ∧ ds.length = p.tops.length
  rotate_left
  · have hf : boxB d p.tops = false := by
      cases d with
      | list ds =>
        have : ¬ ds.length = p.tops.length := fun z => h1 ⟨ds, rfl, z⟩
        simp only [boxB, decide_eq_false this, Bool.false_and]
      | _ => rfl
    apply bd_ifr (b := true)
    · apply EvT.s
      rcases lst_or d with ⟨ds, rfl⟩ | hn
      · refine et_orF (et_eq (et_not (et_val isL)) rfl) ?_
        refine et_eq (et_test (ev_op (ev_cb (ea_cons v1 ea_nil) c_lenL) (ev_cb (ea_cons (ev_tops F (ev_var rfl)) ea_nil) c_len) s_neI)) ?_
        have : ¬ ds.length = p.tops.length := fun z => h1 ⟨ds, rfl, z⟩
        simp
        omega
      · refine et_orT (et_eq (et_not (et_val isL)) ?_)
        rw [hn]
        rfl
    · intro _
      exact bd_raise hm (hE hf)
    · intro h
      cases h
  obtain ⟨ds, rfl, hl⟩ := h1
  apply bd_ifr (b := false)
  · apply EvT.s
    refine et_orF (et_eq (et_not (et_val isL)) rfl) ?_
    refine et_eq (et_test (ev_op (ev_cb (ea_cons v1 ea_nil) c_lenL) (ev_cb (ea_cons (ev_tops F (ev_var rfl)) ea_nil) c_len) s_neI)) ?_
    simp
    omega
  · intro h
    cases h
  intro _
  have bad : ∀ i, i < ds.length → pairB (at_ ds i) (at_ p.tops i) = false → Raises B E c.BadBox := fun i hi hb => by
    refine hE ?_
    have : ((List.range ds.length).all fun i => pairB (at_ ds i) (at_ p.tops i)) = false := by
      rw [List.all_eq_false]
      exact ⟨i, List.mem_range.mpr hi, by rw [hb]; exact Bool.false_ne_true⟩
    simp only [boxB, this, Bool.and_false]
  have em : rep ds = rpD (.list ds) := by
    show rpD (.list (ds.map id)) = _
    rw [List.map_id]
  apply bd_forE (n := ds.length) (item := fun i => rep (at_ ds i, at_ p.tops i)) (fun _ => startC n_need_box [insP c p, rpD (.list ds)]) (fun _ => []) (fun i => ∀ j, j < i → pairB (at_ ds j) (at_ p.tops j) = true)
  · exact WiD.s (wi_zip (xs := ds) (ys := p.tops) (ev_cast v1 em.symm) (ev_tops F (ev_var rfl)) hl)
  · walk_at "fg"
  · rfl
  · intro j hj
    omega
  · intro i hi
    exact tg_pair
  · intro i hlt Fi
    obtain ⟨e, he⟩ : ∃ e, e = at_ ds i := ⟨_, rfl⟩
    obtain ⟨t, ht⟩ : ∃ t, t = at_ p.tops i := ⟨_, rfl⟩
    have bad := bad i hlt
    have go : pairB (at_ ds i) (at_ p.tops i) = true → ∀ j, j < i + 1 → pairB (at_ ds j) (at_ p.tops j) = true := fun z j hj => by
      by_cases q : j = i
      · rw [q]
        exact z
      · exact Fi j (by omega)
    rw [← he, ← ht] at bad go ⊢
    have vp : EvD (((startC n_need_box [insP c p, rpD (.list ds)]).set 2 (some (rep e))).set 3 (some (rep t))) (tVar 2) (rpD e) := ev_var rfl
    have isT := ev_cb (ea_cons vp (ea_cons ev_ty ea_nil)) (c_isTup (K := K))
    rcases two_or e with ⟨a, b, rfl⟩ | ⟨es, rfl, hne⟩ | hn
    · apply bd_ifr (b := false)
      · apply EvT.s
        refine et_orF (et_eq (et_not (et_val isT)) rfl) ?_
        exact et_eq (et_test (ev_op (ev_cb (ea_cons vp ea_nil) (c_lenT (ds := [a, b]))) ev_int s_neI)) rfl
      · intro h
        cases h
      intro _
      have c1 : EvD (((startC n_need_box [insP c p, rpD (.list ds)]).set 2 (some (rep (PyData.tuple [a, b])))).set 3 (some (rep t))) (tCall (spD (S_between K c)) [] E0 (tCons (tOp (rIx K) (tVar 2) (tC (.int 0))) (tCons (tC (.int 0)) (tCons (tVar 3) tNil)))) (rep (betw a 0 t)) :=
        ev_call (ea_cons (ev_op vp ev_int (s_ixTD (d := a) rfl)) (ea_cons ev_int (ea_cons (ev_var rfl) ea_nil))) ⟨a, 0, t, rfl, rfl⟩
      by_cases ha : betw a 0 t = true
      · have hx : ∃ x, a = .int x := by
          cases a <;> first | (exact ⟨_, rfl⟩) | (simp [betw] at ha)
        obtain ⟨x, rfl⟩ := hx
        have e2 : pairB (.tuple [.int x, b]) t = betw b x t := by
          have : (decide (0 ≤ x) && decide (x ≤ t)) = true := ha
          simp only [pairB, this, Bool.true_and]
        rw [e2] at bad go
        apply bd_ifr (b := !betw b x t)
        · apply EvT.s
          refine et_orF (et_eq (et_not (et_val c1)) (by rw [ha]; rfl)) ?_
          apply et_not
          apply et_val
          exact ev_call (ea_cons (ev_op vp ev_int (s_ixTD (d := b) rfl)) (ea_cons (ev_op vp ev_int (s_ixTD (d := .int x) rfl)) (ea_cons (ev_var rfl) ea_nil))) ⟨b, x, t, rfl, rfl⟩
        · intro h
          simp only [Bool.not_eq_true'] at h
          exact bd_raise hm (bad h)
        · intro h
          simp only [Bool.not_eq_false'] at h
          refine bd_turnE (go h) rfl (by walk_at "fg")
      · have ha := Bool.eq_false_iff.mpr ha
        have e2 : pairB (.tuple [a, b]) t = false := by
          by_cases hx : ∃ x, a = .int x
          · obtain ⟨x, rfl⟩ := hx
            have : (decide (0 ≤ x) && decide (x ≤ t)) = false := ha
            simp only [pairB, this, Bool.false_and]
          · cases a <;> first | rfl | (exact absurd ⟨_, rfl⟩ hx)
        apply bd_ifr (b := true)
        · apply EvT.s
          exact et_orT (et_eq (et_not (et_val c1)) (by rw [ha]; rfl))
        · intro _
          exact bd_raise hm (bad e2)
        · intro h
          cases h
    · apply bd_ifr (b := true)
      · apply EvT.s
        refine et_orF (et_eq (et_not (et_val isT)) rfl) ?_
        refine et_eq (et_test (ev_op (ev_cb (ea_cons vp ea_nil) (c_lenT (ds := es))) ev_int s_neI)) ?_
        simp
        omega
      · intro _
        exact bd_raise hm (bad (pairB_len hne))
      · intro h
        cases h
    · apply bd_ifr (b := true)
      · apply EvT.s
        refine et_orT (et_eq (et_not (et_val isT)) ?_)
        rw [hn]
        rfl
      · intro _
        refine bd_raise hm (bad ?_)
        cases e <;> first | rfl | (simp [isi, tyName, isiN] at hn)
      · intro h
        cases h
  intro Fi
  refine bd_next fun σ f hp s => hP ?_ σ f hp (s.toExt hm)
  simp only [boxB, decide_eq_true hl, Bool.true_and, List.all_eq_true]
  intro i hi
  exact Fi i (List.mem_range.mp hi)
theorem rd_need_box (F : PF K c) : ∀ Rs R, S_need_box K c Rs R → ∀ (B : Base) (E : XK), B.m = [] → BDe B (startC n_need_box Rs) [] (t_need_box K c E) (fnP B R) := by
  rintro _ _ ⟨p, d, rfl, h, rfl⟩ B E hm
  refine nb_core F hm (fun z => ?_) fun _ σ f hp e => ⟨e, rep_of_unit _⟩
  rw [h] at z
  cases z
theorem rd_need_boxX (F : PF K c) : ∀ Rs C, SE_need_box K c Rs C → ∀ (B : Base) (E : XK), B.m = [] → Raises B E C → BDe B (startC n_need_box Rs) [] (t_need_box K c E) noP := by
  rintro _ _ ⟨p, d, rfl, h, rfl⟩ B E hm hE
  refine nb_core F hm (fun _ => hE) fun z => ?_
  rw [h] at z
  cases z
theorem rd_alone : ∀ Rs R, S_alone K c Rs R → ∀ B : Base, B.m = [] → BDe B (startC n_alone Rs) [] (t_alone K c) (fnP B R) := by
  rintro _ _ ⟨n, u, x, rfl, h, hn, rfl⟩ B hm
  apply bd_own (T := oL (List.replicate n (0 : Int)))
  · apply EvN.s
    exact ev_opN (ev_lst1 ev_int) (ev_var rfl) (s_rep (a := (0 : Int)) (k := (n : Int)) (by omega) (by omega))
  intro q
  refine bd_setI (α := Int) (xs := List.replicate n (0 : Int)) (a := x) (z := (u : Int)) 0 (EvD.s (ev_var rfl)) (ev_var rfl) (EvD.s (ev_var rfl)) rfl (by omega) (by simp; omega) ?_
  refine bd_frz 0 3 rfl rfl hm ?_
  apply bd_retR hm
  exact EvD.s (ev_cb (ea_cons (ev_var rfl) ea_nil) (c_tup (xs := (List.replicate n (0 : Int)).set u x)))
theorem rd_facts (F : PF K c) : ∀ Rs R, S_facts K c Rs R → ∀ (B : Base) (E : XK), B.m = [] → BDe B (startC n_facts Rs) [] (t_facts K c E) (fnP B R) := by
  rintro _ _ ⟨p, box, rfl, k, hb, rfl⟩ B E hm
  have n3 := k.n3
  have n1 := k.n1
  have m6 := k.m6
  have bl := hb.len
  apply bd_drop
  · apply EvD.s
    apply ev_callE
    · exact ea_cons (ev_var rfl) (ea_cons (ev_var rfl) ea_nil)
    · exact ⟨p, py box, rfl, hb.is, rfl⟩
  apply bd_set (R := rep (box.length : Int))
  · exact EvD.s (ev_cb (ea_cons (ev_var rfl) ea_nil) c_len)
  apply bd_nil Fact
  intro q
  apply bd_forE (n := p.rows.length) (item := fun i => rep (at_ p.rows i)) (fun _ => [some (insP c p), some (rep box), some (rep (box.length : Int)), some (own q), none, none, none, none, none]) (fun i => [(q, oL ((List.range i).map (factAt p box)))]) (fun _ => True)
  · exact WiD.s (wi_L (ev_rows F (ev_var rfl)))
  · walk_at "fg"
  · rfl
  · trivial
  · intro i hi
    exact tg_t3
  · intro i hi _
    have hr : at_ p.rows i ∈ p.rows := at_mem hi
    have ef : factAt p box i = rowFact (at_ p.rows i) := by unfold factAt; rw [if_pos hi]
    have rl := k.rl _ hr
    apply bd_if (b := decide ((at_ p.rows i).b = "most")) (Γ' := [some (insP c p), some (rep box), some (rep (box.length : Int)), some (own q), none, none, none, none, none]) (O' := [(q, oL ((List.range (i + 1)).map (factAt p box)))])
    · exact EvT.s (et_test (ev_op (ev_var rfl) ev_str s_eqS))
    · intro h
      simp at h
      refine bd_appR (α := Fact) (g := factAt p box) (n := i) (a := ((at_ p.rows i).a, (at_ p.rows i).c)) 0 (ev_var rfl) rfl ?_ ?_ (by omega) ?_
      · exact EvD.s (ev_pair (ev_var rfl) (ev_var rfl))
      · rw [ef]
        unfold rowFact
        rw [if_pos h]
      · exact bd_joinE rfl (by walk_at "fg")
    · intro h
      simp at h
      refine bd_appR (α := Fact) (g := factAt p box) (n := i) (a := (⟨(List.range (at_ p.rows i).a.l.length).map fun j => 0 - at_ (at_ p.rows i).a.l j⟩, 0 - (at_ p.rows i).c)) 0 (ev_var rfl) rfl ?_ ?_ (by omega) ?_
      · apply EvD.s
        apply ev_pair
        · apply ev_cb
          · apply ea_cons
            · apply ev_lc (α := Int) (n := (at_ p.rows i).a.l.length) (item := fun j => rep (at_ (at_ p.rows i).a.l j)) (val := fun j => 0 - at_ (at_ p.rows i).a.l j)
              · exact wi_T (ev_var rfl)
              · intro j hj
                exact tl_name (by decide)
              · intro j hj
                exact ev_op ev_int (ev_var rfl) s_sub
              · omega
            · exact ea_nil
          · exact c_tup
        · exact ev_op ev_int (ev_var rfl) s_sub
      · rw [ef]
        unfold rowFact
        rw [if_neg h]
      · exact bd_joinE rfl (by walk_at "fg")
    exact bd_turnE trivial rfl (by walk_at "fg")
  intro _
  apply bd_forE (n := box.length) (item := fun i => rep (i : Int)) (fun _ => [some (insP c p), some (rep box), some (rep (box.length : Int)), some (own q), none, none, none, none, none]) (fun i => [(q, oL ((List.range (p.rows.length + 2 * i)).map (factAt p box)))]) (fun _ => True)
  · apply WiD.s
    have e : box.length = ((box.length : Int)).toNat := by omega
    have z := wi_range (Γ := [some (insP c p), some (rep box), some (rep (box.length : Int)), some (own q), none, none, none, none, none]) (ta := tVar 2) (z := (box.length : Int)) (ev_var rfl) (by omega) (by omega)
    rw [← e] at z
    exact z
  · walk_at "fg"
  · rfl
  · trivial
  · intro i hi
    exact tg_name
  · intro i hi _
    have e1 : factAt p box (p.rows.length + 2 * i) = (aloneT box.length i 1, (at_ box i).2) := by
      unfold factAt
      rw [if_neg (by omega), if_pos (by omega)]
      have : (p.rows.length + 2 * i - p.rows.length) / 2 = i := by omega
      rw [this]
    have e2 : factAt p box (p.rows.length + 2 * i + 1) = (aloneT box.length i (-1), 0 - (at_ box i).1) := by
      unfold factAt
      rw [if_neg (by omega), if_neg (by omega)]
      have : (p.rows.length + 2 * i + 1 - p.rows.length) / 2 = i := by omega
      rw [this]
    refine bd_appR (α := Fact) (g := factAt p box) (n := p.rows.length + 2 * i) (a := (aloneT box.length i 1, (ix box (i : Int)).2)) 0 (ev_var rfl) rfl ?_ e1.symm (by omega) ?_
    · apply EvD.s
      apply ev_pair
      · exact ev_call (ea_cons (ev_var rfl) (ea_cons (ev_var rfl) (ea_cons ev_int ea_nil))) ⟨box.length, i, 1, rfl, hi, by omega, rfl⟩
      · exact ev_op (ev_op (ev_var rfl) (ev_var rfl) (s_ix (xs := box) (by omega) (by omega))) ev_int s_snd
    refine bd_appR (α := Fact) (g := factAt p box) (n := p.rows.length + 2 * i + 1) (a := (aloneT box.length i (-1), 0 - (ix box (i : Int)).1)) 0 (ev_var rfl) rfl ?_ e2.symm (by omega) ?_
    · apply EvD.s
      apply ev_pair
      · exact ev_call (ea_cons (ev_var rfl) (ea_cons (ev_var rfl) (ea_cons (ev_un ev_int s_negI) ea_nil))) ⟨box.length, i, -1, rfl, hi, by omega, rfl⟩
      · exact ev_op ev_int (ev_op (ev_op (ev_var rfl) (ev_var rfl) (s_ix (xs := box) (by omega) (by omega))) ev_int s_fst) s_sub
    · refine bd_turnE trivial ?_ (by walk_at "fg")
      rfl
  intro _
  refine bd_frz (xs := factsOf p box) 0 3 rfl rfl hm ?_
  apply bd_retR hm
  exact EvD.s (ev_var rfl)
theorem rd_factsX (F : PF K c) : ∀ Rs C, SE_facts K c Rs C → ∀ (B : Base) (E : XK), B.m = [] → Raises B E C → BDe B (startC n_facts Rs) [] (t_facts K c E) noP := by
  rintro _ _ ⟨p, d, rfl, h, rfl⟩ B E hm hE
  exact bd_dropX hm hE (ex_callE (ea_cons (ev_var rfl) (ea_cons (ev_var rfl) ea_nil)) ⟨p, d, rfl, h, rfl⟩)
theorem nw_core {d : PyData} {n : Int} {B : Base} {E : XK} {P : Post} (hm : B.m = []) (hE : weightsB d n = false → Raises B E c.BadWeights) (hP : weightsB d n = true → ∀ σ f h, Ext B.f B.h f h → P.nx σ f h) :
    BDe B (startC n_need_weights [rpD d, rep n]) [] (t_need_weights K c E) P := by
  have v1 : EvD (startC n_need_weights [rpD d, rep n]) (tVar 0) (rpD d) := ev_var rfl
  have isL := ev_cb (ea_cons v1 (ea_cons ev_ty ea_nil)) (c_isList (K := K))
  by_cases h1 : ∃ ds, d = .list ds ∧ (ds.length : Int) = n
  rotate_left
  · have hf : weightsB d n = false := by
      cases d with
      | list ds =>
        have : ¬ (ds.length : Int) = n := fun z => h1 ⟨ds, rfl, z⟩
        simp only [weightsB, decide_eq_false this, Bool.false_and]
      | _ => rfl
    apply bd_ifr (b := true)
    · apply EvT.s
      rcases lst_or d with ⟨ds, rfl⟩ | hn
      · refine et_orF (et_eq (et_not (et_val isL)) rfl) ?_
        refine et_eq (et_test (ev_op (ev_cb (ea_cons v1 ea_nil) c_lenL) (ev_var rfl) s_neI)) ?_
        have : ¬ (ds.length : Int) = n := fun z => h1 ⟨ds, rfl, z⟩
        simp
        omega
      · refine et_orT (et_eq (et_not (et_val isL)) ?_)
        rw [hn]
        rfl
    · intro _
      exact bd_raise hm (hE hf)
    · intro h
      cases h
  obtain ⟨ds, rfl, hl⟩ := h1
  apply bd_ifr (b := false)
  · apply EvT.s
    refine et_orF (et_eq (et_not (et_val isL)) rfl) ?_
    refine et_eq (et_test (ev_op (ev_cb (ea_cons v1 ea_nil) c_lenL) (ev_var rfl) s_neI)) ?_
    simp
    omega
  · intro h
    cases h
  intro _
  apply bd_forE (fun _ => startC n_need_weights [rpD (.list ds), rep n]) (fun _ => []) (fun i => ∀ j, j < i → natB (at_ ds j) = true)
  · refine WiD.s (wi_list (it := fun i => rpD (at_ ds i)) v1 fun i d h => ?_)
    unfold at_
    rw [List.getD_eq_getElem?_getD, h]
    rfl
  · walk_at "fg"
  · rfl
  · intro j hj
    omega
  · intro i hi
    exact tg_name
  · intro i hlt Fi
    have bad : natB (at_ ds i) = false → Raises B E c.BadWeights := fun hb => by
      refine hE ?_
      have : ds.all natB = false := by
        rw [List.all_eq_false]
        exact ⟨_, at_mem hlt, by rw [hb]; exact Bool.false_ne_true⟩
      simp only [weightsB, this, Bool.and_false]
    have go : natB (at_ ds i) = true → ∀ j, j < i + 1 → natB (at_ ds j) = true := fun z j hj => by
      by_cases q : j = i
      · rw [q]
        exact z
      · exact Fi j (by omega)
    obtain ⟨e, he⟩ : ∃ e, e = at_ ds i := ⟨_, rfl⟩
    rw [← he] at bad go ⊢
    have vp : EvD ((startC n_need_weights [rpD (.list ds), rep n]).set 2 (some (rpD e))) (tVar 2) (rpD e) := ev_var rfl
    have t1 := et_not (et_val (ev_cb (ea_cons vp (ea_cons ev_ty ea_nil)) (c_isInt (K := K))))
    have t2 := et_val (ev_cb (ea_cons vp (ea_cons ev_ty ea_nil)) (c_isBool (K := K)))
    by_cases hx : ∃ x, e = .int x
    · obtain ⟨x, rfl⟩ := hx
      have e2 : natB (.int x) = decide (0 ≤ x) := rfl
      apply bd_ifr (b := decide (x < 0))
      · apply EvT.s
        refine et_orF (et_eq t1 rfl) (et_orF (et_eq t2 rfl) ?_)
        exact et_test (ev_op (Ra := rep x) vp ev_int s_lt)
      · intro h
        simp at h
        refine bd_raise hm (bad ?_)
        rw [e2]
        simp
        omega
      · intro h
        simp at h
        refine bd_turnE (go ?_) rfl (by walk_at "fg")
        rw [e2]
        simp
        omega
    · have e2 : natB e = false := by
        cases e <;> first | rfl | (exact absurd ⟨_, rfl⟩ hx)
      apply bd_ifr (b := true)
      · apply EvT.s
        by_cases h1 : isi e "int" = true
        · have h2 : isi e "bool" = true := by
            cases e <;> first | rfl | (exact absurd ⟨_, rfl⟩ hx) | (simp [isi, tyName, isiN] at h1)
          refine et_orF (et_eq t1 (by rw [h1]; rfl)) (et_orT (et_eq t2 h2))
        · refine et_orT (et_eq t1 ?_)
          rw [Bool.eq_false_iff.mpr h1]
          rfl
      · intro _
        exact bd_raise hm (bad e2)
      · intro h
        cases h
  intro Fi
  refine bd_next fun σ f hp s => hP ?_ σ f hp (s.toExt hm)
  simp only [weightsB, decide_eq_true hl, Bool.true_and]
  exact all_range ds natB Fi
theorem rd_need_weights : ∀ Rs R, S_need_weights K c Rs R → ∀ (B : Base) (E : XK), B.m = [] → BDe B (startC n_need_weights Rs) [] (t_need_weights K c E) (fnP B R) := by
  rintro _ _ ⟨d, n, rfl, h, rfl⟩ B E hm
  refine nw_core hm (fun z => ?_) fun _ σ f hp e => ⟨e, rep_of_unit _⟩
  rw [h] at z
  cases z
theorem rd_need_weightsX : ∀ Rs C, SE_need_weights K c Rs C → ∀ (B : Base) (E : XK), B.m = [] → Raises B E C → BDe B (startC n_need_weights Rs) [] (t_need_weights K c E) noP := by
  rintro _ _ ⟨d, n, rfl, h, rfl⟩ B E hm hE
  refine nw_core hm (fun _ => hE) fun z => ?_
  rw [h] at z
  cases z
theorem weights_ints {ws : List Int} {n : Nat} (h : ws.length = n) (h0 : ∀ w ∈ ws, 0 ≤ w) : weightsB (py ws) (n : Int) = true := by
  show (decide (((ws.map PyData.int).length : Int) = (n : Int)) && (ws.map PyData.int).all natB) = true
  rw [List.length_map, h, decide_eq_true rfl, Bool.true_and, List.all_eq_true]
  intro d hd
  obtain ⟨x, hx, rfl⟩ := List.mem_map.mp hd
  exact decide_eq_true (h0 x hx)
/-- the numbers in the midst of a fact -/
def numsAt (fs : List Fact) (ws : List Int) (n k u : Nat) : List Int := (List.range n).map fun j => if j < u then sumN fs ws (k + 1) j else sumN fs ws k j
theorem sumN_succ (fs : List Fact) (ws : List Int) (k u : Nat) : sumN fs ws (k + 1) u = sumN fs ws k u + at_ ws k * at_ (at_ fs k).1.l u := by
  unfold sumN
  rw [List.range_succ, List.map_append, List.sum_append]
  simp
theorem sumB_succ (fs : List Fact) (ws : List Int) (k : Nat) : sumB fs ws (k + 1) = sumB fs ws k + at_ ws k * (at_ fs k).2 := by
  unfold sumB
  rw [List.range_succ, List.map_append, List.sum_append]
  simp
theorem numsAt_set (fs : List Fact) (ws : List Int) (n k u : Nat) : (numsAt fs ws n k u).set u (sumN fs ws (k + 1) u) = numsAt fs ws n k (u + 1) := by
  apply List.ext_getElem?
  intro i
  unfold numsAt
  by_cases hi : i < n
  · by_cases e : u = i
    · subst e
      rw [List.getElem?_set_self (by simpa using hi), List.getElem?_map, List.getElem?_range hi]
      simp
    · rw [List.getElem?_set_ne e, List.getElem?_map, List.getElem?_map, List.getElem?_range hi]
      simp only [Option.map_some]
      congr 1
      by_cases h : i < u
      · rw [if_pos h, if_pos (by omega)]
      · rw [if_neg h, if_neg (by omega)]
  · rw [List.getElem?_eq_none (by simp; omega), List.getElem?_eq_none (by simp; omega)]
theorem numsAt_full (fs : List Fact) (ws : List Int) (n k : Nat) : numsAt fs ws n k n = numsAt fs ws n (k + 1) 0 := by
  unfold numsAt
  apply List.map_congr_left
  intro j hj
  rw [if_pos (List.mem_range.mp hj), if_neg (by omega)]
theorem numsAt_at (fs : List Fact) (ws : List Int) (n k u : Nat) (h : u < n) : ix (numsAt fs ws n k u) (u : Int) = sumN fs ws k u := by
  show at_ (numsAt fs ws n k u) u = _
  unfold numsAt
  rw [at_map_range _ h, if_neg (by omega)]
theorem rd_summed (F : PF K c) : ∀ Rs R, S_summed K c Rs R → ∀ (B : Base) (E : XK), B.m = [] → BDe B (startC n_summed Rs) [] (t_summed K c E) (fnP B R) := by
  rintro _ _ ⟨p, box, ws, rfl, k, hb, hw, h0, rfl⟩ B E hm
  have n3 := k.n3
  have m6 := k.m6
  have bl := hb.len
  have fl := factsOf_len p box
  obtain ⟨fs, efs⟩ : ∃ fs, fs = factsOf p box := ⟨_, rfl⟩
  have fn : ∀ j, j < fs.length → (at_ fs j).1.l.length = box.length ∧ (∀ x ∈ (at_ fs j).1.l, -50 ≤ x ∧ x ≤ 50) ∧ -2000 ≤ (at_ fs j).2 ∧ (at_ fs j).2 ≤ 2000 := fun j hj => by
    have hj2 : j < p.rows.length + 2 * box.length := by rw [efs, fl] at hj; exact hj
    rw [efs, at_facts p box hj2]
    have a := fact_num k hb hj2
    exact ⟨a.1, a.2, fact_bnd k hb hj2⟩
  apply bd_set (R := rep fs)
  · apply EvD.s
    apply ev_callE
    · exact ea_cons (ev_var rfl) (ea_cons (ev_var rfl) ea_nil)
    · exact ⟨p, box, rfl, k, hb, by rw [efs]⟩
  rw [← efs] at fl ⊢
  apply bd_drop
  · apply EvD.s
    apply ev_callE
    · exact ea_cons (ev_var rfl) (ea_cons (ev_cb (ea_cons (ev_var rfl) ea_nil) c_len) ea_nil)
    · exact ⟨py ws, (fs.length : Int), rfl, weights_ints (by omega) h0, rfl⟩
  apply bd_own (T := oL (numsAt fs ws box.length 0 0))
  · apply EvN.s
    have z := ev_opN (Γ := (startC n_summed [insP c p, rep box, rep ws]).set 3 (some (rep fs))) (ev_lst1 ev_int) (ev_cb (ea_cons (ev_var (i := 1) rfl) ea_nil) (c_len (K := K))) (s_rep (K := K) (a := (0 : Int)) (k := (box.length : Int)) (by omega) (by omega))
    have e : List.replicate ((box.length : Int)).toNat (0 : Int) = numsAt fs ws box.length 0 0 := by
      unfold numsAt
      have : (fun j => if j < 0 then sumN fs ws (0 + 1) j else sumN fs ws 0 j) = fun _ => (0 : Int) := by
        funext j
        rw [if_neg (by omega)]
        rfl
      rw [this]
      simp [List.map_const']
    rw [e] at z
    exact z
  intro q
  apply bd_set (R := rep (sumB fs ws 0)) (EvD.s ev_int)
  apply bd_forE (n := ws.length) (item := fun i => rep (at_ ws i, at_ fs i)) (fun i => [some (insP c p), some (rep box), some (rep ws), some (rep fs), some (own q), some (rep (sumB fs ws i)), none, none, none]) (fun i => [(q, oL (numsAt fs ws box.length i 0))]) (fun _ => True)
  · exact WiD.s (wi_zip (ev_var rfl) (ev_var rfl) (by omega))
  · walk_at "fg"
  · rfl
  · trivial
  · intro i hi
    exact tg_pair
  · intro i hi _
    obtain ⟨f1, f2, f3, f4⟩ := fn i (by omega)
    apply bd_forE (n := box.length) (item := fun i => rep (i : Int)) (fun _ => [some (insP c p), some (rep box), some (rep ws), some (rep fs), some (own q), some (rep (sumB fs ws i)), some (rep (at_ ws i)), some (rep (at_ fs i)), none]) (fun u => [(q, oL (numsAt fs ws box.length i u))]) (fun _ => True)
    · apply WiD.s
      have e : box.length = ((box.length : Int)).toNat := by omega
      have z := wi_range (Γ := [some (insP c p), some (rep box), some (rep ws), some (rep fs), some (own q), some (rep (sumB fs ws i)), some (rep (at_ ws i)), some (rep (at_ fs i)), none]) (ta := tCB (rLenX K) (tCons (tVar 1) tNil)) (z := (box.length : Int)) (ev_cb (ea_cons (ev_var rfl) ea_nil) c_len) (by omega) (by omega)
      rw [← e] at z
      exact z
    · walk_at "fg"
    · rfl
    · trivial
    · intro u hu
      exact tg_name
    · intro u hu _
      have nl : (numsAt fs ws box.length i u).length = box.length := by simp [numsAt]
      have fx := f2 (ix (at_ fs i).1.l (u : Int)) (ix_mem (by omega) (by omega))
      refine bd_setI (α := Int) (xs := numsAt fs ws box.length i u) (a := sumN fs ws (i + 1) u) (z := (u : Int)) 0 ?_ (ev_var rfl) (EvD.s (ev_var rfl)) rfl (by omega) (by omega) ?_
      · rw [sumN_succ]
        apply ev_lend
        · walk_at "lend"
        · apply ev_op
          · refine ev_eq (ev_op (ev_var rfl) (ev_var rfl) (s_ix (xs := numsAt fs ws box.length i u) (by omega) (by omega))) (numsAt_at fs ws box.length i u hu)
          · apply ev_op (ev_var rfl)
            · apply ev_op
              · exact ev_op (ev_var rfl) ev_int (s_fst (x := at_ fs i))
              · exact ev_var rfl
              · exact s_ixT (xs := (at_ fs i).1.l) (by omega) (by omega)
            · exact s_mul (.inr ⟨by omega, by omega⟩)
          · exact s_add
        · exact flat_int _
      · refine bd_turnE trivial ?_ (by walk_at "fg")
        show [(q, oL ((numsAt fs ws box.length i u).set (u : Int).toNat (sumN fs ws (i + 1) u)))] = _
        rw [Int.toNat_natCast, numsAt_set]
    intro _
    apply bd_set (R := rep (sumB fs ws (i + 1)))
    · rw [sumB_succ]
      apply EvD.s
      exact ev_op (ev_var rfl) (ev_op (ev_var rfl) (ev_op (ev_var rfl) ev_int (s_snd (x := at_ fs i))) (s_mul (.inr ⟨by omega, by omega⟩))) s_add
    refine bd_turnE trivial ?_ (by walk_at "fg")
    rw [numsAt_full]
  intro _
  refine bd_frz 0 4 rfl rfl hm ?_
  apply bd_retE (a := ((⟨numsAt fs ws box.length ws.length 0⟩ : Tup Int), sumB fs ws ws.length)) hm
  · exact EvD.s (ev_pair (ev_cb (ea_cons (ev_var rfl) ea_nil) c_tup) (ev_var rfl))
  · unfold summedOf
    have e : ws.length = fs.length := by omega
    rw [e]
    congr 2
theorem rd_summedX (F : PF K c) : ∀ Rs C, SE_summed K c Rs C → ∀ (B : Base) (E : XK), B.m = [] → Raises B E C → BDe B (startC n_summed Rs) [] (t_summed K c E) noP := by
  rintro _ _ (⟨p, d, e, rfl, h, rfl⟩ | ⟨p, box, d, rfl, k, hb, h, rfl⟩) B E hm hE
  · exact bd_setX hm hE (ex_callE (ea_cons (ev_var rfl) (ea_cons (ev_var rfl) ea_nil)) ⟨p, d, rfl, h, rfl⟩)
  · apply bd_set (R := rep (factsOf p box))
    · apply EvD.s
      apply ev_callE
      · exact ea_cons (ev_var rfl) (ea_cons (ev_var rfl) ea_nil)
      · exact ⟨p, box, rfl, k, hb, rfl⟩
    refine bd_dropX hm hE (ex_callE (ea_cons (ev_var rfl) (ea_cons (ev_cb (ea_cons (ev_var rfl) ea_nil) c_len) ea_nil)) ⟨d, ((factsOf p box).length : Int), rfl, ?_, rfl⟩)
    rw [factsOf_len]
    exact h
end
end D

set_option Elab.async false
set_option linter.all false
set_option maxRecDepth 100000
set_option maxHeartbeats 4000000
namespace D
/-! ### three facts that cross: cofactors, what each other fact is less by them -/
structure V3 where
  x : Int
  y : Int
  z : Int
def V3.dot (u v : V3) : Int := u.x * v.x + u.y * v.y + u.z * v.z
def V3.cross (u v : V3) : V3 := ⟨u.y * v.z - u.z * v.y, u.z * v.x - u.x * v.z, u.x * v.y - u.y * v.x⟩
/-- three facts: numbers and bounds -/
structure Fr where
  r0 : V3
  r1 : V3
  r2 : V3
  b0 : Int
  b1 : Int
  b2 : Int
def Fr.cof (f : Fr) (k : Nat) : V3 := match k with
  | 0 => f.r1.cross f.r2
  | 1 => f.r2.cross f.r0
  | _ => f.r0.cross f.r1
def Fr.row (f : Fr) (k : Nat) : V3 := match k with
  | 0 => f.r0
  | 1 => f.r1
  | _ => f.r2
def Fr.bnd (f : Fr) (k : Nat) : Int := match k with
  | 0 => f.b0
  | 1 => f.b1
  | _ => f.b2
def Fr.put (f : Fr) (k : Nat) (a : V3) (b : Int) : Fr := match k with
  | 0 => { f with r0 := a, b0 := b }
  | 1 => { f with r1 := a, b1 := b }
  | _ => { f with r2 := a, b2 := b }
def Fr.det (f : Fr) : Int := f.r0.dot (f.r1.cross f.r2)
def sgn (x : Int) : Int := if x < 0 then -1 else 1
def Fr.sc (f : Fr) : Int := sgn f.det * f.det
def Fr.L (f : Fr) (a : V3) (k : Nat) : Int := -(sgn f.det * a.dot (f.cof k))
def Fr.last (f : Fr) (a : V3) (b : Int) : Int := f.sc * b + (f.L a 0 * f.b0 + f.L a 1 * f.b1 + f.L a 2 * f.b2)
theorem sgn_sq (x : Int) : sgn x * sgn x = 1 := by
  unfold sgn
  split <;> rfl
theorem sgn_or (x : Int) : sgn x = 1 ∨ sgn x = -1 := by
  unfold sgn
  split
  · exact .inr rfl
  · exact .inl rfl
theorem sgn_pos (x : Int) (h : x ≠ 0) : 0 < sgn x * x := by
  unfold sgn
  split <;> omega
theorem sgn_neg (x : Int) (h : x ≠ 0) : sgn (-x) = - sgn x := by
  unfold sgn
  by_cases h1 : x < 0
  · rw [if_pos h1, if_neg (by omega)]; rfl
  · rw [if_neg h1, if_pos (by omega)]
theorem sgn_mul (x s : Int) (hs : s = 1 ∨ s = -1) (h : x ≠ 0) : sgn (s * x) = s * sgn x := by
  rcases hs with rfl | rfl
  · rw [Int.one_mul, Int.one_mul]
  · rw [show (-1 : Int) * x = -x by omega, sgn_neg x h]; omega
/-- the determinant with row k another -/
theorem put_det (f : Fr) (k : Nat) (a : V3) (b : Int) : (f.put k a b).det = a.dot (f.cof k) := by
  match k with
  | 0 => rfl
  | 1 =>
    simp only [Fr.put, Fr.det, Fr.cof, V3.dot, V3.cross]
    grind
  | k + 2 =>
    simp only [Fr.put, Fr.det, Fr.cof, V3.dot, V3.cross]
    grind
theorem det_row (f : Fr) (k : Nat) : (f.row k).dot (f.cof k) = f.det := by
  match k with
  | 0 => rfl
  | 1 =>
    simp only [Fr.row, Fr.det, Fr.cof, V3.dot, V3.cross]
    grind
  | k + 2 =>
    simp only [Fr.row, Fr.det, Fr.cof, V3.dot, V3.cross]
    grind
theorem det_other (f : Fr) (k j : Nat) (hk : k < 3) (hj : j < 3) (h : j ≠ k) : (f.row j).dot (f.cof k) = 0 := by
  match k, j, hk, hj, h with
  | 0, 0, _, _, h => exact absurd rfl h
  | 1, 1, _, _, h => exact absurd rfl h
  | 2, 2, _, _, h => exact absurd rfl h
  | 0, 1, _, _, _ => simp only [Fr.row, Fr.cof, V3.dot, V3.cross]; grind
  | 0, 2, _, _, _ => simp only [Fr.row, Fr.cof, V3.dot, V3.cross]; grind
  | 1, 0, _, _, _ => simp only [Fr.row, Fr.cof, V3.dot, V3.cross]; grind
  | 1, 2, _, _, _ => simp only [Fr.row, Fr.cof, V3.dot, V3.cross]; grind
  | 2, 0, _, _, _ => simp only [Fr.row, Fr.cof, V3.dot, V3.cross]; grind
  | 2, 1, _, _, _ => simp only [Fr.row, Fr.cof, V3.dot, V3.cross]; grind
/-- the turn of two minors -/
theorem pluck (f : Fr) (c k : Nat) (hc : c < 3) (hk : k < 3) (h : k ≠ c) (p q : V3) (b : Int) : f.det * q.dot ((f.put c p b).cof k) = p.dot (f.cof c) * q.dot (f.cof k) - p.dot (f.cof k) * q.dot (f.cof c) := by
  match c, k, hc, hk, h with
  | 0, 0, _, _, h => exact absurd rfl h
  | 1, 1, _, _, h => exact absurd rfl h
  | 2, 2, _, _, h => exact absurd rfl h
  | 0, 1, _, _, _ => simp only [Fr.put, Fr.det, Fr.cof, V3.dot, V3.cross]; grind
  | 0, 2, _, _, _ => simp only [Fr.put, Fr.det, Fr.cof, V3.dot, V3.cross]; grind
  | 1, 0, _, _, _ => simp only [Fr.put, Fr.det, Fr.cof, V3.dot, V3.cross]; grind
  | 1, 2, _, _, _ => simp only [Fr.put, Fr.det, Fr.cof, V3.dot, V3.cross]; grind
  | 2, 0, _, _, _ => simp only [Fr.put, Fr.det, Fr.cof, V3.dot, V3.cross]; grind
  | 2, 1, _, _, _ => simp only [Fr.put, Fr.det, Fr.cof, V3.dot, V3.cross]; grind
theorem cof_put_same (f : Fr) (c : Nat) (p : V3) (b : Int) : (f.put c p b).cof c = f.cof c := by
  match c with
  | 0 => rfl
  | 1 => rfl
  | _ + 2 => rfl
/-- another row where row k is put and row c stood -/
theorem swap_row (f : Fr) (c k : Nat) (hc : c < 3) (hk : k < 3) (h : k ≠ c) (p : V3) (b : Int) : (f.row c).dot ((f.put c p b).cof k) = - p.dot (f.cof k) := by
  match c, k, hc, hk, h with
  | 0, 0, _, _, h => exact absurd rfl h
  | 1, 1, _, _, h => exact absurd rfl h
  | 2, 2, _, _, h => exact absurd rfl h
  | 0, 1, _, _, _ => simp only [Fr.put, Fr.row, Fr.cof, V3.dot, V3.cross]; grind
  | 0, 2, _, _, _ => simp only [Fr.put, Fr.row, Fr.cof, V3.dot, V3.cross]; grind
  | 1, 0, _, _, _ => simp only [Fr.put, Fr.row, Fr.cof, V3.dot, V3.cross]; grind
  | 1, 2, _, _, _ => simp only [Fr.put, Fr.row, Fr.cof, V3.dot, V3.cross]; grind
  | 2, 0, _, _, _ => simp only [Fr.put, Fr.row, Fr.cof, V3.dot, V3.cross]; grind
  | 2, 1, _, _, _ => simp only [Fr.put, Fr.row, Fr.cof, V3.dot, V3.cross]; grind
/-- any fact by the three -/
theorem cramer (f : Fr) (a X : V3) : f.det * a.dot X = a.dot (f.cof 0) * f.r0.dot X + a.dot (f.cof 1) * f.r1.dot X + a.dot (f.cof 2) * f.r2.dot X := by
  simp only [Fr.det, Fr.cof, V3.dot, V3.cross]
  grind
/-- the slack of a fact at a point over t -/
def slk (a : V3) (b : Int) (X : V3) (t : Int) : Int := b * t - a.dot X
theorem eh (f : Fr) (a : V3) (b : Int) (X : V3) (t : Int) : f.sc * slk a b X t = t * f.last a b - (f.L a 0 * slk f.r0 f.b0 X t + f.L a 1 * slk f.r1 f.b1 X t + f.L a 2 * slk f.r2 f.b2 X t) := by
  have h := cramer f a X
  unfold slk Fr.last Fr.sc Fr.L
  generalize sgn f.det = s
  generalize a.dot (f.cof 0) = c0 at *
  generalize a.dot (f.cof 1) = c1 at *
  generalize a.dot (f.cof 2) = c2 at *
  generalize a.dot X = ax at *
  generalize f.r0.dot X = x0 at *
  generalize f.r1.dot X = x1 at *
  generalize f.r2.dot X = x2 at *
  grind
/-- the point at which the three are met, over the scale -/
def Fr.pt (f : Fr) : V3 := ⟨sgn f.det * (f.b0 * (f.cof 0).x + f.b1 * (f.cof 1).x + f.b2 * (f.cof 2).x), sgn f.det * (f.b0 * (f.cof 0).y + f.b1 * (f.cof 1).y + f.b2 * (f.cof 2).y), sgn f.det * (f.b0 * (f.cof 0).z + f.b1 * (f.cof 1).z + f.b2 * (f.cof 2).z)⟩
/-- the way on which the k-th alone grows -/
def Fr.ray (f : Fr) (k : Nat) : V3 := ⟨-(sgn f.det * (f.cof k).x), -(sgn f.det * (f.cof k).y), -(sgn f.det * (f.cof k).z)⟩
theorem slk_pt (f : Fr) (a : V3) (b : Int) : slk a b f.pt f.sc = f.last a b := by
  unfold slk Fr.last Fr.L Fr.pt
  simp only [V3.dot]
  generalize sgn f.det = s
  grind
theorem slk_ray (f : Fr) (a : V3) (b : Int) (k : Nat) : slk a b (f.ray k) 0 = - f.L a k := by
  unfold slk Fr.L Fr.ray
  simp only [V3.dot]
  generalize sgn f.det = s
  grind
theorem L_row (f : Fr) (k j : Nat) (hk : k < 3) (hj : j < 3) (h : j ≠ k) : f.L (f.row j) k = 0 := by
  unfold Fr.L
  rw [det_other f k j hk hj h]
  simp
theorem L_self (f : Fr) (k : Nat) : f.L (f.row k) k = - f.sc := by
  unfold Fr.L Fr.sc
  rw [det_row]
theorem last_row (f : Fr) (j : Nat) (hj : j < 3) : f.last (f.row j) (f.bnd j) = 0 := by
  unfold Fr.last
  match j, hj with
  | 0, _ =>
    rw [L_self, L_row f 1 0 (by omega) (by omega) (by omega), L_row f 2 0 (by omega) (by omega) (by omega)]
    simp only [Fr.bnd]
    grind
  | 1, _ =>
    rw [L_self, L_row f 0 1 (by omega) (by omega) (by omega), L_row f 2 1 (by omega) (by omega) (by omega)]
    simp only [Fr.bnd]
    grind
  | 2, _ =>
    rw [L_self, L_row f 0 2 (by omega) (by omega) (by omega), L_row f 1 2 (by omega) (by omega) (by omega)]
    simp only [Fr.bnd]
    grind
/-! the turn about L p c -/
section
variable (f : Fr) (c : Nat) (hc : c < 3) (p : V3) (b : Int) (hp : f.L p c ≠ 0)
include hc hp
theorem put_sgn : sgn (f.put c p b).det = - (sgn f.det * sgn (f.L p c)) := by
  rw [put_det]
  have h0 : p.dot (f.cof c) ≠ 0 := fun z => hp (by unfold Fr.L; rw [z]; simp)
  have e : f.L p c = (- sgn f.det) * p.dot (f.cof c) := by unfold Fr.L; grind
  have hs : - sgn f.det = 1 ∨ - sgn f.det = -1 := by rcases sgn_or f.det with h | h <;> rw [h] <;> decide
  rw [e, sgn_mul _ _ hs h0]
  have := sgn_sq f.det
  grind
theorem put_sc : (f.put c p b).sc = sgn (f.L p c) * f.L p c := by
  have e := put_sgn f c hc p b hp
  unfold Fr.sc
  rw [e, put_det]
  unfold Fr.L
  grind
theorem put_L_c (q : V3) : (f.put c p b).L q c = - (sgn (f.L p c) * f.L q c) := by
  have e := put_sgn f c hc p b hp
  unfold Fr.L at *
  rw [e, cof_put_same]
  grind
theorem put_L (q : V3) (k : Nat) (hk : k < 3) (h : k ≠ c) : (f.put c p b).L q k * f.sc = sgn (f.L p c) * (f.L q k * f.L p c - f.L q c * f.L p k) := by
  have e := put_sgn f c hc p b hp
  have pl := pluck f c k hc hk h p q b
  have s2 := sgn_sq f.det
  have lhs : (f.put c p b).L q k * f.sc = sgn (f.L p c) * (f.det * q.dot ((f.put c p b).cof k)) := by
    have : (f.put c p b).L q k = sgn f.det * sgn (f.L p c) * q.dot ((f.put c p b).cof k) := by
      show -(sgn (f.put c p b).det * q.dot ((f.put c p b).cof k)) = _
      rw [e]
      grind
    rw [this]
    unfold Fr.sc
    generalize sgn (f.L p c) = s'
    generalize sgn f.det = s at *
    grind
  rw [lhs, pl]
  unfold Fr.L
  generalize sgn (-(sgn f.det * p.dot (f.cof c))) = s'
  generalize sgn f.det = s at *
  grind
theorem put_L_row (k : Nat) (hk : k < 3) (h : k ≠ c) : (f.put c p b).L (f.row c) k = sgn (f.L p c) * f.L p k := by
  have e := put_sgn f c hc p b hp
  show -(sgn (f.put c p b).det * (f.row c).dot ((f.put c p b).cof k)) = _
  rw [e, swap_row f c k hc hk h p b]
  unfold Fr.L
  grind
theorem put_L_row_c : (f.put c p b).L (f.row c) c = sgn (f.L p c) * f.sc := by
  have e := put_sgn f c hc p b hp
  show -(sgn (f.put c p b).det * (f.row c).dot ((f.put c p b).cof c)) = _
  rw [e, cof_put_same, det_row]
  unfold Fr.sc
  grind

theorem put_bnd (k : Nat) : (f.put c p b).bnd k = if k = c ∨ (2 ≤ k ∧ 2 ≤ c) then b else f.bnd k := by
  match c, hc, k with
  | 0, _, 0 => rfl
  | 0, _, 1 => rfl
  | 0, _, k + 2 => simp [Fr.put, Fr.bnd]
  | 1, _, 0 => rfl
  | 1, _, 1 => rfl
  | 1, _, k + 2 => simp [Fr.put, Fr.bnd]
  | 2, _, 0 => rfl
  | 2, _, 1 => rfl
  | 2, _, k + 2 => simp [Fr.put, Fr.bnd]
theorem put_last (q : V3) (bq : Int) : (f.put c p b).last q bq * f.sc = sgn (f.L p c) * (f.last q bq * f.L p c - f.L q c * f.last p b) := by
  have e1 := put_sc f c hc p b hp
  have ec := put_L_c f c hc p b hp q
  have ek := fun k hk h => put_L f c hc p b hp q k hk h
  unfold Fr.last
  rw [e1]
  match c, hc with
  | 0, _ =>
    have k1 := ek 1 (by omega) (by omega)
    have k2 := ek 2 (by omega) (by omega)
    have z : (f.put 0 p b).b0 = b ∧ (f.put 0 p b).b1 = f.b1 ∧ (f.put 0 p b).b2 = f.b2 := ⟨rfl, rfl, rfl⟩
    rw [z.1, z.2.1, z.2.2]
    generalize sgn (f.L p 0) = s' at *
    grind
  | 1, _ =>
    have k1 := ek 0 (by omega) (by omega)
    have k2 := ek 2 (by omega) (by omega)
    have z : (f.put 1 p b).b0 = f.b0 ∧ (f.put 1 p b).b1 = b ∧ (f.put 1 p b).b2 = f.b2 := ⟨rfl, rfl, rfl⟩
    rw [z.1, z.2.1, z.2.2]
    generalize sgn (f.L p 1) = s' at *
    grind
  | 2, _ =>
    have k1 := ek 0 (by omega) (by omega)
    have k2 := ek 1 (by omega) (by omega)
    have z : (f.put 2 p b).b0 = f.b0 ∧ (f.put 2 p b).b1 = f.b1 ∧ (f.put 2 p b).b2 = b := ⟨rfl, rfl, rfl⟩
    rw [z.1, z.2.1, z.2.2]
    generalize sgn (f.L p 2) = s' at *
    grind
theorem put_last_row : (f.put c p b).last (f.row c) (f.bnd c) = sgn (f.L p c) * f.last p b := by
  have e1 := put_sc f c hc p b hp
  have ec := put_L_row_c f c hc p b hp
  have ek := fun k hk h => put_L_row f c hc p b hp k hk h
  unfold Fr.last
  rw [e1]
  match c, hc with
  | 0, _ =>
    have k1 := ek 1 (by omega) (by omega)
    have k2 := ek 2 (by omega) (by omega)
    have z : (f.put 0 p b).b0 = b ∧ (f.put 0 p b).b1 = f.b1 ∧ (f.put 0 p b).b2 = f.b2 ∧ f.bnd 0 = f.b0 := ⟨rfl, rfl, rfl, rfl⟩
    rw [z.1, z.2.1, z.2.2.1, z.2.2.2, ec, k1, k2]
    generalize sgn (f.L p 0) = s' at *
    grind
  | 1, _ =>
    have k1 := ek 0 (by omega) (by omega)
    have k2 := ek 2 (by omega) (by omega)
    have z : (f.put 1 p b).b0 = f.b0 ∧ (f.put 1 p b).b1 = b ∧ (f.put 1 p b).b2 = f.b2 ∧ f.bnd 1 = f.b1 := ⟨rfl, rfl, rfl, rfl⟩
    rw [z.1, z.2.1, z.2.2.1, z.2.2.2, ec, k1, k2]
    generalize sgn (f.L p 1) = s' at *
    grind
  | 2, _ =>
    have k1 := ek 0 (by omega) (by omega)
    have k2 := ek 1 (by omega) (by omega)
    have z : (f.put 2 p b).b0 = f.b0 ∧ (f.put 2 p b).b1 = f.b1 ∧ (f.put 2 p b).b2 = b ∧ f.bnd 2 = f.b2 := ⟨rfl, rfl, rfl, rfl⟩
    rw [z.1, z.2.1, z.2.2.1, z.2.2.2, ec, k1, k2]
    generalize sgn (f.L p 2) = s' at *
    grind
end
end D

set_option Elab.async false
set_option linter.all false
set_option maxRecDepth 100000
set_option maxHeartbeats 4000000
namespace D
/-! ### the states of a loosening: which slacks are beside, which over -/
structure Dat where
  n : Nat
  F : Nat
  a : Nat → V3
  b : Nat → Int
def pad (k : Nat) : V3 := match k with
  | 0 => ⟨1, 0, 0⟩
  | 1 => ⟨0, 1, 0⟩
  | _ => ⟨0, 0, 1⟩
def npad (k : Nat) : V3 := match k with
  | 0 => ⟨-1, 0, 0⟩
  | 1 => ⟨0, -1, 0⟩
  | _ => ⟨0, 0, -1⟩
structure Dat.Ok (d : Dat) : Prop where
  n1 : 1 ≤ d.n
  n3 : d.n ≤ 3
  F2 : 2 * d.n ≤ d.F
  pa : ∀ k, d.n ≤ k → k < 3 → d.a (d.F + 1 + k) = pad k
  pb : ∀ k, d.n ≤ k → k < 3 → d.b (d.F + 1 + k) = 0
  fy : d.n < 2 → ∀ j, j ≤ d.F → (d.a j).y = 0
  fz : d.n < 3 → ∀ j, j ≤ d.F → (d.a j).z = 0
  up : ∀ u, u < d.n → d.a (d.F - 2 * d.n + 2 * u) = pad u
  lw : ∀ u, u < d.n → d.a (d.F - 2 * d.n + 2 * u + 1) = npad u
abbrev gt (l : List Nat) (k : Nat) : Nat := l.getD k 0
theorem gt_mem {l : List Nat} {k : Nat} (h : k < l.length) : gt l k ∈ l := by
  unfold gt
  rw [List.getD_eq_getElem?_getD, List.getElem?_eq_getElem h]
  exact List.getElem_mem h
theorem gt_of {l : List Nat} {j : Nat} (h : j ∈ l) : ∃ k, k < l.length ∧ gt l k = j := by
  obtain ⟨k, hk, e⟩ := List.getElem_of_mem h
  refine ⟨k, hk, ?_⟩
  unfold gt
  rw [List.getD_eq_getElem?_getD, List.getElem?_eq_getElem hk]
  exact e
theorem gt_set {l : List Nat} {i j k : Nat} (h : i < l.length) : gt (l.set i j) k = if k = i then j else gt l k := by
  unfold gt
  rw [List.getD_eq_getElem?_getD, List.getD_eq_getElem?_getD, List.getElem?_set]
  by_cases e : k = i
  · subst e
    simp [h]
  · rw [if_neg (fun z => e z.symm), if_neg e]
theorem gt_inj {l : List Nat} (nd : l.Nodup) {i j : Nat} (hi : i < l.length) (hj : j < l.length) (e : gt l i = gt l j) : i = j := by
  unfold gt at e
  rw [List.getD_eq_getElem?_getD, List.getD_eq_getElem?_getD, List.getElem?_eq_getElem hi, List.getElem?_eq_getElem hj] at e
  exact (List.getElem_inj nd).mp e
def idx (d : Dat) (ov : List Nat) (k : Nat) : Nat := if k < d.n then gt ov k else d.F + 1 + k
def frm (d : Dat) (ov : List Nat) : Fr := ⟨d.a (idx d ov 0), d.a (idx d ov 1), d.a (idx d ov 2), d.b (idx d ov 0), d.b (idx d ov 1), d.b (idx d ov 2)⟩
def Lc (d : Dat) (ov : List Nat) (q k : Nat) : Int := (frm d ov).L (d.a q) k
def La (d : Dat) (ov : List Nat) (q : Nat) : Int := (frm d ov).last (d.a q) (d.b q)
theorem frm_row (d : Dat) (ov : List Nat) {k : Nat} (hk : k < 3) : (frm d ov).row k = d.a (idx d ov k) := by
  match k, hk with
  | 0, _ => rfl
  | 1, _ => rfl
  | 2, _ => rfl
theorem frm_bnd (d : Dat) (ov : List Nat) {k : Nat} (hk : k < 3) : (frm d ov).bnd k = d.b (idx d ov k) := by
  match k, hk with
  | 0, _ => rfl
  | 1, _ => rfl
  | 2, _ => rfl
theorem frm_set (d : Dat) (ov : List Nat) {c j : Nat} (hc : c < d.n) (hl : ov.length = d.n) (h3 : d.n ≤ 3) : frm d (ov.set c j) = (frm d ov).put c (d.a j) (d.b j) := by
  have e : ∀ k, idx d (ov.set c j) k = if k = c then j else idx d ov k := fun k => by
    unfold idx
    by_cases hk : k < d.n
    · rw [if_pos hk, if_pos hk, gt_set (by omega)]
    · rw [if_neg hk, if_neg hk, if_neg (by omega)]
  unfold frm
  rw [e 0, e 1, e 2]
  match c, (show c < 3 by omega) with
  | 0, _ => rfl
  | 1, _ => rfl
  | 2, _ => rfl
structure Sok (d : Dat) (bs ov : List Nat) : Prop where
  lo : ov.length = d.n
  lb : bs.length + d.n = d.F
  ltb : ∀ q ∈ bs, q < d.F
  lto : ∀ q ∈ ov, q < d.F
  all : ∀ j, j < d.F → j ∈ bs ∨ j ∈ ov
  dis : ∀ j ∈ bs, j ∉ ov
  ndb : bs.Nodup
  ndo : ov.Nodup
  det : (frm d ov).det ≠ 0
/-- nothing of a fact goes by a number that is not there -/
theorem pad_zero {d : Dat} (k : d.Ok) {ov : List Nat} (lo : ov.length = d.n) (lt : ∀ q ∈ ov, q < d.F) {q j : Nat} (hq : q ≤ d.F) (h1 : d.n ≤ j) (h3 : j < 3) : Lc d ov q j = 0 := by
  have n1 := k.n1
  have key : (d.a q).dot ((frm d ov).cof j) = 0 := by
    have i0 : idx d ov 0 < d.F := by
      unfold idx
      rw [if_pos (by omega)]
      exact lt _ (gt_mem (by omega))
    have hn : d.n = 1 ∨ d.n = 2 := by omega
    rcases hn with hn | hn
    · have y := fun j hj => k.fy (by omega) j hj
      have z := fun j hj => k.fz (by omega) j hj
      have r1 : d.a (idx d ov 1) = pad 1 := by
        have : idx d ov 1 = d.F + 1 + 1 := by unfold idx; rw [if_neg (by omega)]
        rw [this, k.pa 1 (by omega) (by omega)]
      have r2 : d.a (idx d ov 2) = pad 2 := by
        have : idx d ov 2 = d.F + 1 + 2 := by unfold idx; rw [if_neg (by omega)]
        rw [this, k.pa 2 (by omega) (by omega)]
      have y0 := y _ (Nat.le_of_lt i0)
      have z0 := z _ (Nat.le_of_lt i0)
      have yq := y q hq
      have zq := z q hq
      match j, h3, h1 with
      | 0, _, h => omega
      | 1, _, _ =>
        simp only [Fr.cof, frm, V3.cross, V3.dot, r2, pad]
        rw [yq, zq, y0, z0]
        grind
      | 2, _, _ =>
        simp only [Fr.cof, frm, V3.cross, V3.dot, r1, pad]
        rw [yq, zq, y0, z0]
        grind
    · have z := fun j hj => k.fz (by omega) j hj
      have i1 : idx d ov 1 < d.F := by
        unfold idx
        rw [if_pos (by omega)]
        exact lt _ (gt_mem (by omega))
      have z0 := z _ (Nat.le_of_lt i0)
      have z1 := z _ (Nat.le_of_lt i1)
      have zq := z q hq
      match j, h3, h1 with
      | 0, _, h => omega
      | 1, _, h => omega
      | 2, _, _ =>
        simp only [Fr.cof, frm, V3.cross, V3.dot]
        rw [zq, z0, z1]
        grind
  unfold Lc Fr.L
  rw [key]
  simp
def Wrong (d : Dat) (bs ov : List Nat) (j : Nat) : Prop := (j ∈ bs ∧ La d ov j < 0) ∨ (∃ k, k < d.n ∧ gt ov k = j ∧ Lc d ov d.F k < 0)
def Prim (d : Dat) (bs ov : List Nat) (r c : Nat) : Prop := La d ov (gt bs r) < 0 ∧ (∀ j, j < gt bs r → ¬ Wrong d bs ov j) ∧ Lc d ov (gt bs r) c < 0 ∧ ∀ k, k < d.n → Lc d ov (gt bs r) k < 0 → gt ov c ≤ gt ov k
def Dual (d : Dat) (bs ov : List Nat) (r c : Nat) : Prop := Lc d ov d.F c < 0 ∧ (∀ j, j < gt ov c → ¬ Wrong d bs ov j) ∧ 0 < Lc d ov (gt bs r) c ∧ ∀ q ∈ bs, 0 < Lc d ov q c → gt bs r ≤ q
structure Move (d : Dat) (bs ov : List Nat) (r c : Nat) : Prop where
  hr : r < bs.length
  hc : c < d.n
  how : Prim d bs ov r c ∨ Dual d bs ov r c
theorem Move.pv {d : Dat} {bs ov : List Nat} {r c : Nat} (m : Move d bs ov r c) : Lc d ov (gt bs r) c ≠ 0 := by
  rcases m.how with h | h
  · have := h.2.2.1; omega
  · have := h.2.2.1; omega
/-- a move leaves a state -/
theorem Sok.move {d : Dat} (k : d.Ok) {bs ov : List Nat} (s : Sok d bs ov) {r c : Nat} (m : Move d bs ov r c) : Sok d (bs.set r (gt ov c)) (ov.set c (gt bs r)) := by
  have hr := m.hr
  have hc := m.hc
  have lo := s.lo
  have mb : gt bs r ∈ bs := gt_mem hr
  have mo : gt ov c ∈ ov := gt_mem (by omega)
  have memS : ∀ {l : List Nat} {i x j : Nat}, i < l.length → j ∈ l → j ≠ gt l i → j ∈ l.set i x := fun {l i x j} hi hj ne => by
    obtain ⟨t, ht, e⟩ := gt_of hj
    have : gt (l.set i x) t ∈ l.set i x := gt_mem (by simpa using ht)
    rw [gt_set hi, if_neg (fun z => ne (by rw [← e, z]))] at this
    rw [← e]
    exact this
  have newS : ∀ {l : List Nat} {i x : Nat}, i < l.length → x ∈ l.set i x := fun {l i x} hi => by
    have : gt (l.set i x) i ∈ l.set i x := gt_mem (by simpa using hi)
    rw [gt_set hi, if_pos rfl] at this
    exact this
  have inS : ∀ {l : List Nat} {i x j : Nat}, l.Nodup → i < l.length → j ∈ l.set i x → j = x ∨ (j ∈ l ∧ j ≠ gt l i) := fun {l i x j} nd hi hj => by
    obtain ⟨t, ht, e⟩ := gt_of hj
    rw [gt_set hi] at e
    split at e
    · exact .inl e.symm
    · rename_i ne
      refine .inr ⟨by rw [← e]; exact gt_mem (by simpa using ht), fun z => ne (gt_inj nd (by simpa using ht) hi (e.trans z))⟩
  have ndS : ∀ {l : List Nat} {i x : Nat}, l.Nodup → i < l.length → x ∉ l → (l.set i x).Nodup := fun {l i x} nd hi hx => by
    rw [List.nodup_iff_pairwise_ne, List.pairwise_iff_getElem]
    intro p q hp hq hpq e
    have hp' : p < l.length := by simpa using hp
    have hq' : q < l.length := by simpa using hq
    have e' : gt (l.set i x) p = gt (l.set i x) q := by
      unfold gt
      rw [List.getD_eq_getElem?_getD, List.getD_eq_getElem?_getD, List.getElem?_eq_getElem hp, List.getElem?_eq_getElem hq]
      exact e
    rw [gt_set hi, gt_set hi] at e'
    split at e' <;> split at e'
    · omega
    · exact hx (e' ▸ gt_mem hq')
    · exact hx (e' ▸ gt_mem hp')
    · have := gt_inj nd hp' hq' e'
      omega
  refine ⟨by simpa using lo, by simpa using s.lb, ?_, ?_, ?_, ?_, ?_, ?_, ?_⟩
  · intro q hq
    rcases inS s.ndb hr hq with rfl | h
    · exact s.lto _ mo
    · exact s.ltb _ h.1
  · intro q hq
    rcases inS s.ndo (by omega) hq with rfl | h
    · exact s.ltb _ mb
    · exact s.lto _ h.1
  · intro j hj
    by_cases e1 : j = gt bs r
    · rw [e1]
      exact .inr (newS (by omega))
    · by_cases e2 : j = gt ov c
      · rw [e2]
        exact .inl (newS hr)
      · rcases s.all j hj with h | h
        · exact .inl (memS hr h e1)
        · exact .inr (memS (by omega) h e2)
  · intro j hj hj2
    rcases inS s.ndb hr hj with rfl | h
    · rcases inS s.ndo (by omega) hj2 with e | h2
      · exact s.dis _ mb (e ▸ mo)
      · exact h2.2 rfl
    · rcases inS s.ndo (by omega) hj2 with e | h2
      · exact h.2 e
      · exact s.dis _ h.1 h2.1
  · exact ndS s.ndb hr (fun z => s.dis _ z mo)
  · exact ndS s.ndo (by omega) (fun z => s.dis _ mb z)
  · rw [frm_set d ov hc lo k.n3, put_det]
    intro z
    refine m.pv ?_
    unfold Lc Fr.L
    rw [z]
    simp
/-! ### slacks at a point, over all the facts of a state -/
def sl (d : Dat) (q : Nat) (X : V3) (t : Int) : Int := slk (d.a q) (d.b q) X t
theorem eh_d (d : Dat) (ov : List Nat) (q : Nat) (X : V3) (t : Int) : (frm d ov).sc * sl d q X t = t * La d ov q - (Lc d ov q 0 * sl d (idx d ov 0) X t + Lc d ov q 1 * sl d (idx d ov 1) X t + Lc d ov q 2 * sl d (idx d ov 2) X t) := eh (frm d ov) (d.a q) (d.b q) X t
theorem sl_pt (d : Dat) (ov : List Nat) (q : Nat) : sl d q (frm d ov).pt (frm d ov).sc = La d ov q := slk_pt _ _ _
theorem sl_ray (d : Dat) (ov : List Nat) (q k : Nat) : sl d q ((frm d ov).ray k) 0 = - Lc d ov q k := slk_ray _ _ _ _
theorem La_ov {d : Dat} (k : d.Ok) {ov : List Nat} {j : Nat} (hj : j < d.n) : La d ov (gt ov j) = 0 := by
  have h := last_row (frm d ov) j (by have := k.n3; omega)
  rw [frm_row d ov (by have := k.n3; omega), frm_bnd d ov (by have := k.n3; omega)] at h
  have e : idx d ov j = gt ov j := by unfold idx; rw [if_pos hj]
  rw [e] at h
  exact h
theorem Lc_ov {d : Dat} (k : d.Ok) {ov : List Nat} {i j : Nat} (hi : i < d.n) (hj : j < d.n) : Lc d ov (gt ov j) i = if j = i then - (frm d ov).sc else 0 := by
  have n3 := k.n3
  have e : idx d ov j = gt ov j := by unfold idx; rw [if_pos hj]
  split
  · rename_i h
    subst h
    have h := L_self (frm d ov) j
    rw [frm_row d ov (by omega), e] at h
    exact h
  · rename_i h
    have h := L_row (frm d ov) i j (by omega) (by omega) h
    rw [frm_row d ov (by omega), e] at h
    exact h
theorem Sok.sc {d : Dat} {bs ov : List Nat} (s : Sok d bs ov) : 0 < (frm d ov).sc := sgn_pos _ s.det
/-- a sum over what is over: none below nought, one above it -/
theorem sum_pos {d : Dat} (k : d.Ok) {bs ov : List Nat} (s : Sok d bs ov) {q c : Nat} (hq : q ≤ d.F) (X : V3) (t : Int) (h0 : ∀ j, j < d.n → 0 ≤ Lc d ov q j * sl d (gt ov j) X t) :
    0 ≤ Lc d ov q 0 * sl d (idx d ov 0) X t + Lc d ov q 1 * sl d (idx d ov 1) X t + Lc d ov q 2 * sl d (idx d ov 2) X t ∧
    (c < d.n → 0 < Lc d ov q c * sl d (gt ov c) X t → 0 < Lc d ov q 0 * sl d (idx d ov 0) X t + Lc d ov q 1 * sl d (idx d ov 1) X t + Lc d ov q 2 * sl d (idx d ov 2) X t) := by
  have n3 := k.n3
  have all : ∀ j, j < 3 → 0 ≤ Lc d ov q j * sl d (idx d ov j) X t := fun j hj => by
    by_cases h : j < d.n
    · have e : idx d ov j = gt ov j := by unfold idx; rw [if_pos h]
      rw [e]
      exact h0 j h
    · rw [pad_zero k s.lo s.lto hq (by omega) hj]
      simp
  have a0 := all 0 (by omega)
  have a1 := all 1 (by omega)
  have a2 := all 2 (by omega)
  refine ⟨by omega, fun hc hp => ?_⟩
  have e : idx d ov c = gt ov c := by unfold idx; rw [if_pos hc]
  rw [← e] at hp
  match c, (show c < 3 by omega) with
  | 0, _ => omega
  | 1, _ => omega
  | 2, _ => omega
/-- a point that shows a state with k beside -/
structure Shows (d : Dat) (ov : List Nat) (k : Nat) (X : V3) (t : Int) : Prop where
  t0 : 0 ≤ t
  lo : ∀ i, i < k → i < d.F → 0 ≤ sl d i X t
  neg : sl d k X t < 0
  hi : ∀ i, k < i → i ∈ ov → sl d i X t = 0
theorem mem_gt {ov : List Nat} {n : Nat} (hl : ov.length = n) {i : Nat} (h : i ∈ ov) : ∃ j, j < n ∧ gt ov j = i := by
  obtain ⟨j, hj, e⟩ := gt_of h
  exact ⟨j, by omega, e⟩
theorem shows_prim {d : Dat} (k : d.Ok) {bs ov : List Nat} (s : Sok d bs ov) {r c : Nat} (hr : r < bs.length) (h : Prim d bs ov r c) : Shows d ov (gt bs r) (frm d ov).pt (frm d ov).sc := by
  refine ⟨Int.le_of_lt s.sc, fun i hi hF => ?_, ?_, fun i hi hm => ?_⟩
  · rw [sl_pt]
    rcases s.all i hF with hb | ho
    · have := h.2.1 i hi
      have : ¬ La d ov i < 0 := fun z => this (.inl ⟨hb, z⟩)
      omega
    · obtain ⟨j, hj, rfl⟩ := mem_gt s.lo ho
      rw [La_ov k hj]
      exact Int.le_refl _
  · rw [sl_pt]
    exact h.1
  · rw [sl_pt]
    obtain ⟨j, hj, rfl⟩ := mem_gt s.lo hm
    exact La_ov k hj
theorem shows_dual {d : Dat} (k : d.Ok) {bs ov : List Nat} (s : Sok d bs ov) {r c : Nat} (hr : r < bs.length) (hc : c < d.n) (hlt : gt ov c < gt bs r) (h : Dual d bs ov r c) : Shows d ov (gt bs r) ((frm d ov).ray c) 0 := by
  have sc := s.sc
  refine ⟨Int.le_refl _, fun i hi hF => ?_, ?_, fun i hi hm => ?_⟩
  · rw [sl_ray]
    rcases s.all i hF with hb | ho
    · have : ¬ 0 < Lc d ov i c := fun z => by
        have := h.2.2.2 i hb z
        omega
      omega
    · obtain ⟨j, hj, rfl⟩ := mem_gt s.lo ho
      rw [Lc_ov k hc hj]
      split <;> omega
  · rw [sl_ray]
    have := h.2.2.1
    omega
  · rw [sl_ray]
    obtain ⟨j, hj, rfl⟩ := mem_gt s.lo hm
    rw [Lc_ov k hc hj]
    split
    · rename_i e
      subst e
      omega
    · rfl
/-- what a row of a state with k over tells of such a point -/
theorem row_tells {d : Dat} (k : d.Ok) {bs ov ov' : List Nat} (s : Sok d bs ov) {q c : Nat} (hq : q ≤ d.F) (hc : c < d.n) (hn : Lc d ov q c < 0) (hl : ∀ j, j < d.n → gt ov j < gt ov c → 0 ≤ Lc d ov q j)
    {X : V3} {t : Int} (S : Shows d ov' (gt ov c) X t) (hs : ∀ j, gt ov c < j → j ∈ ov → j ∈ ov') : (frm d ov).sc * sl d q X t < t * La d ov q := by
  have e := eh_d d ov q X t
  have p := sum_pos (c := c) k s hq X t fun j hj => by
    have hF := s.lto _ (gt_mem (l := ov) (k := j) (by rw [s.lo]; exact hj))
    rcases Nat.lt_trichotomy (gt ov j) (gt ov c) with h | h | h
    · exact Int.mul_nonneg (hl j hj h) (S.lo _ h hF)
    · have : j = c := gt_inj s.ndo (by rw [s.lo]; exact hj) (by rw [s.lo]; exact hc) h
      subst this
      exact Int.le_of_lt (Int.mul_pos_of_neg_of_neg hn S.neg)
    · rw [S.hi _ h (hs _ h (gt_mem (by rw [s.lo]; exact hj)))]
      simp
  have := p.2 hc (Int.mul_pos_of_neg_of_neg hn S.neg)
  omega
/-- two moves of k, once from beside and once from over, with the same slacks above k: there are none -/
theorem no_two {d : Dat} (k : d.Ok) {bs ov bs' ov' : List Nat} (s : Sok d bs ov) (s' : Sok d bs' ov') {r c r' c' : Nat} (m : Move d bs ov r c) (m' : Move d bs' ov' r' c') (e : gt bs r = gt ov' c') (h1 : gt ov c < gt bs r) (h2 : gt bs' r' < gt ov' c')
    (hs : ∀ j, gt bs r < j → (j ∈ ov ↔ j ∈ ov')) : False := by
  have sc := s.sc
  have sc' := s'.sc
  have mb' : gt bs' r' ∈ bs' := gt_mem m'.hr
  have hF' := s'.ltb _ mb'
  have hs2 : ∀ j, gt ov' c' < j → j ∈ ov' → j ∈ ov := fun j hj hm => (hs j (by rw [e]; exact hj)).mpr hm
  have notw : ∀ {j : Nat}, (∀ j, j < gt ov' c' → ¬ Wrong d bs' ov' j) → ∀ i, i < d.n → gt ov' i < gt ov' c' → 0 ≤ Lc d ov' d.F i := fun h i hi hlt => by
    have := h _ hlt
    have : ¬ Lc d ov' d.F i < 0 := fun z => this (.inr ⟨i, hi, rfl, z⟩)
    omega
  rcases m.how with A | D0
  · have S := shows_prim k s m.hr A
    rw [e] at S
    rcases m'.how with C | B
    · -- k wrong beside, and k the partner of a row
      have hl : ∀ j, j < d.n → gt ov' j < gt ov' c' → 0 ≤ Lc d ov' (gt bs' r') j := fun j hj hlt => by
        have : ¬ Lc d ov' (gt bs' r') j < 0 := fun z => by
          have := C.2.2.2 j hj z
          omega
        omega
      have t := row_tells k s' (Nat.le_of_lt hF') m'.hc C.2.2.1 hl S hs2
      have a := S.lo _ h2 hF'
      have b := Int.mul_nonneg (Int.le_of_lt sc') a
      have g := Int.mul_neg_of_pos_of_neg sc C.1
      omega
    · -- k wrong beside, and k wrong over
      have t := row_tells k s' (Nat.le_refl _) m'.hc B.1 (notw (j := 0) B.2.1) S hs2
      rw [sl_pt] at t
      have e2 := eh_d d ov d.F (frm d ov').pt (frm d ov').sc
      rw [sl_pt] at e2
      have p := sum_pos (c := 0) k s (Nat.le_refl _) (frm d ov').pt (frm d ov').sc fun j hj => by
        have hF := s.lto _ (gt_mem (l := ov) (k := j) (by rw [s.lo]; exact hj))
        have mj : gt ov j ∈ ov := gt_mem (by rw [s.lo]; exact hj)
        rw [sl_pt]
        rcases Nat.lt_trichotomy (gt ov j) (gt bs r) with h | h | h
        · have l1 : ¬ Lc d ov d.F j < 0 := fun z => A.2.1 _ h (.inr ⟨j, hj, rfl, z⟩)
          have l2 : 0 ≤ La d ov' (gt ov j) := by
            rcases s'.all _ hF with hb | ho
            · have : ¬ La d ov' (gt ov j) < 0 := fun z => B.2.1 (gt ov j) (by omega) (.inl ⟨hb, z⟩)
              omega
            · obtain ⟨i, hi, ei⟩ := mem_gt s'.lo ho
              rw [← ei, La_ov k hi]
              exact Int.le_refl _
          exact Int.mul_nonneg (by omega) l2
        · exact absurd mj (by rw [h]; exact s.dis _ (gt_mem m.hr))
        · obtain ⟨i, hi, ei⟩ := mem_gt s'.lo ((hs _ h).mp mj)
          rw [← ei, La_ov k hi]
          simp
      have := p.1
      generalize La d ov d.F = x at *
      generalize La d ov' d.F = y at *
      generalize (frm d ov).sc = u at *
      generalize (frm d ov').sc = v at *
      have c1 : u * y = y * u := Int.mul_comm _ _
      have c2 : v * x = x * v := Int.mul_comm _ _
      omega
  · have S := shows_dual k s m.hr m.hc h1 D0
    rw [e] at S
    rcases m'.how with C | B
    · have hl : ∀ j, j < d.n → gt ov' j < gt ov' c' → 0 ≤ Lc d ov' (gt bs' r') j := fun j hj hlt => by
        have : ¬ Lc d ov' (gt bs' r') j < 0 := fun z => by
          have := C.2.2.2 j hj z
          omega
        omega
      have t := row_tells k s' (Nat.le_of_lt hF') m'.hc C.2.2.1 hl S hs2
      have a := S.lo _ h2 hF'
      have b := Int.mul_nonneg (Int.le_of_lt sc') a
      omega
    · have t := row_tells k s' (Nat.le_refl _) m'.hc B.1 (notw (j := 0) B.2.1) S hs2
      rw [sl_ray] at t
      have g : 0 < -Lc d ov d.F c := by
        have := D0.1
        omega
      have := Int.mul_pos sc' g
      omega
end D

set_option Elab.async false
set_option linter.all false
set_option maxRecDepth 100000
set_option maxHeartbeats 4000000
namespace D
/-! ### the moves are few -/
theorem mem_set_ne {l : List Nat} {i x j : Nat} (hi : i < l.length) (h1 : j ≠ x) (h2 : j ≠ gt l i) : j ∈ l.set i x ↔ j ∈ l := by
  constructor
  · intro h
    rcases List.mem_or_eq_of_mem_set h with z | z
    · exact z
    · exact absurd z h1
  · intro h
    obtain ⟨t, ht, e⟩ := gt_of h
    have : gt (l.set i x) t ∈ l.set i x := gt_mem (by simpa using ht)
    rw [gt_set hi, if_neg (fun z => h2 (by rw [← e, z]))] at this
    rw [← e]
    exact this
theorem mem_set_new {l : List Nat} {i x : Nat} (hi : i < l.length) : x ∈ l.set i x := by
  have : gt (l.set i x) i ∈ l.set i x := gt_mem (by simpa using hi)
  rw [gt_set hi, if_pos rfl] at this
  exact this
theorem not_mem_set {l : List Nat} {i x : Nat} (nd : l.Nodup) (hi : i < l.length) (h : gt l i ≠ x) : gt l i ∉ l.set i x := fun hm => by
  obtain ⟨t, ht, e⟩ := gt_of hm
  rw [gt_set hi] at e
  split at e
  · exact h e.symm
  · rename_i ne
    exact ne (gt_inj nd (by simpa using ht) hi e)
structure Hist (d : Dat) (T : Nat) (B O : Nat → List Nat) (r c : Nat → Nat) : Prop where
  s0 : Sok d (B 0) (O 0)
  mv : ∀ i, i < T → Move d (B i) (O i) (r i) (c i)
  nb : ∀ i, i < T → B (i + 1) = (B i).set (r i) (gt (O i) (c i))
  no : ∀ i, i < T → O (i + 1) = (O i).set (c i) (gt (B i) (r i))
section
variable {d : Dat} (k : d.Ok) {T : Nat} {B O : Nat → List Nat} {r c : Nat → Nat} (H : Hist d T B O r c)
include k H
theorem Hist.ok : ∀ i, i ≤ T → Sok d (B i) (O i)
  | 0, _ => H.s0
  | i + 1, h => by
    have s := Hist.ok i (by omega)
    rw [H.nb i (by omega), H.no i (by omega)]
    exact s.move k (H.mv i (by omega))
/-- the greater of the two that change places -/
def mx (B O : Nat → List Nat) (r c : Nat → Nat) (i : Nat) : Nat := max (gt (B i) (r i)) (gt (O i) (c i))
theorem Hist.far {K i : Nat} (hi : i < T) (h : mx B O r c i < K) : K ∈ O (i + 1) ↔ K ∈ O i := by
  have s := Hist.ok k H i (by omega)
  have m := H.mv i hi
  have l := s.lo
  have hc := m.hc
  unfold mx at h
  rw [H.no i hi]
  exact mem_set_ne (by omega) (by omega) (by omega)
theorem Hist.ne {i : Nat} (hi : i < T) : gt (B i) (r i) ≠ gt (O i) (c i) := fun e => by
  have s := Hist.ok k H i (by omega)
  have m := H.mv i hi
  have l := s.lo
  have hc := m.hc
  exact s.dis _ (gt_mem m.hr) (by rw [e]; exact gt_mem (by omega))
theorem Hist.turns {K i : Nat} (hi : i < T) (h : mx B O r c i = K) : (K ∈ O i → K ∉ O (i + 1) ∧ gt (O i) (c i) = K ∧ gt (B i) (r i) < K) ∧ (K ∉ O i → K ∈ O (i + 1) ∧ gt (B i) (r i) = K ∧ gt (O i) (c i) < K) := by
  have s := Hist.ok k H i (by omega)
  have m := H.mv i hi
  have l := s.lo
  have hc := m.hc
  have ne := H.ne k hi
  have mb : gt (B i) (r i) ∈ B i := gt_mem m.hr
  have mo : gt (O i) (c i) ∈ O i := gt_mem (by omega)
  unfold mx at h
  constructor
  · intro hm
    have e : gt (O i) (c i) = K := by
      rcases Nat.le_total (gt (B i) (r i)) (gt (O i) (c i)) with z | z
      · omega
      · have : gt (B i) (r i) = K := by omega
        exact absurd hm (by rw [← this]; exact s.dis _ mb)
    refine ⟨?_, e, by omega⟩
    rw [H.no i hi, ← e]
    exact not_mem_set s.ndo (by omega) ne.symm
  · intro hm
    have e : gt (B i) (r i) = K := by
      rcases Nat.le_total (gt (B i) (r i)) (gt (O i) (c i)) with z | z
      · have : gt (O i) (c i) = K := by omega
        exact absurd (this ▸ mo) hm
      · omega
    refine ⟨?_, e, by omega⟩
    rw [H.no i hi, ← e]
    exact mem_set_new (by omega)
theorem Hist.above {K a b : Nat} (hab : a ≤ b) (hb : b ≤ T) (h : ∀ i, a ≤ i → i < b → mx B O r c i < K) : K ∈ O b ↔ K ∈ O a := by
  obtain ⟨n, rfl⟩ := Nat.exists_eq_add_of_le hab
  clear hab
  induction n with
  | zero => exact Iff.rfl
  | succ n ih =>
    have e := ih (by omega) fun i h1 h2 => h i h1 (by omega)
    rw [← e]
    exact H.far (i := a + n) k (by omega) (h (a + n) (by omega) (by omega))
/-- of two moves of K, none greater between, one from beside and one from over: there are none -/
theorem Hist.same {K i j : Nat} (hij : i < j) (hj : j < T) (hi' : mx B O r c i = K) (hj' : mx B O r c j = K) (h : ∀ t, i ≤ t → t < j → mx B O r c t ≤ K) : K ∈ O i ↔ K ∈ O j := by
  have si := Hist.ok k H i (by omega)
  have sj := Hist.ok k H j (by omega)
  have mi := H.mv i (by omega)
  have mj := H.mv j hj
  have ti := H.turns k (by omega) hi'
  have tj := H.turns k hj hj'
  have ab : ∀ J, K < J → (J ∈ O i ↔ J ∈ O j) := fun J hJ => (H.above k (by omega) (by omega) fun t h1 h2 => by have := h t h1 h2; omega).symm
  constructor
  · intro a
    refine Classical.byContradiction fun b => ?_
    obtain ⟨_, e1, l1⟩ := ti.1 a
    obtain ⟨_, e2, l2⟩ := tj.2 b
    exact no_two k sj si mj mi (by rw [e1, e2]) (by omega) (by omega) fun J hJ => (ab J (by omega)).symm
  · intro b
    refine Classical.byContradiction fun a => ?_
    obtain ⟨_, e1, l1⟩ := ti.2 a
    obtain ⟨_, e2, l2⟩ := tj.1 b
    exact no_two k si sj mi mj (by rw [e1, e2]) (by omega) (by omega) fun J hJ => ab J (by omega)
theorem Hist.once {K a b i j : Nat} (hb : b ≤ T) (h : ∀ t, a ≤ t → t < b → mx B O r c t ≤ K) (ai : a ≤ i) (hij : i < j) (jb : j < b) (hi' : mx B O r c i = K) (hj' : mx B O r c j = K) : False := by
  have key : ∀ n, i + 1 + n ≤ j → (K ∈ O (i + 1 + n) ↔ K ∉ O i) := by
    intro n
    induction n with
    | zero =>
      intro _
      have t := H.turns k (by omega) hi'
      constructor
      · intro x y
        exact (t.1 y).1 x
      · intro y
        exact (t.2 y).1
    | succ n ih =>
      intro hn
      have e := ih (by omega)
      have le := h (i + 1 + n) (by omega) (by omega)
      rcases Nat.lt_or_ge (mx B O r c (i + 1 + n)) K with z | z
      · rw [← e]
        exact H.far (i := i + 1 + n) k (by omega) z
      · have eq : mx B O r c (i + 1 + n) = K := by omega
        have sm := H.same k (show i < i + 1 + n by omega) (by omega) hi' eq fun t h1 h2 => h t (by omega) (by omega)
        rw [← sm] at e
        by_cases q : K ∈ O i
        · exact absurd q (e.mp q)
        · exact absurd (e.mpr q) q
  obtain ⟨n, hn⟩ := Nat.exists_eq_add_of_le (show i + 1 ≤ j by omega)
  have e := key n (by omega)
  rw [← hn] at e
  have sm := H.same k hij (by omega) hi' hj' fun t h1 h2 => h t (by omega) (by omega)
  rw [← sm] at e
  by_cases q : K ∈ O i
  · exact absurd q (e.mp q)
  · exact absurd (e.mpr q) q
theorem Hist.seg : ∀ (K a b : Nat), a ≤ b → b ≤ T → (∀ i, a ≤ i → i < b → mx B O r c i < K) → b - a < 2 ^ K
  | 0, a, b, hab, hb, h => by
    have : a = b := by
      refine Classical.byContradiction fun ne => ?_
      have := h a (by omega) (by omega)
      omega
    omega
  | K + 1, a, b, hab, hb, h => by
    have p2 : 2 ^ (K + 1) = 2 ^ K + 2 ^ K := by rw [Nat.pow_succ]; omega
    by_cases ex : ∃ i, a ≤ i ∧ i < b ∧ mx B O r c i = K
    · obtain ⟨i, h1, h2, e⟩ := ex
      have u1 := Hist.seg K a i h1 (by omega) fun t t1 t2 => by
        have := h t t1 (by omega)
        refine Classical.byContradiction fun z => ?_
        exact H.once k hb (fun s s1 s2 => by have := h s s1 s2; omega) t1 t2 h2 (by omega) e
      have u2 := Hist.seg K (i + 1) b (by omega) hb fun t t1 t2 => by
        have := h t (by omega) t2
        refine Classical.byContradiction fun z => ?_
        exact H.once k hb (fun s s1 s2 => by have := h s s1 s2; omega) h1 (show i < t by omega) t2 e (by omega)
      omega
    · have u := Hist.seg K a b hab hb fun t t1 t2 => by
        have := h t t1 t2
        refine Classical.byContradiction fun z => ex ⟨t, t1, t2, by omega⟩
      omega
/-- all moves together -/
theorem Hist.few : T < 2 ^ d.F := by
  have z := H.seg k d.F 0 T (Nat.zero_le _) (Nat.le_refl _) fun i _ hi => by
    have s := Hist.ok k H i (by omega)
    have m := H.mv i hi
    have l := s.lo
    have hc := m.hc
    have h1 := s.ltb _ (gt_mem m.hr)
    have h2 := s.lto _ (gt_mem (l := O i) (k := c i) (by omega))
    unfold mx
    omega
  omega
end
end D

set_option Elab.async false
set_option linter.all false
set_option maxRecDepth 100000
set_option maxHeartbeats 4000000
namespace D
/-! ### what the loosening does, by its states -/
structure LS where
  bs : List Nat
  ov : List Nat
def wl (d : Dat) (s : LS) : List Int := ([(d.F : Int)] ++ ((List.range s.bs.length).filter fun i => decide (La d s.ov (gt s.bs i) < 0)).map fun (i : Nat) => ((gt s.bs i : Nat) : Int)) ++ ((List.range d.n).filter fun i => decide (Lc d s.ov d.F i < 0)).map fun (i : Nat) => ((gt s.ov i : Nat) : Int)
def wrongOf (d : Dat) (s : LS) : Int := least (wl d s)
def pl (d : Dat) (s : LS) (one : Nat) : List Int :=
  if one ∈ s.bs then [(d.F : Int)] ++ ((List.range d.n).filter fun i => decide (Lc d s.ov one i < 0)).map fun (i : Nat) => ((gt s.ov i : Nat) : Int)
  else [(d.F : Int)] ++ ((List.range s.bs.length).filter fun i => decide (0 < Lc d s.ov (gt s.bs i) (s.ov.idxOf one))).map fun (i : Nat) => ((gt s.bs i : Nat) : Int)
def partOf (d : Dat) (s : LS) (one : Nat) : Int := least (pl d s one)
theorem gt_idxOf {l : List Nat} {x : Nat} (h : x ∈ l) : l.idxOf x < l.length ∧ gt l (l.idxOf x) = x := by
  have hl : l.idxOf x < l.length := List.idxOf_lt_length_iff.mpr h
  refine ⟨hl, ?_⟩
  unfold gt
  rw [List.getD_eq_getElem?_getD, List.getElem?_eq_getElem hl]
  simp
theorem wrong_spec {d : Dat} {s : LS} (k : Sok d s.bs s.ov) : (wrongOf d s = d.F ∧ ∀ j, j < d.F → ¬ Wrong d s.bs s.ov j) ∨ (∃ one : Nat, wrongOf d s = one ∧ one < d.F ∧ Wrong d s.bs s.ov one ∧ ∀ j, j < one → ¬ Wrong d s.bs s.ov j) := by
  have hl : 0 < (wl d s).length := by simp [wl]
  have lm := least_mem hl
  have mem : ∀ x : Int, x ∈ wl d s ↔ (x = d.F ∨ ∃ j : Nat, x = j ∧ Wrong d s.bs s.ov j) := by
    intro x
    unfold wl
    simp only [List.mem_append, List.mem_singleton, List.mem_map, List.mem_filter, List.mem_range, decide_eq_true_eq]
    constructor
    · rintro ((h | ⟨i, ⟨h1, h2⟩, rfl⟩) | ⟨i, ⟨h1, h2⟩, rfl⟩)
      · exact .inl h
      · exact .inr ⟨_, rfl, .inl ⟨gt_mem h1, h2⟩⟩
      · exact .inr ⟨_, rfl, .inr ⟨i, h1, rfl, h2⟩⟩
    · rintro (h | ⟨j, rfl, (⟨h1, h2⟩ | ⟨i, h1, h2, h3⟩)⟩)
      · exact .inl (.inl h)
      · obtain ⟨i, hi, e⟩ := gt_of h1
        exact .inl (.inr ⟨i, ⟨hi, by rw [e]; exact h2⟩, by rw [e]⟩)
      · exact .inr ⟨i, ⟨h1, h3⟩, by rw [h2]⟩
  rcases (mem _).mp lm.1 with h | ⟨one, h1, h2⟩
  · refine .inl ⟨h, fun j hj hw => ?_⟩
    have := lm.2 (j : Int) ((mem _).mpr (.inr ⟨j, rfl, hw⟩))
    rw [h] at this
    omega
  · refine .inr ⟨one, h1, ?_, h2, fun j hj hw => ?_⟩
    · rcases h2 with h2 | ⟨i, hi, e, _⟩
      · exact k.ltb _ h2.1
      · rw [← e]
        exact k.lto _ (gt_mem (by rw [k.lo]; exact hi))
    · have := lm.2 (j : Int) ((mem _).mpr (.inr ⟨j, rfl, hw⟩))
      rw [h1] at this
      omega
/-- the places that change -/
def rowOf (d : Dat) (s : LS) : Nat := if (wrongOf d s).toNat ∈ s.bs then s.bs.idxOf (wrongOf d s).toNat else s.bs.idxOf (partOf d s (wrongOf d s).toNat).toNat
def colOf (d : Dat) (s : LS) : Nat := if (wrongOf d s).toNat ∈ s.bs then s.ov.idxOf (partOf d s (wrongOf d s).toNat).toNat else s.ov.idxOf (wrongOf d s).toNat
def stepOf (d : Dat) (s : LS) : LS := ⟨s.bs.set (rowOf d s) (gt s.ov (colOf d s)), s.ov.set (colOf d s) (gt s.bs (rowOf d s))⟩
/-- a wrong one, its partner: a move, or none -/
theorem part_spec {d : Dat} (K : d.Ok) {s : LS} (k : Sok d s.bs s.ov) {one : Nat} (h1 : wrongOf d s = one) (hF : one < d.F) (hw : Wrong d s.bs s.ov one) (hn : ∀ j, j < one → ¬ Wrong d s.bs s.ov j) :
    (partOf d s one = d.F ∧ ((one ∈ s.bs ∧ La d s.ov one < 0 ∧ ∀ i, i < d.n → 0 ≤ Lc d s.ov one i) ∨ (∃ c, one ∉ s.bs ∧ c < d.n ∧ gt s.ov c = one ∧ Lc d s.ov d.F c < 0 ∧ ∀ q ∈ s.bs, Lc d s.ov q c ≤ 0))) ∨
    (∃ other : Nat, partOf d s one = other ∧ other < d.F ∧ Move d s.bs s.ov (rowOf d s) (colOf d s) ∧ ((one ∈ s.bs ∧ other ∈ s.ov ∧ rowOf d s = s.bs.idxOf one ∧ colOf d s = s.ov.idxOf other) ∨ (one ∉ s.bs ∧ one ∈ s.ov ∧ other ∈ s.bs ∧ rowOf d s = s.bs.idxOf other ∧ colOf d s = s.ov.idxOf one))) := by
  have hl : 0 < (pl d s one).length := by
    unfold pl
    split <;> simp
  have lm := least_mem hl
  have lo := k.lo
  have e1 : (wrongOf d s).toNat = one := by rw [h1]; simp
  by_cases hb : one ∈ s.bs
  · have la : La d s.ov one < 0 := by
      rcases hw with h | ⟨i, hi, e, _⟩
      · exact h.2
      · exact absurd (gt_mem (l := s.ov) (k := i) (by omega)) (by rw [e]; exact k.dis _ hb)
    have mem : ∀ x : Int, x ∈ pl d s one ↔ (x = d.F ∨ ∃ i : Nat, i < d.n ∧ Lc d s.ov one i < 0 ∧ x = gt s.ov i) := by
      intro x
      unfold pl
      rw [if_pos hb]
      simp only [List.mem_append, List.mem_singleton, List.mem_map, List.mem_filter, List.mem_range, decide_eq_true_eq]
      constructor
      · rintro (h | ⟨i, ⟨h1, h2⟩, rfl⟩)
        · exact .inl h
        · exact .inr ⟨i, h1, h2, rfl⟩
      · rintro (h | ⟨i, h1, h2, rfl⟩)
        · exact .inl h
        · exact .inr ⟨i, ⟨h1, h2⟩, rfl⟩
    rcases (mem _).mp lm.1 with h | ⟨i, hi, hneg, he⟩
    · refine .inl ⟨h, .inl ⟨hb, la, fun i hi => ?_⟩⟩
      refine Classical.byContradiction fun z => ?_
      have := lm.2 (gt s.ov i : Int) ((mem _).mpr (.inr ⟨i, hi, by omega, rfl⟩))
      rw [h] at this
      have := k.lto _ (gt_mem (l := s.ov) (k := i) (by omega))
      omega
    · have mo : gt s.ov i ∈ s.ov := gt_mem (by omega)
      have gi := gt_idxOf hb
      have go := gt_idxOf mo
      have e2 : (partOf d s one).toNat = gt s.ov i := by
        show (least (pl d s one)).toNat = _
        rw [he]
        simp
      have er : rowOf d s = s.bs.idxOf one := by
        unfold rowOf
        rw [e1, if_pos hb]
      have ec : colOf d s = s.ov.idxOf (gt s.ov i) := by
        unfold colOf
        rw [e1, if_pos hb, e2]
      have ci : s.ov.idxOf (gt s.ov i) = i := gt_inj k.ndo go.1 (by omega) go.2
      refine .inr ⟨gt s.ov i, he, k.lto _ mo, ⟨by rw [er]; exact gi.1, by rw [ec, ci]; exact hi, .inl ?_⟩, .inl ⟨hb, mo, er, ec⟩⟩
      rw [er, ec, ci]
      refine ⟨by rw [gi.2]; exact la, by rw [gi.2]; exact hn, by rw [gi.2]; exact hneg, fun j hj hneg' => ?_⟩
      rw [gi.2] at hneg'
      have := lm.2 (gt s.ov j : Int) ((mem _).mpr (.inr ⟨j, hj, hneg', rfl⟩))
      rw [he] at this
      omega
  · have ho : one ∈ s.ov := by
      rcases k.all one hF with h | h
      · exact absurd h hb
      · exact h
    have go := gt_idxOf ho
    have lf : Lc d s.ov d.F (s.ov.idxOf one) < 0 := by
      rcases hw with h | ⟨i, hi, e, hneg⟩
      · exact absurd h.1 hb
      · have : s.ov.idxOf one = i := gt_inj k.ndo go.1 (by omega) (go.2.trans e.symm)
        rw [this]
        exact hneg
    have mem : ∀ x : Int, x ∈ pl d s one ↔ (x = d.F ∨ ∃ i : Nat, i < s.bs.length ∧ 0 < Lc d s.ov (gt s.bs i) (s.ov.idxOf one) ∧ x = gt s.bs i) := by
      intro x
      unfold pl
      rw [if_neg hb]
      simp only [List.mem_append, List.mem_singleton, List.mem_map, List.mem_filter, List.mem_range, decide_eq_true_eq]
      constructor
      · rintro (h | ⟨i, ⟨h1, h2⟩, rfl⟩)
        · exact .inl h
        · exact .inr ⟨i, h1, h2, rfl⟩
      · rintro (h | ⟨i, h1, h2, rfl⟩)
        · exact .inl h
        · exact .inr ⟨i, ⟨h1, h2⟩, rfl⟩
    rcases (mem _).mp lm.1 with h | ⟨i, hi, hpos, he⟩
    · refine .inl ⟨h, .inr ⟨s.ov.idxOf one, hb, by omega, go.2, lf, fun q hq => ?_⟩⟩
      refine Classical.byContradiction fun z => ?_
      obtain ⟨i, hi, e⟩ := gt_of hq
      have := lm.2 (gt s.bs i : Int) ((mem _).mpr (.inr ⟨i, hi, by rw [e]; omega, rfl⟩))
      rw [h] at this
      have := k.ltb _ (gt_mem (l := s.bs) (k := i) hi)
      omega
    · have mb : gt s.bs i ∈ s.bs := gt_mem hi
      have gi := gt_idxOf mb
      have e2 : (partOf d s one).toNat = gt s.bs i := by
        show (least (pl d s one)).toNat = _
        rw [he]
        simp
      have er : rowOf d s = s.bs.idxOf (gt s.bs i) := by
        unfold rowOf
        rw [e1, if_neg hb, e2]
      have ec : colOf d s = s.ov.idxOf one := by
        unfold colOf
        rw [e1, if_neg hb]
      refine .inr ⟨gt s.bs i, he, k.ltb _ mb, ⟨by rw [er]; exact gi.1, by rw [ec]; omega, .inr ?_⟩, .inr ⟨hb, ho, mb, er, ec⟩⟩
      rw [er, ec]
      refine ⟨lf, by rw [go.2]; exact hn, by rw [gi.2]; exact hpos, fun q hq hq2 => ?_⟩
      rw [gi.2]
      obtain ⟨j, hj, e⟩ := gt_of hq
      have := lm.2 (gt s.bs j : Int) ((mem _).mpr (.inr ⟨j, hj, by rw [e]; exact hq2, rfl⟩))
      rw [he, e] at this
      omega
/-- a wrong one over always has a partner: the boxes end -/
theorem no_ray {d : Dat} (K : d.Ok) {s : LS} (k : Sok d s.bs s.ov) {c : Nat} (hc : c < d.n) (hq : ∀ q ∈ s.bs, Lc d s.ov q c ≤ 0) : False := by
  have sc := k.sc
  have n3 := K.n3
  have F2 := K.F2
  have all : ∀ j, j < d.F → 0 ≤ sl d j ((frm d s.ov).ray c) 0 := fun j hj => by
    rw [sl_ray]
    rcases k.all j hj with hb | ho
    · have := hq j hb
      omega
    · obtain ⟨i, hi, rfl⟩ := mem_gt k.lo ho
      rw [Lc_ov K hc hi]
      split <;> omega
  have self : 0 < sl d (gt s.ov c) ((frm d s.ov).ray c) 0 := by
    rw [sl_ray, Lc_ov K hc hc, if_pos rfl]
    omega
  generalize (frm d s.ov).ray c = X at all self
  have oF : gt s.ov c < d.F := k.lto _ (gt_mem (by rw [k.lo]; exact hc))
  have zero : ∀ u, u < d.n → (pad u).dot X = 0 := fun u hu => by
    have h1 := all (d.F - 2 * d.n + 2 * u) (by omega)
    have h2 := all (d.F - 2 * d.n + 2 * u + 1) (by omega)
    unfold sl slk at h1 h2
    rw [K.up u hu] at h1
    rw [K.lw u hu] at h2
    match u, (show u < 3 by omega) with
    | 0, _ =>
      simp only [pad, npad, V3.dot] at h1 h2 ⊢
      omega
    | 1, _ =>
      simp only [pad, npad, V3.dot] at h1 h2 ⊢
      omega
    | 2, _ =>
      simp only [pad, npad, V3.dot] at h1 h2 ⊢
      omega
  have x0 : X.x = 0 := by
    have := zero 0 (by have := K.n1; omega)
    simpa [pad, V3.dot] using this
  have yy : (d.a (gt s.ov c)).y * X.y = 0 := by
    by_cases h : d.n < 2
    · rw [K.fy h _ (Nat.le_of_lt oF)]
      simp
    · have : X.y = 0 := by
        have := zero 1 (by omega)
        simpa [pad, V3.dot] using this
      rw [this]
      simp
  have zz : (d.a (gt s.ov c)).z * X.z = 0 := by
    by_cases h : d.n < 3
    · rw [K.fz h _ (Nat.le_of_lt oF)]
      simp
    · have : X.z = 0 := by
        have := zero 2 (by omega)
        simpa [pad, V3.dot] using this
      rw [this]
      simp
  unfold sl slk V3.dot at self
  rw [x0, yy, zz] at self
  simp at self
/-- the states one behind another -/
def sts (d : Dat) (s : LS) : Nat → LS
  | 0 => s
  | i + 1 => stepOf d (sts d s i)
/-- so far each turn was a move -/
def Going (d : Dat) (s : LS) (T : Nat) : Prop := ∀ i, i < T → wrongOf d (sts d s i) < d.F ∧ partOf d (sts d s i) (wrongOf d (sts d s i)).toNat < d.F
theorem Going.ok {d : Dat} (K : d.Ok) {s : LS} (k : Sok d s.bs s.ov) : ∀ {T : Nat}, Going d s T → Sok d (sts d s T).bs (sts d s T).ov ∧ ∀ i, i < T → Move d (sts d s i).bs (sts d s i).ov (rowOf d (sts d s i)) (colOf d (sts d s i))
  | 0, _ => ⟨k, fun i h => by omega⟩
  | T + 1, g => by
    have ih := Going.ok K k (T := T) fun i h => g i (by omega)
    have gT := g T (by omega)
    have m : Move d (sts d s T).bs (sts d s T).ov (rowOf d (sts d s T)) (colOf d (sts d s T)) := by
      rcases wrong_spec ih.1 with h | ⟨one, h1, h2, h3, h4⟩
      · have := h.1
        omega
      · rw [h1] at gT
        rcases part_spec K ih.1 h1 h2 h3 h4 with h | ⟨other, _, _, m, _⟩
        · have := h.1
          have := gT.2
          simp at this
          omega
        · exact m
    refine ⟨ih.1.move K m, fun i h => ?_⟩
    by_cases e : i = T
    · rw [e]
      exact m
    · exact ih.2 i (by omega)
theorem Going.few {d : Dat} (K : d.Ok) {s : LS} (k : Sok d s.bs s.ov) {T : Nat} (g : Going d s T) : T < 2 ^ d.F := by
  have o := Going.ok K k g
  exact Hist.few K (T := T) (B := fun i => (sts d s i).bs) (O := fun i => (sts d s i).ov) (r := fun i => rowOf d (sts d s i)) (c := fun i => colOf d (sts d s i)) ⟨k, o.2, fun i _ => rfl, fun i _ => rfl⟩
/-- there is a last state -/
theorem last_turn {d : Dat} (K : d.Ok) {s : LS} (k : Sok d s.bs s.ov) : ∃ T, Going d s T ∧ ¬ Going d s (T + 1) := by
  refine Classical.byContradiction fun h => ?_
  have all : ∀ T, Going d s T := fun T => by
    induction T with
    | zero => exact fun i h => by omega
    | succ T ih =>
      refine Classical.byContradiction fun z => h ⟨T, ih, z⟩
  have := Going.few K k (all (2 ^ d.F))
  omega
end D

set_option Elab.async false
set_option linter.all false
set_option maxRecDepth 100000
set_option maxHeartbeats 4000000
namespace D
open PySem PySem.Spec PyProof.Rows L2
open ToPy (py)
local macro_rules | `(tactic| walk_at "side") => `(tactic| first | assumption | omega | (refine Int.emod_nonneg _ ?_; omega) | (refine Int.emod_lt_of_pos _ ?_; omega) | (simp at *; omega) | (simp; done) | decide | skip)
local macro_rules | `(tactic| walk_at "d") => `(tactic| first
  | with_reducible exact ev_int | with_reducible exact ev_str | with_reducible exact ev_bl | with_reducible exact ev_non
  | exact ev_var rfl
  | with_reducible exact ev_ty
  | with_reducible exact ev_cls
  | ((with_reducible apply ev_op) <;> walk_at "d")
  | ((with_reducible apply ev_un) <;> walk_at "d")
  | ((with_reducible apply ev_call) <;> walk_at "d")
  | ((with_reducible apply ev_callX) <;> walk_at "d")
  | ((with_reducible apply ev_cb) <;> walk_at "d")
  | with_reducible exact ea_nil
  | ((with_reducible apply ea_cons) <;> walk_at "d")
  | with_reducible exact s_add
  | with_reducible exact s_sub
  | with_reducible exact s_lt
  | with_reducible exact s_le
  | with_reducible exact s_gt
  | with_reducible exact s_ge
  | with_reducible exact s_eqI
  | with_reducible exact s_neI
  | with_reducible exact s_eqS
  | with_reducible exact s_neS
  | with_reducible exact s_neB
  | exact s_eqSame (sh_ints2 _) | exact s_neSame (sh_ints2 _) | exact s_eqSame (sh_ints _) | exact s_neSame (sh_ints _)
  | ((with_reducible apply s_mod) <;> walk_at "side")
  | walk_at "div" | walk_at "mul"
  | ((with_reducible apply s_catL) <;> walk_at "side")
  | ((with_reducible apply s_repL) <;> walk_at "side")
  | with_reducible exact s_fst
  | with_reducible exact s_snd
  | with_reducible exact s_t0
  | with_reducible exact s_t1
  | with_reducible exact s_t2
  | ((with_reducible apply s_last) <;> walk_at "side")
  | ((with_reducible apply s_ixS) <;> walk_at "side")
  | ((with_reducible apply s_ix) <;> walk_at "side")
  | ((with_reducible apply s_ixT) <;> walk_at "side")
  | with_reducible exact s_negI
  | with_reducible exact c_len
  | with_reducible exact c_lI
  | with_reducible exact c_tI
  | with_reducible exact c_pI
  | with_reducible exact c_t3I
  | with_reducible exact c_sI
  | with_reducible exact c_iI
  | with_reducible exact c_iB
  | with_reducible exact c_lenP
  | with_reducible exact c_len3
  | with_reducible exact c_isInt
  | with_reducible exact c_isBool
  | with_reducible exact c_isStr
  | with_reducible exact c_isList
  | with_reducible exact c_isTup
  | with_reducible exact c_lenTup
  | with_reducible exact c_lenScr
  | with_reducible exact c_listD
  | with_reducible exact c_listTD
  | with_reducible exact c_tup
  | with_reducible exact c_abs
  | with_reducible exact c_min2
  | with_reducible exact c_max2
  | with_reducible exact c_intB
  | with_reducible exact c_sum
  | ((with_reducible apply c_min) <;> walk_at "side")
  | ((with_reducible apply c_max) <;> walk_at "side")
  | ((with_reducible apply et_val) <;> walk_at "d")
  | ((with_reducible apply et_test) <;> walk_at "d")
  | ((with_reducible apply et_not) <;> walk_at "d")
  | ((with_reducible apply et_and) <;> (try with_reducible intro _) <;> walk_at "d")
  | ((with_reducible apply et_or) <;> (try with_reducible intro _) <;> walk_at "d")
  | ((with_reducible apply ev_and) <;> (try with_reducible intro _) <;> walk_at "d")
  | ((with_reducible apply ev_or) <;> (try with_reducible intro _) <;> walk_at "d")
  | ((with_reducible apply ev_chain) <;> (try with_reducible intro _) <;> walk_at "d")
  | ((with_reducible apply ev_not) <;> walk_at "d")
  | ((with_reducible apply ev_pair) <;> walk_at "d")
  | ((with_reducible apply ev_t3) <;> walk_at "d")
  | ((with_reducible apply ev_lst1) <;> walk_at "d")
  | ((with_reducible apply ev_lst2) <;> walk_at "d")
  | ((with_reducible apply ev_lst3) <;> walk_at "d")
  | ((with_reducible apply ev_lst4) <;> walk_at "d")
  | ((with_reducible apply ev_cut) <;> walk_at "d")
  | ((with_reducible apply ep_some) <;> walk_at "d")
  | ((with_reducible apply EvD.s) <;> walk_at "d")
  | ((with_reducible apply EvT.s) <;> walk_at "d")
  | ((with_reducible apply EvN.s) <;> walk_at "d")
  | ((with_reducible apply en_lst1) <;> walk_at "d")
  | ((with_reducible apply en_lst2) <;> walk_at "d")
  | ((with_reducible apply en_lst3) <;> walk_at "d")
  | ((with_reducible apply en_lst4) <;> walk_at "d")
  | ((with_reducible apply en_cut) <;> walk_at "d")
  | with_reducible exact ev_lst0
  | with_reducible exact ep_none
  | with_reducible exact en_lst0
  | ((with_reducible apply wi_L) <;> walk_at "d")
  | ((with_reducible apply wi_T) <;> walk_at "d")
  | ((with_reducible apply wi_zip) <;> walk_at "d")
  | ((with_reducible apply WiD.s) <;> walk_at "d")
  | ((with_reducible apply wi_range) <;> walk_at "side")
  | exact spec_cell (by omega) (by omega)
  | skip)
local macro_rules | `(tactic| walk_at "div") => `(tactic| first
  | exact s_div ⟨by omega, by omega⟩
  | exact s_divW (wd_div (by first | assumption | omega) (by assumption))
  | with_reducible apply s_div)
local macro_rules | `(tactic| walk_at "mul") => `(tactic| first
  | exact s_mul (Or.inl ⟨by omega, by omega⟩) | exact s_mul (Or.inr ⟨by omega, by omega⟩)
  | exact s_mulW (wd_mul (by assumption) (by assumption))
  | with_reducible apply s_mulW)
local macro_rules | `(tactic| walk_at "fg") => `(tactic| repeat (first | exact Fg.nil | apply Fg.same | apply Fg.drop | (refine Fg.eq ?_ ?_; rotate_left)))
local macro_rules | `(tactic| walk_at "end") => `(tactic| exact bd_turnE trivial rfl (by walk_at "fg"))
local macro_rules | `(tactic| walk_at "range") => `(tactic| (apply WiD.s; apply wi_range; (walk_at "d"); omega; omega))
local macro_rules | `(tactic| walk_at "app") => `(tactic| (refine' bd_appR 0 ?_ rfl ?_ ?_ ?_ ?_; (walk_at "d"); (walk_at "d"); rotate_right))
local macro_rules | `(tactic| walk_at "lend") => `(tactic| repeat (first | exact LendC.nil | apply LendC.no | (apply LendC.one; (exact lend_list 0 rfl)) | (apply LendC.one; (exact lend_same))))
/-! ### a problem and a box as a loosening's data -/
def v3 (l : List Int) : V3 := ⟨at_ l 0, at_ l 1, at_ l 2⟩
def lowsOf (box : Box) : List Int := (List.range box.length).map fun i => (at_ box i).1
def negG (p : Prob) : List Int := (List.range p.gain.length).map fun i => 0 - at_ p.gain i
def fN (p : Prob) (box : Box) : Nat := p.rows.length + 2 * box.length
def numsOf (p : Prob) (box : Box) (j : Nat) : List Int := if j < fN p box then (factAt p box j).1.l else negG p
def datOf (p : Prob) (box : Box) : Dat where
  n := box.length
  F := fN p box
  a j := if j < fN p box + 1 then v3 (numsOf p box j) else pad (j - (fN p box + 1))
  b j := if j < fN p box then (factAt p box j).2 else if j = fN p box then 0 - dot p.gain (lowsOf box) else 0
theorem at_zero {l : List Int} {k : Nat} (h : l.length ≤ k) : at_ l k = 0 := by
  unfold at_
  rw [List.getD_eq_getElem?_getD, List.getElem?_eq_none h]
  rfl
theorem len3 {l : List Int} (h : l.length ≤ 3) : l = [] ∨ (∃ a, l = [a]) ∨ (∃ a b, l = [a, b]) ∨ (∃ a b c, l = [a, b, c]) := by
  match l, h with
  | [], _ => exact .inl rfl
  | [a], _ => exact .inr (.inl ⟨a, rfl⟩)
  | [a, b], _ => exact .inr (.inr (.inl ⟨a, b, rfl⟩))
  | [a, b, c], _ => exact .inr (.inr (.inr ⟨a, b, c, rfl⟩))
  | _ :: _ :: _ :: _ :: _, h => simp at h
theorem dot_v3 {xs ys : List Int} (h : xs.length = ys.length) (h3 : xs.length ≤ 3) : dot xs ys = (v3 xs).dot (v3 ys) := by
  unfold dot
  have e0 : ∀ k, xs.length ≤ k → at_ xs k = 0 := fun k => at_zero
  unfold v3 V3.dot
  have : xs.length = 0 ∨ xs.length = 1 ∨ xs.length = 2 ∨ xs.length = 3 := by omega
  rcases this with e | e | e | e <;> rw [e] <;> simp [List.range_succ]
  · rw [e0 0 (by omega), e0 1 (by omega), e0 2 (by omega)]; simp
  · rw [e0 1 (by omega), e0 2 (by omega)]; simp
  · rw [e0 2 (by omega)]; simp
  · omega
theorem nums_len {p : Prob} {box : Box} (k : p.Ok) (hb : BoxOk p box) (j : Nat) : (numsOf p box j).length = box.length := by
  unfold numsOf
  split
  · rename_i h
    exact (fact_num k hb h).1
  · unfold negG
    rw [List.length_map, List.length_range, k.gl, hb.len]
theorem nums_bnd {p : Prob} {box : Box} (k : p.Ok) (hb : BoxOk p box) (j : Nat) : ∀ x ∈ numsOf p box j, -50 ≤ x ∧ x ≤ 50 := by
  intro x hx
  unfold numsOf at hx
  split at hx
  · rename_i h
    exact (fact_num k hb h).2 x hx
  · unfold negG at hx
    obtain ⟨i, hi, rfl⟩ := List.mem_map.mp hx
    have := k.gn _ (at_mem (List.mem_range.mp hi))
    omega
theorem fact_up {p : Prob} {box : Box} {u : Nat} (hu : u < box.length) : factAt p box (p.rows.length + 2 * u) = (aloneT box.length u 1, (at_ box u).2) := by
  unfold factAt
  rw [if_neg (by omega), if_pos (by omega)]
  have : (p.rows.length + 2 * u - p.rows.length) / 2 = u := by omega
  rw [this]
theorem fact_lw {p : Prob} {box : Box} {u : Nat} (hu : u < box.length) : factAt p box (p.rows.length + 2 * u + 1) = (aloneT box.length u (-1), 0 - (at_ box u).1) := by
  unfold factAt
  rw [if_neg (by omega), if_neg (by omega)]
  have : (p.rows.length + 2 * u + 1 - p.rows.length) / 2 = u := by omega
  rw [this]
theorem v3_alone {n u : Nat} (hn : n ≤ 3) (hu : u < n) : v3 (aloneT n u 1).l = pad u ∧ v3 (aloneT n u (-1)).l = npad u := by
  match n, u, hn, hu with
  | 1, 0, _, _ => exact ⟨rfl, rfl⟩
  | 2, 0, _, _ => exact ⟨rfl, rfl⟩
  | 2, 1, _, _ => exact ⟨rfl, rfl⟩
  | 3, 0, _, _ => exact ⟨rfl, rfl⟩
  | 3, 1, _, _ => exact ⟨rfl, rfl⟩
  | 3, 2, _, _ => exact ⟨rfl, rfl⟩
theorem dat_a {p : Prob} {box : Box} {j : Nat} (hj : j ≤ fN p box) : (datOf p box).a j = v3 (numsOf p box j) := by
  show (if j < fN p box + 1 then v3 (numsOf p box j) else _) = _
  rw [if_pos (by omega)]
theorem dat_b {p : Prob} {box : Box} {j : Nat} (hj : j < fN p box) : (datOf p box).b j = (factAt p box j).2 := by
  show (if j < fN p box then _ else _) = _
  rw [if_pos hj]
theorem dat_bF {p : Prob} {box : Box} : (datOf p box).b (fN p box) = 0 - dot p.gain (lowsOf box) := by
  show (if fN p box < fN p box then _ else if fN p box = fN p box then _ else _) = _
  rw [if_neg (by omega), if_pos rfl]
theorem dat_ok {p : Prob} {box : Box} (k : p.Ok) (hb : BoxOk p box) : (datOf p box).Ok := by
  have n1 : 1 ≤ box.length := by rw [hb.len]; exact k.n1
  have n3 : box.length ≤ 3 := by rw [hb.len]; exact k.n3
  refine ⟨n1, n3, ?_, ?_, ?_, ?_, ?_, ?_, ?_⟩
  · show 2 * box.length ≤ fN p box
    unfold fN
    omega
  · intro j h1 h3
    show (if fN p box + 1 + j < fN p box + 1 then _ else pad (fN p box + 1 + j - (fN p box + 1))) = pad j
    rw [if_neg (by omega)]
    congr 1
    omega
  · intro j h1 h3
    show (if fN p box + 1 + j < fN p box then _ else if fN p box + 1 + j = fN p box then _ else 0) = 0
    rw [if_neg (by omega), if_neg (by omega)]
  · intro h j hj
    rw [dat_a hj]
    have hl : box.length < 2 := h
    exact at_zero (by rw [nums_len k hb]; omega)
  · intro h j hj
    rw [dat_a hj]
    have hl : box.length < 3 := h
    exact at_zero (by rw [nums_len k hb]; omega)
  · intro u hu
    have hu : u < box.length := hu
    have e : (datOf p box).F - 2 * (datOf p box).n + 2 * u = p.rows.length + 2 * u := by
      show fN p box - 2 * box.length + 2 * u = _
      unfold fN
      omega
    have hF : p.rows.length + 2 * u < fN p box := by unfold fN; omega
    rw [e, dat_a (by omega)]
    unfold numsOf
    rw [if_pos hF, fact_up hu]
    exact (v3_alone n3 hu).1
  · intro u hu
    have hu : u < box.length := hu
    have e : (datOf p box).F - 2 * (datOf p box).n + 2 * u + 1 = p.rows.length + 2 * u + 1 := by
      show fN p box - 2 * box.length + 2 * u + 1 = _
      unfold fN
      omega
    have hF : p.rows.length + 2 * u + 1 < fN p box := by unfold fN; omega
    rw [e, dat_a (by omega)]
    unfold numsOf
    rw [if_pos hF, fact_lw hu]
    exact (v3_alone n3 hu).2
/-! the first state -/
def s0 (p : Prob) (box : Box) : LS := ⟨List.range p.rows.length ++ (List.range box.length).map (fun u => p.rows.length + 2 * u), (List.range box.length).map (fun u => p.rows.length + 2 * u + 1)⟩
theorem gt_map_range {g : Nat → Nat} {n i : Nat} (h : i < n) : gt ((List.range n).map g) i = g i := by
  unfold gt
  rw [List.getD_eq_getElem?_getD, List.getElem?_map, List.getElem?_range h]
  rfl
/-- the frame of the first state, number by number -/
structure Ini (f : Fr) (n : Nat) (lows : List Int) : Prop where
  det : f.det = 1 ∨ f.det = -1
  L : ∀ a : V3, (n < 2 → a.y = 0) → (n < 3 → a.z = 0) → (0 < n → f.L a 0 = a.x) ∧ (1 < n → f.L a 1 = a.y) ∧ (2 < n → f.L a 2 = a.z)
  last : ∀ (a : V3) (b : Int), (n < 2 → a.y = 0) → (n < 3 → a.z = 0) → f.last a b = b - a.dot (v3 lows)
theorem ini_frm {p : Prob} {box : Box} (k : p.Ok) (hb : BoxOk p box) : Ini (frm (datOf p box) (s0 p box).ov) box.length (lowsOf box) := by
  have n1 : 1 ≤ box.length := by rw [hb.len]; exact k.n1
  have n3 : box.length ≤ 3 := by rw [hb.len]; exact k.n3
  have K := dat_ok k hb
  have ia : ∀ u, u < box.length → (datOf p box).a (idx (datOf p box) (s0 p box).ov u) = npad u ∧ (datOf p box).b (idx (datOf p box) (s0 p box).ov u) = 0 - at_ (lowsOf box) u := fun u hu => by
    have e : idx (datOf p box) (s0 p box).ov u = p.rows.length + 2 * u + 1 := by
      unfold idx
      rw [if_pos (show u < (datOf p box).n from hu)]
      exact gt_map_range hu
    have hF : p.rows.length + 2 * u + 1 < fN p box := by unfold fN; omega
    rw [e, dat_a (by omega), dat_b hF]
    unfold numsOf
    rw [if_pos hF, fact_lw hu]
    refine ⟨(v3_alone n3 hu).2, ?_⟩
    unfold lowsOf
    rw [at_map_range _ hu]
  have ja : ∀ u, box.length ≤ u → u < 3 → (datOf p box).a (idx (datOf p box) (s0 p box).ov u) = pad u ∧ (datOf p box).b (idx (datOf p box) (s0 p box).ov u) = 0 := fun u hu h3 => by
    have e : idx (datOf p box) (s0 p box).ov u = (datOf p box).F + 1 + u := by
      unfold idx
      rw [if_neg (by show ¬ u < box.length; omega)]
    rw [e]
    exact ⟨K.pa u hu h3, K.pb u hu h3⟩
  have lz : ∀ u, box.length ≤ u → at_ (lowsOf box) u = 0 := fun u hu => at_zero (by simp [lowsOf]; exact hu)
  have cs : box.length = 1 ∨ box.length = 2 ∨ box.length = 3 := by omega
  unfold frm
  rcases cs with e | e | e
  · rw [(ia 0 (by omega)).1, (ia 0 (by omega)).2, (ja 1 (by omega) (by omega)).1, (ja 1 (by omega) (by omega)).2, (ja 2 (by omega) (by omega)).1, (ja 2 (by omega) (by omega)).2]
    rw [e]
    have l1 := lz 1 (by omega)
    have l2 := lz 2 (by omega)
    refine ⟨.inr (by simp [Fr.det, V3.dot, V3.cross, npad, pad]), fun a hy hz => ?_, fun a b hy hz => ?_⟩
    · refine ⟨fun _ => ?_, fun h => by omega, fun h => by omega⟩
      simp [Fr.L, Fr.det, Fr.cof, V3.dot, V3.cross, npad, pad, sgn]
    · have y := hy (by omega)
      have z := hz (by omega)
      simp [Fr.last, Fr.sc, Fr.L, Fr.det, Fr.cof, V3.dot, V3.cross, npad, pad, sgn, v3, y, z]
      grind
  · rw [(ia 0 (by omega)).1, (ia 0 (by omega)).2, (ia 1 (by omega)).1, (ia 1 (by omega)).2, (ja 2 (by omega) (by omega)).1, (ja 2 (by omega) (by omega)).2]
    rw [e]
    have l2 := lz 2 (by omega)
    refine ⟨.inl (by simp [Fr.det, V3.dot, V3.cross, npad, pad]), fun a hy hz => ?_, fun a b hy hz => ?_⟩
    · refine ⟨fun _ => ?_, fun _ => ?_, fun h => by omega⟩ <;> simp [Fr.L, Fr.det, Fr.cof, V3.dot, V3.cross, npad, pad, sgn]
    · have z := hz (by omega)
      simp [Fr.last, Fr.sc, Fr.L, Fr.det, Fr.cof, V3.dot, V3.cross, npad, pad, sgn, v3, z]
      grind
  · rw [(ia 0 (by omega)).1, (ia 0 (by omega)).2, (ia 1 (by omega)).1, (ia 1 (by omega)).2, (ia 2 (by omega)).1, (ia 2 (by omega)).2]
    rw [e]
    refine ⟨.inr (by simp [Fr.det, V3.dot, V3.cross, npad, pad]), fun a hy hz => ?_, fun a b hy hz => ?_⟩
    · refine ⟨fun _ => ?_, fun _ => ?_, fun _ => ?_⟩ <;> simp [Fr.L, Fr.det, Fr.cof, V3.dot, V3.cross, npad, pad, sgn]
    · simp [Fr.last, Fr.sc, Fr.L, Fr.det, Fr.cof, V3.dot, V3.cross, npad, pad, sgn, v3]
      grind
theorem s0_ok {p : Prob} {box : Box} (k : p.Ok) (hb : BoxOk p box) : Sok (datOf p box) (s0 p box).bs (s0 p box).ov := by
  have I := ini_frm k hb
  have mb : ∀ j, j ∈ (s0 p box).bs ↔ (j < p.rows.length ∨ ∃ u, u < box.length ∧ p.rows.length + 2 * u = j) := fun j => by
    simp [s0]
  have mo : ∀ j, j ∈ (s0 p box).ov ↔ ∃ u, u < box.length ∧ p.rows.length + 2 * u + 1 = j := fun j => by
    simp [s0]
  refine ⟨by simp [s0, datOf], ?_, ?_, ?_, ?_, ?_, ?_, ?_, ?_⟩
  · simp [s0, datOf, fN]
    omega
  · intro q hq
    show q < fN p box
    unfold fN
    rcases (mb q).mp hq with h | ⟨u, h1, h2⟩ <;> omega
  · intro q hq
    show q < fN p box
    unfold fN
    obtain ⟨u, h1, h2⟩ := (mo q).mp hq
    omega
  · intro j hj
    have hj : j < fN p box := hj
    unfold fN at hj
    rw [mb, mo]
    by_cases h : j < p.rows.length
    · exact .inl (.inl h)
    · by_cases h2 : (j - p.rows.length) % 2 = 0
      · exact .inl (.inr ⟨(j - p.rows.length) / 2, by omega, by omega⟩)
      · exact .inr ⟨(j - p.rows.length) / 2, by omega, by omega⟩
  · intro j hj hj2
    obtain ⟨u, h1, h2⟩ := (mo j).mp hj2
    rcases (mb j).mp hj with h | ⟨v, h3, h4⟩ <;> omega
  · show (List.range p.rows.length ++ (List.range box.length).map (fun u => p.rows.length + 2 * u)).Nodup
    rw [List.nodup_append]
    refine ⟨List.nodup_range, ?_, ?_⟩
    · rw [List.nodup_iff_pairwise_ne, List.pairwise_map]
      exact (List.nodup_range (n := box.length)).imp fun {a b} h z => h (by omega)
    · intro a ha b hb' e
      have := List.mem_range.mp ha
      obtain ⟨u, _, rfl⟩ := List.mem_map.mp hb'
      omega
  · show ((List.range box.length).map (fun u => p.rows.length + 2 * u + 1)).Nodup
    rw [List.nodup_iff_pairwise_ne, List.pairwise_map]
    exact (List.nodup_range (n := box.length)).imp fun {a b} h z => h (by omega)
  · rcases I.det with h | h <;> rw [h] <;> decide
/-! the table of a state -/
def lineOf (d : Dat) (ov : List Nat) (q : Nat) : List Int := (List.range d.n).map (fun k => Lc d ov q k) ++ [La d ov q]
def tabOf (d : Dat) (s : LS) : List (List Int) := s.bs.map (lineOf d s.ov) ++ [lineOf d s.ov d.F]
theorem line_len (d : Dat) (ov : List Nat) (q : Nat) : (lineOf d ov q).length = d.n + 1 := by simp [lineOf]
theorem line_at (d : Dat) (ov : List Nat) (q : Nat) {j : Nat} (h : j < d.n) : at_ (lineOf d ov q) j = Lc d ov q j := by
  unfold at_ lineOf
  rw [List.getD_eq_getElem?_getD, List.getElem?_append_left (by simpa using h), List.getElem?_map, List.getElem?_range h]
  rfl
theorem line_last (d : Dat) (ov : List Nat) (q : Nat) : at_ (lineOf d ov q) d.n = La d ov q := by
  unfold at_ lineOf
  rw [List.getD_eq_getElem?_getD, List.getElem?_append_right (by simp)]
  simp
theorem tab_len (d : Dat) (s : LS) : (tabOf d s).length = s.bs.length + 1 := by simp [tabOf]
theorem tab_at (d : Dat) (s : LS) {i : Nat} (h : i < s.bs.length) : at_ (tabOf d s) i = lineOf d s.ov (gt s.bs i) := by
  unfold at_ tabOf gt
  rw [List.getD_eq_getElem?_getD, List.getElem?_append_left (by simpa using h), List.getElem?_map, List.getD_eq_getElem?_getD, List.getElem?_eq_getElem h]
  rfl
theorem tab_last (d : Dat) (s : LS) : at_ (tabOf d s) s.bs.length = lineOf d s.ov d.F := by
  unfold at_ tabOf
  rw [List.getD_eq_getElem?_getD, List.getElem?_append_right (by simp)]
  simp
end D

set_option Elab.async false
set_option linter.all false
set_option maxRecDepth 100000
set_option maxHeartbeats 4000000
namespace D
open PySem PySem.Spec PyProof.Rows L2
open ToPy (py)
local macro_rules | `(tactic| walk_at "side") => `(tactic| first | assumption | omega | (refine Int.emod_nonneg _ ?_; omega) | (refine Int.emod_lt_of_pos _ ?_; omega) | (simp at *; omega) | (simp; done) | decide | skip)
local macro_rules | `(tactic| walk_at "d") => `(tactic| first
  | with_reducible exact ev_int | with_reducible exact ev_str | with_reducible exact ev_bl | with_reducible exact ev_non
  | exact ev_var rfl
  | with_reducible exact ev_ty
  | with_reducible exact ev_cls
  | ((with_reducible apply ev_op) <;> walk_at "d")
  | ((with_reducible apply ev_un) <;> walk_at "d")
  | ((with_reducible apply ev_call) <;> walk_at "d")
  | ((with_reducible apply ev_callX) <;> walk_at "d")
  | ((with_reducible apply ev_cb) <;> walk_at "d")
  | with_reducible exact ea_nil
  | ((with_reducible apply ea_cons) <;> walk_at "d")
  | with_reducible exact s_add
  | with_reducible exact s_sub
  | with_reducible exact s_lt
  | with_reducible exact s_le
  | with_reducible exact s_gt
  | with_reducible exact s_ge
  | with_reducible exact s_eqI
  | with_reducible exact s_neI
  | with_reducible exact s_eqS
  | with_reducible exact s_neS
  | with_reducible exact s_neB
  | exact s_eqSame (sh_ints2 _) | exact s_neSame (sh_ints2 _) | exact s_eqSame (sh_ints _) | exact s_neSame (sh_ints _)
  | ((with_reducible apply s_mod) <;> walk_at "side")
  | walk_at "div" | walk_at "mul"
  | ((with_reducible apply s_catL) <;> walk_at "side")
  | ((with_reducible apply s_repL) <;> walk_at "side")
  | with_reducible exact s_fst
  | with_reducible exact s_snd
  | with_reducible exact s_t0
  | with_reducible exact s_t1
  | with_reducible exact s_t2
  | ((with_reducible apply s_last) <;> walk_at "side")
  | ((with_reducible apply s_ixS) <;> walk_at "side")
  | ((with_reducible apply s_ix) <;> walk_at "side")
  | ((with_reducible apply s_ixT) <;> walk_at "side")
  | with_reducible exact s_negI
  | with_reducible exact c_len
  | with_reducible exact c_lI
  | with_reducible exact c_tI
  | with_reducible exact c_pI
  | with_reducible exact c_t3I
  | with_reducible exact c_sI
  | with_reducible exact c_iI
  | with_reducible exact c_iB
  | with_reducible exact c_lenP
  | with_reducible exact c_len3
  | with_reducible exact c_isInt
  | with_reducible exact c_isBool
  | with_reducible exact c_isStr
  | with_reducible exact c_isList
  | with_reducible exact c_isTup
  | with_reducible exact c_lenTup
  | with_reducible exact c_lenScr
  | with_reducible exact c_listD
  | with_reducible exact c_listTD
  | with_reducible exact c_tup
  | with_reducible exact c_abs
  | with_reducible exact c_min2
  | with_reducible exact c_max2
  | with_reducible exact c_intB
  | with_reducible exact c_sum
  | ((with_reducible apply c_min) <;> walk_at "side")
  | ((with_reducible apply c_max) <;> walk_at "side")
  | ((with_reducible apply et_val) <;> walk_at "d")
  | ((with_reducible apply et_test) <;> walk_at "d")
  | ((with_reducible apply et_not) <;> walk_at "d")
  | ((with_reducible apply et_and) <;> (try with_reducible intro _) <;> walk_at "d")
  | ((with_reducible apply et_or) <;> (try with_reducible intro _) <;> walk_at "d")
  | ((with_reducible apply ev_and) <;> (try with_reducible intro _) <;> walk_at "d")
  | ((with_reducible apply ev_or) <;> (try with_reducible intro _) <;> walk_at "d")
  | ((with_reducible apply ev_chain) <;> (try with_reducible intro _) <;> walk_at "d")
  | ((with_reducible apply ev_not) <;> walk_at "d")
  | ((with_reducible apply ev_pair) <;> walk_at "d")
  | ((with_reducible apply ev_t3) <;> walk_at "d")
  | ((with_reducible apply ev_lst1) <;> walk_at "d")
  | ((with_reducible apply ev_lst2) <;> walk_at "d")
  | ((with_reducible apply ev_lst3) <;> walk_at "d")
  | ((with_reducible apply ev_lst4) <;> walk_at "d")
  | ((with_reducible apply ev_cut) <;> walk_at "d")
  | ((with_reducible apply ep_some) <;> walk_at "d")
  | ((with_reducible apply EvD.s) <;> walk_at "d")
  | ((with_reducible apply EvT.s) <;> walk_at "d")
  | ((with_reducible apply EvN.s) <;> walk_at "d")
  | ((with_reducible apply en_lst1) <;> walk_at "d")
  | ((with_reducible apply en_lst2) <;> walk_at "d")
  | ((with_reducible apply en_lst3) <;> walk_at "d")
  | ((with_reducible apply en_lst4) <;> walk_at "d")
  | ((with_reducible apply en_cut) <;> walk_at "d")
  | with_reducible exact ev_lst0
  | with_reducible exact ep_none
  | with_reducible exact en_lst0
  | ((with_reducible apply wi_L) <;> walk_at "d")
  | ((with_reducible apply wi_T) <;> walk_at "d")
  | ((with_reducible apply wi_zip) <;> walk_at "d")
  | ((with_reducible apply WiD.s) <;> walk_at "d")
  | ((with_reducible apply wi_range) <;> walk_at "side")
  | exact spec_cell (by omega) (by omega)
  | skip)
local macro_rules | `(tactic| walk_at "div") => `(tactic| first
  | exact s_div ⟨by omega, by omega⟩
  | exact s_divW (wd_div (by first | assumption | omega) (by assumption))
  | with_reducible apply s_div)
local macro_rules | `(tactic| walk_at "mul") => `(tactic| first
  | exact s_mul (Or.inl ⟨by omega, by omega⟩) | exact s_mul (Or.inr ⟨by omega, by omega⟩)
  | exact s_mulW (wd_mul (by assumption) (by assumption))
  | with_reducible apply s_mulW)
local macro_rules | `(tactic| walk_at "fg") => `(tactic| repeat (first | exact Fg.nil | apply Fg.same | apply Fg.drop | (refine Fg.eq ?_ ?_; rotate_left)))
local macro_rules | `(tactic| walk_at "end") => `(tactic| exact bd_turnE trivial rfl (by walk_at "fg"))
local macro_rules | `(tactic| walk_at "range") => `(tactic| (apply WiD.s; apply wi_range; (walk_at "d"); omega; omega))
local macro_rules | `(tactic| walk_at "app") => `(tactic| (refine' bd_appR 0 ?_ rfl ?_ ?_ ?_ ?_; (walk_at "d"); (walk_at "d"); rotate_right))
local macro_rules | `(tactic| walk_at "lend") => `(tactic| repeat (first | exact LendC.nil | apply LendC.no | (apply LendC.one; (exact lend_list 0 rfl)) | (apply LendC.one; (exact lend_same))))
/-! ### a turn of a state's table is the next state's table -/
theorem list_ext_at {xs ys : List Int} (h : xs.length = ys.length) (e : ∀ i, i < xs.length → at_ xs i = at_ ys i) : xs = ys := by
  apply List.ext_getElem?
  intro i
  by_cases hi : i < xs.length
  · rw [at_some hi, at_some (by omega), e i hi]
  · rw [List.getElem?_eq_none (by omega), List.getElem?_eq_none (by omega)]
theorem at_setI {xs : List Int} {i j : Nat} {x : Int} (h : i < xs.length) : at_ (xs.set i x) j = if j = i then x else at_ xs j := by
  unfold at_
  rw [List.getD_eq_getElem?_getD, List.getD_eq_getElem?_getD, List.getElem?_set]
  by_cases e : i = j
  · subst e
    simp [h]
  · rw [if_neg e, if_neg (fun z => e z.symm)]
theorem sgn_if (pv x : Int) : (if pv < 0 then 0 - x else x) = sgn pv * x := by
  unfold sgn
  split <;> omega
def mvd (d : Dat) (s : LS) (r c : Nat) : LS := ⟨s.bs.set r (gt s.ov c), s.ov.set c (gt s.bs r)⟩
theorem turn_at {d : Dat} (K : d.Ok) {s : LS} (k : Sok d s.bs s.ov) {r c : Nat} (hr : r < s.bs.length) (hc : c < d.n) (pv : Lc d s.ov (gt s.bs r) c ≠ 0) (q : Nat) :
    (List.range (d.n + 1)).map (fun j => sgn (Lc d s.ov (gt s.bs r) c) * at_ (((List.range (d.n + 1)).map fun i => (at_ (lineOf d s.ov q) i * Lc d s.ov (gt s.bs r) c - Lc d s.ov q c * at_ (lineOf d s.ov (gt s.bs r)) i) / (frm d s.ov).sc).set c (0 - Lc d s.ov q c)) j) = lineOf d (mvd d s r c).ov q := by
  have n3 := K.n3
  have sc := k.sc
  have fs := frm_set d s.ov (c := c) (j := gt s.bs r) hc k.lo n3
  have hp : (frm d s.ov).L (d.a (gt s.bs r)) c ≠ 0 := pv
  have s2 := sgn_sq (Lc d s.ov (gt s.bs r) c)
  apply list_ext_at
  · rw [line_len]; simp
  intro j hj
  have hj : j < d.n + 1 := by simpa using hj
  rw [at_map_range _ hj, at_setI (by simp; omega)]
  by_cases e : j = c
  · subst e
    rw [if_pos rfl, line_at _ _ _ hc]
    have h := put_L_c (frm d s.ov) j (by omega) (d.a (gt s.bs r)) (d.b (gt s.bs r)) hp (d.a q)
    show _ = (frm d (s.ov.set j (gt s.bs r))).L (d.a q) j
    rw [fs, h]
    show sgn (Lc d s.ov (gt s.bs r) j) * (0 - Lc d s.ov q j) = -(sgn (Lc d s.ov (gt s.bs r) j) * Lc d s.ov q j)
    grind
  · rw [if_neg e, at_map_range _ hj]
    have dv : ∀ x : Int, x * (frm d s.ov).sc / (frm d s.ov).sc = x := fun x => Int.mul_ediv_cancel x (by omega)
    by_cases h : j < d.n
    · rw [line_at _ _ _ h, line_at _ _ _ h, line_at _ _ _ h]
      have h := put_L (frm d s.ov) c (by omega) (d.a (gt s.bs r)) (d.b (gt s.bs r)) hp (d.a q) j (by omega) e
      rw [← fs] at h
      have e2 : Lc d s.ov q j * Lc d s.ov (gt s.bs r) c - Lc d s.ov q c * Lc d s.ov (gt s.bs r) j = (sgn (Lc d s.ov (gt s.bs r) c) * Lc d (s.ov.set c (gt s.bs r)) q j) * (frm d s.ov).sc := by
        have : Lc d (s.ov.set c (gt s.bs r)) q j * (frm d s.ov).sc = sgn (Lc d s.ov (gt s.bs r) c) * (Lc d s.ov q j * Lc d s.ov (gt s.bs r) c - Lc d s.ov q c * Lc d s.ov (gt s.bs r) j) := h
        rw [Int.mul_assoc, this, ← Int.mul_assoc, s2, Int.one_mul]
      rw [e2, dv, ← Int.mul_assoc, s2, Int.one_mul]
      rfl
    · have e3 : j = d.n := by omega
      subst e3
      rw [line_last, line_last, line_last]
      have h := put_last (frm d s.ov) c (by omega) (d.a (gt s.bs r)) (d.b (gt s.bs r)) hp (d.a q) (d.b q)
      rw [← fs] at h
      have e2 : La d s.ov q * Lc d s.ov (gt s.bs r) c - Lc d s.ov q c * La d s.ov (gt s.bs r) = (sgn (Lc d s.ov (gt s.bs r) c) * La d (s.ov.set c (gt s.bs r)) q) * (frm d s.ov).sc := by
        have : La d (s.ov.set c (gt s.bs r)) q * (frm d s.ov).sc = sgn (Lc d s.ov (gt s.bs r) c) * (La d s.ov q * Lc d s.ov (gt s.bs r) c - Lc d s.ov q c * La d s.ov (gt s.bs r)) := h
        rw [Int.mul_assoc, this, ← Int.mul_assoc, s2, Int.one_mul]
      rw [e2, dv, ← Int.mul_assoc, s2, Int.one_mul]
      rfl
theorem turn_row {d : Dat} (K : d.Ok) {s : LS} (k : Sok d s.bs s.ov) {r c : Nat} (hr : r < s.bs.length) (hc : c < d.n) (pv : Lc d s.ov (gt s.bs r) c ≠ 0) :
    (List.range (d.n + 1)).map (fun j => sgn (Lc d s.ov (gt s.bs r) c) * at_ ((lineOf d s.ov (gt s.bs r)).set c (frm d s.ov).sc) j) = lineOf d (mvd d s r c).ov (gt s.ov c) := by
  have n3 := K.n3
  have fs := frm_set d s.ov (c := c) (j := gt s.bs r) hc k.lo n3
  have hp : (frm d s.ov).L (d.a (gt s.bs r)) c ≠ 0 := pv
  have ec : idx d s.ov c = gt s.ov c := by unfold idx; rw [if_pos hc]
  have er : (frm d s.ov).row c = d.a (gt s.ov c) := by rw [frm_row d s.ov (by omega), ec]
  have eb : (frm d s.ov).bnd c = d.b (gt s.ov c) := by rw [frm_bnd d s.ov (by omega), ec]
  apply list_ext_at
  · rw [line_len]; simp
  intro j hj
  have hj : j < d.n + 1 := by simpa using hj
  rw [at_map_range _ hj, at_setI (by rw [line_len]; omega)]
  by_cases e : j = c
  · subst e
    rw [if_pos rfl, line_at _ _ _ hc]
    have h := put_L_row_c (frm d s.ov) j (by omega) (d.a (gt s.bs r)) (d.b (gt s.bs r)) hp
    rw [← fs, er] at h
    exact h.symm
  · rw [if_neg e]
    by_cases h : j < d.n
    · rw [line_at _ _ _ h, line_at _ _ _ h]
      have h := put_L_row (frm d s.ov) c (by omega) (d.a (gt s.bs r)) (d.b (gt s.bs r)) hp j (by omega) e
      rw [← fs, er] at h
      exact h.symm
    · have e3 : j = d.n := by omega
      subst e3
      rw [line_last, line_last]
      have h := put_last_row (frm d s.ov) c (by omega) (d.a (gt s.bs r)) (d.b (gt s.bs r)) hp
      rw [← fs, er, eb] at h
      exact h.symm
theorem map_at_range (xs : List Int) (g : Int → Int) {n : Nat} (h : xs.length = n) : xs.map g = (List.range n).map fun j => g (at_ xs j) := by
  rw [← h]
  exact (map_range_len xs g).symm
theorem turn_tab {d : Dat} (K : d.Ok) {s : LS} (k : Sok d s.bs s.ov) {r c : Nat} (hr : r < s.bs.length) (hc : c < d.n) (pv : Lc d s.ov (gt s.bs r) c ≠ 0) :
    turnF (tabOf d s) (frm d s.ov).sc (r : Int) (c : Int) = (tabOf d (mvd d s r c), (frm d (mvd d s r c).ov).sc) := by
  have n3 := K.n3
  have fs := frm_set d s.ov (c := c) (j := gt s.bs r) hc k.lo n3
  have hp : (frm d s.ov).L (d.a (gt s.bs r)) c ≠ 0 := pv
  have e1 : ix (tabOf d s) (r : Int) = lineOf d s.ov (gt s.bs r) := tab_at d s hr
  have e2 : ix (lineOf d s.ov (gt s.bs r)) (c : Int) = Lc d s.ov (gt s.bs r) c := line_at d s.ov _ hc
  unfold turnF
  rw [e1, e2]
  refine Prod.ext ?_ ?_
  · show (List.range (tabOf d s).length).map _ = tabOf d (mvd d s r c)
    have row : ∀ i : Nat, (if Lc d s.ov (gt s.bs r) c < 0 then (turnLine (tabOf d s) (frm d s.ov).sc (r : Int) (c : Int) (i : Int)).map fun x => 0 - x else turnLine (tabOf d s) (frm d s.ov).sc (r : Int) (c : Int) (i : Int)) = (turnLine (tabOf d s) (frm d s.ov).sc (r : Int) (c : Int) (i : Int)).map fun x => sgn (Lc d s.ov (gt s.bs r) c) * x := fun i => by
      split
      · rename_i h
        apply List.map_congr_left
        intro x _
        rw [← sgn_if, if_pos h]
      · rename_i h
        have : (fun x : Int => sgn (Lc d s.ov (gt s.bs r) c) * x) = fun x => x := by
          funext x
          rw [← sgn_if, if_neg h]
        rw [this, List.map_id']
    apply List.ext_getElem?
    intro i
    rw [List.getElem?_map]
    by_cases hi : i < s.bs.length + 1
    rotate_left
    · rw [List.getElem?_eq_none (by simp [tab_len]; omega), List.getElem?_eq_none (by rw [tab_len]; simp [mvd]; omega)]
      rfl
    rw [List.getElem?_range (by rw [tab_len]; exact hi)]
    refine Eq.trans (congrArg some (row i)) ?_
    have hi2 : i < (tabOf d (mvd d s r c)).length := by rw [tab_len]; simpa [mvd] using hi
    rw [at_some hi2]
    congr 1
    have other : ∀ q, i ≠ r → at_ (tabOf d s) i = lineOf d s.ov q → (turnLine (tabOf d s) (frm d s.ov).sc (r : Int) (c : Int) (i : Int)).map (fun x => sgn (Lc d s.ov (gt s.bs r) c) * x) = lineOf d (mvd d s r c).ov q := fun q hne ha => by
      have ei : ix (tabOf d s) (i : Int) = lineOf d s.ov q := ha
      have eq : ix (lineOf d s.ov q) (c : Int) = Lc d s.ov q c := line_at d s.ov _ hc
      unfold turnLine
      rw [if_neg (by omega), e1, e2, ei, eq, line_len, Int.toNat_natCast]
      rw [map_at_range _ _ (n := d.n + 1) (by simp)]
      exact turn_at K k hr hc pv q
    by_cases e : i = r
    · subst e
      have lhs : turnLine (tabOf d s) (frm d s.ov).sc (i : Int) (c : Int) (i : Int) = (lineOf d s.ov (gt s.bs i)).set c (frm d s.ov).sc := by
        unfold turnLine
        rw [if_pos rfl, e1, Int.toNat_natCast]
      rw [lhs, map_at_range _ _ (n := d.n + 1) (by simp [line_len]), turn_row K k hr hc pv]
      have hi3 : i < (mvd d s i c).bs.length := by simpa [mvd] using hr
      rw [tab_at d (mvd d s i c) hi3]
      congr 1
      show _ = gt (s.bs.set i (gt s.ov c)) i
      rw [gt_set hr, if_pos rfl]
    · by_cases h : i < s.bs.length
      · rw [other _ e (tab_at d s h)]
        have hi3 : i < (mvd d s r c).bs.length := by simpa [mvd] using h
        rw [tab_at d (mvd d s r c) hi3]
        congr 1
        show _ = gt (s.bs.set r (gt s.ov c)) i
        rw [gt_set hr, if_neg e]
      · have e4 : i = s.bs.length := by omega
        rw [other d.F e (by rw [e4]; exact tab_last d s)]
        have l := tab_last d (mvd d s r c)
        have e5 : (mvd d s r c).bs.length = s.bs.length := by simp [mvd]
        rw [e5, ← e4] at l
        exact l.symm
  · show (if Lc d s.ov (gt s.bs r) c < 0 then -Lc d s.ov (gt s.bs r) c else Lc d s.ov (gt s.bs r) c) = (frm d (s.ov.set c (gt s.bs r))).sc
    rw [fs, put_sc (frm d s.ov) c (by omega) (d.a (gt s.bs r)) (d.b (gt s.bs r)) hp]
    show _ = sgn (Lc d s.ov (gt s.bs r) c) * Lc d s.ov (gt s.bs r) c
    rw [← sgn_if]
    split <;> omega
/-! bounds -/
theorem Nb.mul {x y : Int} {A B : Nat} (hx : x.natAbs ≤ A) (hy : y.natAbs ≤ B) : (x * y).natAbs ≤ A * B := by
  rw [Int.natAbs_mul]
  exact Nat.mul_le_mul hx hy
structure V3.In (v : V3) (A : Nat) : Prop where
  x : v.x.natAbs ≤ A
  y : v.y.natAbs ≤ A
  z : v.z.natAbs ≤ A
theorem dot_in {u v : V3} {A B : Nat} (hu : u.In A) (hv : v.In B) : (u.dot v).natAbs ≤ 3 * (A * B) := by
  have a := Nb.mul hu.x hv.x
  have b := Nb.mul hu.y hv.y
  have c := Nb.mul hu.z hv.z
  unfold V3.dot
  omega
theorem cross_in {u v : V3} {A B : Nat} (hu : u.In A) (hv : v.In B) : (u.cross v).In (2 * (A * B)) := by
  have a := Nb.mul hu.x hv.y
  have b := Nb.mul hu.x hv.z
  have c := Nb.mul hu.y hv.x
  have d := Nb.mul hu.y hv.z
  have e := Nb.mul hu.z hv.x
  have f := Nb.mul hu.z hv.y
  unfold V3.cross
  refine ⟨?_, ?_, ?_⟩ <;> simp only <;> omega
structure Dat.Bd (d : Dat) : Prop where
  a : ∀ j, (d.a j).In 50
  b : ∀ j, (d.b j).natAbs ≤ 3000
theorem sgn_abs (x y : Int) : (sgn x * y).natAbs = y.natAbs := by
  rcases sgn_or x with h | h <;> rw [h] <;> omega
theorem L_in {d : Dat} (h : d.Bd) (ov : List Nat) (q k : Nat) : (Lc d ov q k).natAbs ≤ 750000 := by
  have c : ((frm d ov).cof k).In 5000 := by
    match k with
    | 0 => exact cross_in (h.a _) (h.a _)
    | 1 => exact cross_in (h.a _) (h.a _)
    | k + 2 => exact cross_in (h.a _) (h.a _)
  have e := dot_in (h.a q) c
  show (-(sgn _ * _)).natAbs ≤ _
  rw [Int.natAbs_neg, sgn_abs]
  exact e
theorem sc_in {d : Dat} (h : d.Bd) (ov : List Nat) : (frm d ov).sc.natAbs ≤ 750000 := by
  have c : ((frm d ov).cof 0).In 5000 := cross_in (h.a _) (h.a _)
  have e := dot_in (h.a (idx d ov 0)) c
  show (sgn _ * _).natAbs ≤ _
  rw [sgn_abs]
  exact e
theorem La_in {d : Dat} (h : d.Bd) (ov : List Nat) (q : Nat) : (La d ov q).natAbs ≤ 9000000000 := by
  have a := Nb.mul (sc_in h ov) (h.b q)
  have b0 := Nb.mul (L_in h ov q 0) (h.b (idx d ov 0))
  have b1 := Nb.mul (L_in h ov q 1) (h.b (idx d ov 1))
  have b2 := Nb.mul (L_in h ov q 2) (h.b (idx d ov 2))
  show ((frm d ov).sc * d.b q + (Lc d ov q 0 * d.b (idx d ov 0) + Lc d ov q 1 * d.b (idx d ov 1) + Lc d ov q 2 * d.b (idx d ov 2)) : Int).natAbs ≤ _
  generalize (frm d ov).sc * d.b q = x at *
  generalize Lc d ov q 0 * d.b (idx d ov 0) = y at *
  generalize Lc d ov q 1 * d.b (idx d ov 1) = z at *
  generalize Lc d ov q 2 * d.b (idx d ov 2) = w at *
  omega
theorem at_nb {l : List Int} (h : ∀ x ∈ l, -50 ≤ x ∧ x ≤ 50) (k : Nat) : (at_ l k).natAbs ≤ 50 := by
  by_cases hk : k < l.length
  · have := h _ (at_mem hk)
    omega
  · rw [at_zero (by omega)]
    decide
theorem pad_in (k : Nat) : (pad k).In 50 := by
  match k with
  | 0 => exact ⟨by decide, by decide, by decide⟩
  | 1 => exact ⟨by decide, by decide, by decide⟩
  | k + 2 => exact ⟨by simp [pad], by simp [pad], by simp [pad]⟩
theorem lows_len (box : Box) : (lowsOf box).length = box.length := by simp [lowsOf]
theorem lows_bnd {p : Prob} {box : Box} (k : p.Ok) (hb : BoxOk p box) : ∀ x ∈ lowsOf box, 0 ≤ x ∧ x ≤ 20 := by
  intro x hx
  unfold lowsOf at hx
  obtain ⟨i, hi, rfl⟩ := List.mem_map.mp hx
  have := box_hi k hb (List.mem_range.mp hi)
  omega
theorem dat_bd {p : Prob} {box : Box} (k : p.Ok) (hb : BoxOk p box) : (datOf p box).Bd := by
  refine ⟨fun j => ?_, fun j => ?_⟩
  · show V3.In (if j < fN p box + 1 then v3 (numsOf p box j) else pad (j - (fN p box + 1))) 50
    split
    · have := nums_bnd k hb j
      exact ⟨at_nb this _, at_nb this _, at_nb this _⟩
    · exact pad_in _
  · show (if j < fN p box then (factAt p box j).2 else if j = fN p box then 0 - dot p.gain (lowsOf box) else 0 : Int).natAbs ≤ 3000
    split
    · rename_i h
      have := fact_bnd k hb h
      omega
    · split
      · have g3 : p.gain.length ≤ 3 := by rw [k.gl]; exact k.n3
        rw [dot_v3 (by rw [lows_len, k.gl, hb.len]) g3]
        have a : (v3 p.gain).In 50 := ⟨at_nb k.gn _, at_nb k.gn _, at_nb k.gn _⟩
        have lb : ∀ j, (at_ (lowsOf box) j).natAbs ≤ 20 := fun j => by
          by_cases hj : j < (lowsOf box).length
          · have := lows_bnd k hb _ (at_mem hj)
            omega
          · rw [at_zero (by omega)]
            decide
        have b : (v3 (lowsOf box)).In 20 := ⟨lb _, lb _, lb _⟩
        have := dot_in a b
        omega
      · decide
theorem wd_of {x : Int} (h : x.natAbs ≤ 9000000000) : Wd x := by
  unfold Wd
  refine Nat.lt_of_le_of_lt h ?_
  exact Nat.lt_of_lt_of_le (by decide : 9000000000 < 2 ^ 34) (Nat.pow_le_pow_right (by decide) (by decide))
theorem tab_rect {d : Dat} (h : d.Bd) (s : LS) : Rect (tabOf d s) (s.bs.length + 1) (d.n + 1) := by
  have mem : ∀ l ∈ tabOf d s, ∃ q, l = lineOf d s.ov q := fun l hl => by
    unfold tabOf at hl
    rcases List.mem_append.mp hl with z | z
    · obtain ⟨q, _, e⟩ := List.mem_map.mp z
      exact ⟨q, e.symm⟩
    · exact ⟨_, List.mem_singleton.mp z⟩
  refine ⟨tab_len d s, fun l hl => ?_, fun l hl x hx => ?_⟩
  · obtain ⟨q, rfl⟩ := mem l hl
    exact line_len d s.ov q
  · obtain ⟨q, rfl⟩ := mem l hl
    unfold lineOf at hx
    rcases List.mem_append.mp hx with z | z
    · obtain ⟨k, _, rfl⟩ := List.mem_map.mp z
      exact wd_of (Nat.le_trans (L_in h _ _ _) (by decide))
    · rw [List.mem_singleton.mp z]
      exact wd_of (La_in h _ _)
end D

set_option Elab.async false
set_option linter.all false
set_option maxRecDepth 100000
set_option maxHeartbeats 4000000
namespace D
open PySem PySem.Spec PyProof.Rows L2
open ToPy (py)
local macro_rules | `(tactic| walk_at "side") => `(tactic| first | assumption | omega | (refine Int.emod_nonneg _ ?_; omega) | (refine Int.emod_lt_of_pos _ ?_; omega) | (simp at *; omega) | (simp; done) | decide | skip)
local macro_rules | `(tactic| walk_at "d") => `(tactic| first
  | with_reducible exact ev_int | with_reducible exact ev_str | with_reducible exact ev_bl | with_reducible exact ev_non
  | exact ev_var rfl
  | with_reducible exact ev_ty
  | with_reducible exact ev_cls
  | ((with_reducible apply ev_op) <;> walk_at "d")
  | ((with_reducible apply ev_un) <;> walk_at "d")
  | ((with_reducible apply ev_call) <;> walk_at "d")
  | ((with_reducible apply ev_callX) <;> walk_at "d")
  | ((with_reducible apply ev_cb) <;> walk_at "d")
  | with_reducible exact ea_nil
  | ((with_reducible apply ea_cons) <;> walk_at "d")
  | with_reducible exact s_add
  | with_reducible exact s_sub
  | with_reducible exact s_lt
  | with_reducible exact s_le
  | with_reducible exact s_gt
  | with_reducible exact s_ge
  | with_reducible exact s_eqI
  | with_reducible exact s_neI
  | with_reducible exact s_eqS
  | with_reducible exact s_neS
  | with_reducible exact s_neB
  | exact s_eqSame (sh_ints2 _) | exact s_neSame (sh_ints2 _) | exact s_eqSame (sh_ints _) | exact s_neSame (sh_ints _)
  | ((with_reducible apply s_mod) <;> walk_at "side")
  | walk_at "div" | walk_at "mul"
  | ((with_reducible apply s_catL) <;> walk_at "side")
  | ((with_reducible apply s_repL) <;> walk_at "side")
  | with_reducible exact s_fst
  | with_reducible exact s_snd
  | with_reducible exact s_t0
  | with_reducible exact s_t1
  | with_reducible exact s_t2
  | ((with_reducible apply s_last) <;> walk_at "side")
  | ((with_reducible apply s_ixS) <;> walk_at "side")
  | ((with_reducible apply s_ix) <;> walk_at "side")
  | ((with_reducible apply s_ixT) <;> walk_at "side")
  | with_reducible exact s_negI
  | with_reducible exact c_len
  | with_reducible exact c_lI
  | with_reducible exact c_tI
  | with_reducible exact c_pI
  | with_reducible exact c_t3I
  | with_reducible exact c_sI
  | with_reducible exact c_iI
  | with_reducible exact c_iB
  | with_reducible exact c_lenP
  | with_reducible exact c_len3
  | with_reducible exact c_isInt
  | with_reducible exact c_isBool
  | with_reducible exact c_isStr
  | with_reducible exact c_isList
  | with_reducible exact c_isTup
  | with_reducible exact c_lenTup
  | with_reducible exact c_lenScr
  | with_reducible exact c_listD
  | with_reducible exact c_listTD
  | with_reducible exact c_tup
  | with_reducible exact c_abs
  | with_reducible exact c_min2
  | with_reducible exact c_max2
  | with_reducible exact c_intB
  | with_reducible exact c_sum
  | ((with_reducible apply c_min) <;> walk_at "side")
  | ((with_reducible apply c_max) <;> walk_at "side")
  | ((with_reducible apply et_val) <;> walk_at "d")
  | ((with_reducible apply et_test) <;> walk_at "d")
  | ((with_reducible apply et_not) <;> walk_at "d")
  | ((with_reducible apply et_and) <;> (try with_reducible intro _) <;> walk_at "d")
  | ((with_reducible apply et_or) <;> (try with_reducible intro _) <;> walk_at "d")
  | ((with_reducible apply ev_and) <;> (try with_reducible intro _) <;> walk_at "d")
  | ((with_reducible apply ev_or) <;> (try with_reducible intro _) <;> walk_at "d")
  | ((with_reducible apply ev_chain) <;> (try with_reducible intro _) <;> walk_at "d")
  | ((with_reducible apply ev_not) <;> walk_at "d")
  | ((with_reducible apply ev_pair) <;> walk_at "d")
  | ((with_reducible apply ev_t3) <;> walk_at "d")
  | ((with_reducible apply ev_lst1) <;> walk_at "d")
  | ((with_reducible apply ev_lst2) <;> walk_at "d")
  | ((with_reducible apply ev_lst3) <;> walk_at "d")
  | ((with_reducible apply ev_lst4) <;> walk_at "d")
  | ((with_reducible apply ev_cut) <;> walk_at "d")
  | ((with_reducible apply ep_some) <;> walk_at "d")
  | ((with_reducible apply EvD.s) <;> walk_at "d")
  | ((with_reducible apply EvT.s) <;> walk_at "d")
  | ((with_reducible apply EvN.s) <;> walk_at "d")
  | ((with_reducible apply en_lst1) <;> walk_at "d")
  | ((with_reducible apply en_lst2) <;> walk_at "d")
  | ((with_reducible apply en_lst3) <;> walk_at "d")
  | ((with_reducible apply en_lst4) <;> walk_at "d")
  | ((with_reducible apply en_cut) <;> walk_at "d")
  | with_reducible exact ev_lst0
  | with_reducible exact ep_none
  | with_reducible exact en_lst0
  | ((with_reducible apply wi_L) <;> walk_at "d")
  | ((with_reducible apply wi_T) <;> walk_at "d")
  | ((with_reducible apply wi_zip) <;> walk_at "d")
  | ((with_reducible apply WiD.s) <;> walk_at "d")
  | ((with_reducible apply wi_range) <;> walk_at "side")
  | exact spec_cell (by omega) (by omega)
  | skip)
local macro_rules | `(tactic| walk_at "div") => `(tactic| first
  | exact s_div ⟨by omega, by omega⟩
  | exact s_divW (wd_div (by first | assumption | omega) (by assumption))
  | with_reducible apply s_div)
local macro_rules | `(tactic| walk_at "mul") => `(tactic| first
  | exact s_mul (Or.inl ⟨by omega, by omega⟩) | exact s_mul (Or.inr ⟨by omega, by omega⟩)
  | exact s_mulW (wd_mul (by assumption) (by assumption))
  | with_reducible apply s_mulW)
local macro_rules | `(tactic| walk_at "fg") => `(tactic| repeat (first | exact Fg.nil | apply Fg.same | apply Fg.drop | (refine Fg.eq ?_ ?_; rotate_left)))
local macro_rules | `(tactic| walk_at "end") => `(tactic| exact bd_turnE trivial rfl (by walk_at "fg"))
local macro_rules | `(tactic| walk_at "range") => `(tactic| (apply WiD.s; apply wi_range; (walk_at "d"); omega; omega))
local macro_rules | `(tactic| walk_at "app") => `(tactic| (refine' bd_appR 0 ?_ rfl ?_ ?_ ?_ ?_; (walk_at "d"); (walk_at "d"); rotate_right))
local macro_rules | `(tactic| walk_at "lend") => `(tactic| repeat (first | exact LendC.nil | apply LendC.no | (apply LendC.one; (exact lend_list 0 rfl)) | (apply LendC.one; (exact lend_same))))
/-! ### what is told at the last state -/
def sumS (w : List Int) (g : Nat → Int) (n : Nat) : Int := ((List.range n).map fun k => at_ w k * g k).sum
theorem sumS_succ (w : List Int) (g : Nat → Int) (n : Nat) : sumS w g (n + 1) = sumS w g n + at_ w n * g n := by
  unfold sumS
  rw [List.range_succ, List.map_append, List.sum_append]
  simp
theorem sumS_set {w : List Int} {g : Nat → Int} {i : Nat} {x : Int} (hi : i < w.length) : ∀ n, sumS (w.set i x) g n = sumS w g n + if i < n then (x - at_ w i) * g i else 0
  | 0 => by simp [sumS]
  | n + 1 => by
    rw [sumS_succ, sumS_succ, sumS_set hi n, at_setI hi]
    by_cases e : n = i
    · subst e
      rw [if_neg (by omega), if_pos rfl, if_pos (by omega)]
      grind
    · rw [if_neg e]
      by_cases h : i < n
      · rw [if_pos h, if_pos (by omega)]
        omega
      · rw [if_neg h, if_neg (by omega)]
        omega
theorem sumS_zero (g : Nat → Int) (F : Nat) : ∀ n, sumS (List.replicate F 0) g n = 0
  | 0 => by simp [sumS]
  | n + 1 => by
    rw [sumS_succ, sumS_zero g F n]
    have : at_ (List.replicate F (0 : Int)) n = 0 := by
      unfold at_
      rw [List.getD_eq_getElem?_getD, List.getElem?_replicate]
      split <;> rfl
    rw [this]
    simp
def setOv (d : Dat) (ov : List Nat) (w : List Int) (q : Nat) : Nat → List Int
  | 0 => w
  | i + 1 => (setOv d ov w q i).set (gt ov i) (Lc d ov q i)
theorem setOv_len (d : Dat) (ov : List Nat) (w : List Int) (q : Nat) : ∀ i, (setOv d ov w q i).length = w.length
  | 0 => rfl
  | i + 1 => by
    show ((setOv d ov w q i).set _ _).length = _
    rw [List.length_set, setOv_len d ov w q i]
theorem setOv_at {d : Dat} {ov : List Nat} {w : List Int} {q : Nat} (nd : ov.Nodup) (hl : ∀ x ∈ ov, x < w.length) {j : Nat} (hj : j < ov.length) : ∀ i, i ≤ j → at_ (setOv d ov w q i) (gt ov j) = at_ w (gt ov j)
  | 0, _ => rfl
  | i + 1, h => by
    show at_ ((setOv d ov w q i).set _ _) _ = _
    rw [at_setI (by rw [setOv_len]; exact hl _ (gt_mem (by omega))), if_neg (fun z => by have := gt_inj nd hj (by omega) z; omega)]
    exact setOv_at nd hl hj i (by omega)
theorem setOv_sum {d : Dat} {ov : List Nat} {w : List Int} {q : Nat} (nd : ov.Nodup) (hl : ∀ x ∈ ov, x < w.length) (h0 : ∀ x ∈ ov, at_ w x = 0) {g : Nat → Int} : ∀ i, i ≤ ov.length → sumS (setOv d ov w q i) g w.length = sumS w g w.length + ((List.range i).map fun k => Lc d ov q k * g (gt ov k)).sum
  | 0, _ => by simp [setOv]
  | i + 1, h => by
    have m : gt ov i ∈ ov := gt_mem (by omega)
    show sumS ((setOv d ov w q i).set _ _) g _ = _
    rw [sumS_set (by rw [setOv_len]; exact hl _ m), setOv_sum nd hl h0 i (by omega), if_pos (hl _ m), setOv_at nd hl (by omega) i (Nat.le_refl _), h0 _ m, List.range_succ, List.map_append, List.sum_append]
    simp
    omega
theorem setOv_pos {d : Dat} {ov : List Nat} {w : List Int} {q : Nat} (hw : ∀ x ∈ w, 0 ≤ x) : ∀ i, (∀ k, k < i → 0 ≤ Lc d ov q k) → ∀ x ∈ setOv d ov w q i, 0 ≤ x
  | 0, _, x, hx => hw x hx
  | i + 1, h, x, hx => by
    rcases List.mem_or_eq_of_mem_set hx with z | z
    · exact setOv_pos hw i (fun k hk => h k (by omega)) x z
    · rw [z]
      exact h i (by omega)
def V3.c (v : V3) (u : Nat) : Int := match u with
  | 0 => v.x
  | 1 => v.y
  | _ => v.z
/-- the sum over what is over, as three -/
theorem sum_ov {d : Dat} (K : d.Ok) {bs ov : List Nat} (s : Sok d bs ov) {q : Nat} (hq : q ≤ d.F) (g : Nat → Int) : ((List.range d.n).map fun k => Lc d ov q k * g (gt ov k)).sum = Lc d ov q 0 * g (idx d ov 0) + Lc d ov q 1 * g (idx d ov 1) + Lc d ov q 2 * g (idx d ov 2) := by
  have n1 := K.n1
  have n3 := K.n3
  have e : ∀ k, k < d.n → idx d ov k = gt ov k := fun k hk => by unfold idx; rw [if_pos hk]
  have z : ∀ k, d.n ≤ k → k < 3 → Lc d ov q k = 0 := fun k h1 h2 => pad_zero K s.lo s.lto hq h1 h2
  have : d.n = 1 ∨ d.n = 2 ∨ d.n = 3 := by omega
  rcases this with h | h | h
  · rw [z 1 (by omega) (by omega), z 2 (by omega) (by omega), e 0 (by omega), h]
    simp [List.range_succ]
  · rw [z 2 (by omega) (by omega), e 0 (by omega), e 1 (by omega), h]
    simp [List.range_succ]
  · rw [e 0 (by omega), e 1 (by omega), e 2 (by omega), h]
    simp [List.range_succ]
    omega
theorem sum_a {d : Dat} (K : d.Ok) {bs ov : List Nat} (s : Sok d bs ov) {q : Nat} (hq : q ≤ d.F) (u : Nat) : ((List.range d.n).map fun k => Lc d ov q k * (d.a (gt ov k)).c u).sum = - ((frm d ov).sc * (d.a q).c u) := by
  rw [sum_ov K s hq fun j => (d.a j).c u]
  have h := cramer (frm d ov) (d.a q) (pad u)
  have pu : ∀ v : V3, v.dot (pad u) = v.c u := fun v => by
    match u with
    | 0 => simp [V3.dot, pad, V3.c]
    | 1 => simp [V3.dot, pad, V3.c]
    | u + 2 => simp [V3.dot, pad, V3.c]
  rw [pu, pu, pu, pu] at h
  show (frm d ov).L (d.a q) 0 * (frm d ov).r0.c u + (frm d ov).L (d.a q) 1 * (frm d ov).r1.c u + (frm d ov).L (d.a q) 2 * (frm d ov).r2.c u = _
  unfold Fr.L Fr.sc
  generalize sgn (frm d ov).det = sg
  generalize (d.a q).dot ((frm d ov).cof 0) = c0 at *
  generalize (d.a q).dot ((frm d ov).cof 1) = c1 at *
  generalize (d.a q).dot ((frm d ov).cof 2) = c2 at *
  grind
theorem sum_b {d : Dat} (K : d.Ok) {bs ov : List Nat} (s : Sok d bs ov) {q : Nat} (hq : q ≤ d.F) : ((List.range d.n).map fun k => Lc d ov q k * d.b (gt ov k)).sum = La d ov q - (frm d ov).sc * d.b q := by
  rw [sum_ov K s hq fun j => d.b j]
  show _ = (frm d ov).sc * d.b q + (Lc d ov q 0 * d.b (idx d ov 0) + Lc d ov q 1 * d.b (idx d ov 1) + Lc d ov q 2 * d.b (idx d ov 2)) - (frm d ov).sc * d.b q
  omega
/-! weights and fractions -/
inductive Told where
  | none (ws : List Int)
  | most (ns : List Int) (sc : Int) (ws : List Int)
instance : ToPy Told := ⟨fun t => match t with
  | .none ws => .tuple [.str "none", py ws]
  | .most ns sc ws => .tuple [.str "most", .tuple [py ns, .int sc], py ws, .int sc], .none []⟩
def WsOk (p : Prob) (box : Box) (ws : List Int) : Prop := ws.length = fN p box ∧ ∀ w ∈ ws, 0 ≤ w
def Told.Good (p : Prob) (box : Box) : Told → Prop
  | .none ws => WsOk p box ws ∧ (∀ u, u < box.length → sumN (factsOf p box) ws (fN p box) u = 0) ∧ sumB (factsOf p box) ws (fN p box) < 0
  | .most ns sc ws => ns.length = box.length ∧ 1 ≤ sc ∧ sc ≤ 750000 ∧ (∀ j, j < fN p box → dot (factAt p box j).1.l ns ≤ (factAt p box j).2 * sc) ∧ WsOk p box ws ∧ (∀ u, u < box.length → sumN (factsOf p box) ws (fN p box) u = sc * at_ p.gain u) ∧ sumB (factsOf p box) ws (fN p box) = dot p.gain ns
def wNone (d : Dat) (s : LS) (one : Nat) : List Int := setOv d s.ov ((List.replicate d.F 0).set one (frm d s.ov).sc) one d.n
def wMost (d : Dat) (s : LS) : List Int := setOv d s.ov (List.replicate d.F 0) d.F d.n
def numOfS (d : Dat) (lows : List Int) (s : LS) (u : Nat) : Int := if decide (d.F - 2 * d.n + 2 * u + 1 ∈ s.bs) = true then at_ lows u * (frm d s.ov).sc + La d s.ov (d.F - 2 * d.n + 2 * u + 1) else at_ lows u * (frm d s.ov).sc
theorem v3_c {l : List Int} {u : Nat} (h : u < 3) : (v3 l).c u = at_ l u := by
  match u, h with
  | 0, _ => rfl
  | 1, _ => rfl
  | 2, _ => rfl
theorem sumN_S {p : Prob} {box : Box} (k : p.Ok) (hb : BoxOk p box) (ws : List Int) {u : Nat} (hu : u < box.length) : sumN (factsOf p box) ws (fN p box) u = sumS ws (fun j => ((datOf p box).a j).c u) (fN p box) := by
  have n3 : box.length ≤ 3 := by rw [hb.len]; exact k.n3
  unfold sumN sumS
  congr 1
  apply List.map_congr_left
  intro j hj
  have hj := List.mem_range.mp hj
  rw [at_facts p box hj]
  show _ = at_ ws j * ((datOf p box).a j).c u
  rw [dat_a (Nat.le_of_lt hj), v3_c (by omega)]
  unfold numsOf
  rw [if_pos hj]
theorem sumB_S {p : Prob} {box : Box} (ws : List Int) : sumB (factsOf p box) ws (fN p box) = sumS ws (fun j => (datOf p box).b j) (fN p box) := by
  unfold sumB sumS
  congr 1
  apply List.map_congr_left
  intro j hj
  have hj := List.mem_range.mp hj
  rw [at_facts p box hj]
  show _ = at_ ws j * (datOf p box).b j
  rw [dat_b hj]
theorem at_repl {n i : Nat} : at_ (List.replicate n (0 : Int)) i = 0 := by
  unfold at_
  rw [List.getD_eq_getElem?_getD, List.getElem?_replicate]
  split <;> rfl
theorem good_none {p : Prob} {box : Box} (k : p.Ok) (hb : BoxOk p box) {s : LS} (S : Sok (datOf p box) s.bs s.ov) {one : Nat} (h1 : one ∈ s.bs) (h2 : La (datOf p box) s.ov one < 0) (h3 : ∀ i, i < (datOf p box).n → 0 ≤ Lc (datOf p box) s.ov one i) : (Told.none (wNone (datOf p box) s one)).Good p box := by
  have K := dat_ok k hb
  have hF : one < (datOf p box).F := S.ltb _ h1
  have sc := S.sc
  have lw : ((List.replicate (datOf p box).F (0 : Int)).set one (frm (datOf p box) s.ov).sc).length = fN p box := by
    rw [List.length_set, List.length_replicate]
    rfl
  have z : ∀ x ∈ s.ov, at_ ((List.replicate (datOf p box).F (0 : Int)).set one (frm (datOf p box) s.ov).sc) x = 0 := fun x hx => by
    rw [at_setI (by simpa using hF), if_neg (fun (e : x = one) => S.dis _ h1 (by rw [← e]; exact hx)), at_repl]
  have lt : ∀ x ∈ s.ov, x < ((List.replicate (datOf p box).F (0 : Int)).set one (frm (datOf p box) s.ov).sc).length := fun x hx => by
    rw [lw]
    exact S.lto _ hx
  have su : ∀ g : Nat → Int, sumS (wNone (datOf p box) s one) g (fN p box) = (frm (datOf p box) s.ov).sc * g one + ((List.range (datOf p box).n).map fun k => Lc (datOf p box) s.ov one k * g (gt s.ov k)).sum := fun g => by
    have h := setOv_sum (d := datOf p box) (q := one) S.ndo lt z (g := g) (datOf p box).n (by rw [S.lo]; exact Nat.le_refl _)
    rw [lw] at h
    unfold wNone
    rw [h, sumS_set (by simpa using hF), sumS_zero, if_pos (show one < fN p box from hF), at_repl]
    simp
  refine ⟨⟨by unfold wNone; rw [setOv_len, lw], ?_⟩, fun u hu => ?_, ?_⟩
  · refine setOv_pos (fun x hx => ?_) _ h3
    rcases set_replicate_mem hx with e | e <;> omega
  · rw [sumN_S k hb _ hu, su, sum_a K S (Nat.le_of_lt hF) u]
    omega
  · rw [sumB_S, su, sum_b K S (Nat.le_of_lt hF)]
    omega
theorem good_most {p : Prob} {box : Box} (k : p.Ok) (hb : BoxOk p box) {s : LS} (S : Sok (datOf p box) s.bs s.ov) (hw : ∀ j, j < (datOf p box).F → ¬ Wrong (datOf p box) s.bs s.ov j) :
    (Told.most ((List.range box.length).map (numOfS (datOf p box) (lowsOf box) s)) (frm (datOf p box) s.ov).sc (wMost (datOf p box) s)).Good p box := by
  have K := dat_ok k hb
  have n1 : 1 ≤ box.length := by rw [hb.len]; exact k.n1
  have n3 : box.length ≤ 3 := by rw [hb.len]; exact k.n3
  have sc := S.sc
  have eF : (datOf p box).F = fN p box := rfl
  have en : (datOf p box).n = box.length := rfl
  have scB := sc_in (dat_bd k hb) s.ov
  -- the numbers are the point's
  have num : ∀ u, u < box.length → numOfS (datOf p box) (lowsOf box) s u = (frm (datOf p box) s.ov).pt.c u := fun u hu => by
    have hj : (datOf p box).F - 2 * (datOf p box).n + 2 * u + 1 < (datOf p box).F := by
      rw [eF, en]
      unfold fN
      omega
    have ej : (datOf p box).F - 2 * (datOf p box).n + 2 * u + 1 = p.rows.length + 2 * u + 1 := by
      rw [eF, en]
      unfold fN
      omega
    have pt := sl_pt (datOf p box) s.ov (p.rows.length + 2 * u + 1)
    unfold sl slk at pt
    have hF : p.rows.length + 2 * u + 1 < fN p box := by unfold fN; omega
    have low : at_ (lowsOf box) u = (at_ box u).1 := by
      unfold lowsOf
      rw [at_map_range _ hu]
    rw [dat_b hF, fact_lw hu, ← ej, K.lw u hu, ej] at pt
    have np : (npad u).dot (frm (datOf p box) s.ov).pt = - (frm (datOf p box) s.ov).pt.c u := by
      match u, (show u < 3 by omega) with
      | 0, _ => simp [npad, V3.dot, V3.c]
      | 1, _ => simp [npad, V3.dot, V3.c]
      | 2, _ => simp [npad, V3.dot, V3.c]
    rw [np] at pt
    have pt : (0 - (at_ box u).1) * (frm (datOf p box) s.ov).sc - -(frm (datOf p box) s.ov).pt.c u = La (datOf p box) s.ov (p.rows.length + 2 * u + 1) := pt
    unfold numOfS
    rw [ej, low]
    by_cases hm : p.rows.length + 2 * u + 1 ∈ s.bs
    · rw [if_pos (by rw [decide_eq_true hm])]
      grind
    · rw [if_neg (by rw [decide_eq_false hm]; exact Bool.false_ne_true)]
      have ho : p.rows.length + 2 * u + 1 ∈ s.ov := by
        rcases S.all (p.rows.length + 2 * u + 1) hF with h | h
        · exact absurd h hm
        · exact h
      obtain ⟨i, hi, e⟩ := mem_gt S.lo ho
      rw [← e, La_ov K hi] at pt
      grind
  have ld : ∀ j, j ≤ fN p box → ∀ l : List Int, l = numsOf p box j → dot l ((List.range box.length).map (numOfS (datOf p box) (lowsOf box) s)) = ((datOf p box).a j).dot (frm (datOf p box) s.ov).pt := fun j hj l hl => by
    have ll := nums_len k hb j
    rw [hl, dot_v3 (by rw [ll]; simp) (by omega), dat_a hj]
    have c : ∀ u, u < 3 → at_ (numsOf p box j) u * at_ ((List.range box.length).map (numOfS (datOf p box) (lowsOf box) s)) u = at_ (numsOf p box j) u * (frm (datOf p box) s.ov).pt.c u := fun u hu => by
      by_cases h : u < box.length
      · rw [at_map_range _ h, num u h]
      · rw [at_zero (l := numsOf p box j) (by omega)]
        simp
    have c0 := c 0 (by omega)
    have c1 := c 1 (by omega)
    have c2 := c 2 (by omega)
    unfold V3.dot v3
    simp only
    rw [c0, c1, c2]
    rfl
  have lw : (List.replicate (datOf p box).F (0 : Int)).length = fN p box := by
    rw [List.length_replicate]
    rfl
  have su : ∀ g : Nat → Int, sumS (wMost (datOf p box) s) g (fN p box) = ((List.range (datOf p box).n).map fun k => Lc (datOf p box) s.ov (datOf p box).F k * g (gt s.ov k)).sum := fun g => by
    have h := setOv_sum (d := datOf p box) (q := (datOf p box).F) (w := List.replicate (datOf p box).F (0 : Int)) S.ndo (fun x hx => by rw [lw]; exact S.lto _ hx) (fun x hx => at_repl) (g := g) (datOf p box).n (by rw [S.lo]; exact Nat.le_refl _)
    rw [lw] at h
    unfold wMost
    rw [h, sumS_zero, Int.zero_add]
  have lF : ∀ i, i < (datOf p box).n → 0 ≤ Lc (datOf p box) s.ov (datOf p box).F i := fun i hi => by
    have := hw (gt s.ov i) (S.lto _ (gt_mem (by rw [S.lo]; exact hi)))
    have : ¬ Lc (datOf p box) s.ov (datOf p box).F i < 0 := fun z => this (.inr ⟨i, hi, rfl, z⟩)
    omega
  refine ⟨by simp, by omega, by omega, fun j hj => ?_, ⟨by unfold wMost; rw [setOv_len, lw], ?_⟩, fun u hu => ?_, ?_⟩
  · have e := sl_pt (datOf p box) s.ov j
    unfold sl slk at e
    rw [dat_b hj] at e
    have g := ld j (Nat.le_of_lt hj) (factAt p box j).1.l (by unfold numsOf; rw [if_pos hj])
    rw [g]
    have l0 : 0 ≤ La (datOf p box) s.ov j := by
      rcases S.all j hj with h | h
      · have := hw j hj
        have : ¬ La (datOf p box) s.ov j < 0 := fun z => this (.inl ⟨h, z⟩)
        omega
      · obtain ⟨i, hi, e⟩ := mem_gt S.lo h
        rw [← e, La_ov K hi]
        exact Int.le_refl _
    omega
  · refine setOv_pos (fun x hx => ?_) _ lF
    have := List.eq_of_mem_replicate hx
    omega
  · have hg : u < p.gain.length := by rw [k.gl, ← hb.len]; exact hu
    rw [sumN_S k hb _ hu, su, sum_a K S (Nat.le_refl _) u, eF, dat_a (Nat.le_refl _), v3_c (by omega)]
    have : at_ (numsOf p box (fN p box)) u = 0 - at_ p.gain u := by
      unfold numsOf negG
      rw [if_neg (by omega), at_map_range _ hg]
    rw [this]
    grind
  · rw [sumB_S, su, sum_b K S (Nat.le_refl _)]
    have e := sl_pt (datOf p box) s.ov (datOf p box).F
    unfold sl slk at e
    have g := ld (fN p box) (Nat.le_refl _) (negG p) (by unfold numsOf; rw [if_neg (by omega)])
    rw [eF] at e ⊢
    rw [← g] at e
    have dn : dot (negG p) ((List.range box.length).map (numOfS (datOf p box) (lowsOf box) s)) = - dot p.gain ((List.range box.length).map (numOfS (datOf p box) (lowsOf box) s)) := by
      have gl := k.gl
      have bl := hb.len
      have ln : (negG p).length = p.gain.length := by simp [negG]
      rw [dot_v3 (by rw [ln]; simp; omega) (by omega), dot_v3 (by simp; omega) (by omega)]
      have c : ∀ u, at_ (negG p) u = - at_ p.gain u := fun u => by
        by_cases h : u < p.gain.length
        · unfold negG
          rw [at_map_range _ h]
          omega
        · rw [at_zero (by omega), at_zero (by omega)]
          rfl
      unfold v3 V3.dot
      simp only [c]
      grind
    rw [dn] at e
    have c : (frm (datOf p box) s.ov).sc * (datOf p box).b (fN p box) = (datOf p box).b (fN p box) * (frm (datOf p box) s.ov).sc := Int.mul_comm _ _
    omega
/-! the whole -/
noncomputable def loT (p : Prob) (box : Box) : Nat := open Classical in if h : p.Ok ∧ BoxOk p box then Classical.choose (last_turn (dat_ok h.1 h.2) (s0_ok h.1 h.2)) else 0
noncomputable def loS (p : Prob) (box : Box) : LS := sts (datOf p box) (s0 p box) (loT p box)
def toldOf (p : Prob) (box : Box) (s : LS) : Told :=
  if decide (wrongOf (datOf p box) s < (datOf p box).F) = true then .none (wNone (datOf p box) s (wrongOf (datOf p box) s).toNat) else .most ((List.range box.length).map (numOfS (datOf p box) (lowsOf box) s)) (frm (datOf p box) s.ov).sc (wMost (datOf p box) s)
noncomputable def looseOf (p : Prob) (box : Box) : Told := toldOf p box (loS p box)
theorem going_le {d : Dat} {s : LS} {a b : Nat} (h : a ≤ b) (g : Going d s b) : Going d s a := fun i hi => g i (by omega)
theorem loT_eq {p : Prob} {box : Box} (k : p.Ok) (hb : BoxOk p box) {T : Nat} (g : Going (datOf p box) (s0 p box) T) (h : ¬ Going (datOf p box) (s0 p box) (T + 1)) : loT p box = T := by
  have c := Classical.choose_spec (last_turn (dat_ok k hb) (s0_ok k hb))
  have e : loT p box = Classical.choose (last_turn (dat_ok k hb) (s0_ok k hb)) := by
    unfold loT
    rw [dif_pos ⟨k, hb⟩]
  rw [← e] at c
  rcases Nat.lt_trichotomy (loT p box) T with z | z | z
  · exact absurd (going_le (by omega) g) c.2
  · exact z
  · exact absurd (going_le (by omega) c.1) h
theorem loose_good {p : Prob} {box : Box} (k : p.Ok) (hb : BoxOk p box) : (looseOf p box).Good p box := by
  have K := dat_ok k hb
  obtain ⟨T, g, h⟩ := last_turn K (s0_ok k hb)
  have e := loT_eq k hb g h
  have S := (Going.ok K (s0_ok k hb) g).1
  have eS : loS p box = sts (datOf p box) (s0 p box) T := by unfold loS; rw [e]
  unfold looseOf toldOf
  rw [eS]
  generalize hs : sts (datOf p box) (s0 p box) T = s at S
  have ng : ¬ (wrongOf (datOf p box) s < (datOf p box).F ∧ partOf (datOf p box) s (wrongOf (datOf p box) s).toNat < (datOf p box).F) := fun z => h fun i hi => by
    by_cases q : i = T
    · rw [q, hs]
      exact z
    · exact g i (by omega)
  rcases wrong_spec S with w | ⟨one, w1, w2, w3, w4⟩
  · rw [if_neg (by rw [w.1]; simp)]
    exact good_most k hb S w.2
  · rw [if_pos (by rw [w1]; simp; exact w2), w1, Int.toNat_natCast]
    rcases part_spec K S w1 w2 w3 w4 with ⟨_, ⟨h1, h2, h3⟩ | ⟨c, _, hc, _, _, hq⟩⟩ | ⟨other, h1, h2, _⟩
    · exact good_none k hb S h1 h2 h3
    · exact absurd (no_ray K S hc hq) id
    · refine absurd ⟨by rw [w1]; omega, ?_⟩ ng
      rw [w1, Int.toNat_natCast, h1]
      omega
end D

set_option Elab.async false
set_option linter.all false
set_option maxRecDepth 100000
set_option maxHeartbeats 4000000
namespace D
open PySem PySem.Spec PyProof.Rows L2
open ToPy (py)
section
variable {K : PySem.W.Frag} {Γ : Ctx} {te to ta : TE} {R : RP}
theorem inV_ints (x : Int) (xs : List Int) : inV (.int x) (xs.map V.int) = decide (x ∈ xs) := by
  unfold inV
  rw [List.any_map]
  by_cases h : x ∈ xs
  · rw [decide_eq_true h, List.any_eq_true]
    exact ⟨x, h, by simp [eqV]⟩
  · rw [decide_eq_false h, List.any_eq_false]
    intro y hy
    simp only [Function.comp, eqV, beq_iff_eq]
    intro e
    exact h (e ▸ hy)
theorem flat_ints (xs : List Int) : (xs.map V.int).all flatV = true := by
  rw [List.all_map, List.all_eq_true]
  intro x _
  rfl
/-- x in xs -/
theorem s_inI {x : Int} {xs : List Int} : R2D (rInX K) (rep x) (rep xs) (rep (decide (x ∈ xs))) := fun u y f hp s rx ry Q q => by
  cases rep_int rx
  obtain ⟨p, vs, rfl, h1, h2⟩ := rep_list ry
  have e := repL_ints h2
  subst e
  refine .inl ⟨p, _, rfl, .inl (SqL.of1 (s _ _ h1)), rfl, flat_ints xs, ?_⟩
  have e : (if false = true then !inV (.int x) (xs.map V.int) else inV (.int x) (xs.map V.int)) = decide (x ∈ xs) := inV_ints x xs
  rw [e]
  exact q _ f hp (.refl s) (rep_of_bool _ _)
/-- xs.index(x) -/
theorem ev_index {x : Int} {xs : List Int} (ho : EvD Γ to (rep xs)) (he : EvD Γ te (rep x)) (hx : x ∈ xs) : EvD Γ (tBM K "list" (rIndex K) to (tCons te tNil)) (rep ((xs.idxOf x : Nat) : Int)) := fun σ f h s ok Q q =>
  ho σ f h s ok _ fun v f1 h1 e1 rv => by
    obtain ⟨p, vs, rfl, g1, g2⟩ := rep_list rv
    have e := repL_ints g2
    subst e
    refine ⟨.inl ⟨rfl, _, SqL.of1 (e1.fh _ _ g1)⟩, he σ f1 h1 e1.fh (ok.mono e1.ff) _ fun y f2 h2 e2 ry => ?_⟩
    cases rep_int ry
    have hl : xs.idxOf x < xs.length := List.idxOf_lt_length_iff.mpr hx
    refine ⟨p, xs.map V.int, .int x, xs.idxOf x, .int x, rfl, rfl, SqL.of1 (e2.fh _ _ (e2.ff _ _ g1)), rfl, flat_ints xs, ?_, by simp [eqV], fun m z' hm hz => ?_, q _ f2 h2 (e1.trans e2) (rep_of_int _ _)⟩
    · rw [List.getElem?_map, List.getElem?_eq_getElem hl]
      simp
    · rw [List.getElem?_map, List.getElem?_eq_getElem (by omega)] at hz
      simp only [Option.map_some, Option.some.injEq] at hz
      subst hz
      have := List.not_of_lt_findIdx (xs := xs) (p := (· == x)) (i := m) hm
      simp only [eqV]
      simpa using this
/-- list(range(n)) -/
theorem en_listRg {n : Nat} (h : EvD Γ ta (rep (n : Int))) (hn : n ≤ 1000) : EvN Γ (tLstRg (tRg1 ta)) (oL ((List.range n).map fun (i : Nat) => (i : Int))) := fun σ f hp s ok Q q =>
  h σ f hp s ok _ fun v f1 h1 e rv => by
    cases rep_int rv
    refine ⟨(n : Int), rfl, ?_, fun p hp' => q p _ f1 _ (e.trans (.newH e.fh hp')) (e.hh.free hp') (e.fh.free hp') upd_same ⟨_, rfl, ?_⟩⟩
    · exact RgOk.of_le (by omega) (by omega) (by omega) (by omega)
    · have e2 : rgV 0 (n : Int) = ((List.range n).map fun (i : Nat) => (i : Int)).map V.int := by
        unfold rgV
        rw [List.map_map]
        have : ((n : Int) - 0).toNat = n := by omega
        rw [this]
        apply List.map_congr_left
        intro i _
        simp
      rw [e2]
      have e3 : ((List.range n).map fun (i : Nat) => (i : Int)).map (py : Int → PyData) = ((List.range n).map fun (i : Nat) => (i : Int)).map PyData.int := rfl
      rw [e3]
      exact repL_of_ints _ _
end
/-! ### a comprehension over a list of our own -/
structure ItOkO (B : Base) (O : Own) (J : It) (n : Nat) (item : Nat → RP) : Prop where
  go : ∀ i Γ σ f h, i < n → Sta B Γ O σ f h → J.go i h
  yld : ∀ i Γ σ f h x h', i < n → Sta B Γ O σ f h → J.yld i h x h' → ∃ f', Ext f h f' h' ∧ (item i).p x f'
  stop : ∀ Γ σ f h, Sta B Γ O σ f h → J.stop n h
def WiO (B : Base) (Γ : Ctx) (O : Own) (wi : TI) (n : Nat) (item : Nat → RP) : Prop := ∀ σ f h, Sta B Γ O σ f h → ∀ Rk : It → Hp → Prop, (∀ J f' h', Ext f h f' h' → ItOkO B O J n item → Rk J h') → wi σ h Rk
section
variable {B : Base} {K : PySem.W.Frag} {Γ : Ctx} {O : Own} {te tl : TE} {wi : TI} {g : TG} {n : Nat} {item : Nat → RP}
theorem wi_O {α : Type} {_ : ToPy α} {xs : List α} {p : Addr} (j : Nat) (hl : EvS B Γ O tl (own p)) (hj : O[j]? = some (p, oL xs)) (fl : ∀ i, i < xs.length → Flat (rep (at_ xs i))) : WiO B Γ O (iList K tl) xs.length (fun i => rep (at_ xs i)) := fun σ f h s Rk q =>
  hl σ f h s _ fun v f1 h1 e rv => by
    cases rv
    have s1 := s.ext e
    obtain ⟨o, hp, vs, rfl, hr⟩ := s1.get hj
    have at' : ∀ {Γ' : Ctx} {σ : L2.St} {f h : Hp}, Sta B Γ' O σ f h → ∃ vs, h p = some (.lst vs) ∧ repL (xs.map py) vs f := fun s => by
      obtain ⟨o, hp, vs, rfl, hr⟩ := s.get hj
      exact ⟨vs, hp, hr⟩
    refine ⟨p, rfl, ⟨vs, SqL.of1 hp⟩, q _ f1 h1 e ⟨fun i Γ' σ f h hi s => ?_, fun i Γ' σ f h x h' hlt s y => ?_, fun Γ' σ f h s => ?_⟩⟩
    · obtain ⟨vs, hp, hr⟩ := at' s
      have hv : i < vs.length := by rw [repL_length hr, List.length_map]; exact hi
      exact ⟨vs, vs[i], SqL.of1 hp, by simp [hv]⟩
    · obtain ⟨vs, hp, hr⟩ := at' s
      obtain ⟨rfl, y⟩ := y
      have y := y vs (SqL.of1 hp)
      have b1 : (xs.map py)[i]? = some (py (at_ xs i)) := by rw [List.getElem?_map, at_some hlt]; rfl
      obtain ⟨v, h3, h4⟩ := repL_get hr b1
      rw [y] at h3
      cases h3
      exact ⟨f, .refl s.fh, h4⟩
    · obtain ⟨vs, hp, hr⟩ := at' s
      exact ⟨vs, SqL.of1 hp, by rw [repL_length hr, List.length_map]; exact Nat.le_refl _⟩
theorem en_lcO {α : Type} {_ : ToPy α} {vs : List Nat} {val : Nat → α} (hw : WiO B Γ O wi n item) {G' : Nat → Ctx} (ht : ∀ i, i < n → TgL g vs (item i) (wipeC Γ vs) (G' i))
    (he : ∀ i, i < n → EvD (G' i) te (rep (val i))) (hz : n ≤ 100000) : EvNS B Γ O (tLc wi g tYes te vs) (oL ((List.range n).map val)) := fun σ f h s Q q =>
  hw σ f h s _ fun J f1 h1 e J1 D hD => by
    refine ⟨fun i m h' => m = n - i ∧ i ≤ n ∧ ∃ f', Ext f h f' h' ∧ f' D = none ∧ ∃ us, h' D = some (.lst us) ∧ repL (((List.range i).map val).map py) us f', ⟨n, by simp, Nat.zero_le _, f1, ?_, e.fh.free hD, [], upd_same, by simp [repL]⟩, ?_⟩
    · exact ⟨e.ff, e.hh.trans (same_new hD), e.fh.trans (same_new hD), e.nf⟩
    rintro i m h' ⟨rfl, hi, f', E, hf, us, hu, hr⟩
    have s' := s.ext E
    by_cases hlt : i < n
    · refine .inr ⟨J1.go i _ _ f' h' hlt s', fun h2 => ∃ f2, Ext f h f2 h2 ∧ f2 D = none ∧ ∃ us, h2 D = some (.lst us) ∧ repL (((List.range (i + 1)).map val).map py) us f2, fun h2 ⟨f2, b, c⟩ => ⟨n - (i + 1), by omega, rfl, hlt, f2, b, c⟩, fun x h2 y => ?_⟩
      obtain ⟨f2, e2, rx⟩ := J1.yld i _ _ f' h' x h2 hlt s' y
      have ok2 : Ok (wipeC Γ vs) (wipe σ vs) f2 := (s.ok.mono (E.trans e2).ff).wipe vs
      refine ht i hlt _ f2 h2 e2.fh ok2 x rx _ fun σ3 hw3 ok3 => ⟨by rw [hw3]; exact wipe_idem vs vs fun _ z => z, ?_⟩
      have fD2 : f2 D = none := e2.nf D (by rw [hu]; exact fun z => nomatch z) hf
      have hu2 : h2 D = some (.lst us) := e2.hh _ _ hu
      refine (et_yes (Γ := G' i)) σ3 f2 h2 e2.fh ok3 _ fun f3 h3 e3 => ?_
      have fD3 : f3 D = none := e3.nf D (by rw [hu2]; exact fun z => nomatch z) fD2
      have hu3 : h3 D = some (.lst us) := e3.hh _ _ hu2
      have E3 := (E.trans e2).trans e3
      refine iteT (he i hlt σ3 f3 h3 e3.fh (ok3.mono e3.ff) _ fun v f4 h4 e4 rv => ⟨us, e4.hh _ _ hu3, ?_, f4, ?_, e4.nf D (by rw [hu3]; exact fun z => nomatch z) fD3, _, upd_same, ?_⟩)
      · rw [repL_length hr, List.length_map, List.length_map, List.length_range]
        exact Nat.lt_of_le_of_lt (Nat.le_trans (Nat.le_of_lt hlt) hz) (by decide)
      · have E4 := E3.trans e4
        have f4D : f4 D = none := e4.nf D (by rw [hu3]; exact fun z => nomatch z) fD3
        have hD0 : h D = none := e.hh.free hD
        exact ⟨E4.ff, same_upd E4.hh hD0, same_upd E4.fh f4D, E4.nf⟩
      · rw [List.range_succ, List.map_append, List.map_append]
        exact repL_append (repL_mono ((e2.ff.trans e3.ff).trans e4.ff) _ _ hr) (repL_one rv)
    · have e3 : i = n := by omega
      subst e3
      exact .inl ⟨J1.stop _ _ f' h' s', q D _ f' h' E (e.hh.free hD) hf hu ⟨us, rfl, hr⟩⟩
end
section
variable {P : Program} {w : World} {K : PySem.W.Frag} {mg : Str → Option Value} {base : Heap} {x q : Str} {st : Stmt} {N ps : List Str} {k : Nat} {C : Addr} {m : Str}
/-- of a promise that is never asked -/
theorem okm0 (F : DefM K C m q st ps) (sc : FnScope N ps (defScope st)) : Okm P w K mg base CX0 (k + 1) C m ps (spO fun _ _ _ => False) := by
  obtain ⟨f, fd, hF, hm, hb⟩ := F
  refine ⟨f, fd, hm, hb, hF.ok sc (fun vs H Q E h => ?_) fun cdv A outer s H vs Q E hr h => ?_⟩
  · obtain ⟨_, _, _, _, h, _⟩ := h
    exact h.elim
  · obtain ⟨_, _, _, _, h, _⟩ := h
    exact h.elim
theorem okd0 (F : Def K mg x st ps) (sc : FnScope N ps (defScope st)) : Okd P w K mg base CX0 (k + 1) x ps (spD fun _ _ => False) := by
  obtain ⟨f, fd, hF, hm, hb⟩ := F
  refine ⟨f, fd, hm, hF.kp, hb, hF.ok sc (fun vs H Q E h => ?_) fun cdv A outer s H vs Q E hr h => ?_⟩
  · obtain ⟨_, _, _, h, _⟩ := h
    exact h.elim
  · obtain ⟨_, _, _, h, _⟩ := h
    exact h.elim
end
end D

set_option Elab.async false
set_option linter.all false
set_option maxRecDepth 100000
set_option maxHeartbeats 4000000
/-! Layer D: xs[::-1] of lists and tuples. -/
namespace D
open PySem PySem.Spec PyProof.Rows L2
open ToPy (py)
theorem tup_pick_rev (xs : Array Value) : ((List.range xs.size).filterMap fun (k : Nat) => xs[(((xs.size : Int) - 1) + (k : Int) * (-1)).toNat]?).toArray = xs.toList.reverse.toArray := by
  have e : (fun (k : Nat) => xs[(((xs.size : Int) - 1) + (k : Int) * (-1)).toNat]?) = fun k => xs[xs.size - 1 - k]? := by
    funext k
    have : (((xs.size : Int) - 1) + (k : Int) * (-1)).toNat = xs.size - 1 - k := by omega
    rw [this]
  rw [e]
  have z : ((List.range xs.size).map fun k => xs.size - 1 - k).filterMap (xs[·]?) = xs.toList.reverse := by
    rw [PySem.W.krv_range, List.filterMap_reverse, PySem.W.krv_all]
  rw [List.filterMap_map] at z
  exact congrArg _ z
section
variable {prog : Program} {w : World} {A : Around} {E : Value → Shared → Prop} {s : Shared}
theorem sliceApplied_rev {sl : Addr} {n : Nat} {tk : Tok} {Q : Int × Int × Nat → Shared → Prop} (hs : s.heap.IsSliceOf sl .none .none (.int (-1) tk)) (h : Q ((n : Int) - 1, -1, n) s) :
    wpAny (model prog w) A (Builtin.Slice.sliceApplied (.ref sl) (pure (n : Int))) Q E s := by
  obtain ⟨os, hos, hcs, hds⟩ := id hs
  unfold Builtin.Slice.sliceApplied Builtin.Slice.sliceFields
  refine wpAny_bind (wpAny_bind (wpAny_field hos hds (x := .none) rfl (wpAny_bind (wpAny_field hos hds (x := .none) rfl (wpAny_bind (wpAny_field hos hds (x := .int (-1) tk) rfl (wpAny_pure ?_)))))))
  refine wpAny_bind (PyProof.Rows.slicePart_int ?_)
  show wpAny _ _ (if ((-1 : Int) == 0) = true then _ else _) _ _ s
  rw [if_neg (by decide)]
  refine wpAny_bind (slicePart_none (wpAny_bind (slicePart_none (wpAny_bind (wpAny_pure ?_)))))
  show wpAny _ _ (match Builtin.Slice.sliceAdjust none none (-1) (n : Int) with | (lo, hi) => pure (lo, (-1 : Int), Builtin.Slice.slicePlaces lo hi (-1))) _ _ s
  have e : Builtin.Slice.sliceAdjust none none (-1) (n : Int) = ((n : Int) - 1, -1) := by
    unfold Builtin.Slice.sliceAdjust
    simp
  rw [e]
  have e2 : Builtin.Slice.slicePlaces ((n : Int) - 1) (-1) (-1) = n := by
    unfold Builtin.Slice.slicePlaces
    rw [if_neg (by decide)]
    by_cases z : (n : Int) - 1 > -1
    · rw [if_pos z]
      have : ((n : Int) - 1 - -1 - 1) / (- -1) + 1 = (n : Int) := by
        rw [show (- -1 : Int) = 1 by decide, Int.ediv_one]
        omega
      rw [this]
      rfl
    · rw [if_neg z]
      omega
  show wpAny _ _ (pure ((n : Int) - 1, (-1 : Int), Builtin.Slice.slicePlaces ((n : Int) - 1) (-1) (-1))) _ _ s
  rw [e2]
  exact wpAny_pure h
theorem getItem_tuple_rev {t sl : Addr} {items : Array Value} {tk : Tok} {Q : Value → Shared → Prop} (ht : IsTup s.heap t items) (hs : s.heap.IsSliceOf sl .none .none (.int (-1) tk))
    (h : Q (.ref s.heap.objs.size) { s with heap := s.heap.push { cls := .type "tuple", data := .seq items.toList.reverse.toArray } })
    (hsz : items.size ≤ sizeLine) : wpAny (model prog w) A (getItem (.ref t) (.ref sl)) Q E s := by
  have htake : sizeOk (.seq items.toList.reverse.toArray) := by
    show items.toList.reverse.toArray.size ≤ sizeLine
    rw [List.size_toArray, List.length_reverse, Array.length_toList]
    exact hsz
  obtain ⟨os, hos, hcs, hds⟩ := id hs
  have hTs : s.TypeIs (.ref sl) "slice" := ⟨os, hos, hcs⟩
  unfold getItem
  try with_reducible refine wpAny_holding ?_
  first | refine wpAny_bind (wpAny_pure ?_) | skip
  refine wpAny_bind (wpAny_sequenceKey ht.typeIs (by decide) ?_)
  refine wpAny_bind (wpAny_callSpecial?_slot (name := Str.ofString "__getitem__") ht.typeIs PyProof.Rows.slot_tuple_getitem
    (wpAny_call_entry PyProof.Rows.slot_tuple_getitem ht.typeIs entry_tuple_getitem ?_ (args_tuple_getitem _ _)))
  show wpAny _ _ (Builtin.Tuple.tupleItemsOf (.ref t) >>= _) _ _ s
  refine wpAny_bind (tupleItemsOf_ ht ?_)
  refine wpAny_bind (wpAny_typeOf hTs ?_)
  rw [if_pos (by decide)]
  refine wpAny_bind (sliceApplied_rev hs ?_)
  have hno : ¬ ((((items.size : Int) - 1) == 0 && (-1 : Int) == 1 && items.size == items.size) = true) := by
    intro q
    rw [Bool.and_eq_true, Bool.and_eq_true] at q
    exact absurd (eq_of_beq q.1.2) (by decide)
  show wpAny _ _ (if (((items.size : Int) - 1) == 0 && (-1 : Int) == 1 && items.size == items.size) = true then _ else _) _ _ s
  rw [if_neg hno, tup_pick_rev]
  first
    | exact wpAny_bind (m := Builtin.Tuple.tupleExact _) (wpAny_newObj_type (wpAny_pure ⟨_, rfl, wpAny_pure h⟩) htake)
    | exact wpAny_bind (m := Builtin.Tuple.tupleExact _) (wpAny_newObj_type (wpAny_bind (wpAny_pure (wpAny_pure ⟨_, rfl, wpAny_pure h⟩))) htake)
    | exact wpAny_bind (wpAny_bind (m := Builtin.Tuple.tupleExact _) (wpAny_newObj_type (wpAny_pure (wpAny_pure ⟨_, rfl, wpAny_pure h⟩)) htake))
    | exact wpAny_bind (wpAny_bind (m := Builtin.Tuple.tupleExact _) (wpAny_newObj_type (wpAny_pure ⟨_, rfl, wpAny_pure h⟩) htake))
end
/-- t[::-1] -/
def tRevT (K : PySem.W.Frag) (te : TE) : TE := fun σ H Q => te σ H fun x H1 => ∃ a xs, x = .ref a ∧ SqT K H1 a xs ∧ ∀ p, H1 p = none → Q (.ref p) (upd H1 p (.tup xs.reverse))
theorem pe_revT {X : Cx} {e : Expr} {te : TE} {k : Nat} {p1 p2 p3 pos : Pos} (he : PE X e te) : PE X (.Subscript e (.Slice none none (some (.UnaryOp .USub (.Constant (.int 1) k p1) p2)) p3) pos) (tRevT X.K te) := by
  refine ⟨fun pins s σ H Q I h => ?_⟩
  refine Subscript_ (thn (he.run pins s σ H _ I h) fun v s1 ⟨x, H1, I1, r1, q1⟩ => ?_)
  obtain ⟨a, xs, ex, hx, q⟩ := q1
  subst ex
  cases r1
  have hst : PO X (some (.UnaryOp .USub (.Constant (.int 1) k p1) p2)) (tPart (tUn (rU fun i => .int (-i)) (tC (.int 1)))) := po_some (pe_un un_neg pe_int)
  refine wpAny_Slice (thn (po_none.run pins s1 σ H1 (fun o H2 => o = none ∧ H2 = H1) I1 ⟨rfl, rfl⟩) fun vl s2 ⟨l, H2, I2, pl, el, e2⟩ => ?_)
  subst el e2
  refine thn (po_none.run pins s2 σ H2 (fun o H3 => o = none ∧ H3 = H2) I2 ⟨rfl, rfl⟩) fun vu s3 ⟨u, H3, I3, pu, eu, e3⟩ => ?_
  subst eu e3
  refine thn (hst.run pins s3 σ H3 (fun o H4 => o = some (-1) ∧ H4 = H3) I3 ⟨1, rfl, -1, rfl, rfl, rfl⟩) fun vs s4 ⟨o, H4, I4, ps, eo, e4⟩ => ?_
  subst eo e4
  have I5 : Inv X pins σ H4 { s4 with heap := s4.heap.push { cls := .type "slice", data := .fields #[vl, vu, vs] } } := I4.kept (t' := s4.toks) fun b ob q => Heap.get?_push_of_some _ q
  obtain ⟨its, r, ht, hz⟩ := I5.tuple hx
  have hlen := r.length
  show wpAny (model X.prog X.w) X.A (subscriptTail e (.Slice none none (some (.UnaryOp .USub (.Constant (.int 1) k p1) p2)) p3) (.ref a) (.ref s4.heap.objs.size)) (EP X pins σ Q) X.xe { s4 with heap := s4.heap.push { cls := .type "slice", data := .fields #[vl, vu, vs] } }
  cases pl
  cases pu
  cases ps
  refine tail_any (ops := [.ref a, .ref s4.heap.objs.size]) ht.typeIs (PyProof.Rows.slot_tuple_getitem.lookup) ?_ (by with_unfolding_all rfl)
  refine getItem_tuple_rev ht (Heap.IsSliceOf.new _ _ _ _) ?_ (by rw [List.size_toArray]; omega)
  refine ⟨.ref _, _, I5.laid (t' := s4.toks) (o := .tup xs.reverse) (fun b ob q => Heap.get?_push_of_some _ q) (Nat.le_refl _) ?_, rfl, q _ (I5.hok.fresh (Nat.le_refl _))⟩
  exact ⟨by rw [List.length_reverse]; exact hz, _, r.reverse, IsTup.new _ _⟩
def tRevX (K : PySem.W.Frag) (te : TE) : TE := fun σ H Q => tRevL K te σ H Q ∨ tRevT K te σ H Q
theorem pe_revX {X : Cx} {e : Expr} {te : TE} {k : Nat} {p1 p2 p3 pos : Pos} (he : PE X e te) : PE X (.Subscript e (.Slice none none (some (.UnaryOp .USub (.Constant (.int 1) k p1) p2)) p3) pos) (tRevX X.K te) := by
  refine ⟨fun pins s σ H Q I h => ?_⟩
  rcases h with h | h
  · exact (pe_revL he).run pins s σ H Q I h
  · exact (pe_revT he).run pins s σ H Q I h
section
variable {K : PySem.W.Frag} {Γ : Ctx} {te : TE}
theorem repL_rev {H : Hp} : ∀ {ds : List PyData} {vs : List V}, repL ds vs H → repL ds.reverse vs.reverse H := by
  intro ds
  induction ds with
  | nil =>
    intro vs h
    simp only [repL] at h
    subst h
    simp only [List.reverse_nil, repL]
  | cons d ds ih =>
    intro vs h
    simp only [repL] at h
    obtain ⟨v, r, rfl, h1, h2⟩ := h
    rw [List.reverse_cons, List.reverse_cons]
    exact repL_append (ih h2) (repL_one h1)
theorem en_revL {α : Type} {_ : ToPy α} {xs : List α} (h : EvD Γ te (rep xs)) : EvN Γ (tRevX K te) (oL xs.reverse) := fun σ f hp s ok Q q => by
  refine .inl (h σ f hp s ok _ fun v f1 hp1 e1 rv => ?_)
  obtain ⟨p, us, rfl, g1, g2⟩ := rep_list rv
  refine ⟨p, us, rfl, SqL.of1 (e1.fh _ _ g1), fun n hn => q n _ f1 _ (e1.trans (.newH e1.fh hn)) (e1.hh.free hn) (e1.fh.free hn) upd_same ⟨_, rfl, ?_⟩⟩
  rw [List.map_reverse]
  exact repL_rev g2
theorem ev_revL {α : Type} {_ : ToPy α} {xs : List α} (h : EvD Γ te (rep xs)) : EvD Γ (tRevX K te) (rep xs.reverse) := ev_new (en_revL h)
theorem ev_revT {α : Type} {_ : ToPy α} {xs : List α} (h : EvD Γ te (rep (Tup.mk xs))) : EvD Γ (tRevX K te) (rep (Tup.mk xs.reverse)) := fun σ f hp s ok Q q => by
  refine .inr (h σ f hp s ok _ fun v f1 hp1 e1 rv => ?_)
  obtain ⟨p, us, rfl, g1, g2⟩ := rep_tup rv
  refine ⟨p, us, rfl, SqT.of1 (e1.fh _ _ g1), fun n hn => q (.ref n) _ _ (e1.trans (.new e1.fh hn)) ?_⟩
  show repD (.tuple (xs.reverse.map py)) _ _
  simp only [repD]
  refine ⟨n, _, rfl, upd_same, ?_⟩
  rw [List.map_reverse]
  exact repL_mono (same_new (e1.fh.free hn)) _ _ (repL_rev g2)
end
/-! ### for i in range(n), n of our own objects -/
theorem ws_range {B : Base} {Γ : Ctx} {O : Own} {ta : TE} {n : Nat} (h : EvS B Γ O ta (rep (n : Int))) (h1 : n < 2 ^ 62) : WiS B Γ O (iRng1 (tCons ta tNil)) n (fun i => rep (i : Int)) := fun σ f hp s Rk q =>
  h σ f hp s _ fun v f1 hp1 e rv => by
    cases rep_int rv
    refine ⟨(n : Int), rfl, by omega, by omega, q _ f1 hp1 e ⟨fun i f h hi s0 s1 => (by show i < ((n : Int)).toNat; omega), fun i f h x h' hlt s0 s1 y => ?_, fun f h s0 s1 => (by show ((n : Int)).toNat ≤ n; omega)⟩⟩
    obtain ⟨rfl, rfl⟩ := y
    exact ⟨f, .refl s1, by rw [Int.zero_add]; exact rep_of_int _ _⟩
end D

set_option Elab.async false
set_option linter.all false
set_option maxRecDepth 100000
set_option maxHeartbeats 4000000
/-! Layer D: parts of tuples, tuples put together. -/
namespace D
open PySem PySem.Spec PyProof.Rows L2
open ToPy (py)
section
variable {K : PySem.W.Frag} {Γ : Ctx} {te : TE}
theorem repL_nil {ds : List PyData} {H : Hp} (h : repL ds [] H) : ds = [] := by
  have := repL_length h
  exact List.length_eq_zero_iff.mp this.symm
theorem s_catT {ds es : List PyData} (hl : ds.length + es.length ≤ 1000000) : R2D (rAddX K) (rpD (.tuple ds)) (rpD (.tuple es)) (rpD (.tuple (ds ++ es))) := fun x y f hp s rx ry Q q => by
  have rx : repD (.tuple ds) x f := rx
  have ry : repD (.tuple es) y f := ry
  simp only [repD] at rx ry
  obtain ⟨p, vs, rfl, h1, h2⟩ := rx
  obtain ⟨p', vs', rfl, h1', h2'⟩ := ry
  have l1 := repL_length h2
  have l2 := repL_length h2'
  refine .inr (.inr (.inr ⟨p, p', vs, vs', rfl, rfl, SqT.of1 (s _ _ h1), SqT.of1 (s _ _ h1'), ?_, fun e => ?_, fun e1 e2 => ?_, fun e1 e2 n hn => ?_⟩))
  · rw [l1, l2]
    exact Nat.le_trans hl (by decide)
  · subst e
    have := repL_nil h2
    subst this
    refine q (.ref p') f hp (.refl s) ?_
    show repD (.tuple ([] ++ es)) _ _
    simp only [List.nil_append, repD]
    exact ⟨p', vs', rfl, h1', h2'⟩
  · subst e2
    have := repL_nil h2'
    subst this
    refine q (.ref p) f hp (.refl s) ?_
    show repD (.tuple (ds ++ [])) _ _
    simp only [List.append_nil, repD]
    exact ⟨p, vs, rfl, h1, h2⟩
  · refine q (.ref n) _ _ (.new s hn) ?_
    show repD (.tuple (ds ++ es)) _ _
    simp only [repD]
    exact ⟨n, vs ++ vs', rfl, upd_same, repL_mono (same_new (s.free hn)) _ _ (repL_append h2 h2')⟩
theorem ev_cutT {ds : List PyData} {tl th : TO} {lo hi : Option Int} (h : EvD Γ te (rpD (.tuple ds))) (h1 : EvP Γ tl lo) (h2 : EvP Γ th hi) : EvD Γ (tSl (rSlX K) te tl th) (rpD (.tuple (cut ds lo hi))) := fun σ f hp s ok Q q =>
  h σ f hp s ok _ fun v f1 hp1 e1 rv => h1 σ f1 hp1 e1.fh (ok.mono e1.ff) _ fun f2 hp2 e2 => h2 σ f2 hp2 e2.fh (ok.mono (e1.trans e2).ff) _ fun f3 hp3 e3 => by
    have rv := RP.mono (rpD (.tuple ds)) rv (e2.trans e3).ff
    have rv : repD (.tuple ds) v f3 := rv
    simp only [repD] at rv
    obtain ⟨p, us, rfl, g1, g2⟩ := rv
    have E := (e1.trans e2).trans e3
    have l := repL_length g2
    refine .inl (.inr ⟨p, us, rfl, SqT.of1 (E.fh _ _ g1), fun w => ?_, fun w n hn => ?_⟩)
    · refine q (.ref p) f3 hp3 E ?_
      show repD (.tuple (cut ds lo hi)) _ _
      have e : cut ds lo hi = ds := by
        unfold cut
        rw [← l, w.1, w.2, l]
        simp
      rw [e]
      simp only [repD]
      exact ⟨p, us, rfl, g1, g2⟩
    · refine q (.ref n) _ _ (E.trans (.new E.fh hn)) ?_
      show repD (.tuple (cut ds lo hi)) _ _
      simp only [repD]
      refine ⟨n, cutV us lo hi, rfl, upd_same, repL_mono (same_new (E.fh.free hn)) _ _ ?_⟩
      unfold cutV cut
      rw [l]
      exact repL_take _ (repL_drop _ g2)
end
theorem sh_intsT (xs : List Int) : Shd (py (Tup.mk xs)) 1 := shd_tup fun d hd => by
  obtain ⟨x, _, rfl⟩ := List.mem_map.mp hd
  exact shd_int x
end D

set_option Elab.async false
set_option linter.all false
set_option maxRecDepth 100000
set_option maxHeartbeats 4000000
/-! Layer D: data laid anew since a heap; promises that tell of the heap; own objects thawed and frozen. -/
namespace D
open PySem PySem.Spec PyProof.Rows L2
open ToPy (py)
abbrev rIsBl : R2 := L2.rIsB
abbrev rIsNotBl : R2 := L2.rNotB
theorem op_is_bl {X : Cx} : OpR X (compareOp .Is) rIsBl := op_isBl
theorem op_isnot_bl {X : Cx} : OpR X (compareOp .IsNot) rIsNotBl := op_notBl
theorem s_notTrue {b : Bool} : R2D rIsNotBl (rep b) (rep true) (rep (!b)) := fun x y f hp s rx ry Q q => by
  cases rep_bool rx
  cases rep_bool ry
  refine ⟨b, true, rfl, rfl, q _ f hp (.refl s) ?_⟩
  have e : (!decide (b = true)) = !b := by cases b <;> rfl
  rw [e]
  exact rep_of_bool _ _
/-! ### what was laid since -/
def offH (b f : Hp) : Hp := fun a => match b a with | none => f a | some _ => none
theorem off_eq {b f : Hp} {a : Addr} (h : b a = none) : offH b f a = f a := by unfold offH; rw [h]
theorem off_some {b f : Hp} {a : Addr} {o : HO} (h : offH b f a = some o) : b a = none ∧ f a = some o := by
  unfold offH at h
  cases e : b a with
  | none => rw [e] at h; exact ⟨rfl, h⟩
  | some _ => rw [e] at h; cases h
theorem off_same {b f : Hp} : Same (offH b f) f := fun a o e => (off_some e).2
theorem off_mono {b f f' : Hp} (s : Same f f') : Same (offH b f) (offH b f') := fun a o e => by
  obtain ⟨h1, h2⟩ := off_some e
  rw [off_eq h1]
  exact s _ _ h2
def Dom (b h : Hp) : Prop := ∀ a, b a ≠ none → h a ≠ none
theorem Dom.refl (b : Hp) : Dom b b := fun _ n => n
theorem Dom.trans {a b c : Hp} (x : Dom a b) (y : Dom b c) : Dom a c := fun z n => y z (x z n)
theorem Dom.of {f h : Hp} (s : Same f h) : Dom f h := fun a n => by
  cases e : f a with
  | none => exact absurd e n
  | some o => rw [s _ _ e]; exact fun z => nomatch z
theorem Dom.free {b h : Hp} (d : Dom b h) {a : Addr} (n : h a = none) : b a = none := by
  cases e : b a with
  | none => rfl
  | some o => exact absurd n (d a (by rw [e]; exact fun z => nomatch z))
theorem off_anti {b b' f : Hp} (d : Dom b b') : Same (offH b' f) (offH b f) := fun a o e => by
  obtain ⟨h1, h2⟩ := off_some e
  rw [off_eq (d.free h1)]
  exact h2
def nw (b : Hp) (R : RP) : RP := ⟨fun v f => R.p v (offH b f), fun h s => R.mono h (off_mono s)⟩
theorem nw_weak {b f : Hp} {R : RP} {v : V} (h : (nw b R).p v f) : R.p v f := R.mono h off_same
theorem nw_anti {b b' f : Hp} {R : RP} {v : V} (d : Dom b b') (h : (nw b' R).p v f) : (nw b R).p v f := R.mono h (off_anti d)
theorem nw_int {b f : Hp} {i : Int} {v : V} (h : (rep i).p v f) : (nw b (rep i)).p v f := by
  cases rep_int h
  exact rep_of_int _ _
section
variable {B : Base} {Γ Γ' : Ctx} {O O' : Own} {σ : L2.St} {f h f' h' : Hp} {te ta to : TE} {t : TA} {R R' : RP} {Rs : List RP} {u : TS} {P : Post} {i j : Nat} {C : Addr} {E : XK} {K : PySem.W.Frag} {Po : RP → Own → Prop} {m : Str} {b : Hp}
theorem es_imp (he : EvS B Γ O te R) (h : ∀ v f, R.p v f → R'.p v f) : EvS B Γ O te R' := fun σ f hp s Q q => he σ f hp s Q fun v f' h' e rv => q v f' h' e (h v f' rv)
theorem ev_imp (he : EvD Γ te R) (h : ∀ v f, R.p v f → R'.p v f) : EvD Γ te R' := fun σ f hp s ok Q q => he σ f hp s ok Q fun v f' h' e rv => q v f' h' e (h v f' rv)
theorem ev_weak (he : EvD Γ te (nw b R)) : EvD Γ te R := ev_imp he fun _ _ => nw_weak
theorem nw_sub {d : PyData} {ds : List PyData} {i : Int} (h : atI ds i = some d) : R2D (rIx K) (nw b (rpD (.tuple ds))) (rep i) (nw b (rpD d)) := fun x y f hp s rx ry Q q => by
  have rx : repD (.tuple ds) x (offH b f) := rx
  simp only [repD] at rx
  obtain ⟨p, vs, rfl, h1, h2⟩ := rx
  cases rep_int ry
  obtain ⟨j, hj, hg⟩ := Option.bind_eq_some_iff.mp h
  obtain ⟨v, hv, rv⟩ := repL_get h2 hg
  refine .inr (.inl ⟨p, vs, i, v, rfl, rfl, SqT.of1 (s _ _ (off_same _ _ h1)), ?_, q v f hp (.refl s) rv⟩)
  unfold atI
  rw [repL_length h2, hj]
  exact hv
theorem Sta.dom (s : Sta B Γ O σ f h) : Dom B.h h := s.th
/-- a new list of whole numbers -/
theorem repL_anyints {xs : List Int} {vs : List V} {H H' : Hp} (h : repL (xs.map PyData.int) vs H) : repL (xs.map PyData.int) vs H' := by
  have e := repL_ints h
  subst e
  clear h
  induction xs with
  | nil => simp only [List.map_nil, repL]
  | cons a l ih =>
    simp only [List.map_cons, repL, repD]
    exact ⟨_, _, rfl, rfl, ih⟩
theorem nw_list {b f : Hp} {p : Addr} {xs : List Int} {vs : List V} {H : Hp} (hb : b p = none) (hf : f p = some (.lst vs)) (hr : repL (xs.map PyData.int) vs H) : (nw b (rep xs)).p (.ref p) f := by
  show repD (.list (xs.map PyData.int)) _ _
  simp only [repD]
  exact ⟨p, vs, rfl, by rw [off_eq hb]; exact hf, repL_anyints hr⟩
theorem es_newN {xs : List Int} (d : Dom b B.h) (x : EvN Γ te (oL xs)) : EvS B Γ O te (nw b (rep xs)) := fun σ f hp s Q q =>
  x σ f hp s.fh s.ok Q fun p o f' h' e hn fn ho ht => by
    obtain ⟨vs, rfl, hr⟩ := ht
    have hb : b p = none := (d.trans s.dom).free hn
    have k := same_new (o := .lst vs) fn
    refine q (.ref p) (upd f' p (.lst vs)) h' ⟨e.ff.trans k, e.hh, fun a u z => ?_, fun a n z => ?_⟩ (nw_list hb upd_same hr)
    · by_cases hp : a = p
      · subst hp
        rw [upd_same] at z
        cases z
        exact ho
      · rw [upd_ne hp] at z
        exact e.fh a u z
    · have : a ≠ p := fun y => n (by rw [y]; exact hn)
      rw [upd_ne this]
      exact e.nf a n z
theorem bd_frzN {xs : List Int} {p : Addr} (j : Nat) (i : Nat) (hi : Γ[i]? = some (some (own p))) (hj : O[j]? = some (p, oL xs)) (hm : B.m = []) (k : BDe B (Γ.set i (some (nw B.h (rep xs)))) (O.eraseIdx j) u P) : BDe B Γ O u P := fun L σ f h s l D q => by
  obtain ⟨o, ho, vs, rfl, hr⟩ := s.get hj
  obtain ⟨s1, k1⟩ := s.freeze hj ho hm
  obtain ⟨v, hv, rv⟩ := s.ok.2 i _ hi
  cases rv
  have hb : B.h p = none := by
    obtain ⟨_, h2, _⟩ := s.ow p _ (List.mem_of_getElem? hj)
    rcases h2 with h2 | h2
    · exact h2
    · rw [hm] at h2; cases h2
  have z : (nw B.h (rep xs)).p (.ref p) (upd f p (.lst vs)) := nw_list hb upd_same hr
  refine k L σ _ h ?_ (l.trans k1) D q
  have s2 := s1.set (i := i) z
  have e : σ.set i (some (.ref p)) = σ := by
    apply List.ext_getElem?
    intro n
    by_cases hn : i = n
    · subst hn
      rw [List.getElem?_set_self (List.getElem?_eq_some_iff.mp hv).1, hv]
    · rw [List.getElem?_set_ne hn]
  rw [e] at s2
  exact s2
theorem All.repLN {ds : List PyData} : ∀ {vs : List V} {H : Hp}, All (ds.map fun d => nw b (rpD d)) vs H → D.repL ds vs (offH b H) := by
  induction ds with
  | nil => intro vs H h; simp only [D.repL]; exact h
  | cons d ds ih =>
    intro vs H h
    obtain ⟨v, r, e, h1, h2⟩ := h
    simp only [D.repL]
    exact ⟨v, r, e, h1, ih h2⟩
theorem es_tupN {ds : List PyData} (d : Dom b B.h) (x : EvAS B Γ O t (ds.map fun d => nw b (rpD d))) (hl : ds.length ≤ 1000000 := by simp) : EvS B Γ O (tTup t) (nw b (rpD (.tuple ds))) := fun σ f hp s Q q =>
  x σ f hp s _ fun vs f' h' e rs => by
    have r := All.repLN rs
    refine ⟨by rw [repL_length r]; exact Nat.le_trans hl (by decide), fun p hn => q (.ref p) _ _ (e.trans (Ext.new e.fh hn)) ?_⟩
    have hb : b p = none := (d.trans s.dom).free (e.hh.free hn)
    show repD (.tuple ds) _ _
    simp only [repD]
    exact ⟨p, vs, rfl, by rw [off_eq hb]; exact upd_same, repL_mono (off_mono (same_new (e.fh.free hn))) _ _ r⟩
theorem ev_strN {x : Str} : EvD Γ (tC (.str x)) (nw b (rep x)) := ev_c fun H => by show repD (.str x) (.str x) (offH b H); simp [repD]
/-- a new list of whole numbers, made of our own objects -/
theorem es_lendN {xs : List Int} (c : LendC O Γ Γ') (x : EvN Γ' te (oL xs)) : EvS B Γ O te (rep xs) := fun σ f hp s Q q =>
  x σ (lent O f hp) hp (lent_h s) (c.ok (lent_f s) (fun p T m => (s.ow p T m).2.2) s.ok) Q fun p o f' h' e hn fn ho ht => by
    obtain ⟨vs, rfl, hr⟩ := ht
    have fp : f p = none := s.fh.free hn
    have k := same_new (o := .lst vs) fp
    refine q (.ref p) (upd f p (.lst vs)) h' ⟨k, e.hh, fun a u z => ?_, fun a n z => ?_⟩ ?_
    · by_cases hp : a = p
      · subst hp
        rw [upd_same] at z
        cases z
        exact ho
      · rw [upd_ne hp] at z
        exact e.hh _ _ (s.fh a u z)
    · have : a ≠ p := fun y => n (by rw [y]; exact hn)
      rw [upd_ne this]
      exact z
    · show repD (.list (xs.map PyData.int)) _ _
      simp only [repD]
      exact ⟨p, vs, rfl, upd_same, repL_anyints hr⟩
/-! ### promises that tell of the heap at the call -/
def spDH (S : Hp → Spec) : Sp := fun vs H Q E => spD (S H) vs H Q E
def spOH (S : Hp → SpecO) : Sp := fun vs H Q E => spO (S H) vs H Q E
theorem es_callH {S : Hp → Spec} (ha : EvAS B Γ O t Rs) (hS : ∀ H, Dom B.h H → ∃ R', S H Rs R' ∧ ∀ v f, R'.p v f → R.p v f) : EvS B Γ O (tCall (spDH S) [] E t) R := fun σ f h s Q q =>
  ha σ f h s _ fun vs f1 h1 e rs => by
    rw [List.append_nil]
    obtain ⟨R', hS, imp⟩ := hS h1 (s.ext e).dom
    exact ⟨Rs, R', f1, hS, e.fh, rs, fun v f' H' e2 rv => q v f' H' (e.trans e2) (imp _ _ rv)⟩
theorem ev_callH {S : Hp → Spec} (ha : EvA Γ t Rs) (hS : ∀ H, ∃ R', S H Rs R' ∧ ∀ v f, R'.p v f → R.p v f) : EvD Γ (tCall (spDH S) [] E t) R := fun σ f hp s ok Q q =>
  ha σ f hp s ok _ fun vs f1 h1 e rs => by
    rw [List.append_nil]
    obtain ⟨R', hS, imp⟩ := hS h1
    exact ⟨Rs, R', f1, hS, e.fh, rs, fun v f' H' e2 rv => q v f' H' (e.trans e2) (imp _ _ rv)⟩
theorem es_methH {S : Hp → Spec} {fs : List (Str × RP)} (x : EvD Γ ta (insR C fs)) (hl : fs.lookup m = none) (ha : EvA Γ t Rs) (hS : ∀ H, Dom B.h H → ∃ R', S H (insR C fs :: Rs) R' ∧ ∀ v f, R'.p v f → R.p v f) : EvS B Γ O (tMeth C m (spDH S) [] E ta t) R := fun σ f hp s Q q =>
  x σ f hp s.fh s.ok _ fun v f1 h1 e rv => by
    obtain ⟨a, dx, fvs, ev, g1, g2⟩ := id rv
    subst ev
    refine ⟨a, dx, fvs, rfl, e.fh _ _ g1, g2.none hl, ha σ f1 h1 e.fh (s.ok.mono e.ff) _ fun vs f2 h2 e2 rs => ?_⟩
    rw [List.append_nil]
    obtain ⟨R', hS, imp⟩ := hS h2 ((s.ext e).ext e2).dom
    exact ⟨insR C fs :: Rs, R', f2, hS, e2.fh, ⟨_, vs, rfl, RP.mono (insR C fs) rv e2.ff, rs⟩, fun v f' H' e3 rv => q v f' H' ((e.trans e2).trans e3) (imp _ _ rv)⟩
theorem ev_methOH {S : Hp → SpecO} {fs : List (Str × RP)} {p : Addr} (j : Nat) (ho : EvD Γ to (own p)) (hj : O[j]? = some (p, insO C fs)) (hl : fs.lookup m = none) (ha : EvAS B Γ O t Rs) (hS : ∀ H, Dom B.h H → S H (D.own p :: Rs) O Po) {Q : V → Hp → Prop} (s : Sta B Γ O σ f h)
    (k : ∀ v f' h' R O', Po R O' → Same f f' → Sta B Γ O' σ f' h' → R.p v f' → Q v h') : tMeth C m (spOH S) [] E to t σ h Q :=
  ho σ f h s.fh s.ok _ fun v f1 h1 e1 rv => by
    cases rv
    have s1 := s.ext e1
    obtain ⟨o, hp, dx, fvs, rfl, hr⟩ := s1.get hj
    refine ⟨p, dx, fvs, rfl, hp, hr.none hl, ha σ f1 h1 s1 _ fun vs f2 h2 e2 rs => ?_⟩
    have s2 := s1.ext e2
    rw [List.append_nil]
    refine ⟨_, O, Po, f2, hS h2 s2.dom, s2.fh, ⟨_, vs, rfl, rfl, rs⟩, s2.own, fun v f' H' R O' hp e3 w rv => ?_⟩
    exact k v f' H' R O' hp ((e1.trans e2).ff.trans e3.ff) (s2.called e3 w) rv
theorem bd_methOH {S : Hp → SpecO} {fs : List (Str × RP)} {p : Addr} (j : Nat) (ho : EvD Γ to (own p)) (hj : O[j]? = some (p, insO C fs)) (hl : fs.lookup m = none) (ha : EvAS B Γ O t Rs) (hS : ∀ H, Dom B.h H → S H (D.own p :: Rs) O Po)
    (k : ∀ R O', Po R O' → BDe B Γ O' u P) : BDe B Γ O (tSeq (tDrop (tMeth C m (spOH S) [] E to t)) u) P := fun L σ f h s l D q =>
  ev_methOH j ho hj hl ha hS s fun v f' h' R O' hp e s' rv => k R O' hp L σ f' h' s' (l.trans e) D q
theorem bd_setMOH {S : Hp → SpecO} {fs : List (Str × RP)} {p : Addr} (j : Nat) (ho : EvD Γ to (own p)) (hj : O[j]? = some (p, insO C fs)) (hl : fs.lookup m = none) (ha : EvAS B Γ O t Rs) (hS : ∀ H, Dom B.h H → S H (D.own p :: Rs) O Po)
    (k : ∀ R O', Po R O' → BDe B (Γ.set i (some R)) O' u P) : BDe B Γ O (tSeq (tAsg (tMeth C m (spOH S) [] E to t) (gName i)) u) P := fun L σ f h s l D q =>
  ev_methOH j ho hj hl ha hS s fun v f' h' R O' hp e s' rv => k R O' hp L _ f' h' (s'.set rv) (l.trans e) D q
/-- an own instance's fields, known less -/
theorem bd_convI {fs fs' : List (Str × RP)} {p : Addr} (imp : ∀ fvs f, RepF fs fvs f → RepF fs' fvs f) (k : BDe B Γ ((p, insO C fs') :: O) u P) : BDe B Γ ((p, insO C fs) :: O) u P := fun L σ f h s l D q =>
  k L σ f h { s with ow := fun p2 T2 hm => (by
                rcases List.mem_cons.mp hm with z | z
                · cases z
                  obtain ⟨g1, g2, o, g3, dx, fvs, e, hr⟩ := s.ow p _ (List.mem_cons_self ..)
                  exact ⟨g1, g2, o, g3, dx, fvs, e, imp _ _ hr⟩
                · exact s.ow p2 T2 (List.mem_cons_of_mem _ z)), nd := s.nd } l D q
/-- all of ours stands from now on -/
theorem bd_frzAll (c : LendC O Γ Γ') (hm : B.m = []) (k : BDe B Γ' [] u P) : BDe B Γ O u P := fun L σ f h s l D q => by
  have lf := lent_f s
  refine k L σ (lent O f h) h ⟨s.ff.trans lf, lent_h s, s.hh, s.th, fun a n z => ?_, c.ok lf (fun p T m => (s.ow p T m).2.2) s.ok, fun _ _ z => (nomatch z), List.nodup_nil⟩ (l.trans lf) D q
  unfold lent
  rw [if_neg fun m => ?_]
  · exact s.nf a n z
  · obtain ⟨⟨p, T⟩, hp, rfl⟩ := List.mem_map.mp m
    obtain ⟨_, g2, _⟩ := s.ow p T hp
    rcases g2 with g2 | g2
    · exact n g2
    · rw [hm] at g2; cases g2
end
/-! ### the bodies -/
section
variable {P : Program} {w : World} {K : PySem.W.Frag} {mg : Str → Option Value} {base : Heap} {x q : Str} {st : Stmt} {N ps : List Str} {k : Nat} {C : Addr} {m : Str} {t : TS}
theorem run_spDH {S : Hp → Spec} {t : TS} (ev : ∀ B : Base, B.m = [] → ∀ Rs R, S B.h Rs R → BDe B (startC N Rs) [] t (fnP B R)) {vs : List V} {H : Hp} {Q : VK} {E : XK} (h : spDH S vs H Q E) : t { nx := fun _ H' => Q .non H', rt := Q } (L2.start N vs) H := by
  obtain ⟨Rs, R, f, hS, s, a, k⟩ := h
  refine ev ⟨f, H, []⟩ rfl Rs R hS f (L2.start N vs) f H ?_ (.refl _) _ ⟨fun σ f' h' _ z => k .non f' h' z.1 z.2, fun v f' h' _ z => k v f' h' z.1 z.2, fun _ _ _ _ z => z.elim, fun _ _ _ _ z => z.elim⟩
  exact { ff := .refl _, fh := s, hh := fun a o e _ => e, th := fun _ n => n, nf := fun _ _ e => e, ok := ok_start a, ow := fun _ _ z => (nomatch z), nd := List.nodup_nil }
theorem okdH {S : Hp → Spec} (F : Def K mg x st ps) (sc : FnScope N ps (defScope st)) (hlen : ∀ H Rs R, S H Rs R → Rs.length = ps.length)
    (hps : ∀ (f : Addr) (cdv : Value) (A : Around) (outer : List Env) (s : Shared) (H : Hp) (E : XK), Room k (A.deeper (envOfC x (defScope st) s.heap.objs.size f cdv)) → PSs (cx0 P w K mg base N x st f cdv A outer s H E) (defBody st) t)
    (ev : ∀ B : Base, B.m = [] → ∀ Rs R, S B.h Rs R → BDe B (startC N Rs) [] t (fnP B R)) : Okd P w K mg base CX0 (k + 1) x ps (spDH S) := by
  obtain ⟨f, fd, hF, hm, hb⟩ := F
  refine ⟨f, fd, hm, hF.kp, hb, hF.ok sc (fun vs H Q E h => ?_) fun cdv A outer s H vs Q E hr h => ⟨t, hps f cdv A outer s H E hr, run_spDH ev h⟩⟩
  obtain ⟨Rs, R, f, hS, _, a, _⟩ := h
  rw [a.length, hlen _ Rs R hS]
theorem okmH {S : Hp → Spec} (F : DefM K C m q st ps) (sc : FnScope N ps (defScope st)) (hlen : ∀ H Rs R, S H Rs R → Rs.length = ps.length)
    (hps : ∀ (f : Addr) (cdv : Value) (A : Around) (outer : List Env) (s : Shared) (H : Hp) (E : XK), Room k (A.deeper (envOfC q (defScope st) s.heap.objs.size f cdv)) → PSs (cx0 P w K mg base N q st f cdv A outer s H E) (defBody st) t)
    (ev : ∀ B : Base, B.m = [] → ∀ Rs R, S B.h Rs R → BDe B (startC N Rs) [] t (fnP B R)) : Okm P w K mg base CX0 (k + 1) C m ps (spDH S) := by
  obtain ⟨f, fd, hF, hm, hb⟩ := F
  refine ⟨f, fd, hm, hb, hF.ok sc (fun vs H Q E h => ?_) fun cdv A outer s H vs Q E hr h => ⟨t, hps f cdv A outer s H E hr, run_spDH ev h⟩⟩
  obtain ⟨Rs, R, f, hS, _, a, _⟩ := h
  rw [a.length, hlen _ Rs R hS]
def RdOH (S : Hp → SpecO) (N : List Str) (t : TS) : Prop := ∀ B : Base, ∀ Rs O Po, S B.h Rs O Po → B.m = O.map (·.1) → BDe B (startC N Rs) O t (fnO B Po)
theorem run_spOH {S : Hp → SpecO} {t : TS} (ev : RdOH S N t) {vs : List V} {H : Hp} {Q : VK} {E : XK} (h : spOH S vs H Q E) : t { nx := fun _ H' => Q .non H', rt := Q } (L2.start N vs) H := by
  obtain ⟨Rs, O, Po, f, hS, s, a, w, k⟩ := h
  have st : Sta ⟨f, H, O.map (·.1)⟩ (startC N Rs) O (L2.start N vs) f H := ⟨.refl _, s, fun a o e _ => e, fun _ n => n, fun _ _ e => e, ok_start a, w.ow, w.nd⟩
  refine ev ⟨f, H, O.map (·.1)⟩ Rs O Po hS rfl f (L2.start N vs) f H st (.refl _) _ ⟨fun σ f' h' _ ⟨R, O', z1, z2, z3, z4⟩ => k .non f' h' R O' z1 z2 z3 z4, fun v f' h' _ ⟨R, O', z1, z2, z3, z4⟩ => k v f' h' R O' z1 z2 z3 z4, fun _ _ _ _ z => z.elim, fun _ _ _ _ z => z.elim⟩
theorem okmOH {S : Hp → SpecO} (F : DefM K C m q st ps) (sc : FnScope N ps (defScope st)) (hlen : ∀ H Rs O Po, S H Rs O Po → Rs.length = ps.length)
    (hps : ∀ (f : Addr) (cdv : Value) (A : Around) (outer : List Env) (s : Shared) (H : Hp) (E : XK), Room k (A.deeper (envOfC q (defScope st) s.heap.objs.size f cdv)) → PSs (cx0 P w K mg base N q st f cdv A outer s H E) (defBody st) t)
    (ev : RdOH S N t) : Okm P w K mg base CX0 (k + 1) C m ps (spOH S) := by
  obtain ⟨f, fd, hF, hm, hb⟩ := F
  refine ⟨f, fd, hm, hb, hF.ok sc (fun vs H Q E h => ?_) fun cdv A outer s H vs Q E hr h => ⟨t, hps f cdv A outer s H E hr, run_spOH ev h⟩⟩
  obtain ⟨Rs, O, Po, f, hS, _, a, _⟩ := h
  rw [a.length, hlen _ Rs O Po hS]
theorem okm0H (F : DefM K C m q st ps) (sc : FnScope N ps (defScope st)) : Okm P w K mg base CX0 (k + 1) C m ps (spOH fun _ _ _ _ => False) := by
  obtain ⟨f, fd, hF, hm, hb⟩ := F
  refine ⟨f, fd, hm, hb, hF.ok sc (fun vs H Q E h => ?_) fun cdv A outer s H vs Q E hr h => ?_⟩
  · obtain ⟨Rs, O, Po, f, hS, _⟩ := h
    exact hS.elim
  · obtain ⟨Rs, O, Po, f, hS, _⟩ := h
    exact hS.elim
end
/-! ### a block from here on: what held before may be gone back to -/
section
variable {B : Base} {Γ Γ' : Ctx} {O O' : Own} {σ : L2.St} {f h f' h' : Hp} {te : TE} {tt : TT} {R R' : RP} {u t1 t2 : TS} {P : Post} {i j : Nat} {b : Bool}
/-- with the ghost of the base below -/
def BDb (B : Base) (Γ : Ctx) (O : Own) (t : TS) (P : Post) : Prop := ∀ σ f h, Sta B Γ O σ f h → ∀ D : Ends, PostOk B.f P D → t D σ h
theorem bdb_of (k : BDe B Γ O u P) : BDb B Γ O u P := fun σ f h s D p => k B.f σ f h s s.ff D p
theorem bdb_set (he : EvS B Γ O te R) (hr : BDb B (Γ.set i (some R)) O u P) : BDb B Γ O (tSeq (tAsg te (gName i)) u) P := fun σ f h s D p =>
  he σ f h s _ fun v f1 h1 e rv => hr _ f1 h1 ((s.ext e).set rv) D p
theorem bdb_if (hc : EvTS B Γ O tt b) (h1 : b = true → BDb B Γ O (tSeq t1 u) P) (h2 : b = false → BDb B Γ O (tSeq t2 u) P) : BDb B Γ O (tSeq (tIfS tt (tSeq t1 tNext) t2) u) P := fun σ f h s D p =>
  hc σ f h s _ fun f1 hp1 e => by
    have s1 := s.ext e
    cases b with
    | true => exact iteT (h1 rfl σ f1 hp1 s1 D p)
    | false => exact iteF (h2 rfl σ f1 hp1 s1 D p)
theorem bdb_conv (k : ∀ σ f h, Sta B Γ O σ f h → ∃ f2 Γ2 O2, Sta B Γ2 O2 σ f2 h ∧ BDb B Γ2 O2 u P) : BDb B Γ O u P := fun σ f h s D p => by
  obtain ⟨f2, Γ2, O2, s2, k2⟩ := k σ f h s
  exact k2 σ f2 h s2 D p
def bs (B : Base) (R : RP) : RP := ⟨fun v f => R.p v B.f ∧ R.p v f, fun h s => ⟨h.1, R.mono h.2 s⟩⟩
def bsC (B : Base) (Γ : Ctx) : Ctx := Γ.map (Option.map (bs B))
theorem bd_rebase (hm : B.m = []) (k : ∀ f h, Dom B.h h → Same f h → BDb ⟨f, h, []⟩ (bsC ⟨f, h, []⟩ Γ) [] u (fnP ⟨f, h, []⟩ R)) : BDe B Γ [] u (fnP B R) := fun L σ f h s l D p => by
  have E := s.toExt hm
  refine k f h s.dom s.fh σ f h ⟨.refl _, s.fh, fun _ _ e _ => e, fun _ n => n, fun _ _ e => e, ⟨by simp [bsC, s.ok.1], fun i R' e => ?_⟩, fun _ _ z => (nomatch z), List.nodup_nil⟩ D ⟨fun σ' f' h' s' ⟨z1, z2⟩ => p.nx σ' f' h' (l.trans s') ⟨E.trans z1, z2⟩, fun v f' h' s' ⟨z1, z2⟩ => p.rt v f' h' (l.trans s') ⟨E.trans z1, z2⟩, fun _ _ _ _ z => z.elim, fun _ _ _ _ z => z.elim⟩
  have e : (Γ[i]?).map (Option.map (bs ⟨f, h, []⟩)) = some (some R') := by
    rw [← e]
    simp [bsC]
  cases g : Γ[i]? with
  | none => rw [g] at e; cases e
  | some x =>
    cases x with
    | none => rw [g] at e; cases e
    | some R0 =>
      rw [g] at e
      cases e
      obtain ⟨v, h1, h2⟩ := s.ok.2 i R0 g
      exact ⟨v, h1, h2, h2⟩
theorem ev_bs {Γ : Ctx} (he : EvD Γ te (bs B R)) : EvD Γ te R := ev_imp he fun _ _ z => z.2
end
end D

set_option Elab.async false
set_option linter.all false
set_option maxRecDepth 100000
set_option maxHeartbeats 4000000
/-! Layer D: enumerate; results whose lists become our own; lists of objects. -/
namespace D
open PySem PySem.Spec PyProof.Rows L2
open ToPy (py)
section
variable {B : Base} {Γ Γ' : Ctx} {O O' : Own} {σ : L2.St} {f h f' h' : Hp} {te ta to : TE} {t : TA} {R R' X : RP} {Rs : List RP} {u : TS} {P : Post} {i j : Nat} {C : Addr} {E : XK} {K : PySem.W.Frag} {tt : TT}
theorem bd_clear' {α : Type} {_ : ToPy α} {xs : List α} {p : Addr} (j : Nat) (ho : EvD Γ to (own p)) (hj : O[j]? = some (p, oL xs)) (k : BDe B Γ (O.set j (p, oL ([] : List α))) u P) : BDe B Γ O (tSeq (tDrop (tBM0 K "list" rClear to)) u) P := fun L σ f h s l D q =>
  ho σ f h s.fh s.ok _ fun v f1 h1 e1 rv => by
    cases rv
    have s1 := s.ext e1
    obtain ⟨o, hp, vs, rfl, hr⟩ := s1.get hj
    refine ⟨.inl ⟨rfl, vs, SqL.of1 hp⟩, p, vs, rfl, rfl, hp, ?_⟩
    exact k L σ f1 _ (s1.put hj ⟨_, rfl, by simp [repL]⟩) (l.trans e1.ff) D q
/-- xs.extend(ys) -/
theorem bd_extend' {α : Type} {_ : ToPy α} {xs ys : List α} {p : Addr} (j : Nat) (ho : EvD Γ to (own p)) (hj : O[j]? = some (p, oL xs)) (he : EvS B Γ O te (rep ys)) (hz : xs.length + ys.length ≤ 1000000) (k : BDe B Γ (O.set j (p, oL (xs ++ ys))) u P) :
    BDe B Γ O (tSeq (tDrop (tBM K "list" rExtend to (tCons te tNil))) u) P := fun L σ f h s l D q =>
  ho σ f h s.fh s.ok _ fun v f1 h1 e1 rv => by
    cases rv
    have s1 := s.ext e1
    obtain ⟨o, hp, vs, rfl, hr⟩ := s1.get hj
    refine ⟨.inl ⟨rfl, vs, SqL.of1 hp⟩, he σ f1 h1 s1 _ fun y f2 h2 e2 ry => ?_⟩
    have s2 := s1.ext e2
    have hp2 : h2 p = some (.lst vs) := e2.hh _ _ hp
    obtain ⟨b, zs, rfl, g1, g2⟩ := rep_list ry
    refine ⟨p, b, vs, zs, rfl, rfl, hp2, e2.fh _ _ g1, ?_, ?_⟩
    · rw [repL_length hr, repL_length g2, List.length_map, List.length_map]
      exact Nat.le_trans hz (by decide)
    · refine k L σ f2 _ (s2.put hj ⟨_, rfl, ?_⟩) ((l.trans e1.ff).trans e2.ff) D q
      rw [List.map_append]
      exact repL_append (repL_mono e2.ff _ _ hr) g2

theorem wi_enum {α : Type} {_ : ToPy α} {xs : List α} (x : EvD Γ ta (rep xs)) : WiD Γ (iEnum K (tCons ta tNil)) xs.length (fun i => rep ((i : Int), at_ xs i)) := fun σ f hp s ok Rk q =>
  x σ f hp s ok _ fun v f1 hp1 e1 rv => by
    obtain ⟨p, vs, rfl, g1, g2⟩ := rep_list rv
    have l1 : vs.length = xs.length := by rw [repL_length g2, List.length_map]
    refine ⟨p, vs, rfl, SqL.of1 (e1.fh _ _ g1), q _ f1 hp1 e1 ⟨fun i f h hi s0 s1 => ?_, fun i f h x h' hlt s0 s1 y => ?_, fun f h s0 s1 => ?_⟩⟩
    · have a1 : i < vs.length := by omega
      exact ⟨vs, vs[i], SqL.of1 (s1 _ _ (s0 _ _ g1)), by simp [a1]⟩
    · obtain ⟨T, x1, rfl, hT, rfl, hx1⟩ := y
      have q1 := hx1 vs (SqL.of1 (s1 _ _ (s0 _ _ g1)))
      refine ⟨_, .new s1 hT, ?_⟩
      have b1 : (xs.map py)[i]? = some (py (at_ xs i)) := by rw [List.getElem?_map, at_some hlt]; rfl
      obtain ⟨c1, c2, c3⟩ := repL_get g2 b1
      have z1 : x1 = c1 := Option.some.inj (q1.symm.trans c2)
      subst z1
      show repD (.tuple [.int (i : Int), py (at_ xs i)]) _ _
      simp only [repD, repL]
      exact ⟨T, _, rfl, upd_same, _, _, rfl, rfl, _, _, rfl, repD_mono (s0.trans (same_new (s1.free hT))) _ _ c3, rfl⟩
    · exact ⟨vs, SqL.of1 (s1 _ _ (s0 _ _ g1)), by omega⟩
/-! exact things -/
def exV (v : V) : RP := ⟨fun u _ => u = v, fun h _ => h⟩
def exL (vs : List V) : RP := ⟨fun v f => ∃ q, v = .ref q ∧ f q = some (.lst vs), fun ⟨q, e, h⟩ s => ⟨q, e, s _ _ h⟩⟩
def anyR : RP := ⟨fun _ _ => True, fun h _ => h⟩
theorem ev_lstEx1 {v : V} (x : EvD Γ te (exV v)) : EvD Γ (tLst (tCons te tNil)) (exL [v]) := fun σ f hp s ok Q q =>
  x σ f hp s ok _ fun u f1 h1 e ru => by
    cases ru
    exact ⟨(show 1 ≤ sizeLine by decide), fun p hn => q (.ref p) _ _ (e.trans (Ext.new e.fh hn)) ⟨p, rfl, upd_same⟩⟩
theorem ev_lstEx2 {v w : V} (x : EvD Γ te (exV v)) (y : EvD Γ ta (exV w)) : EvD Γ (tLst (tCons te (tCons ta tNil))) (exL [v, w]) := fun σ f hp s ok Q q =>
  x σ f hp s ok _ fun u f1 h1 e ru => y σ f1 h1 e.fh (ok.mono e.ff) _ fun u2 f2 h2 e2 ru2 => by
    cases ru
    cases ru2
    exact ⟨(show 2 ≤ sizeLine by decide), fun p hn => q (.ref p) _ _ ((e.trans e2).trans (Ext.new e2.fh hn)) ⟨p, rfl, upd_same⟩⟩
theorem wi_ex {vs : List V} (x : EvD Γ te (exL vs)) : WiD Γ (iList K te) vs.length (fun i => exV (vs.getD i .non)) := fun σ f hp s ok Rk q =>
  x σ f hp s ok _ fun v f1 h1 e rv => by
    obtain ⟨p, rfl, g1⟩ := rv
    refine ⟨p, rfl, ⟨vs, SqL.of1 (e.fh _ _ g1)⟩, q _ f1 h1 e ⟨fun i f h hi s0 s1 => ?_, fun i f h x h' hlt s0 s1 y => ?_, fun f h s0 s1 => ⟨vs, SqL.of1 (s1 _ _ (s0 _ _ g1)), Nat.le_refl _⟩⟩⟩
    · exact ⟨vs, vs[i], SqL.of1 (s1 _ _ (s0 _ _ g1)), by simp [hi]⟩
    · obtain ⟨rfl, y⟩ := y
      have y := y vs (SqL.of1 (s1 _ _ (s0 _ _ g1)))
      refine ⟨f, .refl s1, ?_⟩
      show x = vs.getD i .non
      rw [List.getD_eq_getElem?_getD, y]
      rfl
/-! a result laid anew, whose lists become our own -/
def EvNw (B : Base) (Γ : Ctx) (O : Own) (te : TE) (X : RP) : Prop := ∀ σ f h, Sta B Γ O σ f h → ∀ Q : VK, (∀ v g h1, Ext f h g h1 → (nw h X).p v g → Q v h1) → te σ h Q
theorem es_nwCall {S : Hp → Spec} (c : LendC O Γ Γ') (ha : EvA Γ' t Rs) (hS : ∀ H, S H Rs (nw H X)) : EvNw B Γ O (tCall (spDH S) [] E t) X := fun σ f h s Q q =>
  ha σ (lent O f h) h (lent_h s) (c.ok (lent_f s) (fun p T m => (s.ow p T m).2.2) s.ok) _ fun vs f1 h1 e rs => by
    rw [List.append_nil]
    refine ⟨Rs, nw h1 X, f1, hS h1, e.fh, rs, fun v f' H' e2 rv => ?_⟩
    have EE := e.trans e2
    have rv : (nw h X).p v f' := nw_anti (Dom.of e.hh) rv
    let g : Hp := fun a => match h a with | some _ => f a | none => f' a
    have g1 : ∀ a, h a = none → g a = f' a := fun a z => by show (match h a with | some _ => f a | none => f' a) = _; rw [z]
    have g2 : ∀ a, h a ≠ none → g a = f a := fun a z => by
      show (match h a with | some _ => f a | none => f' a) = _
      cases y : h a with
      | none => exact absurd y z
      | some _ => rfl
    refine q v g H' ⟨fun a o z => ?_, EE.hh, fun a o z => ?_, fun a n z => by rw [g2 a n]; exact z⟩ ?_
    · rw [g2 a (by rw [s.fh _ _ z]; exact fun y => nomatch y)]
      exact z
    · by_cases n : h a = none
      · rw [g1 a n] at z
        exact EE.fh _ _ z
      · rw [g2 a n] at z
        exact EE.hh _ _ (s.fh _ _ z)
    · refine X.mono rv fun a o z => ?_
      obtain ⟨z1, z2⟩ := off_some z
      rw [off_eq z1, g1 a z1]
      exact z2
def rm (f : Hp) (A : List Addr) : Hp := fun a => if a ∈ A then none else f a
theorem rm_same {f : Hp} {A : List Addr} : Same (rm f A) f := fun a o e => by
  unfold rm at e
  split at e
  · cases e
  · exact e
theorem rm_keep {f : Hp} {A : List Addr} {a : Addr} {o : HO} (h : f a = some o) (n : a ∉ A) : rm f A a = some o := by
  unfold rm
  rw [if_neg n]
  exact h
theorem bd_told {rest : TS} {cond : TT} (hE : EvNw B Γ O te X) (hc : EvTS B (Γ.set i (some X)) O cond false)
    (k : ∀ σ f h v g h2, Sta B Γ O σ f h → Ext f h g h2 → (nw h X).p v g → ∃ (R : RP) (LL : List (Addr × List Int)), (∀ l xs, (l, xs) ∈ LL → h l = none ∧ g l = some (.lst (xs.map V.int))) ∧ (LL.map (·.1)).Nodup ∧ R.p v (rm g (LL.map (·.1))) ∧ BDe B (Γ.set i (some R)) (LL.map (fun x => (x.1, oL x.2)) ++ O) rest P) :
    BDe B Γ O (tSeq (tAsg te (gName i)) (tSeq (tIfS cond (tSeq (tRet (tC (.bl false))) tNext) tNext) rest)) P := fun L σ f h s l D q =>
  hE σ f h s _ fun v g h1 e rv => hc _ g h1 ((s.ext e).set (nw_weak rv)) _ fun g2 h2 e2 => iteF (by
    have EE := e.trans e2
    obtain ⟨R, LL, hL, nd, hR, k⟩ := k σ f h v g2 h2 s EE (RP.mono _ rv e2.ff)
    have bk : Same f (rm g2 (LL.map (·.1))) := fun a o z => by
      refine rm_keep (EE.ff _ _ z) fun m => ?_
      obtain ⟨⟨l, xs⟩, hm, rfl⟩ := List.mem_map.mp m
      have := (hL l xs hm).1
      rw [s.fh _ _ z] at this
      cases this
    have rn : ∀ a, g2 a = none → rm g2 (LL.map (·.1)) a = none := fun a z => by
      unfold rm
      split
      · rfl
      · exact z
    refine k L _ (rm g2 (LL.map (·.1))) h2 ⟨s.ff.trans bk, rm_same.trans EE.fh, fun a o z n => EE.hh _ _ (s.hh a o z n), fun a n z => s.th a n (EE.hh.free z), fun a n z => rn a (EE.nf a (s.th a n) (s.nf a n z)), (s.ok.mono bk).set i hR, fun p T hp => ?_, ?_⟩ (l.trans bk) D q
    · rcases List.mem_append.mp hp with hp | hp
      · obtain ⟨⟨l, xs⟩, hm, e⟩ := List.mem_map.mp hp
        cases e
        obtain ⟨h1, h2⟩ := hL l xs hm
        refine ⟨?_, .inl (s.dom.free h1), _, EE.fh _ _ h2, _, rfl, ?_⟩
        · unfold rm
          rw [if_pos (List.mem_map.mpr ⟨_, hm, rfl⟩)]
        · show repL (xs.map PyData.int) _ _
          have : ∀ ys : List Int, repL (ys.map PyData.int) (ys.map V.int) (rm g2 (LL.map (·.1))) := fun ys => by
            induction ys with
            | nil => simp only [List.map_nil, repL]
            | cons a l ih =>
              simp only [List.map_cons, repL, repD]
              exact ⟨_, _, rfl, rfl, ih⟩
          exact this xs
      · obtain ⟨w1, w2, o, w3, w4⟩ := s.ow p T hp
        exact ⟨rn p (EE.nf p (by rw [w3]; exact fun z => nomatch z) w1), w2, o, EE.hh _ _ w3, T.mono w4 bk⟩
    · rw [List.map_append, List.nodup_append]
      refine ⟨by rw [List.map_map]; exact nd, s.nd, fun a ha b hb z => ?_⟩
      rw [List.map_map] at ha
      obtain ⟨⟨l, xs⟩, hm, rfl⟩ := List.mem_map.mp ha
      obtain ⟨⟨p, T⟩, hp, rfl⟩ := List.mem_map.mp hb
      have h1 := (hL l xs hm).1
      obtain ⟨_, _, o, w3, _⟩ := s.ow p T hp
      have z : l = p := z
      rw [← z, h1] at w3
      cases w3)
end
end D

set_option Elab.async false
set_option linter.all false
set_option maxRecDepth 100000
set_option maxHeartbeats 4000000
namespace D
open PySem PySem.Spec PyProof.Rows L2
open ToPy (py)
local macro_rules | `(tactic| walk_at "side") => `(tactic| first | assumption | omega | (refine Int.emod_nonneg _ ?_; omega) | (refine Int.emod_lt_of_pos _ ?_; omega) | (simp at *; omega) | (simp; done) | decide | skip)
local macro_rules | `(tactic| walk_at "d") => `(tactic| first
  | with_reducible exact ev_int | with_reducible exact ev_str | with_reducible exact ev_bl | with_reducible exact ev_non
  | exact ev_var rfl
  | with_reducible exact ev_ty
  | with_reducible exact ev_cls
  | ((with_reducible apply ev_op) <;> walk_at "d")
  | ((with_reducible apply ev_un) <;> walk_at "d")
  | ((with_reducible apply ev_call) <;> walk_at "d")
  | ((with_reducible apply ev_callX) <;> walk_at "d")
  | ((with_reducible apply ev_cb) <;> walk_at "d")
  | with_reducible exact ea_nil
  | ((with_reducible apply ea_cons) <;> walk_at "d")
  | with_reducible exact s_add
  | with_reducible exact s_sub
  | with_reducible exact s_lt
  | with_reducible exact s_le
  | with_reducible exact s_gt
  | with_reducible exact s_ge
  | with_reducible exact s_eqI
  | with_reducible exact s_neI
  | with_reducible exact s_eqS
  | with_reducible exact s_neS
  | with_reducible exact s_neB
  | exact s_eqSame (sh_ints2 _) | exact s_neSame (sh_ints2 _) | exact s_eqSame (sh_ints _) | exact s_neSame (sh_ints _)
  | ((with_reducible apply s_mod) <;> walk_at "side")
  | walk_at "div" | walk_at "mul"
  | ((with_reducible apply s_catL) <;> walk_at "side")
  | ((with_reducible apply s_repL) <;> walk_at "side")
  | with_reducible exact s_fst
  | with_reducible exact s_snd
  | with_reducible exact s_t0
  | with_reducible exact s_t1
  | with_reducible exact s_t2
  | ((with_reducible apply s_last) <;> walk_at "side")
  | ((with_reducible apply s_ixS) <;> walk_at "side")
  | ((with_reducible apply s_ix) <;> walk_at "side")
  | ((with_reducible apply s_ixT) <;> walk_at "side")
  | with_reducible exact s_negI
  | with_reducible exact c_len
  | with_reducible exact c_lI
  | with_reducible exact c_tI
  | with_reducible exact c_pI
  | with_reducible exact c_t3I
  | with_reducible exact c_sI
  | with_reducible exact c_iI
  | with_reducible exact c_iB
  | with_reducible exact c_lenP
  | with_reducible exact c_len3
  | with_reducible exact c_isInt
  | with_reducible exact c_isBool
  | with_reducible exact c_isStr
  | with_reducible exact c_isList
  | with_reducible exact c_isTup
  | with_reducible exact c_lenTup
  | with_reducible exact c_lenScr
  | with_reducible exact c_listD
  | with_reducible exact c_listTD
  | with_reducible exact c_tup
  | with_reducible exact c_abs
  | with_reducible exact c_min2
  | with_reducible exact c_max2
  | with_reducible exact c_intB
  | with_reducible exact c_sum
  | ((with_reducible apply c_min) <;> walk_at "side")
  | ((with_reducible apply c_max) <;> walk_at "side")
  | ((with_reducible apply et_val) <;> walk_at "d")
  | ((with_reducible apply et_test) <;> walk_at "d")
  | ((with_reducible apply et_not) <;> walk_at "d")
  | ((with_reducible apply et_and) <;> (try with_reducible intro _) <;> walk_at "d")
  | ((with_reducible apply et_or) <;> (try with_reducible intro _) <;> walk_at "d")
  | ((with_reducible apply ev_and) <;> (try with_reducible intro _) <;> walk_at "d")
  | ((with_reducible apply ev_or) <;> (try with_reducible intro _) <;> walk_at "d")
  | ((with_reducible apply ev_chain) <;> (try with_reducible intro _) <;> walk_at "d")
  | ((with_reducible apply ev_not) <;> walk_at "d")
  | ((with_reducible apply ev_pair) <;> walk_at "d")
  | ((with_reducible apply ev_t3) <;> walk_at "d")
  | ((with_reducible apply ev_lst1) <;> walk_at "d")
  | ((with_reducible apply ev_lst2) <;> walk_at "d")
  | ((with_reducible apply ev_lst3) <;> walk_at "d")
  | ((with_reducible apply ev_lst4) <;> walk_at "d")
  | ((with_reducible apply ev_cut) <;> walk_at "d")
  | ((with_reducible apply ep_some) <;> walk_at "d")
  | ((with_reducible apply EvD.s) <;> walk_at "d")
  | ((with_reducible apply EvT.s) <;> walk_at "d")
  | ((with_reducible apply EvN.s) <;> walk_at "d")
  | ((with_reducible apply en_lst1) <;> walk_at "d")
  | ((with_reducible apply en_lst2) <;> walk_at "d")
  | ((with_reducible apply en_lst3) <;> walk_at "d")
  | ((with_reducible apply en_lst4) <;> walk_at "d")
  | ((with_reducible apply en_cut) <;> walk_at "d")
  | with_reducible exact ev_lst0
  | with_reducible exact ep_none
  | with_reducible exact en_lst0
  | ((with_reducible apply wi_L) <;> walk_at "d")
  | ((with_reducible apply wi_T) <;> walk_at "d")
  | ((with_reducible apply wi_zip) <;> walk_at "d")
  | ((with_reducible apply WiD.s) <;> walk_at "d")
  | ((with_reducible apply wi_range) <;> walk_at "side")
  | exact spec_cell (by omega) (by omega)
  | skip)
local macro_rules | `(tactic| walk_at "div") => `(tactic| first
  | exact s_div ⟨by omega, by omega⟩
  | exact s_divW (wd_div (by first | assumption | omega) (by assumption))
  | with_reducible apply s_div)
local macro_rules | `(tactic| walk_at "mul") => `(tactic| first
  | exact s_mul (Or.inl ⟨by omega, by omega⟩) | exact s_mul (Or.inr ⟨by omega, by omega⟩)
  | exact s_mulW (wd_mul (by assumption) (by assumption))
  | with_reducible apply s_mulW)
local macro_rules | `(tactic| walk_at "fg") => `(tactic| repeat (first | exact Fg.nil | apply Fg.same | apply Fg.drop | (refine Fg.eq ?_ ?_; rotate_left)))
local macro_rules | `(tactic| walk_at "end") => `(tactic| exact bd_turnE trivial rfl (by walk_at "fg"))
local macro_rules | `(tactic| walk_at "range") => `(tactic| (apply WiD.s; apply wi_range; (walk_at "d"); omega; omega))
local macro_rules | `(tactic| walk_at "app") => `(tactic| (refine' bd_appR 0 ?_ rfl ?_ ?_ ?_ ?_; (walk_at "d"); (walk_at "d"); rotate_right))
local macro_rules | `(tactic| walk_at "lend") => `(tactic| repeat (first | exact LendC.nil | apply LendC.no | (apply LendC.one; (exact lend_list 0 rfl)) | (apply LendC.one; (exact lend_same))))
/-! ### the tableau -/
def natL (l : List Nat) : List Int := l.map fun (j : Nat) => (j : Int)
def tf (Rb Ro : RP) (d : Dat) (lows : List Int) (s : LS) : List (Str × RP) := [("lows", rep lows), ("beside", Rb), ("over", Ro), ("scale", rep (frm d s.ov).sc), ("lines", rep (tabOf d s)), ("many", rep (d.F : Int))]
def insT (c : Cs) (d : Dat) (lows : List Int) (s : LS) : RP := insR c.Tableau (tf (rep (natL s.bs)) (rep (natL s.ov)) d lows s)
def ownT (c : Cs) (a pb po : Addr) (d : Dat) (lows : List Int) (s : LS) : Own := [(po, oL (natL s.ov)), (pb, oL (natL s.bs)), (a, insO c.Tableau (tf (own pb) (own po) d lows s))]
structure TF (K : PySem.W.Frag) (c : Cs) : Prop where
  cl : Cls K c.Tableau
  lows : NoAttr K c.Tableau "lows"
  beside : NoAttr K c.Tableau "beside"
  over : NoAttr K c.Tableau "over"
  scale : NoAttr K c.Tableau "scale"
  lines : NoAttr K c.Tableau "lines"
  many : NoAttr K c.Tableau "many"
section
variable {K : PySem.W.Frag} {c : Cs} {Γ : Ctx} {te : TE} {d : Dat} {lows : List Int} {s : LS}
theorem ev_lows (F : TF K c) (h : EvD Γ te (insT c d lows s)) : EvD Γ (tFld K te "lows") (rep lows) := ev_fld h F.cl F.lows rfl
theorem ev_beside (F : TF K c) (h : EvD Γ te (insT c d lows s)) : EvD Γ (tFld K te "beside") (rep (natL s.bs)) := ev_fld h F.cl F.beside rfl
theorem ev_over (F : TF K c) (h : EvD Γ te (insT c d lows s)) : EvD Γ (tFld K te "over") (rep (natL s.ov)) := ev_fld h F.cl F.over rfl
theorem ev_scale (F : TF K c) (h : EvD Γ te (insT c d lows s)) : EvD Γ (tFld K te "scale") (rep (frm d s.ov).sc) := ev_fld h F.cl F.scale rfl
theorem ev_lines (F : TF K c) (h : EvD Γ te (insT c d lows s)) : EvD Γ (tFld K te "lines") (rep (tabOf d s)) := ev_fld h F.cl F.lines rfl
theorem ev_many_ (F : TF K c) (h : EvD Γ te (insT c d lows s)) : EvD Γ (tFld K te "many") (rep (d.F : Int)) := ev_fld h F.cl F.many rfl
end
theorem natL_len (l : List Nat) : (natL l).length = l.length := by simp [natL]
theorem natL_at {l : List Nat} {i : Nat} (h : i < l.length) : at_ (natL l) i = (gt l i : Int) := by
  unfold at_ natL gt
  rw [List.getD_eq_getElem?_getD, List.getElem?_map, List.getD_eq_getElem?_getD, List.getElem?_eq_getElem h]
  rfl
theorem natL_mem {l : List Nat} {j : Nat} : (j : Int) ∈ natL l ↔ j ∈ l := by
  unfold natL
  rw [List.mem_map]
  constructor
  · rintro ⟨k, hk, e⟩
    have : k = j := by omega
    rw [← this]
    exact hk
  · intro h
    exact ⟨j, h, rfl⟩
theorem natL_idx {l : List Nat} {j : Nat} (h : j ∈ l) : (natL l).idxOf (j : Int) = l.idxOf j := by
  induction l with
  | nil => cases h
  | cons a l ih =>
    show ((a : Int) :: natL l).idxOf (j : Int) = _
    rw [List.idxOf_cons, List.idxOf_cons]
    by_cases e : a = j
    · subst e
      simp
    · have h1 : ((a : Int) == (j : Int)) = false := by simp; omega
      have h2 : (a == j) = false := by simp; exact e
      rw [h1, h2]
      simp only [cond_false]
      rw [ih (by rcases List.mem_cons.mp h with z | z; exact absurd z.symm e; exact z)]
theorem natL_set (l : List Nat) (i j : Nat) : (natL l).set i (j : Int) = natL (l.set i j) := by
  unfold natL
  rw [List.map_set]
/-- a state of so many facts -/
structure Tok (d : Dat) (s : LS) : Prop where
  K : d.Ok
  S : Sok d s.bs s.ov
  bd : d.Bd
  F : d.F ≤ 100
def S_Tableau (K : PySem.W.Frag) (c : Cs) : SpecO := fun Rs O Po => ∃ (a : Addr) (p : Prob) (box : Box), Rs = [own a, insP c p, rep box] ∧ p.Ok ∧ BoxOk p box ∧ O = [(a, insO c.Tableau [])] ∧ Po = fun R O' => ∃ po pb, R = rep () ∧ O' = ownT c a pb po (datOf p box) (lowsOf box) (s0 p box)
abbrev SP_Tableau (K : PySem.W.Frag) (c : Cs) : Sp := spO (S_Tableau K c)
def S_Tableau_wrong (K : PySem.W.Frag) (c : Cs) : Spec := fun Rs R => ∃ (d : Dat) (lows : List Int) (s : LS), Rs = [insT c d lows s] ∧ Tok d s ∧ R = rep (wrongOf d s)
abbrev SP_Tableau_wrong (K : PySem.W.Frag) (c : Cs) : Sp := spD (S_Tableau_wrong K c)
def S_Tableau_partner (K : PySem.W.Frag) (c : Cs) : Spec := fun Rs R => ∃ (d : Dat) (lows : List Int) (s : LS) (one : Nat), Rs = [insT c d lows s, rep (one : Int)] ∧ Tok d s ∧ one < d.F ∧ R = rep (partOf d s one)
abbrev SP_Tableau_partner (K : PySem.W.Frag) (c : Cs) : Sp := spD (S_Tableau_partner K c)
def S_Tableau_told_none (K : PySem.W.Frag) (c : Cs) : Spec := fun Rs R => ∃ (d : Dat) (lows : List Int) (s : LS) (one : Nat), Rs = [insT c d lows s, rep (one : Int)] ∧ Tok d s ∧ one ∈ s.bs ∧ R = rep (Told.none (wNone d s one))
abbrev SP_Tableau_told_none (K : PySem.W.Frag) (c : Cs) : Sp := spD (S_Tableau_told_none K c)
def S_Tableau_told_most (K : PySem.W.Frag) (c : Cs) : Spec := fun Rs R => ∃ (d : Dat) (lows : List Int) (s : LS), Rs = [insT c d lows s] ∧ Tok d s ∧ lows.length = d.n ∧ (∀ x ∈ lows, 0 ≤ x ∧ x ≤ 20) ∧ R = rep (Told.most ((List.range d.n).map (numOfS d lows s)) (frm d s.ov).sc (wMost d s))
abbrev SP_Tableau_told_most (K : PySem.W.Frag) (c : Cs) : Sp := spD (S_Tableau_told_most K c)
/-- two change places, in either order where n is one more -/
def S_Tableau_changeN (K : PySem.W.Frag) (c : Cs) : Nat → SpecO
  | 0 => fun _ _ _ => False
  | n + 1 => fun Rs O Po => ∃ (a pb po : Addr) (d : Dat) (lows : List Int) (s : LS) (r j : Nat) (x y : Nat), Rs = [own a, rep (x : Int), rep (y : Int)] ∧ Tok d s ∧ r < s.bs.length ∧ j < d.n ∧ Lc d s.ov (gt s.bs r) j ≠ 0 ∧ ((x = gt s.bs r ∧ y = gt s.ov j) ∨ (1 ≤ n ∧ x = gt s.ov j ∧ y = gt s.bs r)) ∧
    O = ownT c a pb po d lows s ∧ Po = fun R O' => R = rep () ∧ O' = ownT c a pb po d lows (mvd d s r j)
abbrev SP_Tableau_change (K : PySem.W.Frag) (c : Cs) : Sp := spO (S_Tableau_changeN K c 2)
def n_Tableau_init : List Str := ["self", "problem", "box", "rows", "many", "lows", "pair", "unknown", "one", "number"]
def t_Tableau_init (K : PySem.W.Frag) (c : Cs) : TS := (tSeq (tAsg (tCall (spX (S_facts K c) (SE_facts K c)) [] E0 (tCons (tVar 1) (tCons (tVar 2) tNil))) (gName 3))
  (tSeq (tAsg (tCB (rLenX K) (tCons (tFld K (tVar 1) "rows") tNil)) (gName 4))
  (tSeq (tAsg (tLc (iList K (tVar 2)) (gName 6) tYes (tOp (rIx K) (tVar 6) (tC (.int 0))) [6]) (gName 5))
  (tSeq (sFld K (tVar 0) (tVar 5) "lows")
  (tSeq (sFld K (tVar 0) (tOp (rAddX K) (tLstRg (tRg1 (tVar 4))) (tLc (iRng1 (tCons (tCB (rLenX K) (tCons (tVar 2) tNil)) tNil)) (gName 7) tYes (tOp (rAddX K) (tVar 4) (tOp (rMulX K) (tC (.int 2)) (tVar 7))) [7])) "beside")
  (tSeq (sFld K (tVar 0) (tLc (iRng1 (tCons (tCB (rLenX K) (tCons (tVar 2) tNil)) tNil)) (gName 7) tYes (tOp (rAddX K) (tOp (rAddX K) (tVar 4) (tOp (rMulX K) (tC (.int 2)) (tVar 7))) (tC (.int 1))) [7]) "over")
  (tSeq (sFld K (tVar 0) (tC (.int 1)) "scale")
  (tSeq (sFld K (tVar 0) (tLc (iList K (tFld K (tVar 0) "beside")) (gName 8) tYes (tOp (rAddX K) (tCB (rListX K) (tCons (tOp (rIx K) (tOp (rIx K) (tVar 3) (tVar 8)) (tC (.int 0))) tNil)) (tLst (tCons (tOp rSubI (tOp (rIx K) (tOp (rIx K) (tVar 3) (tVar 8)) (tC (.int 1))) (tCall (spD (S_sum_at K c)) [] E0 (tCons (tOp (rIx K) (tOp (rIx K) (tVar 3) (tVar 8)) (tC (.int 0))) (tCons (tVar 5) tNil)))) tNil))) [8]) "lines")
  (tSeq (tDrop (tBM K "list" rAppend (tFld K (tVar 0) "lines") (tCons (tOp (rAddX K) (tLc (iList K (tFld K (tVar 1) "gain")) (gName 9) tYes (tOp rSubI (tC (.int 0)) (tVar 9)) [9]) (tLst (tCons (tC (.int 0)) tNil))) tNil)))
  (tSeq (sFld K (tVar 0) (tCB (rLenX K) (tCons (tVar 3) tNil)) "many")
  tNext))))))))))
def n_Tableau_wrong : List Str := ["self", "found", "at"]
def t_Tableau_wrong (K : PySem.W.Frag) (c : Cs) : TS := (tSeq (tAsg (tLst (tCons (tFld K (tVar 0) "many") tNil)) (gName 1))
  (tSeq (tFor (iRng1 (tCons (tCB (rLenX K) (tCons (tFld K (tVar 0) "beside") tNil)) tNil)) (gName 2) (tSeq (tIfS (tTest (tOp rLtI (tOp (rIx K) (tOp (rIx K) (tFld K (tVar 0) "lines") (tVar 2)) (tUn rNegI (tC (.int 1)))) (tC (.int 0)))) (tSeq (tDrop (tBM K "list" rAppend (tVar 1) (tCons (tOp (rIx K) (tFld K (tVar 0) "beside") (tVar 2)) tNil)))
  tNext) tNext)
  tNext))
  (tSeq (tFor (iRng1 (tCons (tCB (rLenX K) (tCons (tFld K (tVar 0) "over") tNil)) tNil)) (gName 2) (tSeq (tIfS (tTest (tOp rLtI (tOp (rIx K) (tOp (rIx K) (tFld K (tVar 0) "lines") (tUn rNegI (tC (.int 1)))) (tVar 2)) (tC (.int 0)))) (tSeq (tDrop (tBM K "list" rAppend (tVar 1) (tCons (tOp (rIx K) (tFld K (tVar 0) "over") (tVar 2)) tNil)))
  tNext) tNext)
  tNext))
  (tSeq (tRet (tCB (rMin K) (tCons (tVar 1) tNil)))
  tNext))))
def n_Tableau_partner : List Str := ["self", "one", "found", "line", "at", "column"]
def t_Tableau_partner (K : PySem.W.Frag) (c : Cs) : TS := (tSeq (tAsg (tLst (tCons (tFld K (tVar 0) "many") tNil)) (gName 2))
  (tSeq (tIfS (tTest (tOp (rInX K) (tVar 1) (tFld K (tVar 0) "beside"))) (tSeq (tAsg (tOp (rIx K) (tFld K (tVar 0) "lines") (tBM K "list" (rIndex K) (tFld K (tVar 0) "beside") (tCons (tVar 1) tNil))) (gName 3))
  (tSeq (tFor (iRng1 (tCons (tCB (rLenX K) (tCons (tFld K (tVar 0) "over") tNil)) tNil)) (gName 4) (tSeq (tIfS (tTest (tOp rLtI (tOp (rIx K) (tVar 3) (tVar 4)) (tC (.int 0)))) (tSeq (tDrop (tBM K "list" rAppend (tVar 2) (tCons (tOp (rIx K) (tFld K (tVar 0) "over") (tVar 4)) tNil)))
  tNext) tNext)
  tNext))
  tNext)) (tSeq (tAsg (tBM K "list" (rIndex K) (tFld K (tVar 0) "over") (tCons (tVar 1) tNil)) (gName 5))
  (tSeq (tFor (iRng1 (tCons (tCB (rLenX K) (tCons (tFld K (tVar 0) "beside") tNil)) tNil)) (gName 4) (tSeq (tIfS (tTest (tOp rGtI (tOp (rIx K) (tOp (rIx K) (tFld K (tVar 0) "lines") (tVar 4)) (tVar 5)) (tC (.int 0)))) (tSeq (tDrop (tBM K "list" rAppend (tVar 2) (tCons (tOp (rIx K) (tFld K (tVar 0) "beside") (tVar 4)) tNil)))
  tNext) tNext)
  tNext))
  tNext)))
  (tSeq (tRet (tCB (rMin K) (tCons (tVar 2) tNil)))
  tNext)))
def n_Tableau_change : List Str := ["self", "one", "other", "row", "column", "pair"]
def t_Tableau_change (K : PySem.W.Frag) (c : Cs) (rec : Sp) : TS := (tSeq (tIfS (tTest (tOp (rInX K) (tVar 1) (tFld K (tVar 0) "over"))) (tSeq (tDrop (tMeth c.Tableau "change" rec [] E0 (tVar 0) (tCons (tVar 2) (tCons (tVar 1) tNil))))
  (tSeq tRetN
  tNext)) tNext)
  (tSeq (tAsg (tBM K "list" (rIndex K) (tFld K (tVar 0) "beside") (tCons (tVar 1) tNil)) (gName 3))
  (tSeq (tAsg (tBM K "list" (rIndex K) (tFld K (tVar 0) "over") (tCons (tVar 2) tNil)) (gName 4))
  (tSeq (tAsg (tCall (spX (S_turned K c) (SE_turned K c)) [] E0 (tCons (tFld K (tVar 0) "lines") (tCons (tFld K (tVar 0) "scale") (tCons (tVar 3) (tCons (tVar 4) tNil))))) (gName 5))
  (tSeq (sFld K (tVar 0) (tOp (rIx K) (tVar 5) (tC (.int 0))) "lines")
  (tSeq (sFld K (tVar 0) (tOp (rIx K) (tVar 5) (tC (.int 1))) "scale")
  (tSeq (tAsg (tVar 2) (gSub (tFld K (tVar 0) "beside") (tVar 3) rSetL))
  (tSeq (tAsg (tVar 1) (gSub (tFld K (tVar 0) "over") (tVar 4) rSetL))
  tNext))))))))
def n_Tableau_told_none : List Str := ["self", "one", "line", "weights", "at"]
def t_Tableau_told_none (K : PySem.W.Frag) (c : Cs) : TS := (tSeq (tAsg (tOp (rIx K) (tFld K (tVar 0) "lines") (tBM K "list" (rIndex K) (tFld K (tVar 0) "beside") (tCons (tVar 1) tNil))) (gName 2))
  (tSeq (tAsg (tOp (rMulX K) (tLst (tCons (tC (.int 0)) tNil)) (tFld K (tVar 0) "many")) (gName 3))
  (tSeq (tAsg (tFld K (tVar 0) "scale") (gSub (tVar 3) (tVar 1) rSetL))
  (tSeq (tFor (iRng1 (tCons (tCB (rLenX K) (tCons (tFld K (tVar 0) "over") tNil)) tNil)) (gName 4) (tSeq (tAsg (tOp (rIx K) (tVar 2) (tVar 4)) (gSub (tVar 3) (tOp (rIx K) (tFld K (tVar 0) "over") (tVar 4)) rSetL))
  tNext))
  (tSeq (tRet (tTup (tCons (tC (.str "none")) (tCons (tVar 3) tNil))))
  tNext)))))
def n_Tableau_told_most : List Str := ["self", "weights", "at", "first", "numbers", "unknown", "number", "slack"]
def t_Tableau_told_most (K : PySem.W.Frag) (c : Cs) : TS := (tSeq (tAsg (tOp (rMulX K) (tLst (tCons (tC (.int 0)) tNil)) (tFld K (tVar 0) "many")) (gName 1))
  (tSeq (tFor (iRng1 (tCons (tCB (rLenX K) (tCons (tFld K (tVar 0) "over") tNil)) tNil)) (gName 2) (tSeq (tAsg (tOp (rIx K) (tOp (rIx K) (tFld K (tVar 0) "lines") (tUn rNegI (tC (.int 1)))) (tVar 2)) (gSub (tVar 1) (tOp (rIx K) (tFld K (tVar 0) "over") (tVar 2)) rSetL))
  tNext))
  (tSeq (tAsg (tOp rSubI (tFld K (tVar 0) "many") (tOp (rMulX K) (tC (.int 2)) (tCB (rLenX K) (tCons (tFld K (tVar 0) "lows") tNil)))) (gName 3))
  (tSeq (tAsg (tLst tNil) (gName 4))
  (tSeq (tFor (iRng1 (tCons (tCB (rLenX K) (tCons (tFld K (tVar 0) "lows") tNil)) tNil)) (gName 5) (tSeq (tAsg (tOp (rMulX K) (tOp (rIx K) (tFld K (tVar 0) "lows") (tVar 5)) (tFld K (tVar 0) "scale")) (gName 6))
  (tSeq (tAsg (tOp (rAddX K) (tOp (rAddX K) (tVar 3) (tOp (rMulX K) (tC (.int 2)) (tVar 5))) (tC (.int 1))) (gName 7))
  (tSeq (tIfS (tTest (tOp (rInX K) (tVar 7) (tFld K (tVar 0) "beside"))) (tSeq (tAsg (tOp (rAddX K) (tVar 6) (tOp (rIx K) (tOp (rIx K) (tFld K (tVar 0) "lines") (tBM K "list" (rIndex K) (tFld K (tVar 0) "beside") (tCons (tVar 7) tNil))) (tUn rNegI (tC (.int 1))))) (gName 6))
  tNext) tNext)
  (tSeq (tDrop (tBM K "list" rAppend (tVar 4) (tCons (tVar 6) tNil)))
  tNext)))))
  (tSeq (tRet (tTup (tCons (tC (.str "most")) (tCons (tTup (tCons (tVar 4) (tCons (tFld K (tVar 0) "scale") tNil))) (tCons (tVar 1) (tCons (tFld K (tVar 0) "scale") tNil))))))
  tNext))))))
section
variable {K : PySem.W.Frag} {c : Cs}
theorem filt_succ (n : Nat) (p : Nat → Bool) : (List.range (n + 1)).filter p = (List.range n).filter p ++ if p n = true then [n] else [] := by
  rw [List.range_succ, List.filter_append]
  congr 1
  by_cases h : p n = true
  · rw [if_pos h]; simp [h]
  · rw [if_neg h]; simp [h]
theorem wi_rangeN {Γ : Ctx} {ta : TE} {n : Nat} (h : EvD Γ ta (rep (n : Int))) (hn : n ≤ 1000000) : WiD Γ (iRng1 (tCons ta tNil)) n (fun i => rep (i : Int)) := by
  have z := wi_range h (by omega) (by omega)
  rw [Int.toNat_natCast] at z
  exact z
/-- for at in range(n): if ..: found.append(..) -/
theorem bd_gather {B : Base} {Γ Γ' : Ctx} {wi : TI} {i n : Nat} {q : Addr} {pre : List Int} {keep : Nat → Bool} {val : Nat → Int} {tt : TT} {to te : TE} {u : TS} {P : Post} (hw : WiS B Γ [(q, oL pre)] wi n (fun i => rep (i : Int))) (hp : pre.length + n ≤ 1000)
    (fg : Fg Γ Γ') (fg' : ∀ k : Nat, Fg (Γ'.set i (some (rep (k : Int)))) Γ')
    (hc : ∀ k, k < n → EvT (Γ'.set i (some (rep (k : Int)))) tt (keep k)) (ho : ∀ k, k < n → EvD (Γ'.set i (some (rep (k : Int)))) to (own q)) (he : ∀ k, k < n → EvD (Γ'.set i (some (rep (k : Int)))) te (rep (val k)))
    (hn : BDe B Γ' [(q, oL (pre ++ ((List.range n).filter keep).map val))] u P) :
    BDe B Γ [(q, oL pre)] (tSeq (tFor wi (gName i) (tSeq (tIfS tt (tSeq (tDrop (tBM K "list" rAppend to (tCons te tNil))) tNext) tNext) tNext)) u) P := by
  apply bd_forE (n := n) (item := fun i => rep (i : Int)) (fun _ => Γ') (fun k => [(q, oL (pre ++ ((List.range k).filter keep).map val))]) (fun _ => True) hw fg
  · simp
  · trivial
  · intro k hk
    exact tg_name
  · intro k hk _
    have fl := List.length_filter_le keep (List.range k)
    rw [List.length_range] at fl
    apply bd_if (b := keep k) (Γ' := Γ'.set i (some (rep (k : Int)))) (O' := [(q, oL (pre ++ ((List.range (k + 1)).filter keep).map val))])
    · exact EvT.s (hc k hk)
    · intro h
      refine bd_app (α := Int) (a := val k) 0 (ho k hk) rfl (EvD.s (he k hk)) (by simp; omega) ?_
      have e : pre ++ ((List.range k).filter keep).map val ++ [val k] = pre ++ ((List.range (k + 1)).filter keep).map val := by
        rw [filt_succ, if_pos h, List.map_append, List.append_assoc]
        rfl
      show BDe B _ [(q, oL (pre ++ ((List.range k).filter keep).map val ++ [val k]))] _ _
      rw [e]
      exact bd_next fun σ f h s => s
    · intro h
      have e : pre ++ ((List.range k).filter keep).map val = pre ++ ((List.range (k + 1)).filter keep).map val := by
        rw [filt_succ, if_neg (by rw [h]; exact Bool.false_ne_true), List.append_nil]
      rw [e]
      exact bd_next fun σ f h s => s
    exact bd_turnE trivial rfl (fg' k)
  · intro _
    exact hn
theorem ev_lineAt (F : TF K c) {Γ : Ctx} {d : Dat} {lows : List Int} {s : LS} {te tk : TE} {k : Nat} (h : EvD Γ te (insT c d lows s)) (hk : EvD Γ tk (rep (k : Int))) (hl : k < s.bs.length) : EvD Γ (tOp (rIx K) (tFld K te "lines") tk) (rep (lineOf d s.ov (gt s.bs k))) := by
  have z := ev_op (ev_lines F h) hk (s_ix (K := K) (xs := tabOf d s) (i := (k : Int)) (by omega) (by rw [tab_len]; omega))
  have e : ix (tabOf d s) (k : Int) = lineOf d s.ov (gt s.bs k) := tab_at d s hl
  rw [e] at z
  exact z
theorem last_line (d : Dat) (ov : List Nat) (q : Nat) : last (lineOf d ov q) = La d ov q := by
  have e := line_last d ov q
  have l := line_len d ov q
  unfold last
  rw [l]
  exact e
theorem last_tab (d : Dat) (s : LS) : last (tabOf d s) = lineOf d s.ov d.F := by
  have e := tab_last d s
  have l := tab_len d s
  unfold last
  rw [l]
  exact e
theorem ev_lineF (F : TF K c) {Γ : Ctx} {d : Dat} {lows : List Int} {s : LS} {te : TE} (h : EvD Γ te (insT c d lows s)) : EvD Γ (tOp (rIx K) (tFld K te "lines") (tUn rNegI (tC (.int 1)))) (rep (lineOf d s.ov d.F)) := by
  have z := ev_op (ev_lines F h) (ev_un (ev_int (i := 1)) s_negI) (s_last (K := K) (xs := tabOf d s) (by rw [tab_len]; omega))
  rw [last_tab] at z
  exact z
theorem ix_line (d : Dat) (ov : List Nat) (q : Nat) {j : Nat} (h : j < d.n) : ix (lineOf d ov q) (j : Int) = Lc d ov q j := line_at d ov q h
theorem ix_natL {l : List Nat} {i : Nat} (h : i < l.length) : ix (natL l) (i : Int) = (gt l i : Int) := natL_at h
theorem rd_Tableau_wrong (F : TF K c) : ∀ Rs R, S_Tableau_wrong K c Rs R → ∀ B : Base, B.m = [] → BDe B (startC n_Tableau_wrong Rs) [] (t_Tableau_wrong K c) (fnP B R) := by
  rintro _ _ ⟨d, lows, s, rfl, T, rfl⟩ B hm
  have S := T.S
  have lb := S.lb
  have lo := S.lo
  have hF := T.F
  apply bd_own (T := oL [(d.F : Int)])
  · exact EvN.s (en_lst1 (ev_many_ F (ev_var rfl)))
  intro q
  apply bd_gather (Γ' := [some (insT c d lows s), some (own q), none]) (n := s.bs.length) (keep := fun i => decide (La d s.ov (gt s.bs i) < 0)) (val := fun i => (gt s.bs i : Int))
  · apply WiD.s
    apply wi_rangeN
    · have z := ev_cb (ea_cons (ev_beside F (ev_var (Γ := (startC n_Tableau_wrong [insT c d lows s]).set 1 (some (own q))) (i := 0) rfl)) ea_nil) (c_len (K := K))
      rw [natL_len] at z
      exact z
    · omega
  · simp; omega
  · walk_at "fg"
  · intro k
    walk_at "fg"
  · intro k hk
    apply et_test
    have z := ev_op (ev_lineAt F (ev_var (Γ := [some (insT c d lows s), some (own q), some (rep (k : Int))]) (i := 0) rfl) (ev_var (i := 2) rfl) hk) (ev_un (ev_int (i := 1)) s_negI) (s_last (K := K) (by rw [line_len]; omega))
    rw [last_line] at z
    exact ev_op z ev_int s_lt
  · intro k hk
    exact ev_var rfl
  · intro k hk
    have z := ev_op (ev_beside F (ev_var (Γ := [some (insT c d lows s), some (own q), some (rep (k : Int))]) (i := 0) rfl)) (ev_var (i := 2) rfl) (s_ix (K := K) (xs := natL s.bs) (i := (k : Int)) (by omega) (by rw [natL_len]; omega))
    rw [ix_natL hk] at z
    exact z
  have fl := List.length_filter_le (fun i => decide (La d s.ov (gt s.bs i) < 0)) (List.range s.bs.length)
  rw [List.length_range] at fl
  apply bd_gather (Γ' := [some (insT c d lows s), some (own q), none]) (n := d.n) (keep := fun i => decide (Lc d s.ov d.F i < 0)) (val := fun i => (gt s.ov i : Int))
  · apply WiD.s
    apply wi_rangeN
    · have z := ev_cb (ea_cons (ev_over F (ev_var (Γ := [some (insT c d lows s), some (own q), none]) (i := 0) rfl)) ea_nil) (c_len (K := K))
      rw [natL_len, lo] at z
      exact z
    · omega
  · rw [List.length_append, List.length_map]
    simp only [List.length_cons, List.length_nil]
    omega
  · walk_at "fg"
  · intro k
    walk_at "fg"
  · intro k hk
    apply et_test
    have z := ev_op (ev_lineF F (ev_var (Γ := [some (insT c d lows s), some (own q), some (rep (k : Int))]) (i := 0) rfl)) (ev_var (i := 2) rfl) (s_ix (K := K) (i := (k : Int)) (by omega) (by rw [line_len]; omega))
    rw [ix_line _ _ _ hk] at z
    exact ev_op z ev_int s_lt
  · intro k hk
    exact ev_var rfl
  · intro k hk
    have z := ev_op (ev_over F (ev_var (Γ := [some (insT c d lows s), some (own q), some (rep (k : Int))]) (i := 0) rfl)) (ev_var (i := 2) rfl) (s_ix (K := K) (xs := natL s.ov) (i := (k : Int)) (by omega) (by rw [natL_len]; omega))
    rw [ix_natL (by omega)] at z
    exact z
  refine bd_frz (xs := wl d s) 0 1 rfl rfl hm ?_
  apply bd_retR hm
  exact EvD.s (ev_cb (ea_cons (ev_var rfl) ea_nil) (c_min (by simp [wl])))
theorem rd_Tableau_partner (F : TF K c) : ∀ Rs R, S_Tableau_partner K c Rs R → ∀ B : Base, B.m = [] → BDe B (startC n_Tableau_partner Rs) [] (t_Tableau_partner K c) (fnP B R) := by
  rintro _ _ ⟨d, lows, s, one, rfl, T, hone, rfl⟩ B hm
  have S := T.S
  have lb := S.lb
  have lo := S.lo
  have hF := T.F
  apply bd_own (T := oL [(d.F : Int)])
  · exact EvN.s (en_lst1 (ev_many_ F (ev_var rfl)))
  intro q
  apply bd_if (b := decide (one ∈ s.bs)) (Γ' := [some (insT c d lows s), some (rep (one : Int)), some (own q), none, none, none]) (O' := [(q, oL (pl d s one))])
  · apply EvT.s
    apply et_test
    have z := ev_op (ev_var (Γ := [some (insT c d lows s), some (rep (one : Int)), some (own q), none, none, none]) (i := 1) rfl) (ev_beside F (ev_var (i := 0) rfl)) (s_inI (K := K))
    have e : decide ((one : Int) ∈ natL s.bs) = decide (one ∈ s.bs) := decide_eq_decide.mpr natL_mem
    rw [e] at z
    exact z
  · intro h
    have hb : one ∈ s.bs := of_decide_eq_true h
    have gi := gt_idxOf hb
    have ep : pl d s one = [(d.F : Int)] ++ ((List.range d.n).filter fun i => decide (Lc d s.ov one i < 0)).map fun (i : Nat) => ((gt s.ov i : Nat) : Int) := by
      unfold pl
      rw [if_pos hb]
    rw [ep]
    apply bd_set (R := rep (lineOf d s.ov one))
    · apply EvD.s
      have z := ev_index (K := K) (ev_beside F (ev_var (Γ := [some (insT c d lows s), some (rep (one : Int)), some (own q), none, none, none]) (i := 0) rfl)) (ev_var (i := 1) rfl) (natL_mem.mpr hb)
      rw [natL_idx hb] at z
      have y := ev_lineAt F (ev_var (i := 0) rfl) z gi.1
      rw [gi.2] at y
      exact y
    apply bd_gather (Γ' := [some (insT c d lows s), some (rep (one : Int)), some (own q), some (rep (lineOf d s.ov one)), none, none]) (n := d.n) (keep := fun i => decide (Lc d s.ov one i < 0)) (val := fun i => (gt s.ov i : Int))
    · apply WiD.s
      apply wi_rangeN
      · have z := ev_cb (ea_cons (ev_over F (ev_var (Γ := [some (insT c d lows s), some (rep (one : Int)), some (own q), some (rep (lineOf d s.ov one)), none, none]) (i := 0) rfl)) ea_nil) (c_len (K := K))
        rw [natL_len, lo] at z
        exact z
      · omega
    · simp; omega
    · walk_at "fg"
    · intro k
      walk_at "fg"
    · intro k hk
      apply et_test
      have z := ev_op (ev_var (Γ := [some (insT c d lows s), some (rep (one : Int)), some (own q), some (rep (lineOf d s.ov one)), some (rep (k : Int)), none]) (i := 3) rfl) (ev_var (i := 4) rfl) (s_ix (K := K) (i := (k : Int)) (by omega) (by rw [line_len]; omega))
      rw [ix_line _ _ _ hk] at z
      exact ev_op z ev_int s_lt
    · intro k hk
      exact ev_var rfl
    · intro k hk
      have z := ev_op (ev_over F (ev_var (Γ := [some (insT c d lows s), some (rep (one : Int)), some (own q), some (rep (lineOf d s.ov one)), some (rep (k : Int)), none]) (i := 0) rfl)) (ev_var (i := 4) rfl) (s_ix (K := K) (xs := natL s.ov) (i := (k : Int)) (by omega) (by rw [natL_len]; omega))
      rw [ix_natL (by omega)] at z
      exact z
    exact bd_joinE rfl (by walk_at "fg")
  · intro h
    have hb : one ∉ s.bs := of_decide_eq_false h
    have ho : one ∈ s.ov := by
      rcases S.all one hone with z | z
      · exact absurd z hb
      · exact z
    have go := gt_idxOf ho
    have ep : pl d s one = [(d.F : Int)] ++ ((List.range s.bs.length).filter fun i => decide (0 < Lc d s.ov (gt s.bs i) (s.ov.idxOf one))).map fun (i : Nat) => ((gt s.bs i : Nat) : Int) := by
      unfold pl
      rw [if_neg hb]
    rw [ep]
    apply bd_set (R := rep ((s.ov.idxOf one : Nat) : Int))
    · apply EvD.s
      have z := ev_index (K := K) (ev_over F (ev_var (Γ := [some (insT c d lows s), some (rep (one : Int)), some (own q), none, none, none]) (i := 0) rfl)) (ev_var (i := 1) rfl) (natL_mem.mpr ho)
      rw [natL_idx ho] at z
      exact z
    apply bd_gather (Γ' := [some (insT c d lows s), some (rep (one : Int)), some (own q), none, none, some (rep ((s.ov.idxOf one : Nat) : Int))]) (n := s.bs.length) (keep := fun i => decide (0 < Lc d s.ov (gt s.bs i) (s.ov.idxOf one))) (val := fun i => (gt s.bs i : Int))
    · apply WiD.s
      apply wi_rangeN
      · have z := ev_cb (ea_cons (ev_beside F (ev_var (Γ := [some (insT c d lows s), some (rep (one : Int)), some (own q), none, none, some (rep ((s.ov.idxOf one : Nat) : Int))]) (i := 0) rfl)) ea_nil) (c_len (K := K))
        rw [natL_len] at z
        exact z
      · omega
    · simp; omega
    · walk_at "fg"
    · intro k
      walk_at "fg"
    · intro k hk
      apply et_test
      have z := ev_op (ev_lineAt F (ev_var (Γ := [some (insT c d lows s), some (rep (one : Int)), some (own q), none, some (rep (k : Int)), some (rep ((s.ov.idxOf one : Nat) : Int))]) (i := 0) rfl) (ev_var (i := 4) rfl) hk) (ev_var (i := 5) rfl) (s_ix (K := K) (i := ((s.ov.idxOf one : Nat) : Int)) (by omega) (by rw [line_len]; omega))
      rw [ix_line _ _ _ (by omega)] at z
      exact ev_op z ev_int s_gt
    · intro k hk
      exact ev_var rfl
    · intro k hk
      have z := ev_op (ev_beside F (ev_var (Γ := [some (insT c d lows s), some (rep (one : Int)), some (own q), none, some (rep (k : Int)), some (rep ((s.ov.idxOf one : Nat) : Int))]) (i := 0) rfl)) (ev_var (i := 4) rfl) (s_ix (K := K) (xs := natL s.bs) (i := (k : Int)) (by omega) (by rw [natL_len]; omega))
      rw [ix_natL hk] at z
      exact z
    exact bd_joinE rfl (by walk_at "fg")
  refine bd_frz (xs := pl d s one) 0 2 rfl rfl hm ?_
  apply bd_retR hm
  refine EvD.s (ev_cb (ea_cons (ev_var rfl) ea_nil) (c_min ?_))
  unfold pl
  split <;> simp
end
end D

set_option Elab.async false
set_option linter.all false
set_option maxRecDepth 100000
set_option maxHeartbeats 4000000
namespace D
open PySem PySem.Spec PyProof.Rows L2
open ToPy (py)
local macro_rules | `(tactic| walk_at "side") => `(tactic| first | assumption | omega | (refine Int.emod_nonneg _ ?_; omega) | (refine Int.emod_lt_of_pos _ ?_; omega) | (simp at *; omega) | (simp; done) | decide | skip)
local macro_rules | `(tactic| walk_at "d") => `(tactic| first
  | with_reducible exact ev_int | with_reducible exact ev_str | with_reducible exact ev_bl | with_reducible exact ev_non
  | exact ev_var rfl
  | with_reducible exact ev_ty
  | with_reducible exact ev_cls
  | ((with_reducible apply ev_op) <;> walk_at "d")
  | ((with_reducible apply ev_un) <;> walk_at "d")
  | ((with_reducible apply ev_call) <;> walk_at "d")
  | ((with_reducible apply ev_callX) <;> walk_at "d")
  | ((with_reducible apply ev_cb) <;> walk_at "d")
  | with_reducible exact ea_nil
  | ((with_reducible apply ea_cons) <;> walk_at "d")
  | with_reducible exact s_add
  | with_reducible exact s_sub
  | with_reducible exact s_lt
  | with_reducible exact s_le
  | with_reducible exact s_gt
  | with_reducible exact s_ge
  | with_reducible exact s_eqI
  | with_reducible exact s_neI
  | with_reducible exact s_eqS
  | with_reducible exact s_neS
  | with_reducible exact s_neB
  | exact s_eqSame (sh_ints2 _) | exact s_neSame (sh_ints2 _) | exact s_eqSame (sh_ints _) | exact s_neSame (sh_ints _)
  | ((with_reducible apply s_mod) <;> walk_at "side")
  | walk_at "div" | walk_at "mul"
  | ((with_reducible apply s_catL) <;> walk_at "side")
  | ((with_reducible apply s_repL) <;> walk_at "side")
  | with_reducible exact s_fst
  | with_reducible exact s_snd
  | with_reducible exact s_t0
  | with_reducible exact s_t1
  | with_reducible exact s_t2
  | ((with_reducible apply s_last) <;> walk_at "side")
  | ((with_reducible apply s_ixS) <;> walk_at "side")
  | ((with_reducible apply s_ix) <;> walk_at "side")
  | ((with_reducible apply s_ixT) <;> walk_at "side")
  | with_reducible exact s_negI
  | with_reducible exact c_len
  | with_reducible exact c_lI
  | with_reducible exact c_tI
  | with_reducible exact c_pI
  | with_reducible exact c_t3I
  | with_reducible exact c_sI
  | with_reducible exact c_iI
  | with_reducible exact c_iB
  | with_reducible exact c_lenP
  | with_reducible exact c_len3
  | with_reducible exact c_isInt
  | with_reducible exact c_isBool
  | with_reducible exact c_isStr
  | with_reducible exact c_isList
  | with_reducible exact c_isTup
  | with_reducible exact c_lenTup
  | with_reducible exact c_lenScr
  | with_reducible exact c_listD
  | with_reducible exact c_listTD
  | with_reducible exact c_tup
  | with_reducible exact c_abs
  | with_reducible exact c_min2
  | with_reducible exact c_max2
  | with_reducible exact c_intB
  | with_reducible exact c_sum
  | ((with_reducible apply c_min) <;> walk_at "side")
  | ((with_reducible apply c_max) <;> walk_at "side")
  | ((with_reducible apply et_val) <;> walk_at "d")
  | ((with_reducible apply et_test) <;> walk_at "d")
  | ((with_reducible apply et_not) <;> walk_at "d")
  | ((with_reducible apply et_and) <;> (try with_reducible intro _) <;> walk_at "d")
  | ((with_reducible apply et_or) <;> (try with_reducible intro _) <;> walk_at "d")
  | ((with_reducible apply ev_and) <;> (try with_reducible intro _) <;> walk_at "d")
  | ((with_reducible apply ev_or) <;> (try with_reducible intro _) <;> walk_at "d")
  | ((with_reducible apply ev_chain) <;> (try with_reducible intro _) <;> walk_at "d")
  | ((with_reducible apply ev_not) <;> walk_at "d")
  | ((with_reducible apply ev_pair) <;> walk_at "d")
  | ((with_reducible apply ev_t3) <;> walk_at "d")
  | ((with_reducible apply ev_lst1) <;> walk_at "d")
  | ((with_reducible apply ev_lst2) <;> walk_at "d")
  | ((with_reducible apply ev_lst3) <;> walk_at "d")
  | ((with_reducible apply ev_lst4) <;> walk_at "d")
  | ((with_reducible apply ev_cut) <;> walk_at "d")
  | ((with_reducible apply ep_some) <;> walk_at "d")
  | ((with_reducible apply EvD.s) <;> walk_at "d")
  | ((with_reducible apply EvT.s) <;> walk_at "d")
  | ((with_reducible apply EvN.s) <;> walk_at "d")
  | ((with_reducible apply en_lst1) <;> walk_at "d")
  | ((with_reducible apply en_lst2) <;> walk_at "d")
  | ((with_reducible apply en_lst3) <;> walk_at "d")
  | ((with_reducible apply en_lst4) <;> walk_at "d")
  | ((with_reducible apply en_cut) <;> walk_at "d")
  | with_reducible exact ev_lst0
  | with_reducible exact ep_none
  | with_reducible exact en_lst0
  | ((with_reducible apply wi_L) <;> walk_at "d")
  | ((with_reducible apply wi_T) <;> walk_at "d")
  | ((with_reducible apply wi_zip) <;> walk_at "d")
  | ((with_reducible apply WiD.s) <;> walk_at "d")
  | ((with_reducible apply wi_range) <;> walk_at "side")
  | exact spec_cell (by omega) (by omega)
  | skip)
local macro_rules | `(tactic| walk_at "div") => `(tactic| first
  | exact s_div ⟨by omega, by omega⟩
  | exact s_divW (wd_div (by first | assumption | omega) (by assumption))
  | with_reducible apply s_div)
local macro_rules | `(tactic| walk_at "mul") => `(tactic| first
  | exact s_mul (Or.inl ⟨by omega, by omega⟩) | exact s_mul (Or.inr ⟨by omega, by omega⟩)
  | exact s_mulW (wd_mul (by assumption) (by assumption))
  | with_reducible apply s_mulW)
local macro_rules | `(tactic| walk_at "fg") => `(tactic| repeat (first | exact Fg.nil | apply Fg.same | apply Fg.drop | (refine Fg.eq ?_ ?_; rotate_left)))
local macro_rules | `(tactic| walk_at "end") => `(tactic| exact bd_turnE trivial rfl (by walk_at "fg"))
local macro_rules | `(tactic| walk_at "range") => `(tactic| (apply WiD.s; apply wi_range; (walk_at "d"); omega; omega))
local macro_rules | `(tactic| walk_at "app") => `(tactic| (refine' bd_appR 0 ?_ rfl ?_ ?_ ?_ ?_; (walk_at "d"); (walk_at "d"); rotate_right))
local macro_rules | `(tactic| walk_at "lend") => `(tactic| repeat (first | exact LendC.nil | apply LendC.no | (apply LendC.one; (exact lend_list 0 rfl)) | (apply LendC.one; (exact lend_same))))
section
variable {K : PySem.W.Frag} {c : Cs}
theorem rd_Tableau_told_none (F : TF K c) : ∀ Rs R, S_Tableau_told_none K c Rs R → ∀ B : Base, B.m = [] → BDe B (startC n_Tableau_told_none Rs) [] (t_Tableau_told_none K c) (fnP B R) := by
  rintro _ _ ⟨d, lows, s, one, rfl, T, hb, rfl⟩ B hm
  have S := T.S
  have lb := S.lb
  have lo := S.lo
  have hF := T.F
  have h1 := S.ltb _ hb
  have gi := gt_idxOf hb
  apply bd_set (R := rep (lineOf d s.ov one))
  · apply EvD.s
    have z := ev_index (K := K) (ev_beside F (ev_var (Γ := startC n_Tableau_told_none [insT c d lows s, rep (one : Int)]) (i := 0) rfl)) (ev_var (i := 1) rfl) (natL_mem.mpr hb)
    rw [natL_idx hb] at z
    have y := ev_lineAt F (ev_var (i := 0) rfl) z gi.1
    rw [gi.2] at y
    exact y
  apply bd_own (T := oL (List.replicate d.F (0 : Int)))
  · apply EvN.s
    have z := ev_opN (ev_lst1 ev_int) (ev_many_ F (ev_var (Γ := (startC n_Tableau_told_none [insT c d lows s, rep (one : Int)]).set 2 (some (rep (lineOf d s.ov one)))) (i := 0) rfl)) (s_rep (K := K) (a := (0 : Int)) (k := (d.F : Int)) (by omega) (by omega))
    rw [Int.toNat_natCast] at z
    exact z
  intro q
  refine bd_setI (α := Int) (xs := List.replicate d.F (0 : Int)) (a := (frm d s.ov).sc) (z := (one : Int)) 0 (EvD.s (ev_scale F (ev_var rfl))) (ev_var rfl) (EvD.s (ev_var rfl)) rfl (by omega) (by simp; omega) ?_
  apply bd_forE (n := d.n) (item := fun i => rep (i : Int)) (fun _ => [some (insT c d lows s), some (rep (one : Int)), some (rep (lineOf d s.ov one)), some (own q), none]) (fun i => [(q, oL (setOv d s.ov ((List.replicate d.F 0).set one (frm d s.ov).sc) one i))]) (fun _ => True)
  · apply WiD.s
    apply wi_rangeN
    · have z := ev_cb (ea_cons (ev_over F (ev_var (Γ := ((startC n_Tableau_told_none [insT c d lows s, rep (one : Int)]).set 2 (some (rep (lineOf d s.ov one)))).set 3 (some (own q))) (i := 0) rfl)) ea_nil) (c_len (K := K))
      rw [natL_len, lo] at z
      exact z
    · omega
  · walk_at "fg"
  · rfl
  · trivial
  · intro i hi
    exact tg_name
  · intro i hi _
    have hx := S.lto _ (gt_mem (l := s.ov) (k := i) (by omega))
    have ll : (setOv d s.ov ((List.replicate d.F (0 : Int)).set one (frm d s.ov).sc) one i).length = d.F := by rw [setOv_len]; simp
    have z1 := ev_op (ev_var (Γ := [some (insT c d lows s), some (rep (one : Int)), some (rep (lineOf d s.ov one)), some (own q), some (rep (i : Int))]) (i := 2) rfl) (ev_var (i := 4) rfl) (s_ix (K := K) (i := (i : Int)) (by omega) (by rw [line_len]; omega))
    rw [ix_line _ _ _ hi] at z1
    have z2 := ev_op (ev_over F (ev_var (Γ := [some (insT c d lows s), some (rep (one : Int)), some (rep (lineOf d s.ov one)), some (own q), some (rep (i : Int))]) (i := 0) rfl)) (ev_var (i := 4) rfl) (s_ix (K := K) (xs := natL s.ov) (i := (i : Int)) (by omega) (by rw [natL_len]; omega))
    rw [ix_natL (by omega)] at z2
    refine bd_setI (α := Int) (a := Lc d s.ov one i) (z := (gt s.ov i : Int)) 0 (EvD.s z1) (ev_var rfl) (EvD.s z2) rfl (by omega) (by rw [ll]; omega) ?_
    rw [Int.toNat_natCast]
    exact bd_turnE trivial rfl (by walk_at "fg")
  intro _
  refine bd_frz (xs := wNone d s one) 0 3 rfl rfl hm ?_
  apply bd_retR hm
  exact EvD.s (ev_tupD (ds := [.str "none", py (wNone d s one)]) (ea_cons ev_str (ea_cons (ev_var rfl) ea_nil)))
theorem rd_Tableau_told_most (F : TF K c) : ∀ Rs R, S_Tableau_told_most K c Rs R → ∀ B : Base, B.m = [] → BDe B (startC n_Tableau_told_most Rs) [] (t_Tableau_told_most K c) (fnP B R) := by
  rintro _ _ ⟨d, lows, s, rfl, T, hlw, hlb, rfl⟩ B hm
  have S := T.S
  have lb := S.lb
  have lo := S.lo
  have hF := T.F
  have F2 := T.K.F2
  have n3 := T.K.n3
  have scB := sc_in T.bd s.ov
  apply bd_own (T := oL (List.replicate d.F (0 : Int)))
  · apply EvN.s
    have z := ev_opN (ev_lst1 ev_int) (ev_many_ F (ev_var (Γ := startC n_Tableau_told_most [insT c d lows s]) (i := 0) rfl)) (s_rep (K := K) (a := (0 : Int)) (k := (d.F : Int)) (by omega) (by omega))
    rw [Int.toNat_natCast] at z
    exact z
  intro q
  apply bd_forE (n := d.n) (item := fun i => rep (i : Int)) (fun _ => startC n_Tableau_told_most [insT c d lows s] |>.set 1 (some (own q))) (fun i => [(q, oL (setOv d s.ov (List.replicate d.F 0) d.F i))]) (fun _ => True)
  · apply WiD.s
    apply wi_rangeN
    · have z := ev_cb (ea_cons (ev_over F (ev_var (Γ := (startC n_Tableau_told_most [insT c d lows s]).set 1 (some (own q))) (i := 0) rfl)) ea_nil) (c_len (K := K))
      rw [natL_len, lo] at z
      exact z
    · omega
  · walk_at "fg"
  · rfl
  · trivial
  · intro i hi
    exact tg_name
  · intro i hi _
    have hx := S.lto _ (gt_mem (l := s.ov) (k := i) (by omega))
    have ll : (setOv d s.ov (List.replicate d.F (0 : Int)) d.F i).length = d.F := by rw [setOv_len]; simp
    have z1 := ev_op (ev_lineF F (ev_var (Γ := ((startC n_Tableau_told_most [insT c d lows s]).set 1 (some (own q))).set 2 (some (rep (i : Int)))) (i := 0) rfl)) (ev_var (i := 2) rfl) (s_ix (K := K) (i := (i : Int)) (by omega) (by rw [line_len]; omega))
    rw [ix_line _ _ _ hi] at z1
    have z2 := ev_op (ev_over F (ev_var (Γ := ((startC n_Tableau_told_most [insT c d lows s]).set 1 (some (own q))).set 2 (some (rep (i : Int)))) (i := 0) rfl)) (ev_var (i := 2) rfl) (s_ix (K := K) (xs := natL s.ov) (i := (i : Int)) (by omega) (by rw [natL_len]; omega))
    rw [ix_natL (by omega)] at z2
    refine bd_setI (α := Int) (a := Lc d s.ov d.F i) (z := (gt s.ov i : Int)) 0 (EvD.s z1) (ev_var rfl) (EvD.s z2) rfl (by omega) (by rw [ll]; omega) ?_
    rw [Int.toNat_natCast]
    exact bd_turnE trivial rfl (by walk_at "fg")
  intro _
  refine bd_frz (xs := wMost d s) 0 1 rfl rfl hm ?_
  apply bd_set (R := rep ((d.F - 2 * d.n : Nat) : Int))
  · apply EvD.s
    have z := ev_op (ev_many_ F (ev_var (Γ := ((startC n_Tableau_told_most [insT c d lows s]).set 1 (some (own q))).set 1 (some (rep (wMost d s)))) (i := 0) rfl)) (ev_op (ev_int (i := 2)) (ev_cb (ea_cons (ev_lows F (ev_var (i := 0) rfl)) ea_nil) (c_len (K := K))) (s_mul (K := K) (.inl ⟨by omega, by omega⟩))) s_sub
    have e : (d.F : Int) - 2 * (lows.length : Int) = ((d.F - 2 * d.n : Nat) : Int) := by omega
    rw [e] at z
    exact z
  apply bd_nil Int
  intro q2
  apply bd_forE (n := d.n) (item := fun i => rep (i : Int)) (fun _ => [some (insT c d lows s), some (rep (wMost d s)), none, some (rep ((d.F - 2 * d.n : Nat) : Int)), some (own q2), none, none, none]) (fun i => [(q2, oL ((List.range i).map (numOfS d lows s)))]) (fun _ => True)
  · apply WiD.s
    apply wi_rangeN
    · have z := ev_cb (ea_cons (ev_lows F (ev_var (Γ := ((((startC n_Tableau_told_most [insT c d lows s]).set 1 (some (own q))).set 1 (some (rep (wMost d s)))).set 3 (some (rep ((d.F - 2 * d.n : Nat) : Int)))).set 4 (some (own q2))) (i := 0) rfl)) ea_nil) (c_len (K := K))
      rw [hlw] at z
      exact z
    · omega
  · walk_at "fg"
  · rfl
  · trivial
  · intro i hi
    exact tg_name
  · intro i hi _
    have hx := hlb _ (at_mem (xs := lows) (k := i) (by omega))
    apply bd_set (R := rep (at_ lows i * (frm d s.ov).sc))
    · apply EvD.s
      have ei : ix lows (i : Int) = at_ lows i := rfl
      apply ev_op
      · exact ev_op (ev_lows F (ev_var rfl)) (ev_var rfl) (s_ix (xs := lows) (by omega) (by omega))
      · exact ev_scale F (ev_var rfl)
      · exact s_mul (.inl ⟨by omega, by omega⟩)
    apply bd_set (R := rep ((d.F - 2 * d.n + 2 * i + 1 : Nat) : Int))
    · apply EvD.s
      have e : ((d.F - 2 * d.n : Nat) : Int) + 2 * (i : Int) + 1 = ((d.F - 2 * d.n + 2 * i + 1 : Nat) : Int) := by omega
      rw [← e]
      exact ev_op (ev_op (ev_var rfl) (ev_op ev_int (ev_var rfl) (s_mul (.inl ⟨by omega, by omega⟩))) s_add) ev_int s_add
    apply bd_ifset (α := Int) (b := decide (d.F - 2 * d.n + 2 * i + 1 ∈ s.bs)) (a := at_ lows i * (frm d s.ov).sc + La d s.ov (d.F - 2 * d.n + 2 * i + 1)) (c := at_ lows i * (frm d s.ov).sc)
    · apply EvT.s
      apply et_test
      refine ev_eq (ev_op (ev_var rfl) (ev_beside F (ev_var rfl)) s_inI) ?_
      exact decide_eq_decide.mpr natL_mem
    · intro h
      have hb : d.F - 2 * d.n + 2 * i + 1 ∈ s.bs := of_decide_eq_true h
      have gi := gt_idxOf hb
      apply EvD.s
      apply ev_op (ev_var rfl)
      · apply ev_op (Ra := rep (lineOf d s.ov (d.F - 2 * d.n + 2 * i + 1))) (Rb := rep (-1 : Int))
        · apply ev_op (Ra := rep (tabOf d s)) (Rb := rep ((s.bs.idxOf (d.F - 2 * d.n + 2 * i + 1) : Nat) : Int))
          · exact ev_lines F (ev_var rfl)
          · rw [← natL_idx hb]
            exact ev_index (ev_beside F (ev_var rfl)) (ev_var rfl) (natL_mem.mpr hb)
          · have z : R2D (rIx K) (rep (tabOf d s)) (rep ((s.bs.idxOf (d.F - 2 * d.n + 2 * i + 1) : Nat) : Int)) (rep (ix (tabOf d s) ((s.bs.idxOf (d.F - 2 * d.n + 2 * i + 1) : Nat) : Int))) := s_ix (by omega) (by rw [tab_len]; omega)
            have e : ix (tabOf d s) ((s.bs.idxOf (d.F - 2 * d.n + 2 * i + 1) : Nat) : Int) = lineOf d s.ov (d.F - 2 * d.n + 2 * i + 1) := (tab_at d s gi.1).trans (by rw [gi.2])
            rw [e] at z
            exact z
        · exact ev_un ev_int s_negI
        · have z : R2D (rIx K) (rep (lineOf d s.ov (d.F - 2 * d.n + 2 * i + 1))) (rep (-1 : Int)) (rep (last (lineOf d s.ov (d.F - 2 * d.n + 2 * i + 1)))) := s_last (by rw [line_len]; omega)
          rw [last_line] at z
          exact z
      · exact s_add
    · rfl
    refine bd_appR (α := Int) (g := numOfS d lows s) (n := i) (a := numOfS d lows s i) 0 (ev_var rfl) rfl ?_ rfl (by omega) ?_
    · exact EvD.s (ev_var rfl)
    · exact bd_turnE trivial rfl (by walk_at "fg")
  intro _
  refine bd_frz (xs := (List.range d.n).map (numOfS d lows s)) 0 4 rfl rfl hm ?_
  apply bd_retR hm
  exact EvD.s (ev_tupD (ds := [.str "most", .tuple [py ((List.range d.n).map (numOfS d lows s)), .int (frm d s.ov).sc], py (wMost d s), .int (frm d s.ov).sc])
    (ea_cons ev_str (ea_cons (ev_tupD (ds := [py ((List.range d.n).map (numOfS d lows s)), .int (frm d s.ov).sc]) (ea_cons (ev_var rfl) (ea_cons (ev_scale F (ev_var rfl)) ea_nil))) (ea_cons (ev_var rfl) (ea_cons (ev_scale F (ev_var rfl)) ea_nil)))))
/-! the change of places -/
theorem lend_tab {a pb po : Addr} {d : Dat} {lows : List Int} {s : LS} : Lend (ownT c a pb po d lows s) (own a) (insT c d lows s) :=
  lend_ins 2 rfl (.cons lend_same (.cons (lend_list 1 rfl) (.cons (lend_list 0 rfl) (.cons lend_same (.cons lend_same (.cons lend_same .nil))))))
local macro_rules | `(tactic| walk_at "lendT") => `(tactic| repeat (first | exact LendC.nil | apply LendC.no | (apply LendC.one; (exact lend_tab)) | (apply LendC.one; (exact lend_same))))
theorem rd_Tableau_change (F : TF K c) (n : Nat) : RdO (S_Tableau_changeN K c (n + 1)) n_Tableau_change (t_Tableau_change K c (spO (S_Tableau_changeN K c n))) := by
  rintro _ _ _ ⟨a, pb, po, d, lows, s, r, j, x, y, rfl, T, hr, hj, pv, hxy, rfl, rfl⟩ B hm
  have S := T.S
  have lo := S.lo
  have lb := S.lb
  have hF := T.F
  have n3 := T.K.n3
  have mb : gt s.bs r ∈ s.bs := gt_mem hr
  have mo : gt s.ov j ∈ s.ov := gt_mem (by omega)
  have tst : EvTS B (startC n_Tableau_change [own a, rep (x : Int), rep (y : Int)]) (ownT c a pb po d lows s) (tTest (tOp (rInX K) (tVar 1) (tFld K (tVar 0) "over"))) (decide (x ∈ s.ov)) := by
    apply et_lend
    · walk_at "lendT"
    · apply et_test
      refine ev_eq (ev_op (ev_var rfl) (ev_over F (ev_var rfl)) s_inI) ?_
      exact decide_eq_decide.mpr natL_mem
  rcases hxy with ⟨rfl, rfl⟩ | ⟨hn, rfl, rfl⟩
  · apply bd_ifr tst
    · intro h
      exact absurd (of_decide_eq_true h) (S.dis _ mb)
    intro _
    have ib := gt_idxOf mb
    have io := gt_idxOf mo
    have eb : s.bs.idxOf (gt s.bs r) = r := gt_inj S.ndb ib.1 hr ib.2
    have eo : s.ov.idxOf (gt s.ov j) = j := gt_inj S.ndo io.1 (by omega) io.2
    apply bd_set (R := rep (r : Int))
    · apply ev_lend
      · walk_at "lendT"
      · refine ev_eq (ev_index (ev_beside F (ev_var rfl)) (ev_var rfl) (natL_mem.mpr mb)) ?_
        rw [natL_idx mb, eb]
      · exact flat_int _
    apply bd_set (R := rep (j : Int))
    · apply ev_lend
      · walk_at "lendT"
      · refine ev_eq (ev_index (ev_over F (ev_var rfl)) (ev_var rfl) (natL_mem.mpr mo)) ?_
        rw [natL_idx mo, eo]
      · exact flat_int _
    have sc := S.sc
    have scB := sc_in T.bd s.ov
    apply bd_set (R := rep (tabOf d (mvd d s r j), (frm d (mvd d s r j).ov).sc))
    · apply es_callX
      · apply ea_consS
        · exact es_fld (R := rep (tabOf d s)) 2 (ev_var rfl) rfl F.cl F.lines rfl
        · apply ea_consS
          · exact es_fld (R := rep (frm d s.ov).sc) 2 (ev_var rfl) rfl F.cl F.scale rfl
          · exact EvA.s (ea_cons (ev_var rfl) (ea_cons (ev_var rfl) ea_nil))
      · refine ⟨tabOf d s, (frm d s.ov).sc, (r : Int), (j : Int), rfl, ⟨s.bs.length + 1, d.n + 1, tab_rect T.bd s, by omega, by omega, by omega, by omega, by omega, by omega, sc, wd_of (Nat.le_trans scB (by decide))⟩, ?_, ?_⟩
        · have e1 : ix (tabOf d s) (r : Int) = lineOf d s.ov (gt s.bs r) := tab_at d s hr
          rw [e1, ix_line d s.ov _ hj]
          exact pv
        · rw [turn_tab T.K S hr hj pv]
    refine bd_setF (fs := tf (own pb) (own po) d lows s) (R := rep (tabOf d (mvd d s r j))) 2 (EvD.s (ev_op (ev_var rfl) ev_int s_fst)) (ev_var rfl) rfl F.cl F.lines (by simp [tf]) ?_
    refine bd_setF (fs := putR "lines" (rep (tabOf d (mvd d s r j))) (tf (own pb) (own po) d lows s)) (R := rep (frm d (mvd d s r j).ov).sc) 2 (EvD.s (ev_op (ev_var rfl) ev_int s_snd)) (ev_var rfl) rfl F.cl F.scale (by have h1 := putR_len "lines" (rep (tabOf d (mvd d s r j))) (tf (own pb) (own po) d lows s); have h2 : (tf (own pb) (own po) d lows s).length = 6 := rfl; omega) ?_
    refine bd_setIS (α := Int) (xs := natL s.bs) (a := (gt s.ov j : Int)) (z := (r : Int)) 1 (EvD.s (ev_var rfl)) (es_fld (R := own pb) 2 (ev_var rfl) rfl F.cl F.beside rfl) (EvD.s (ev_var rfl)) rfl (by omega) (by rw [natL_len]; omega) ?_
    refine bd_setIS (α := Int) (xs := natL s.ov) (a := (gt s.bs r : Int)) (z := (j : Int)) 0 (EvD.s (ev_var rfl)) (es_fld (R := own po) 2 (ev_var rfl) rfl F.cl F.over rfl) (EvD.s (ev_var rfl)) rfl (by omega) (by rw [natL_len]; omega) ?_
    refine bd_endO ⟨rfl, ?_⟩ fun f => rep_of_unit _
    rw [Int.toNat_natCast, Int.toNat_natCast, natL_set, natL_set]
    rfl
  · obtain ⟨m, rfl⟩ : ∃ m, n = m + 1 := ⟨n - 1, by omega⟩
    apply bd_ifr tst
    · intro _
      refine bd_methO (fs := tf (own pb) (own po) d lows s) 2 (ev_var rfl) rfl rfl (EvA.s (ea_cons (ev_var rfl) (ea_cons (ev_var rfl) ea_nil))) ⟨a, pb, po, d, lows, s, r, j, gt s.bs r, gt s.ov j, rfl, T, hr, hj, pv, .inl ⟨rfl, rfl⟩, rfl, rfl⟩ ?_
      rintro R O' ⟨rfl, rfl⟩
      exact bd_retNO ⟨rfl, rfl⟩ fun f => rep_of_unit _
    · intro h
      exact absurd mo (of_decide_eq_false h)
end
end D

set_option Elab.async false
set_option linter.all false
set_option maxRecDepth 100000
set_option maxHeartbeats 4000000
namespace D
open PySem PySem.Spec PyProof.Rows L2
open ToPy (py)
local macro_rules | `(tactic| walk_at "side") => `(tactic| first | assumption | omega | (refine Int.emod_nonneg _ ?_; omega) | (refine Int.emod_lt_of_pos _ ?_; omega) | (simp at *; omega) | (simp; done) | decide | skip)
local macro_rules | `(tactic| walk_at "d") => `(tactic| first
  | with_reducible exact ev_int | with_reducible exact ev_str | with_reducible exact ev_bl | with_reducible exact ev_non
  | exact ev_var rfl
  | with_reducible exact ev_ty
  | with_reducible exact ev_cls
  | ((with_reducible apply ev_op) <;> walk_at "d")
  | ((with_reducible apply ev_un) <;> walk_at "d")
  | ((with_reducible apply ev_call) <;> walk_at "d")
  | ((with_reducible apply ev_callX) <;> walk_at "d")
  | ((with_reducible apply ev_cb) <;> walk_at "d")
  | with_reducible exact ea_nil
  | ((with_reducible apply ea_cons) <;> walk_at "d")
  | with_reducible exact s_add
  | with_reducible exact s_sub
  | with_reducible exact s_lt
  | with_reducible exact s_le
  | with_reducible exact s_gt
  | with_reducible exact s_ge
  | with_reducible exact s_eqI
  | with_reducible exact s_neI
  | with_reducible exact s_eqS
  | with_reducible exact s_neS
  | with_reducible exact s_neB
  | exact s_eqSame (sh_ints2 _) | exact s_neSame (sh_ints2 _) | exact s_eqSame (sh_ints _) | exact s_neSame (sh_ints _)
  | ((with_reducible apply s_mod) <;> walk_at "side")
  | walk_at "div" | walk_at "mul"
  | ((with_reducible apply s_catL) <;> walk_at "side")
  | ((with_reducible apply s_repL) <;> walk_at "side")
  | with_reducible exact s_fst
  | with_reducible exact s_snd
  | with_reducible exact s_t0
  | with_reducible exact s_t1
  | with_reducible exact s_t2
  | ((with_reducible apply s_last) <;> walk_at "side")
  | ((with_reducible apply s_ixS) <;> walk_at "side")
  | ((with_reducible apply s_ix) <;> walk_at "side")
  | ((with_reducible apply s_ixT) <;> walk_at "side")
  | with_reducible exact s_negI
  | with_reducible exact c_len
  | with_reducible exact c_lI
  | with_reducible exact c_tI
  | with_reducible exact c_pI
  | with_reducible exact c_t3I
  | with_reducible exact c_sI
  | with_reducible exact c_iI
  | with_reducible exact c_iB
  | with_reducible exact c_lenP
  | with_reducible exact c_len3
  | with_reducible exact c_isInt
  | with_reducible exact c_isBool
  | with_reducible exact c_isStr
  | with_reducible exact c_isList
  | with_reducible exact c_isTup
  | with_reducible exact c_lenTup
  | with_reducible exact c_lenScr
  | with_reducible exact c_listD
  | with_reducible exact c_listTD
  | with_reducible exact c_tup
  | with_reducible exact c_abs
  | with_reducible exact c_min2
  | with_reducible exact c_max2
  | with_reducible exact c_intB
  | with_reducible exact c_sum
  | ((with_reducible apply c_min) <;> walk_at "side")
  | ((with_reducible apply c_max) <;> walk_at "side")
  | ((with_reducible apply et_val) <;> walk_at "d")
  | ((with_reducible apply et_test) <;> walk_at "d")
  | ((with_reducible apply et_not) <;> walk_at "d")
  | ((with_reducible apply et_and) <;> (try with_reducible intro _) <;> walk_at "d")
  | ((with_reducible apply et_or) <;> (try with_reducible intro _) <;> walk_at "d")
  | ((with_reducible apply ev_and) <;> (try with_reducible intro _) <;> walk_at "d")
  | ((with_reducible apply ev_or) <;> (try with_reducible intro _) <;> walk_at "d")
  | ((with_reducible apply ev_chain) <;> (try with_reducible intro _) <;> walk_at "d")
  | ((with_reducible apply ev_not) <;> walk_at "d")
  | ((with_reducible apply ev_pair) <;> walk_at "d")
  | ((with_reducible apply ev_t3) <;> walk_at "d")
  | ((with_reducible apply ev_lst1) <;> walk_at "d")
  | ((with_reducible apply ev_lst2) <;> walk_at "d")
  | ((with_reducible apply ev_lst3) <;> walk_at "d")
  | ((with_reducible apply ev_lst4) <;> walk_at "d")
  | ((with_reducible apply ev_cut) <;> walk_at "d")
  | ((with_reducible apply ep_some) <;> walk_at "d")
  | ((with_reducible apply EvD.s) <;> walk_at "d")
  | ((with_reducible apply EvT.s) <;> walk_at "d")
  | ((with_reducible apply EvN.s) <;> walk_at "d")
  | ((with_reducible apply en_lst1) <;> walk_at "d")
  | ((with_reducible apply en_lst2) <;> walk_at "d")
  | ((with_reducible apply en_lst3) <;> walk_at "d")
  | ((with_reducible apply en_lst4) <;> walk_at "d")
  | ((with_reducible apply en_cut) <;> walk_at "d")
  | with_reducible exact ev_lst0
  | with_reducible exact ep_none
  | with_reducible exact en_lst0
  | ((with_reducible apply wi_L) <;> walk_at "d")
  | ((with_reducible apply wi_T) <;> walk_at "d")
  | ((with_reducible apply wi_zip) <;> walk_at "d")
  | ((with_reducible apply WiD.s) <;> walk_at "d")
  | ((with_reducible apply wi_range) <;> walk_at "side")
  | exact spec_cell (by omega) (by omega)
  | skip)
local macro_rules | `(tactic| walk_at "div") => `(tactic| first
  | exact s_div ⟨by omega, by omega⟩
  | exact s_divW (wd_div (by first | assumption | omega) (by assumption))
  | with_reducible apply s_div)
local macro_rules | `(tactic| walk_at "mul") => `(tactic| first
  | exact s_mul (Or.inl ⟨by omega, by omega⟩) | exact s_mul (Or.inr ⟨by omega, by omega⟩)
  | exact s_mulW (wd_mul (by assumption) (by assumption))
  | with_reducible apply s_mulW)
local macro_rules | `(tactic| walk_at "fg") => `(tactic| repeat (first | exact Fg.nil | apply Fg.same | apply Fg.drop | (refine Fg.eq ?_ ?_; rotate_left)))
local macro_rules | `(tactic| walk_at "end") => `(tactic| exact bd_turnE trivial rfl (by walk_at "fg"))
local macro_rules | `(tactic| walk_at "range") => `(tactic| (apply WiD.s; apply wi_range; (walk_at "d"); omega; omega))
local macro_rules | `(tactic| walk_at "app") => `(tactic| (refine' bd_appR 0 ?_ rfl ?_ ?_ ?_ ?_; (walk_at "d"); (walk_at "d"); rotate_right))
local macro_rules | `(tactic| walk_at "lend") => `(tactic| repeat (first | exact LendC.nil | apply LendC.no | (apply LendC.one; (exact lend_list 0 rfl)) | (apply LendC.one; (exact lend_same))))
def S_loose (K : PySem.W.Frag) (c : Cs) : Spec := fun Rs R => ∃ (p : Prob) (box : Box), Rs = [insP c p, rep box] ∧ p.Ok ∧ BoxOk p box ∧ R = rep (looseOf p box)
def n_loose : List Str := ["problem", "box", "tableau", "one", "other"]
def t_loose (K : PySem.W.Frag) (c : Cs) : TS := (tSeq (tAsg (tMake c.Tableau (SP_Tableau K c) [] E0 (tCons (tVar 0) (tCons (tVar 1) tNil))) (gName 2))
  (tSeq (tAsg (tMeth c.Tableau "wrong" (SP_Tableau_wrong K c) [] E0 (tVar 2) tNil) (gName 3))
  (tSeq (tWhile (tTest (tOp rLtI (tVar 3) (tFld K (tVar 2) "many"))) (tSeq (tAsg (tMeth c.Tableau "partner" (SP_Tableau_partner K c) [] E0 (tVar 2) (tCons (tVar 3) tNil)) (gName 4))
  (tSeq (tIfS (tTest (tOp (rEqX K) (tVar 4) (tFld K (tVar 2) "many"))) (tSeq (tRet (tMeth c.Tableau "told_none" (SP_Tableau_told_none K c) [] E0 (tVar 2) (tCons (tVar 3) tNil)))
  tNext) tNext)
  (tSeq (tDrop (tMeth c.Tableau "change" (SP_Tableau_change K c) [] E0 (tVar 2) (tCons (tVar 3) (tCons (tVar 4) tNil))))
  (tSeq (tAsg (tMeth c.Tableau "wrong" (SP_Tableau_wrong K c) [] E0 (tVar 2) tNil) (gName 3))
  tNext)))))
  (tSeq (tRet (tMeth c.Tableau "told_most" (SP_Tableau_told_most K c) [] E0 (tVar 2) tNil))
  tNext))))
theorem ini_line {p : Prob} {box : Box} (k : p.Ok) (hb : BoxOk p box) {q : Nat} (hq : q ≤ fN p box) : lineOf (datOf p box) (s0 p box).ov q = numsOf p box q ++ [(datOf p box).b q - dot (numsOf p box q) (lowsOf box)] := by
  have I := ini_frm k hb
  have K := dat_ok k hb
  have nl := nums_len k hb q
  have n3 : box.length ≤ 3 := by rw [hb.len]; exact k.n3
  have y : box.length < 2 → ((datOf p box).a q).y = 0 := fun h => K.fy h q hq
  have z : box.length < 3 → ((datOf p box).a q).z = 0 := fun h => K.fz h q hq
  have L := I.L _ y z
  have e := dat_a (p := p) (box := box) hq
  unfold lineOf
  congr 1
  · apply list_ext_at
    · rw [nl]
      simp
      rfl
    · intro i hi
      have hi : i < (datOf p box).n := by simpa using hi
      rw [at_map_range _ hi]
      have hi : i < box.length := hi
      unfold Lc
      match i, (show i < 3 by omega) with
      | 0, _ =>
        rw [L.1 hi, e]
        rfl
      | 1, _ =>
        rw [L.2.1 hi, e]
        rfl
      | 2, _ =>
        rw [L.2.2 hi, e]
        rfl
  · congr 1
    unfold La
    rw [I.last _ _ y z, e, dot_v3 (by rw [nl, lows_len]) (by omega)]
theorem natL_tab {l : List Nat} (g : Nat → List Int) : l.map g = (List.range l.length).map fun i => g (gt l i) := by
  apply List.ext_getElem?
  intro i
  by_cases hi : i < l.length
  · rw [List.getElem?_map, List.getElem?_map, List.getElem?_range hi]
    unfold gt
    rw [List.getElem?_eq_getElem hi]
    simp [List.getD_eq_getElem?_getD, List.getElem?_eq_getElem hi]
  · rw [List.getElem?_eq_none (by simp; omega), List.getElem?_eq_none (by simp; omega)]
section
variable {K : PySem.W.Frag} {c : Cs}
theorem rd_Tableau_init (G : PF K c) (F : TF K c) : RdO (S_Tableau K c) n_Tableau_init (t_Tableau_init K c) := by
  rintro _ _ _ ⟨a, p, box, rfl, k, hb, rfl, rfl⟩ B hm
  have n3 : box.length ≤ 3 := by rw [hb.len]; exact k.n3
  have m6 := k.m6
  have fl := factsOf_len p box
  have gl := k.gl
  have S := s0_ok k hb
  have ll := lows_len box
  apply bd_set (R := rep (factsOf p box))
  · exact EvD.s (ev_callX (ea_cons (ev_var rfl) (ea_cons (ev_var rfl) ea_nil)) ⟨p, box, rfl, k, hb, rfl⟩)
  apply bd_set (R := rep (p.rows.length : Int))
  · exact EvD.s (ev_cb (ea_cons (ev_rows G (ev_var rfl)) ea_nil) c_len)
  apply bd_set (R := rep (lowsOf box))
  · apply EvD.s
    apply ev_lc (α := Int) (n := box.length) (item := fun i => rep (at_ box i)) (val := fun i => (at_ box i).1)
    · exact wi_L (ev_var rfl)
    · intro i hi
      exact tl_name (by decide)
    · intro i hi
      exact ev_op (ev_var rfl) ev_int s_fst
    · omega
  refine bd_setF (fs := []) (R := rep (lowsOf box)) 0 (EvD.s (ev_var rfl)) (ev_var rfl) rfl F.cl F.lows (by simp) ?_
  have eb : (List.range p.rows.length).map (fun (i : Nat) => (i : Int)) ++ (List.range box.length).map (fun (u : Nat) => (p.rows.length : Int) + 2 * (u : Int)) = natL (s0 p box).bs := by
    unfold s0 natL
    rw [List.map_append, List.map_map]
    congr 1
  refine bd_setFO (fs := [("lows", rep (lowsOf box))]) (T := oL (natL (s0 p box).bs)) 0 ?_ (ev_var rfl) rfl F.cl F.beside (by simp) fun pb => ?_
  · apply EvN.s
    rw [← eb]
    apply ev_opN (Ra := rep ((List.range p.rows.length).map (fun (i : Nat) => (i : Int)))) (Rb := rep ((List.range box.length).map (fun (u : Nat) => (p.rows.length : Int) + 2 * (u : Int))))
    · exact (en_listRg (ev_var rfl) (by omega)).evD
    · apply ev_lc (α := Int) (n := box.length) (item := fun i => rep (i : Int))
      · exact wi_rangeN (ev_cb (ea_cons (ev_var rfl) ea_nil) c_len) (by omega)
      · intro i hi
        exact tl_name (by decide)
      · intro i hi
        exact ev_op (ev_var rfl) (ev_op ev_int (ev_var rfl) (s_mul (.inl ⟨by omega, by omega⟩))) s_add
      · omega
    · exact s_cat (by simp; omega)
  have eo : (List.range box.length).map (fun (u : Nat) => (p.rows.length : Int) + 2 * (u : Int) + 1) = natL (s0 p box).ov := by
    unfold s0 natL
    rw [List.map_map]
    rfl
  refine bd_setFO (fs := [("lows", rep (lowsOf box)), ("beside", own pb)]) (T := oL (natL (s0 p box).ov)) 1 ?_ (ev_var rfl) rfl F.cl F.over (by simp) fun po => ?_
  · apply EvN.s
    rw [← eo]
    apply en_lc (α := Int) (n := box.length) (item := fun i => rep (i : Int))
    · exact wi_rangeN (ev_cb (ea_cons (ev_var rfl) ea_nil) c_len) (by omega)
    · intro i hi
      exact tl_name (by decide)
    · intro i hi
      exact ev_op (ev_op (ev_var rfl) (ev_op ev_int (ev_var rfl) (s_mul (.inl ⟨by omega, by omega⟩))) s_add) ev_int s_add
    · omega
  refine bd_setF (fs := [("lows", rep (lowsOf box)), ("beside", own pb), ("over", own po)]) (R := rep (1 : Int)) 2 (EvD.s ev_int) (ev_var rfl) rfl F.cl F.scale (by simp) ?_
  refine bd_setFO (fs := [("lows", rep (lowsOf box)), ("beside", own pb), ("over", own po), ("scale", rep (1 : Int))]) (T := oL ((List.range (natL (s0 p box).bs).length).map fun i => lineOf (datOf p box) (s0 p box).ov (gt (s0 p box).bs i))) 2 ?_ (ev_var rfl) rfl F.cl F.lines (by simp) fun pt => ?_
  · apply en_lcO (α := List Int) (n := (natL (s0 p box).bs).length) (item := fun i => rep (at_ (natL (s0 p box).bs) i)) (val := fun i => lineOf (datOf p box) (s0 p box).ov (gt (s0 p box).bs i))
    · exact wi_O (xs := natL (s0 p box).bs) 1 (es_fld (R := own pb) (fs := [("lows", rep (lowsOf box)), ("beside", own pb), ("over", own po), ("scale", rep (1 : Int))]) 2 (ev_var rfl) rfl F.cl F.beside rfl) rfl fun i _ => flat_int _
    · intro i hi
      exact tl_name (by decide)
    · intro i hi
      have hi : i < (s0 p box).bs.length := by rw [natL_len] at hi; exact hi
      have hq : gt (s0 p box).bs i < fN p box := S.ltb _ (gt_mem hi)
      have hq2 : gt (s0 p box).bs i < (factsOf p box).length := by rw [fl]; exact hq
      have ea : at_ (natL (s0 p box).bs) i = (gt (s0 p box).bs i : Int) := natL_at hi
      rw [ini_line k hb (Nat.le_of_lt hq), dat_b hq]
      have en : numsOf p box (gt (s0 p box).bs i) = (factAt p box (gt (s0 p box).bs i)).1.l := by unfold numsOf; rw [if_pos hq]
      have nb := nums_bnd k hb (gt (s0 p box).bs i)
      have nl := nums_len k hb (gt (s0 p box).bs i)
      rw [en] at nb nl ⊢
      have ei : ix (factsOf p box) (gt (s0 p box).bs i : Int) = factAt p box (gt (s0 p box).bs i) := at_facts p box hq
      have row : ∀ {Γ : Ctx}, EvD Γ (tVar 3) (rep (factsOf p box)) → EvD Γ (tVar 8) (rep (at_ (natL (s0 p box).bs) i)) → EvD Γ (tOp (rIx K) (tVar 3) (tVar 8)) (rep (factAt p box (gt (s0 p box).bs i))) := fun h1 h2 => by
        rw [ea] at h2
        have z := ev_op (r := rIx K) h1 h2 (s_ix (xs := factsOf p box) (by omega) (by omega))
        rw [ei] at z
        exact z
      apply ev_op (Ra := rep (factAt p box (gt (s0 p box).bs i)).1.l) (Rb := rep [(factAt p box (gt (s0 p box).bs i)).2 - dot (factAt p box (gt (s0 p box).bs i)).1.l (lowsOf box)])
      · exact ev_cb (ea_cons (ev_op (row (ev_var rfl) (ev_var rfl)) ev_int s_fst) ea_nil) (c_listTD (xs := (factAt p box (gt (s0 p box).bs i)).1.l))
      · apply ev_lst1
        apply ev_op
        · exact ev_op (row (ev_var rfl) (ev_var rfl)) ev_int s_snd
        · apply ev_call
          · exact ea_cons (ev_op (row (ev_var rfl) (ev_var rfl)) ev_int s_fst) (ea_cons (ev_var rfl) ea_nil)
          · exact spec_sum_at (xs := (factAt p box (gt (s0 p box).bs i)).1.l) (ys := lowsOf box) false (by rw [nl, ll]) (by omega) nb
        · exact s_sub
      · apply s_catL
        simp only [List.length_cons, List.length_nil]
        omega
    · have := S.lb
      have e : (datOf p box).F = fN p box := rfl
      rw [natL_len]
      unfold fN at e
      omega
  have lz : lineOf (datOf p box) (s0 p box).ov (datOf p box).F = negG p ++ [0] := by
    show lineOf (datOf p box) (s0 p box).ov (fN p box) = _
    rw [ini_line k hb (Nat.le_refl _), dat_bF]
    have en : numsOf p box (fN p box) = negG p := by unfold numsOf; rw [if_neg (by omega)]
    rw [en]
    congr 2
    have ln : (negG p).length = p.gain.length := by simp [negG]
    have bl := hb.len
    rw [dot_v3 (by rw [gl, ll, bl]) (by omega), dot_v3 (by rw [ln, gl, ll, bl]) (by omega)]
    have c : ∀ u, at_ (negG p) u = - at_ p.gain u := fun u => by
      by_cases h : u < p.gain.length
      · unfold negG
        rw [at_map_range _ h]
        omega
      · rw [at_zero (by omega), at_zero (by omega)]
        rfl
    unfold v3 V3.dot
    simp only [c]
    grind
  refine bd_appS (α := List Int) (a := negG p ++ [0]) 0 (es_fld (R := own pt) (fs := [("lows", rep (lowsOf box)), ("beside", own pb), ("over", own po), ("scale", rep (1 : Int)), ("lines", own pt)]) 3 (ev_var rfl) rfl F.cl F.lines rfl) rfl ?_ ?_ ?_
  · apply EvD.s
    apply ev_op (Ra := rep (negG p)) (Rb := rep [(0 : Int)])
    · apply ev_lc (α := Int) (n := p.gain.length) (item := fun i => rep (at_ p.gain i)) (val := fun i => 0 - at_ p.gain i)
      · exact wi_L (ev_gain G (ev_var rfl))
      · intro i hi
        exact tl_name (by decide)
      · intro i hi
        exact ev_op ev_int (ev_var rfl) s_sub
      · have := k.n3
        omega
    · exact ev_lst1 ev_int
    · apply s_catL
      have := k.n3
      simp [negG]
      omega
  · have := S.lb
    have e : (datOf p box).F = fN p box := rfl
    simp only [List.length_map, List.length_range, natL_len]
    unfold fN at e
    omega
  rw [← lz]
  have et : ((List.range (natL (s0 p box).bs).length).map fun i => lineOf (datOf p box) (s0 p box).ov (gt (s0 p box).bs i)) ++ [lineOf (datOf p box) (s0 p box).ov (datOf p box).F] = tabOf (datOf p box) (s0 p box) := by
    unfold tabOf
    rw [natL_len, ← natL_tab]
  rw [et]
  refine bd_frzF (xs := tabOf (datOf p box) (s0 p box)) (p := pt) (q := a) (fs := [("lows", rep (lowsOf box)), ("beside", own pb), ("over", own po), ("scale", rep (1 : Int)), ("lines", own pt)]) (fs' := [("lows", rep (lowsOf box)), ("beside", own pb), ("over", own po), ("scale", rep (1 : Int)), ("lines", rep (tabOf (datOf p box) (s0 p box)))]) 0 3 (by omega) rfl rfl (fresh_one 3 (by rw [hm]; rfl) rfl (by omega)) (.cons up_same (.cons up_same (.cons up_same (.cons up_same (.cons up_own .nil))))) ?_
  refine bd_setF (fs := [("lows", rep (lowsOf box)), ("beside", own pb), ("over", own po), ("scale", rep (1 : Int)), ("lines", rep (tabOf (datOf p box) (s0 p box)))]) (R := rep ((datOf p box).F : Int)) 2 ?_ (ev_var rfl) rfl F.cl F.many (by simp) ?_
  · apply EvD.s
    refine ev_eq (ev_cb (ea_cons (ev_var rfl) ea_nil) c_len) ?_
    rw [fl]
    rfl
  have s1 : (frm (datOf p box) (s0 p box).ov).sc = 1 := by
    unfold Fr.sc
    rcases (ini_frm k hb).det with h | h <;> rw [h] <;> decide
  refine bd_endO ⟨po, pb, rfl, ?_⟩ fun f => rep_of_unit _
  unfold ownT tf
  rw [s1]
  rfl
end
end D

set_option Elab.async false
set_option linter.all false
set_option maxRecDepth 100000
set_option maxHeartbeats 4000000
namespace D
open PySem PySem.Spec PyProof.Rows L2
open ToPy (py)
local macro_rules | `(tactic| walk_at "side") => `(tactic| first | assumption | omega | (refine Int.emod_nonneg _ ?_; omega) | (refine Int.emod_lt_of_pos _ ?_; omega) | (simp at *; omega) | (simp; done) | decide | skip)
local macro_rules | `(tactic| walk_at "d") => `(tactic| first
  | with_reducible exact ev_int | with_reducible exact ev_str | with_reducible exact ev_bl | with_reducible exact ev_non
  | exact ev_var rfl
  | with_reducible exact ev_ty
  | with_reducible exact ev_cls
  | ((with_reducible apply ev_op) <;> walk_at "d")
  | ((with_reducible apply ev_un) <;> walk_at "d")
  | ((with_reducible apply ev_call) <;> walk_at "d")
  | ((with_reducible apply ev_callX) <;> walk_at "d")
  | ((with_reducible apply ev_cb) <;> walk_at "d")
  | with_reducible exact ea_nil
  | ((with_reducible apply ea_cons) <;> walk_at "d")
  | with_reducible exact s_add
  | with_reducible exact s_sub
  | with_reducible exact s_lt
  | with_reducible exact s_le
  | with_reducible exact s_gt
  | with_reducible exact s_ge
  | with_reducible exact s_eqI
  | with_reducible exact s_neI
  | with_reducible exact s_eqS
  | with_reducible exact s_neS
  | with_reducible exact s_neB
  | exact s_eqSame (sh_ints2 _) | exact s_neSame (sh_ints2 _) | exact s_eqSame (sh_ints _) | exact s_neSame (sh_ints _)
  | ((with_reducible apply s_mod) <;> walk_at "side")
  | walk_at "div" | walk_at "mul"
  | ((with_reducible apply s_catL) <;> walk_at "side")
  | ((with_reducible apply s_repL) <;> walk_at "side")
  | with_reducible exact s_fst
  | with_reducible exact s_snd
  | with_reducible exact s_t0
  | with_reducible exact s_t1
  | with_reducible exact s_t2
  | ((with_reducible apply s_last) <;> walk_at "side")
  | ((with_reducible apply s_ixS) <;> walk_at "side")
  | ((with_reducible apply s_ix) <;> walk_at "side")
  | ((with_reducible apply s_ixT) <;> walk_at "side")
  | with_reducible exact s_negI
  | with_reducible exact c_len
  | with_reducible exact c_lI
  | with_reducible exact c_tI
  | with_reducible exact c_pI
  | with_reducible exact c_t3I
  | with_reducible exact c_sI
  | with_reducible exact c_iI
  | with_reducible exact c_iB
  | with_reducible exact c_lenP
  | with_reducible exact c_len3
  | with_reducible exact c_isInt
  | with_reducible exact c_isBool
  | with_reducible exact c_isStr
  | with_reducible exact c_isList
  | with_reducible exact c_isTup
  | with_reducible exact c_lenTup
  | with_reducible exact c_lenScr
  | with_reducible exact c_listD
  | with_reducible exact c_listTD
  | with_reducible exact c_tup
  | with_reducible exact c_abs
  | with_reducible exact c_min2
  | with_reducible exact c_max2
  | with_reducible exact c_intB
  | with_reducible exact c_sum
  | ((with_reducible apply c_min) <;> walk_at "side")
  | ((with_reducible apply c_max) <;> walk_at "side")
  | ((with_reducible apply et_val) <;> walk_at "d")
  | ((with_reducible apply et_test) <;> walk_at "d")
  | ((with_reducible apply et_not) <;> walk_at "d")
  | ((with_reducible apply et_and) <;> (try with_reducible intro _) <;> walk_at "d")
  | ((with_reducible apply et_or) <;> (try with_reducible intro _) <;> walk_at "d")
  | ((with_reducible apply ev_and) <;> (try with_reducible intro _) <;> walk_at "d")
  | ((with_reducible apply ev_or) <;> (try with_reducible intro _) <;> walk_at "d")
  | ((with_reducible apply ev_chain) <;> (try with_reducible intro _) <;> walk_at "d")
  | ((with_reducible apply ev_not) <;> walk_at "d")
  | ((with_reducible apply ev_pair) <;> walk_at "d")
  | ((with_reducible apply ev_t3) <;> walk_at "d")
  | ((with_reducible apply ev_lst1) <;> walk_at "d")
  | ((with_reducible apply ev_lst2) <;> walk_at "d")
  | ((with_reducible apply ev_lst3) <;> walk_at "d")
  | ((with_reducible apply ev_lst4) <;> walk_at "d")
  | ((with_reducible apply ev_cut) <;> walk_at "d")
  | ((with_reducible apply ep_some) <;> walk_at "d")
  | ((with_reducible apply EvD.s) <;> walk_at "d")
  | ((with_reducible apply EvT.s) <;> walk_at "d")
  | ((with_reducible apply EvN.s) <;> walk_at "d")
  | ((with_reducible apply en_lst1) <;> walk_at "d")
  | ((with_reducible apply en_lst2) <;> walk_at "d")
  | ((with_reducible apply en_lst3) <;> walk_at "d")
  | ((with_reducible apply en_lst4) <;> walk_at "d")
  | ((with_reducible apply en_cut) <;> walk_at "d")
  | with_reducible exact ev_lst0
  | with_reducible exact ep_none
  | with_reducible exact en_lst0
  | ((with_reducible apply wi_L) <;> walk_at "d")
  | ((with_reducible apply wi_T) <;> walk_at "d")
  | ((with_reducible apply wi_zip) <;> walk_at "d")
  | ((with_reducible apply WiD.s) <;> walk_at "d")
  | ((with_reducible apply wi_range) <;> walk_at "side")
  | exact spec_cell (by omega) (by omega)
  | skip)
local macro_rules | `(tactic| walk_at "div") => `(tactic| first
  | exact s_div ⟨by omega, by omega⟩
  | exact s_divW (wd_div (by first | assumption | omega) (by assumption))
  | with_reducible apply s_div)
local macro_rules | `(tactic| walk_at "mul") => `(tactic| first
  | exact s_mul (Or.inl ⟨by omega, by omega⟩) | exact s_mul (Or.inr ⟨by omega, by omega⟩)
  | exact s_mulW (wd_mul (by assumption) (by assumption))
  | with_reducible apply s_mulW)
local macro_rules | `(tactic| walk_at "fg") => `(tactic| repeat (first | exact Fg.nil | apply Fg.same | apply Fg.drop | (refine Fg.eq ?_ ?_; rotate_left)))
local macro_rules | `(tactic| walk_at "end") => `(tactic| exact bd_turnE trivial rfl (by walk_at "fg"))
local macro_rules | `(tactic| walk_at "range") => `(tactic| (apply WiD.s; apply wi_range; (walk_at "d"); omega; omega))
local macro_rules | `(tactic| walk_at "app") => `(tactic| (refine' bd_appR 0 ?_ rfl ?_ ?_ ?_ ?_; (walk_at "d"); (walk_at "d"); rotate_right))
local macro_rules | `(tactic| walk_at "lend") => `(tactic| repeat (first | exact LendC.nil | apply LendC.no | (apply LendC.one; (exact lend_list 0 rfl)) | (apply LendC.one; (exact lend_same))))
local macro_rules | `(tactic| walk_at "lendT") => `(tactic| repeat (first | exact LendC.nil | apply LendC.no | (apply LendC.one; (exact lend_tab)) | (apply LendC.one; (exact lend_same))))
theorem loose_none {p : Prob} {box : Box} (k : p.Ok) (hb : BoxOk p box) {T : Nat} (g : Going (datOf p box) (s0 p box) T) {one : Nat} (h1 : wrongOf (datOf p box) (sts (datOf p box) (s0 p box) T) = one) (h2 : one < (datOf p box).F) (h3 : partOf (datOf p box) (sts (datOf p box) (s0 p box) T) one = (datOf p box).F) :
    looseOf p box = .none (wNone (datOf p box) (sts (datOf p box) (s0 p box) T) one) := by
  have ng : ¬ Going (datOf p box) (s0 p box) (T + 1) := fun z => by
    have := (z T (by omega)).2
    rw [h1, Int.toNat_natCast, h3] at this
    omega
  unfold looseOf loS
  rw [loT_eq k hb g ng]
  unfold toldOf
  rw [if_pos (by rw [h1]; simp; exact h2), h1, Int.toNat_natCast]
theorem loose_most {p : Prob} {box : Box} (k : p.Ok) (hb : BoxOk p box) {T : Nat} (g : Going (datOf p box) (s0 p box) T) (h1 : ¬ wrongOf (datOf p box) (sts (datOf p box) (s0 p box) T) < (datOf p box).F) :
    looseOf p box = .most ((List.range box.length).map (numOfS (datOf p box) (lowsOf box) (sts (datOf p box) (s0 p box) T))) (frm (datOf p box) (sts (datOf p box) (s0 p box) T).ov).sc (wMost (datOf p box) (sts (datOf p box) (s0 p box) T)) := by
  have ng : ¬ Going (datOf p box) (s0 p box) (T + 1) := fun z => h1 (z T (by omega)).1
  unfold looseOf loS
  rw [loT_eq k hb g ng]
  unfold toldOf
  rw [if_neg (by simp; omega)]
section
variable {K : PySem.W.Frag} {c : Cs}
/-- the tableau stands from now on -/
theorem bd_frzT {B : Base} {Γ : Ctx} {u : TS} {P : Post} {a pb po : Addr} {d : Dat} {lows : List Int} {s : LS} (i : Nat) (hi : Γ[i]? = some (some (own a))) (hm : B.m = []) (k : BDe B (Γ.set i (some (insT c d lows s))) [] u P) : BDe B Γ (ownT c a pb po d lows s) u P := by
  refine bd_frzF (xs := natL s.ov) (p := po) (q := a) (fs := tf (own pb) (own po) d lows s) (fs' := tf (own pb) (rep (natL s.ov)) d lows s) 0 2 (by omega) rfl rfl (fresh_nil hm) (.cons up_same (.cons up_same (.cons up_own (.cons up_same (.cons up_same (.cons up_same .nil)))))) ?_
  refine bd_frzF (xs := natL s.bs) (p := pb) (q := a) (fs := tf (own pb) (rep (natL s.ov)) d lows s) (fs' := tf (rep (natL s.bs)) (rep (natL s.ov)) d lows s) 0 1 (by omega) rfl rfl (fresh_nil hm) (.cons up_same (.cons up_own (.cons up_same (.cons up_same (.cons up_same (.cons up_same .nil)))))) ?_
  exact bd_frzI (fs := tf (rep (natL s.bs)) (rep (natL s.ov)) d lows s) 0 i hi rfl (fresh_nil hm) k
theorem rd_loose (F : TF K c) : ∀ Rs R, S_loose K c Rs R → ∀ B : Base, B.m = [] → BDe B (startC n_loose Rs) [] (t_loose K c) (fnP B R) := by
  rintro _ _ ⟨p, box, rfl, k, hb, rfl⟩ B hm
  have Kd := dat_ok k hb
  have S0 := s0_ok k hb
  have n3 : box.length ≤ 3 := by rw [hb.len]; exact k.n3
  have hF : (datOf p box).F ≤ 100 := by
    show fN p box ≤ 100
    have := k.m6
    unfold fN
    omega
  have tok : ∀ {i : Nat}, Going (datOf p box) (s0 p box) i → Tok (datOf p box) (sts (datOf p box) (s0 p box) i) := fun g => ⟨Kd, (Going.ok Kd S0 g).1, dat_bd k hb, hF⟩
  refine bd_make (EvA.s (ea_cons (ev_var rfl) (ea_cons (ev_var rfl) ea_nil))) fun a => ⟨_, ⟨a, p, box, rfl, k, hb, rfl, rfl⟩, ?_⟩
  rintro R O' ⟨po, pb, rfl, rfl⟩
  refine ⟨rfl, ?_⟩
  have wr : ∀ {Γ : Ctx} {i : Nat}, Going (datOf p box) (s0 p box) i → Γ[2]? = some (some (insT c (datOf p box) (lowsOf box) (sts (datOf p box) (s0 p box) i))) → EvD Γ (tMeth c.Tableau "wrong" (SP_Tableau_wrong K c) [] E0 (tVar 2) tNil) (rep (wrongOf (datOf p box) (sts (datOf p box) (s0 p box) i))) := fun g h =>
    ev_meth (ev_var h) rfl ea_nil ⟨_, _, _, rfl, tok g, rfl⟩
  have g0 : Going (datOf p box) (s0 p box) 0 := fun i hi => by omega
  apply bd_set (R := rep (wrongOf (datOf p box) (s0 p box)))
  · apply ev_lend
    · walk_at "lendT"
    · exact wr (i := 0) g0 rfl
    · exact flat_int _
  apply bd_while (2 ^ (datOf p box).F) (fun i => [some (insP c p), some (rep box), some (own a), some (rep (wrongOf (datOf p box) (sts (datOf p box) (s0 p box) i))), none]) (fun i => ownT c a pb po (datOf p box) (lowsOf box) (sts (datOf p box) (s0 p box) i)) (Going (datOf p box) (s0 p box))
  · exact Fg.sta (by walk_at "fg") rfl
  · exact g0
  · intro i hi g
    apply et_lend
    · walk_at "lendT"
    · exact et_test (ev_op (ev_var rfl) (ev_many_ F (ev_var rfl)) s_lt)
  · intro i hi g hw
    have T := tok g
    have hw : wrongOf (datOf p box) (sts (datOf p box) (s0 p box) i) < (datOf p box).F := of_decide_eq_true hw
    obtain ⟨st, hst⟩ : ∃ st, st = sts (datOf p box) (s0 p box) i := ⟨_, rfl⟩
    have S := T.S
    rw [← hst] at hw T S
    obtain ⟨one, h1, h2, h3, h4⟩ : ∃ one : Nat, wrongOf (datOf p box) st = one ∧ one < (datOf p box).F ∧ Wrong (datOf p box) st.bs st.ov one ∧ ∀ j, j < one → ¬ Wrong (datOf p box) st.bs st.ov j := by
      rcases wrong_spec S with h | h
      · have := h.1
        omega
      · exact h
    have ps := part_spec Kd S h1 h2 h3 h4
    apply bd_set (R := rep (partOf (datOf p box) st one))
    · apply ev_lend
      · walk_at "lendT"
      · refine ev_meth (R := rep (partOf (datOf p box) st one)) (ev_var rfl) rfl (ea_cons (ev_var rfl) ea_nil) ⟨datOf p box, lowsOf box, st, one, ?_, T, h2, rfl⟩
        rw [← hst, h1]
        rfl
      · exact flat_int _
    apply bd_ifr (b := decide (partOf (datOf p box) st one = (datOf p box).F))
    · apply et_lend
      · walk_at "lendT"
      · exact et_test (ev_op (ev_var rfl) (ev_many_ F (ev_var rfl)) s_eqI)
    · intro h
      have h := of_decide_eq_true h
      have hb1 : one ∈ st.bs := by
        rcases ps with ⟨_, ⟨hb1, _⟩ | ⟨cc, _, hc, _, _, hq⟩⟩ | ⟨other, e, lt, _⟩
        · exact hb1
        · exact absurd (no_ray Kd S hc hq) id
        · omega
      have lo := loose_none k hb g (one := one) (by rw [← hst]; exact h1) h2 (by rw [← hst]; exact h)
      rw [← hst] at lo
      rw [lo]
      refine bd_frzT (c := c) 2 rfl hm ?_
      apply bd_retR hm
      apply EvD.s
      refine ev_meth (R := rep (Told.none (wNone (datOf p box) st one))) (ev_var rfl) rfl (ea_cons (ev_var rfl) ea_nil) ⟨datOf p box, lowsOf box, st, one, ?_, T, hb1, rfl⟩
      rw [← hst, h1]
      rfl
    · intro h
      have h := of_decide_eq_false h
      obtain ⟨other, e1, lt, mv, way⟩ : ∃ other : Nat, partOf (datOf p box) st one = other ∧ other < (datOf p box).F ∧ Move (datOf p box) st.bs st.ov (rowOf (datOf p box) st) (colOf (datOf p box) st) ∧ ((one ∈ st.bs ∧ other ∈ st.ov ∧ rowOf (datOf p box) st = st.bs.idxOf one ∧ colOf (datOf p box) st = st.ov.idxOf other) ∨ (one ∉ st.bs ∧ one ∈ st.ov ∧ other ∈ st.bs ∧ rowOf (datOf p box) st = st.bs.idxOf other ∧ colOf (datOf p box) st = st.ov.idxOf one)) := by
        rcases ps with ⟨z, _⟩ | z
        · exact absurd z h
        · exact z
      have g1 : Going (datOf p box) (s0 p box) (i + 1) := fun j hj => by
        by_cases q : j = i
        · rw [q, ← hst, h1, Int.toNat_natCast, e1]
          omega
        · exact g j (by omega)
      have few := Going.few Kd S0 g1
      have es : sts (datOf p box) (s0 p box) (i + 1) = mvd (datOf p box) st (rowOf (datOf p box) st) (colOf (datOf p box) st) := by
        show stepOf (datOf p box) (sts (datOf p box) (s0 p box) i) = _
        rw [← hst]
        rfl
      refine bd_methO (fs := tf (own pb) (own po) (datOf p box) (lowsOf box) (sts (datOf p box) (s0 p box) i)) (Po := fun R O' => R = rep () ∧ O' = ownT c a pb po (datOf p box) (lowsOf box) (sts (datOf p box) (s0 p box) (i + 1))) 2 (ev_var rfl) rfl rfl (EvA.s (ea_cons (ev_var rfl) (ea_cons (ev_var rfl) ea_nil))) ⟨a, pb, po, datOf p box, lowsOf box, st, rowOf (datOf p box) st, colOf (datOf p box) st, one, other, ?_, T, mv.hr, mv.hc, mv.pv, ?_, ?_, ?_⟩ ?_
      · rw [← hst, h1, e1]
      · rcases way with ⟨w1, w2, w3, w4⟩ | ⟨w1, w2, w3, w4, w5⟩
        · exact .inl ⟨by rw [w3, (gt_idxOf w1).2], by rw [w4, (gt_idxOf w2).2]⟩
        · exact .inr ⟨Nat.le_refl 1, by rw [w5, (gt_idxOf w2).2], by rw [w4, (gt_idxOf w3).2]⟩
      · rw [hst]
      · rw [es]
      rintro R O' ⟨rfl, rfl⟩
      apply bd_set (R := rep (wrongOf (datOf p box) (sts (datOf p box) (s0 p box) (i + 1))))
      · apply ev_lend
        · walk_at "lendT"
        · exact wr g1 rfl
        · exact flat_int _
      exact bd_next fun σ f h s => ⟨by omega, g1, Fg.sta (by walk_at "fg") rfl σ f h s⟩
  · intro i hi g hw
    have T := tok g
    have hw : ¬ wrongOf (datOf p box) (sts (datOf p box) (s0 p box) i) < (datOf p box).F := of_decide_eq_false hw
    have lo := loose_most k hb g hw
    rw [lo]
    refine bd_frzT (c := c) 2 rfl hm ?_
    apply bd_retR hm
    apply EvD.s
    exact ev_meth (ev_var rfl) rfl ea_nil ⟨datOf p box, lowsOf box, _, rfl, T, lows_len box, lows_bnd k hb, rfl⟩
end
end D

set_option Elab.async false
set_option linter.all false
set_option maxRecDepth 100000
set_option maxHeartbeats 4000000
namespace D
open PySem PySem.Spec PyProof.Rows L2
open ToPy (py)
local macro_rules | `(tactic| walk_at "side") => `(tactic| first | assumption | omega | (refine Int.emod_nonneg _ ?_; omega) | (refine Int.emod_lt_of_pos _ ?_; omega) | (simp at *; omega) | (simp; done) | decide | skip)
local macro_rules | `(tactic| walk_at "d") => `(tactic| first
  | with_reducible exact ev_int | with_reducible exact ev_str | with_reducible exact ev_bl | with_reducible exact ev_non
  | exact ev_var rfl
  | with_reducible exact ev_ty
  | with_reducible exact ev_cls
  | ((with_reducible apply ev_op) <;> walk_at "d")
  | ((with_reducible apply ev_un) <;> walk_at "d")
  | ((with_reducible apply ev_call) <;> walk_at "d")
  | ((with_reducible apply ev_callX) <;> walk_at "d")
  | ((with_reducible apply ev_cb) <;> walk_at "d")
  | with_reducible exact ea_nil
  | ((with_reducible apply ea_cons) <;> walk_at "d")
  | with_reducible exact s_add
  | with_reducible exact s_sub
  | with_reducible exact s_lt
  | with_reducible exact s_le
  | with_reducible exact s_gt
  | with_reducible exact s_ge
  | with_reducible exact s_eqI
  | with_reducible exact s_neI
  | with_reducible exact s_eqS
  | with_reducible exact s_neS
  | with_reducible exact s_neB
  | exact s_eqSame (sh_ints2 _) | exact s_neSame (sh_ints2 _) | exact s_eqSame (sh_ints _) | exact s_neSame (sh_ints _)
  | ((with_reducible apply s_mod) <;> walk_at "side")
  | walk_at "div" | walk_at "mul"
  | ((with_reducible apply s_catL) <;> walk_at "side")
  | ((with_reducible apply s_repL) <;> walk_at "side")
  | with_reducible exact s_fst
  | with_reducible exact s_snd
  | with_reducible exact s_t0
  | with_reducible exact s_t1
  | with_reducible exact s_t2
  | ((with_reducible apply s_last) <;> walk_at "side")
  | ((with_reducible apply s_ixS) <;> walk_at "side")
  | ((with_reducible apply s_ix) <;> walk_at "side")
  | ((with_reducible apply s_ixT) <;> walk_at "side")
  | with_reducible exact s_negI
  | with_reducible exact c_len
  | with_reducible exact c_lI
  | with_reducible exact c_tI
  | with_reducible exact c_pI
  | with_reducible exact c_t3I
  | with_reducible exact c_sI
  | with_reducible exact c_iI
  | with_reducible exact c_iB
  | with_reducible exact c_lenP
  | with_reducible exact c_len3
  | with_reducible exact c_isInt
  | with_reducible exact c_isBool
  | with_reducible exact c_isStr
  | with_reducible exact c_isList
  | with_reducible exact c_isTup
  | with_reducible exact c_lenTup
  | with_reducible exact c_lenScr
  | with_reducible exact c_listD
  | with_reducible exact c_listTD
  | with_reducible exact c_tup
  | with_reducible exact c_abs
  | with_reducible exact c_min2
  | with_reducible exact c_max2
  | with_reducible exact c_intB
  | with_reducible exact c_sum
  | ((with_reducible apply c_min) <;> walk_at "side")
  | ((with_reducible apply c_max) <;> walk_at "side")
  | ((with_reducible apply et_val) <;> walk_at "d")
  | ((with_reducible apply et_test) <;> walk_at "d")
  | ((with_reducible apply et_not) <;> walk_at "d")
  | ((with_reducible apply et_and) <;> (try with_reducible intro _) <;> walk_at "d")
  | ((with_reducible apply et_or) <;> (try with_reducible intro _) <;> walk_at "d")
  | ((with_reducible apply ev_and) <;> (try with_reducible intro _) <;> walk_at "d")
  | ((with_reducible apply ev_or) <;> (try with_reducible intro _) <;> walk_at "d")
  | ((with_reducible apply ev_chain) <;> (try with_reducible intro _) <;> walk_at "d")
  | ((with_reducible apply ev_not) <;> walk_at "d")
  | ((with_reducible apply ev_pair) <;> walk_at "d")
  | ((with_reducible apply ev_t3) <;> walk_at "d")
  | ((with_reducible apply ev_lst1) <;> walk_at "d")
  | ((with_reducible apply ev_lst2) <;> walk_at "d")
  | ((with_reducible apply ev_lst3) <;> walk_at "d")
  | ((with_reducible apply ev_lst4) <;> walk_at "d")
  | ((with_reducible apply ev_cut) <;> walk_at "d")
  | ((with_reducible apply ep_some) <;> walk_at "d")
  | ((with_reducible apply EvD.s) <;> walk_at "d")
  | ((with_reducible apply EvT.s) <;> walk_at "d")
  | ((with_reducible apply EvN.s) <;> walk_at "d")
  | ((with_reducible apply en_lst1) <;> walk_at "d")
  | ((with_reducible apply en_lst2) <;> walk_at "d")
  | ((with_reducible apply en_lst3) <;> walk_at "d")
  | ((with_reducible apply en_lst4) <;> walk_at "d")
  | ((with_reducible apply en_cut) <;> walk_at "d")
  | with_reducible exact ev_lst0
  | with_reducible exact ep_none
  | with_reducible exact en_lst0
  | ((with_reducible apply wi_L) <;> walk_at "d")
  | ((with_reducible apply wi_T) <;> walk_at "d")
  | ((with_reducible apply wi_zip) <;> walk_at "d")
  | ((with_reducible apply WiD.s) <;> walk_at "d")
  | ((with_reducible apply wi_range) <;> walk_at "side")
  | exact spec_cell (by omega) (by omega)
  | skip)
local macro_rules | `(tactic| walk_at "div") => `(tactic| first
  | exact s_div ⟨by omega, by omega⟩
  | exact s_divW (wd_div (by first | assumption | omega) (by assumption))
  | with_reducible apply s_div)
local macro_rules | `(tactic| walk_at "mul") => `(tactic| first
  | exact s_mul (Or.inl ⟨by omega, by omega⟩) | exact s_mul (Or.inr ⟨by omega, by omega⟩)
  | exact s_mulW (wd_mul (by assumption) (by assumption))
  | with_reducible apply s_mulW)
local macro_rules | `(tactic| walk_at "fg") => `(tactic| repeat (first | exact Fg.nil | apply Fg.same | apply Fg.drop | (refine Fg.eq ?_ ?_; rotate_left)))
local macro_rules | `(tactic| walk_at "end") => `(tactic| exact bd_turnE trivial rfl (by walk_at "fg"))
local macro_rules | `(tactic| walk_at "range") => `(tactic| (apply WiD.s; apply wi_range; (walk_at "d"); omega; omega))
local macro_rules | `(tactic| walk_at "app") => `(tactic| (refine' bd_appR 0 ?_ rfl ?_ ?_ ?_ ?_; (walk_at "d"); (walk_at "d"); rotate_right))
local macro_rules | `(tactic| walk_at "lend") => `(tactic| repeat (first | exact LendC.nil | apply LendC.no | (apply LendC.one; (exact lend_list 0 rfl)) | (apply LendC.one; (exact lend_same))))
/-! ### the search: trees and the best point so far -/
inductive Tree where
  | none (ws : List Int)
  | bound (ws : List Int) (sc : Int)
  | cut (u : Int) (at' : Int) (below above : Tree)
def Tree.dat : Tree → PyData
  | .none ws => .tuple [.str "none", py ws]
  | .bound ws sc => .tuple [.str "bound", py ws, .int sc]
  | .cut u k b a => .tuple [.str "cut", .int u, .int k, b.dat, a.dat]
instance : ToPy Tree := ⟨Tree.dat, .none []⟩
structure SS where
  pt : Option (List Int)
  most : Int
def partN (ns : List Int) (sc : Int) : Nat := (List.range ns.length).findIdx fun i => !decide (at_ ns i % sc = 0)
def cutPt (ns : List Int) (sc : Int) : List Int := (List.range ns.length).map fun i => at_ ns i / sc
noncomputable def treeF (p : Prob) : Nat → Box → SS → Tree × SS
  | 0, _, ss => (.none [], ss)
  | n + 1, box, ss => match looseOf p box with
    | .none ws => (.none ws, ss)
    | .most ns sc ws =>
      if ss.pt.isSome = true ∧ sumB (factsOf p box) ws (fN p box) / sc ≤ ss.most then (.bound ws sc, ss)
      else if partN ns sc = ns.length then (.bound ws sc, ⟨some (cutPt ns sc), dot p.gain (cutPt ns sc)⟩)
      else
        let u := partN ns sc
        let k := at_ ns u / sc
        let x := treeF p n (box.set u ((at_ box u).1, k)) ss
        let y := treeF p n (box.set u (k + 1, (at_ box u).2)) x.2
        (.cut (u : Int) k x.1 y.1, y.2)
/-! widths -/
def width (box : Box) : Nat := ((List.range box.length).map fun i => ((at_ box i).2 - (at_ box i).1).toNat).sum
theorem at_setB {box : Box} {i j : Nat} {x : Int × Int} (h : i < box.length) : at_ (box.set i x) j = if j = i then x else at_ box j := by
  unfold at_
  rw [List.getD_eq_getElem?_getD, List.getD_eq_getElem?_getD, List.getElem?_set]
  by_cases e : i = j
  · subst e
    simp [h]
  · rw [if_neg e, if_neg (fun z => e z.symm)]
theorem sum_set_lt {g h : Nat → Nat} {u : Nat} (hu : g u < h u) (he : ∀ i, i ≠ u → g i = h i) : ∀ n, ((List.range n).map g).sum + (if u < n then 1 else 0) ≤ ((List.range n).map h).sum
  | 0 => by simp
  | n + 1 => by
    have ih := sum_set_lt hu he n
    rw [List.range_succ, List.map_append, List.map_append, List.sum_append, List.sum_append]
    simp only [List.map_cons, List.map_nil, List.sum_cons, List.sum_nil]
    by_cases e : n = u
    · subst e
      rw [if_neg (by omega)] at ih
      rw [if_pos (by omega)]
      omega
    · rw [he n e]
      by_cases h : u < n
      · rw [if_pos h] at ih
        rw [if_pos (by omega)]
        omega
      · rw [if_neg h] at ih
        rw [if_neg (by omega)]
        omega
theorem width_set {box : Box} {u : Nat} {x : Int × Int} (hu : u < box.length) (h : (x.2 - x.1).toNat < ((at_ box u).2 - (at_ box u).1).toNat) : width (box.set u x) < width box := by
  unfold width
  rw [List.length_set]
  have z := sum_set_lt (g := fun i => ((at_ (box.set u x) i).2 - (at_ (box.set u x) i).1).toNat) (h := fun i => ((at_ box i).2 - (at_ box i).1).toNat) (u := u) (by
    show ((at_ (box.set u x) u).2 - (at_ (box.set u x) u).1).toNat < _
    rw [at_setB hu, if_pos rfl]
    exact h) (fun i hi => by
    show ((at_ (box.set u x) i).2 - (at_ (box.set u x) i).1).toNat = _
    rw [at_setB hu, if_neg hi]) box.length
  rw [if_pos hu] at z
  omega
/-! the first number that the scale does not part -/
theorem partN_le (ns : List Int) (sc : Int) : partN ns sc ≤ ns.length := by
  unfold partN
  have := List.findIdx_le_length (xs := List.range ns.length) (p := fun i => !decide (at_ ns i % sc = 0))
  simpa using this
theorem partN_all {ns : List Int} {sc : Int} (h : partN ns sc = ns.length) : ∀ i, i < ns.length → at_ ns i % sc = 0 := by
  intro i hi
  have := List.not_of_lt_findIdx (xs := List.range ns.length) (p := fun i => !decide (at_ ns i % sc = 0)) (i := i) (by unfold partN at h; omega)
  simpa using this
theorem partN_at {ns : List Int} {sc : Int} (h : partN ns sc ≠ ns.length) : partN ns sc < ns.length ∧ at_ ns (partN ns sc) % sc ≠ 0 := by
  have l := partN_le ns sc
  have hl : partN ns sc < (List.range ns.length).length := by simp; omega
  refine ⟨by omega, ?_⟩
  have := List.findIdx_getElem (xs := List.range ns.length) (p := fun i => !decide (at_ ns i % sc = 0)) (w := hl)
  have e : ∀ (i : Nat) (h : i < (List.range ns.length).length), (List.range ns.length)[i]'h = i := fun i h => List.getElem_range h
  have this' : (!decide (at_ ns ((List.range ns.length)[partN ns sc]'hl) % sc = 0)) = true := this
  rw [e _ hl] at this'
  simpa using this'
/-! facts at whole numbers -/
/-- a point of the box that meets the rows -/
structure InBox (p : Prob) (box : Box) (y : List Int) : Prop where
  len : y.length = box.length
  lo : ∀ i, i < box.length → (at_ box i).1 ≤ at_ y i
  hi : ∀ i, i < box.length → at_ y i ≤ (at_ box i).2
  rows : ∀ r ∈ p.rows, rowMet r y = true
theorem dft0 : (ToPy.dft : Int) = 0 := rfl
theorem dot_alone {n u : Nat} {x : Int} {y : List Int} (hn : n ≤ 3) (hu : u < n) (hy : y.length = n) : dot (aloneT n u x).l y = x * at_ y u := by
  rw [dot_v3 (by simp [aloneT, hy]) (by simp [aloneT]; omega)]
  match n, u, hn, hu with
  | 1, 0, _, _ => simp [aloneT, v3, V3.dot, at_, dft0]
  | 2, 0, _, _ => simp [aloneT, v3, V3.dot, at_, dft0]
  | 2, 1, _, _ => simp [aloneT, v3, V3.dot, at_, dft0]
  | 3, 0, _, _ => simp [aloneT, v3, V3.dot, at_, dft0]
  | 3, 1, _, _ => simp [aloneT, v3, V3.dot, at_, dft0]
  | 3, 2, _, _ => simp [aloneT, v3, V3.dot, at_, dft0]
theorem dot_neg {xs y : List Int} (h : xs.length = y.length) (h3 : xs.length ≤ 3) : dot ((List.range xs.length).map fun i => 0 - at_ xs i) y = - dot xs y := by
  rw [dot_v3 (by simp; exact h) (by simp; exact h3), dot_v3 h h3]
  have c : ∀ u, at_ ((List.range xs.length).map fun i => 0 - at_ xs i) u = - at_ xs u := fun u => by
    by_cases hu : u < xs.length
    · rw [at_map_range _ hu]
      omega
    · rw [at_zero (by simp; omega), at_zero (by omega)]
      rfl
  unfold v3 V3.dot
  simp only [c]
  grind
theorem row_iff {r : Row} {y : List Int} (hw : r.b = "most" ∨ r.b = "least") (h : r.a.l.length = y.length) (h3 : r.a.l.length ≤ 3) : rowMet r y = true ↔ dot (rowFact r).1.l y ≤ (rowFact r).2 := by
  unfold rowMet rowFact
  by_cases e : r.b = "most"
  · rw [if_pos e, if_pos e, decide_eq_true_eq]
  · rw [if_neg e, if_neg e, decide_eq_true_eq]
    show _ ↔ dot ((List.range r.a.l.length).map fun i => 0 - at_ r.a.l i) y ≤ 0 - r.c
    rw [dot_neg h h3]
    omega
theorem inbox_facts {p : Prob} {box : Box} (k : p.Ok) (hb : BoxOk p box) {y : List Int} (hl : y.length = box.length) : InBox p box y ↔ ∀ j, j < fN p box → dot (factAt p box j).1.l y ≤ (factAt p box j).2 := by
  have n3 : box.length ≤ 3 := by rw [hb.len]; exact k.n3
  constructor
  · intro h j hj
    by_cases h1 : j < p.rows.length
    · have e : factAt p box j = rowFact (at_ p.rows j) := by unfold factAt; rw [if_pos h1]
      have hr : at_ p.rows j ∈ p.rows := at_mem h1
      rw [e]
      exact (row_iff (k.rw _ hr) (by rw [k.rl _ hr, hl, hb.len]) (by rw [k.rl _ hr]; exact k.n3)).mp (h.rows _ hr)
    · unfold fN at hj
      by_cases h2 : (j - p.rows.length) % 2 = 0
      · have e : j = p.rows.length + 2 * ((j - p.rows.length) / 2) := by omega
        have hu : (j - p.rows.length) / 2 < box.length := by omega
        rw [e, fact_up hu]
        show dot (aloneT box.length _ 1).l y ≤ _
        rw [dot_alone n3 hu hl]
        have := h.hi _ hu
        simp only
        omega
      · have e : j = p.rows.length + 2 * ((j - p.rows.length) / 2) + 1 := by omega
        have hu : (j - p.rows.length) / 2 < box.length := by omega
        rw [e, fact_lw hu]
        show dot (aloneT box.length _ (-1)).l y ≤ _
        rw [dot_alone n3 hu hl]
        have := h.lo _ hu
        simp only
        omega
  · intro h
    refine ⟨hl, fun i hi => ?_, fun i hi => ?_, fun r hr => ?_⟩
    · have := h (p.rows.length + 2 * i + 1) (by unfold fN; omega)
      rw [fact_lw hi] at this
      have this : dot (aloneT box.length i (-1)).l y ≤ 0 - (at_ box i).1 := this
      rw [dot_alone n3 hi hl] at this
      omega
    · have := h (p.rows.length + 2 * i) (by unfold fN; omega)
      rw [fact_up hi] at this
      have this : dot (aloneT box.length i 1).l y ≤ (at_ box i).2 := this
      rw [dot_alone n3 hi hl] at this
      omega
    · obtain ⟨j, hj, e⟩ := List.getElem_of_mem hr
      have ea : at_ p.rows j = r := by
        unfold at_
        rw [List.getD_eq_getElem?_getD, List.getElem?_eq_getElem hj]
        exact e
      have := h j (by unfold fN; omega)
      have e2 : factAt p box j = rowFact r := by unfold factAt; rw [if_pos hj, ea]
      rw [e2] at this
      exact (row_iff (k.rw _ hr) (by rw [k.rl _ hr, hl, hb.len]) (by rw [k.rl _ hr]; exact k.n3)).mpr this
/-- the facts as one, at a point -/
theorem weak {fs : List Fact} {ws y : List Int} {n : Nat} (h3 : n ≤ 3) (hy : y.length = n) (hl : ∀ j, j < fs.length → (at_ fs j).1.l.length = n) (hw : ∀ w ∈ ws, 0 ≤ w) {t : Int} (hf : ∀ j, j < fs.length → dot (at_ fs j).1.l y ≤ (at_ fs j).2 * t) :
    ∀ m, m ≤ fs.length → (if 0 < n then sumN fs ws m 0 * at_ y 0 else 0) + (if 1 < n then sumN fs ws m 1 * at_ y 1 else 0) + (if 2 < n then sumN fs ws m 2 * at_ y 2 else 0) ≤ sumB fs ws m * t
  | 0, _ => by
    simp [sumN, sumB]
  | m + 1, h => by
    have ih := weak h3 hy hl hw hf m (by omega)
    have f := hf m (by omega)
    have l := hl m (by omega)
    rw [dot_v3 (by rw [l, hy]) (by omega)] at f
    have w0 : 0 ≤ at_ ws m := by
      by_cases hm : m < ws.length
      · exact hw _ (at_mem hm)
      · rw [at_zero (by omega)]
        exact Int.le_refl _
    have g := Int.mul_le_mul_of_nonneg_left f w0
    unfold v3 V3.dot at g
    simp only at g
    rw [sumN_succ fs ws m 0, sumN_succ fs ws m 1, sumN_succ fs ws m 2, sumB_succ fs ws m]
    have z : ∀ u, n ≤ u → at_ (at_ fs m).1.l u = 0 := fun u hu => at_zero (by omega)
    by_cases n0 : 0 < n
    · by_cases n1 : 1 < n
      · by_cases n2 : 2 < n
        · simp only [if_pos n0, if_pos n1, if_pos n2] at ih ⊢
          grind
        · simp only [if_pos n0, if_pos n1, if_neg n2] at ih ⊢
          rw [z 2 (by omega)] at g
          grind
      · simp only [if_pos n0, if_neg n1, if_neg (show ¬ 2 < n by omega)] at ih ⊢
        rw [z 1 (by omega), z 2 (by omega)] at g
        grind
    · simp only [if_neg n0, if_neg (show ¬ 1 < n by omega), if_neg (show ¬ 2 < n by omega)] at ih ⊢
      rw [z 0 (by omega), z 1 (by omega), z 2 (by omega)] at g
      grind
end D

set_option Elab.async false
set_option linter.all false
set_option maxRecDepth 100000
set_option maxHeartbeats 4000000
namespace D
open PySem PySem.Spec PyProof.Rows L2
open ToPy (py)
local macro_rules | `(tactic| walk_at "side") => `(tactic| first | assumption | omega | (refine Int.emod_nonneg _ ?_; omega) | (refine Int.emod_lt_of_pos _ ?_; omega) | (simp at *; omega) | (simp; done) | decide | skip)
local macro_rules | `(tactic| walk_at "d") => `(tactic| first
  | with_reducible exact ev_int | with_reducible exact ev_str | with_reducible exact ev_bl | with_reducible exact ev_non
  | exact ev_var rfl
  | with_reducible exact ev_ty
  | with_reducible exact ev_cls
  | ((with_reducible apply ev_op) <;> walk_at "d")
  | ((with_reducible apply ev_un) <;> walk_at "d")
  | ((with_reducible apply ev_call) <;> walk_at "d")
  | ((with_reducible apply ev_callX) <;> walk_at "d")
  | ((with_reducible apply ev_cb) <;> walk_at "d")
  | with_reducible exact ea_nil
  | ((with_reducible apply ea_cons) <;> walk_at "d")
  | with_reducible exact s_add
  | with_reducible exact s_sub
  | with_reducible exact s_lt
  | with_reducible exact s_le
  | with_reducible exact s_gt
  | with_reducible exact s_ge
  | with_reducible exact s_eqI
  | with_reducible exact s_neI
  | with_reducible exact s_eqS
  | with_reducible exact s_neS
  | with_reducible exact s_neB
  | exact s_eqSame (sh_ints2 _) | exact s_neSame (sh_ints2 _) | exact s_eqSame (sh_ints _) | exact s_neSame (sh_ints _)
  | ((with_reducible apply s_mod) <;> walk_at "side")
  | walk_at "div" | walk_at "mul"
  | ((with_reducible apply s_catL) <;> walk_at "side")
  | ((with_reducible apply s_repL) <;> walk_at "side")
  | with_reducible exact s_fst
  | with_reducible exact s_snd
  | with_reducible exact s_t0
  | with_reducible exact s_t1
  | with_reducible exact s_t2
  | ((with_reducible apply s_last) <;> walk_at "side")
  | ((with_reducible apply s_ixS) <;> walk_at "side")
  | ((with_reducible apply s_ix) <;> walk_at "side")
  | ((with_reducible apply s_ixT) <;> walk_at "side")
  | with_reducible exact s_negI
  | with_reducible exact c_len
  | with_reducible exact c_lI
  | with_reducible exact c_tI
  | with_reducible exact c_pI
  | with_reducible exact c_t3I
  | with_reducible exact c_sI
  | with_reducible exact c_iI
  | with_reducible exact c_iB
  | with_reducible exact c_lenP
  | with_reducible exact c_len3
  | with_reducible exact c_isInt
  | with_reducible exact c_isBool
  | with_reducible exact c_isStr
  | with_reducible exact c_isList
  | with_reducible exact c_isTup
  | with_reducible exact c_lenTup
  | with_reducible exact c_lenScr
  | with_reducible exact c_listD
  | with_reducible exact c_listTD
  | with_reducible exact c_tup
  | with_reducible exact c_abs
  | with_reducible exact c_min2
  | with_reducible exact c_max2
  | with_reducible exact c_intB
  | with_reducible exact c_sum
  | ((with_reducible apply c_min) <;> walk_at "side")
  | ((with_reducible apply c_max) <;> walk_at "side")
  | ((with_reducible apply et_val) <;> walk_at "d")
  | ((with_reducible apply et_test) <;> walk_at "d")
  | ((with_reducible apply et_not) <;> walk_at "d")
  | ((with_reducible apply et_and) <;> (try with_reducible intro _) <;> walk_at "d")
  | ((with_reducible apply et_or) <;> (try with_reducible intro _) <;> walk_at "d")
  | ((with_reducible apply ev_and) <;> (try with_reducible intro _) <;> walk_at "d")
  | ((with_reducible apply ev_or) <;> (try with_reducible intro _) <;> walk_at "d")
  | ((with_reducible apply ev_chain) <;> (try with_reducible intro _) <;> walk_at "d")
  | ((with_reducible apply ev_not) <;> walk_at "d")
  | ((with_reducible apply ev_pair) <;> walk_at "d")
  | ((with_reducible apply ev_t3) <;> walk_at "d")
  | ((with_reducible apply ev_lst1) <;> walk_at "d")
  | ((with_reducible apply ev_lst2) <;> walk_at "d")
  | ((with_reducible apply ev_lst3) <;> walk_at "d")
  | ((with_reducible apply ev_lst4) <;> walk_at "d")
  | ((with_reducible apply ev_cut) <;> walk_at "d")
  | ((with_reducible apply ep_some) <;> walk_at "d")
  | ((with_reducible apply EvD.s) <;> walk_at "d")
  | ((with_reducible apply EvT.s) <;> walk_at "d")
  | ((with_reducible apply EvN.s) <;> walk_at "d")
  | ((with_reducible apply en_lst1) <;> walk_at "d")
  | ((with_reducible apply en_lst2) <;> walk_at "d")
  | ((with_reducible apply en_lst3) <;> walk_at "d")
  | ((with_reducible apply en_lst4) <;> walk_at "d")
  | ((with_reducible apply en_cut) <;> walk_at "d")
  | with_reducible exact ev_lst0
  | with_reducible exact ep_none
  | with_reducible exact en_lst0
  | ((with_reducible apply wi_L) <;> walk_at "d")
  | ((with_reducible apply wi_T) <;> walk_at "d")
  | ((with_reducible apply wi_zip) <;> walk_at "d")
  | ((with_reducible apply WiD.s) <;> walk_at "d")
  | ((with_reducible apply wi_range) <;> walk_at "side")
  | exact spec_cell (by omega) (by omega)
  | skip)
local macro_rules | `(tactic| walk_at "div") => `(tactic| first
  | exact s_div ⟨by omega, by omega⟩
  | exact s_divW (wd_div (by first | assumption | omega) (by assumption))
  | with_reducible apply s_div)
local macro_rules | `(tactic| walk_at "mul") => `(tactic| first
  | exact s_mul (Or.inl ⟨by omega, by omega⟩) | exact s_mul (Or.inr ⟨by omega, by omega⟩)
  | exact s_mulW (wd_mul (by assumption) (by assumption))
  | with_reducible apply s_mulW)
local macro_rules | `(tactic| walk_at "fg") => `(tactic| repeat (first | exact Fg.nil | apply Fg.same | apply Fg.drop | (refine Fg.eq ?_ ?_; rotate_left)))
local macro_rules | `(tactic| walk_at "end") => `(tactic| exact bd_turnE trivial rfl (by walk_at "fg"))
local macro_rules | `(tactic| walk_at "range") => `(tactic| (apply WiD.s; apply wi_range; (walk_at "d"); omega; omega))
local macro_rules | `(tactic| walk_at "app") => `(tactic| (refine' bd_appR 0 ?_ rfl ?_ ?_ ?_ ?_; (walk_at "d"); (walk_at "d"); rotate_right))
local macro_rules | `(tactic| walk_at "lend") => `(tactic| repeat (first | exact LendC.nil | apply LendC.no | (apply LendC.one; (exact lend_list 0 rfl)) | (apply LendC.one; (exact lend_same))))
/-! ### the search tells the best -/
structure SSok (p : Prob) (ss : SS) : Prop where
  len : ∀ x, ss.pt = some x → x.length = p.tops.length
  met : ∀ x, ss.pt = some x → met p x = true
  most : ∀ x, ss.pt = some x → ss.most = dot p.gain x
theorem facts_len {p : Prob} {box : Box} (k : p.Ok) (hb : BoxOk p box) : ∀ j, j < (factsOf p box).length → (at_ (factsOf p box) j).1.l.length = box.length := fun j hj => by
  rw [factsOf_len] at hj
  rw [at_facts p box hj]
  exact (fact_num k hb hj).1
theorem three_sum {n : Nat} (h3 : n ≤ 3) {s : Int} {g : Nat → Int} {xs y : List Int} (hx : xs.length = n) (hy : y.length = n) (hg : ∀ u, u < n → g u = s * at_ xs u) :
    (if 0 < n then g 0 * at_ y 0 else 0) + (if 1 < n then g 1 * at_ y 1 else 0) + (if 2 < n then g 2 * at_ y 2 else 0) = s * dot xs y := by
  rw [dot_v3 (by rw [hx, hy]) (by omega)]
  have z : ∀ u, n ≤ u → at_ xs u = 0 := fun u hu => at_zero (by omega)
  unfold v3 V3.dot
  simp only
  by_cases n0 : 0 < n
  · by_cases n1 : 1 < n
    · by_cases n2 : 2 < n
      · simp only [if_pos n0, if_pos n1, if_pos n2]
        rw [hg 0 n0, hg 1 n1, hg 2 n2]
        grind
      · simp only [if_pos n0, if_pos n1, if_neg n2]
        rw [hg 0 n0, hg 1 n1, z 2 (by omega)]
        grind
    · simp only [if_pos n0, if_neg n1, if_neg (show ¬ 2 < n by omega)]
      rw [hg 0 n0, z 1 (by omega), z 2 (by omega)]
      grind
  · simp only [if_neg n0, if_neg (show ¬ 1 < n by omega), if_neg (show ¬ 2 < n by omega)]
    rw [z 0 (by omega), z 1 (by omega), z 2 (by omega)]
    grind
/-- where weights show that nothing meets the facts -/
theorem none_shows {p : Prob} {box : Box} (k : p.Ok) (hb : BoxOk p box) {ws : List Int} (hw : ∀ w ∈ ws, 0 ≤ w) (h0 : ∀ u, u < box.length → sumN (factsOf p box) ws (fN p box) u = 0) (h1 : sumB (factsOf p box) ws (fN p box) < 0) {y : List Int} (hy : InBox p box y) : False := by
  have n3 : box.length ≤ 3 := by rw [hb.len]; exact k.n3
  have f := (inbox_facts k hb hy.len).mp hy
  have fl := factsOf_len p box
  have w := weak (fs := factsOf p box) (ws := ws) (y := y) n3 hy.len (facts_len k hb) hw (t := 1) (fun j hj => by
    rw [fl] at hj
    rw [at_facts p box hj, Int.mul_one]
    exact f j hj) (fN p box) (by rw [fl]; exact Nat.le_refl _)
  have e := three_sum n3 (s := 0) (g := fun u => sumN (factsOf p box) ws (fN p box) u) (xs := List.replicate box.length 0) (by simp) hy.len fun u hu => by
    rw [h0 u hu]
    simp
  rw [e] at w
  omega
/-- where weights show that nothing gains more -/
theorem bound_shows {p : Prob} {box : Box} (k : p.Ok) (hb : BoxOk p box) {ws : List Int} (hw : ∀ w ∈ ws, 0 ≤ w) {sc : Int} (hs : 1 ≤ sc) (h0 : ∀ u, u < box.length → sumN (factsOf p box) ws (fN p box) u = sc * at_ p.gain u) {y : List Int} (hy : InBox p box y) : dot p.gain y ≤ sumB (factsOf p box) ws (fN p box) / sc := by
  have n3 : box.length ≤ 3 := by rw [hb.len]; exact k.n3
  have f := (inbox_facts k hb hy.len).mp hy
  have fl := factsOf_len p box
  have w := weak (fs := factsOf p box) (ws := ws) (y := y) n3 hy.len (facts_len k hb) hw (t := 1) (fun j hj => by
    rw [fl] at hj
    rw [at_facts p box hj, Int.mul_one]
    exact f j hj) (fN p box) (by rw [fl]; exact Nat.le_refl _)
  have e := three_sum n3 (s := sc) (g := fun u => sumN (factsOf p box) ws (fN p box) u) (xs := p.gain) (by rw [k.gl, hb.len]) hy.len h0
  rw [e, Int.mul_one] at w
  exact Int.le_ediv_of_mul_le (by omega) (by rw [Int.mul_comm]; exact w)
theorem within_iff {xs tops : List Int} : within xs tops = true ↔ ∀ i, i < xs.length → 0 ≤ at_ xs i ∧ at_ xs i ≤ at_ tops i := by
  unfold within
  rw [List.all_eq_true]
  constructor
  · intro h i hi
    have := h i (List.mem_range.mpr hi)
    simpa using this
  · intro h i hi
    have := h i (List.mem_range.mp hi)
    simpa using this
theorem inbox_met {p : Prob} {box : Box} (k : p.Ok) (hb : BoxOk p box) {y : List Int} (h : InBox p box y) : met p y = true := by
  unfold met
  rw [Bool.and_eq_true]
  refine ⟨within_iff.mpr fun i hi => ?_, List.all_eq_true.mpr h.rows⟩
  have hi : i < box.length := by rw [← h.len]; exact hi
  have := h.lo i hi
  have := h.hi i hi
  have := hb.lo i hi
  have := hb.hi i hi
  omega
theorem div_dot {xs ns : List Int} {sc : Int} (hs : 1 ≤ sc) (h3 : xs.length ≤ 3) (hl : xs.length = ns.length) (hd : ∀ i, i < ns.length → at_ ns i % sc = 0) : dot xs ns = sc * dot xs (cutPt ns sc) := by
  have lc : (cutPt ns sc).length = ns.length := by simp [cutPt]
  rw [dot_v3 hl h3, dot_v3 (by rw [lc, hl]) h3]
  have c : ∀ u, at_ ns u = sc * at_ (cutPt ns sc) u := fun u => by
    by_cases hu : u < ns.length
    · unfold cutPt
      rw [at_map_range _ hu]
      have := Int.mul_ediv_add_emod (at_ ns u) sc
      have := hd u hu
      omega
    · rw [at_zero (by omega), at_zero (by omega)]
      simp
  unfold v3 V3.dot
  simp only [c]
  grind
theorem box_set {p : Prob} {box : Box} (hb : BoxOk p box) {u : Nat} (hu : u < box.length) {x : Int × Int} (h1 : (at_ box u).1 ≤ x.1) (h2 : x.1 ≤ x.2) (h3 : x.2 ≤ (at_ box u).2) : BoxOk p (box.set u x) := by
  have a := hb.lo u hu
  have b := hb.hi u hu
  refine ⟨by rw [List.length_set]; exact hb.len, fun i hi => ?_, fun i hi => ?_, fun i hi => ?_⟩
  all_goals
    rw [List.length_set] at hi
    rw [at_setB hu]
    split
    · rename_i e
      subst e
      omega
    · first | exact hb.lo i hi | exact hb.mid i hi | exact hb.hi i hi
theorem inbox_set {p : Prob} {box : Box} {u : Nat} (hu : u < box.length) {x : Int × Int} {y : List Int} (h : InBox p box y) (h1 : x.1 ≤ at_ y u) (h2 : at_ y u ≤ x.2) : InBox p (box.set u x) y := by
  refine ⟨by rw [List.length_set]; exact h.len, fun i hi => ?_, fun i hi => ?_, h.rows⟩
  all_goals
    rw [List.length_set] at hi
    rw [at_setB hu]
    split
    · rename_i e
      subst e
      assumption
    · first | exact h.lo i hi | exact h.hi i hi
/-- where the cut lies -/
theorem cut_at {p : Prob} {box : Box} (k : p.Ok) (hb : BoxOk p box) {ns : List Int} {sc : Int} (hl : ns.length = box.length) (hs : 1 ≤ sc) (hf : ∀ j, j < fN p box → dot (factAt p box j).1.l ns ≤ (factAt p box j).2 * sc) {u : Nat} (hu : u < box.length) (hn : at_ ns u % sc ≠ 0) :
    (at_ box u).1 ≤ at_ ns u / sc ∧ at_ ns u / sc + 1 ≤ (at_ box u).2 := by
  have n3 : box.length ≤ 3 := by rw [hb.len]; exact k.n3
  have a := hf (p.rows.length + 2 * u) (by unfold fN; omega)
  have b := hf (p.rows.length + 2 * u + 1) (by unfold fN; omega)
  rw [fact_up hu] at a
  rw [fact_lw hu] at b
  have a : dot (aloneT box.length u 1).l ns ≤ (at_ box u).2 * sc := a
  have b : dot (aloneT box.length u (-1)).l ns ≤ (0 - (at_ box u).1) * sc := b
  rw [dot_alone n3 hu hl] at a b
  have d := Int.mul_ediv_add_emod (at_ ns u) sc
  have m0 := Int.emod_nonneg (at_ ns u) (b := sc) (by omega)
  have m1 := Int.emod_lt_of_pos (at_ ns u) (b := sc) (by omega)
  constructor
  · refine Int.le_ediv_of_mul_le (by omega) ?_
    have : (0 - (at_ box u).1) * sc = - ((at_ box u).1 * sc) := by grind
    omega
  · have lt : at_ ns u / sc < (at_ box u).2 := by
      refine Classical.byContradiction fun z => ?_
      have z : (at_ box u).2 ≤ at_ ns u / sc := by omega
      have m := Int.mul_le_mul_of_nonneg_right z (show (0 : Int) ≤ sc by omega)
      have : sc * (at_ ns u / sc) = at_ ns u / sc * sc := Int.mul_comm _ _
      omega
    omega
structure TreeOk (p : Prob) (box : Box) (ss : SS) (r : Tree × SS) : Prop where
  ok : SSok p r.2
  mono : ss.pt.isSome = true → r.2.pt.isSome = true ∧ ss.most ≤ r.2.most
  best : ∀ y, InBox p box y → r.2.pt.isSome = true ∧ dot p.gain y ≤ r.2.most
theorem tree_ok {p : Prob} (k : p.Ok) : ∀ (n : Nat) (box : Box) (ss : SS), BoxOk p box → width box < n → SSok p ss → TreeOk p box ss (treeF p n box ss)
  | 0, _, _, _, h, _ => by omega
  | n + 1, box, ss, hb, hw, hs => by
    have n3 : box.length ≤ 3 := by rw [hb.len]; exact k.n3
    have g := loose_good k hb
    unfold treeF
    cases e : looseOf p box with
    | none ws =>
      rw [e] at g
      obtain ⟨⟨_, w0⟩, g1, g2⟩ := g
      exact ⟨hs, fun h => ⟨h, Int.le_refl _⟩, fun y hy => absurd (none_shows k hb w0 g1 g2 hy) id⟩
    | most ns sc ws =>
      rw [e] at g
      obtain ⟨gl, g1, _, gf, ⟨_, w0⟩, gn, gb⟩ := g
      have up : ∀ y, InBox p box y → dot p.gain y ≤ sumB (factsOf p box) ws (fN p box) / sc := fun y hy => bound_shows k hb w0 g1 gn hy
      simp only
      split
      · rename_i c
        exact ⟨hs, fun h => ⟨h, Int.le_refl _⟩, fun y hy => ⟨c.1, Int.le_trans (up y hy) c.2⟩⟩
      · rename_i c
        split
        · rename_i hp
          have dv := partN_all hp
          have lc : (cutPt ns sc).length = box.length := by simp [cutPt, gl]
          have inb : InBox p box (cutPt ns sc) := (inbox_facts k hb lc).mpr fun j hj => by
            have f := gf j hj
            have fl := (fact_num k hb hj).1
            rw [div_dot g1 (by omega) (by omega) dv] at f
            have : sc * dot (factAt p box j).1.l (cutPt ns sc) ≤ sc * (factAt p box j).2 := by
              rw [Int.mul_comm sc (factAt p box j).2]
              exact f
            exact Int.le_of_mul_le_mul_left this (by omega)
          have gd : sumB (factsOf p box) ws (fN p box) / sc = dot p.gain (cutPt ns sc) := by
            rw [gb, div_dot g1 (by rw [k.gl]; exact k.n3) (by rw [k.gl, gl, hb.len]) dv]
            exact Int.mul_ediv_cancel_left _ (by omega)
          refine ⟨⟨fun x hx => ?_, fun x hx => ?_, fun x hx => ?_⟩, fun h => ⟨rfl, ?_⟩, fun y hy => ⟨rfl, ?_⟩⟩
          · cases hx
            rw [lc, hb.len]
          · cases hx
            exact inbox_met k hb inb
          · cases hx
            rfl
          · have : ¬ sumB (factsOf p box) ws (fN p box) / sc ≤ ss.most := fun z => c ⟨h, z⟩
            show ss.most ≤ dot p.gain (cutPt ns sc)
            omega
          · show _ ≤ dot p.gain (cutPt ns sc)
            rw [← gd]
            exact up y hy
        · rename_i hp
          obtain ⟨hu, hm⟩ := partN_at hp
          have hu : partN ns sc < box.length := by omega
          obtain ⟨c1, c2⟩ := cut_at k hb gl g1 gf hu hm
          have mid := hb.mid _ hu
          have b1 := box_set hb hu (x := ((at_ box (partN ns sc)).1, at_ ns (partN ns sc) / sc)) (Int.le_refl _) c1 (by omega)
          have b2 := box_set hb hu (x := (at_ ns (partN ns sc) / sc + 1, (at_ box (partN ns sc)).2)) (by omega) c2 (Int.le_refl _)
          have w1 : width (box.set (partN ns sc) ((at_ box (partN ns sc)).1, at_ ns (partN ns sc) / sc)) < n := by
            have := width_set hu (x := ((at_ box (partN ns sc)).1, at_ ns (partN ns sc) / sc)) (by simp only; omega)
            omega
          have w2 : width (box.set (partN ns sc) (at_ ns (partN ns sc) / sc + 1, (at_ box (partN ns sc)).2)) < n := by
            have := width_set hu (x := (at_ ns (partN ns sc) / sc + 1, (at_ box (partN ns sc)).2)) (by simp only; omega)
            omega
          have t1 := tree_ok k n _ ss b1 w1 hs
          have t2 := tree_ok k n _ _ b2 w2 t1.ok
          refine ⟨t2.ok, fun h => ?_, fun y hy => ?_⟩
          · obtain ⟨m1, m2⟩ := t1.mono h
            obtain ⟨m3, m4⟩ := t2.mono m1
            exact ⟨m3, Int.le_trans m2 m4⟩
          · by_cases z : at_ y (partN ns sc) ≤ at_ ns (partN ns sc) / sc
            · obtain ⟨m1, m2⟩ := t1.best y (inbox_set hu hy (hy.lo _ hu) z)
              obtain ⟨m3, m4⟩ := t2.mono m1
              exact ⟨m3, Int.le_trans m2 m4⟩
            · exact t2.best y (inbox_set hu hy (by simp only; omega) (hy.hi _ hu))
/-! the whole box -/
def wholeB (p : Prob) : Box := (List.range p.tops.length).map fun i => ((0 : Int), at_ p.tops i)
theorem whole_at {p : Prob} {i : Nat} (h : i < p.tops.length) : at_ (wholeB p) i = (0, at_ p.tops i) := at_map_range _ h
theorem whole_len (p : Prob) : (wholeB p).length = p.tops.length := by simp [wholeB]
theorem whole_ok {p : Prob} (k : p.Ok) : BoxOk p (wholeB p) := by
  refine ⟨whole_len p, fun i hi => ?_, fun i hi => ?_, fun i hi => ?_⟩
  all_goals
    rw [whole_len] at hi
    rw [whole_at hi]
    have := k.tops _ (at_mem hi)
    simp only
    omega
theorem inbox_whole {p : Prob} (k : p.Ok) {y : List Int} (hl : y.length = p.tops.length) : InBox p (wholeB p) y ↔ met p y = true := by
  constructor
  · exact inbox_met k (whole_ok k)
  · intro h
    unfold met at h
    rw [Bool.and_eq_true] at h
    have w := within_iff.mp h.1
    refine ⟨by rw [whole_len, hl], fun i hi => ?_, fun i hi => ?_, List.all_eq_true.mp h.2⟩
    all_goals
      rw [whole_len] at hi
      rw [whole_at hi]
      have := w i (by omega)
      simp only
      omega
theorem sum_le (f : Nat → Nat) (b : Nat) (h : ∀ i, f i ≤ b) : ∀ n, ((List.range n).map f).sum ≤ n * b
  | 0 => by simp
  | n + 1 => by
    have ih := sum_le f b h n
    rw [List.range_succ, List.map_append, List.sum_append]
    simp only [List.map_cons, List.map_nil, List.sum_cons, List.sum_nil]
    have := h n
    have : (n + 1) * b = n * b + b := by rw [Nat.add_mul, Nat.one_mul]
    omega
theorem width_whole {p : Prob} (k : p.Ok) : width (wholeB p) ≤ 60 := by
  have n3 := k.n3
  unfold width
  have e : ((List.range (wholeB p).length).map fun i => ((at_ (wholeB p) i).2 - (at_ (wholeB p) i).1).toNat).sum ≤ (wholeB p).length * 20 := by
    apply sum_le
    intro i
    by_cases hi : i < p.tops.length
    · rw [whole_at hi]
      have := k.tops _ (at_mem hi)
      simp only
      omega
    · have : at_ (wholeB p) i = (0, 0) := by
        unfold at_
        rw [List.getD_eq_getElem?_getD, List.getElem?_eq_none (by rw [whole_len]; omega)]
        rfl
      rw [this]
      simp
  rw [whole_len] at e
  rw [whole_len]
  omega
noncomputable def solvedOf (p : Prob) : Option (List Int) × Tree := ((treeF p 61 (wholeB p) ⟨none, 0⟩).2.pt, (treeF p 61 (wholeB p) ⟨none, 0⟩).1)
/-- what the program tells of a problem: the best point, or that none meets it -/
structure Best (p : Prob) (o : Option (List Int)) : Prop where
  none : o = none → ∀ y : List Int, y.length = p.tops.length → met p y = false
  some : ∀ x, o = some x → x.length = p.tops.length ∧ met p x = true ∧ ∀ y : List Int, y.length = p.tops.length → met p y = true → dot p.gain y ≤ dot p.gain x
theorem solved_best {p : Prob} (k : p.Ok) : Best p (solvedOf p).1 := by
  have t := tree_ok k 61 (wholeB p) ⟨.none, 0⟩ (whole_ok k) (by have := width_whole k; omega) ⟨(fun x h => nomatch h), (fun x h => nomatch h), (fun x h => nomatch h)⟩
  refine ⟨fun h y hy => ?_, fun x h => ⟨t.ok.len x h, t.ok.met x h, fun y hy hm => ?_⟩⟩
  · refine Bool.eq_false_iff.mpr fun hm => ?_
    have := (t.best y ((inbox_whole k hy).mpr hm)).1
    have h : (treeF p 61 (wholeB p) ⟨.none, 0⟩).2.pt = .none := h
    rw [h] at this
    cases this
  · rw [← t.ok.most x h]
    exact (t.best y ((inbox_whole k hy).mpr hm)).2
end D

set_option Elab.async false
set_option linter.all false
set_option maxRecDepth 100000
set_option maxHeartbeats 4000000
namespace D
open PySem PySem.Spec PyProof.Rows L2
open ToPy (py)
local macro_rules | `(tactic| walk_at "side") => `(tactic| first | assumption | omega | (refine Int.emod_nonneg _ ?_; omega) | (refine Int.emod_lt_of_pos _ ?_; omega) | (simp at *; omega) | (simp; done) | decide | skip)
local macro_rules | `(tactic| walk_at "d") => `(tactic| first
  | with_reducible exact ev_int | with_reducible exact ev_str | with_reducible exact ev_bl | with_reducible exact ev_non
  | exact ev_var rfl
  | with_reducible exact ev_ty
  | with_reducible exact ev_cls
  | ((with_reducible apply ev_op) <;> walk_at "d")
  | ((with_reducible apply ev_un) <;> walk_at "d")
  | ((with_reducible apply ev_call) <;> walk_at "d")
  | ((with_reducible apply ev_callX) <;> walk_at "d")
  | ((with_reducible apply ev_cb) <;> walk_at "d")
  | with_reducible exact ea_nil
  | ((with_reducible apply ea_cons) <;> walk_at "d")
  | with_reducible exact s_add
  | with_reducible exact s_sub
  | with_reducible exact s_lt
  | with_reducible exact s_le
  | with_reducible exact s_gt
  | with_reducible exact s_ge
  | with_reducible exact s_eqI
  | with_reducible exact s_neI
  | with_reducible exact s_eqS
  | with_reducible exact s_neS
  | with_reducible exact s_neB
  | exact s_eqSame (sh_ints2 _) | exact s_neSame (sh_ints2 _) | exact s_eqSame (sh_ints _) | exact s_neSame (sh_ints _)
  | ((with_reducible apply s_mod) <;> walk_at "side")
  | walk_at "div" | walk_at "mul"
  | ((with_reducible apply s_catL) <;> walk_at "side")
  | ((with_reducible apply s_repL) <;> walk_at "side")
  | with_reducible exact s_fst
  | with_reducible exact s_snd
  | with_reducible exact s_t0
  | with_reducible exact s_t1
  | with_reducible exact s_t2
  | ((with_reducible apply s_last) <;> walk_at "side")
  | ((with_reducible apply s_ixS) <;> walk_at "side")
  | ((with_reducible apply s_ix) <;> walk_at "side")
  | ((with_reducible apply s_ixT) <;> walk_at "side")
  | with_reducible exact s_negI
  | with_reducible exact c_len
  | with_reducible exact c_lI
  | with_reducible exact c_tI
  | with_reducible exact c_pI
  | with_reducible exact c_t3I
  | with_reducible exact c_sI
  | with_reducible exact c_iI
  | with_reducible exact c_iB
  | with_reducible exact c_lenP
  | with_reducible exact c_len3
  | with_reducible exact c_isInt
  | with_reducible exact c_isBool
  | with_reducible exact c_isStr
  | with_reducible exact c_isList
  | with_reducible exact c_isTup
  | with_reducible exact c_lenTup
  | with_reducible exact c_lenScr
  | with_reducible exact c_listD
  | with_reducible exact c_listTD
  | with_reducible exact c_tup
  | with_reducible exact c_abs
  | with_reducible exact c_min2
  | with_reducible exact c_max2
  | with_reducible exact c_intB
  | with_reducible exact c_sum
  | ((with_reducible apply c_min) <;> walk_at "side")
  | ((with_reducible apply c_max) <;> walk_at "side")
  | ((with_reducible apply et_val) <;> walk_at "d")
  | ((with_reducible apply et_test) <;> walk_at "d")
  | ((with_reducible apply et_not) <;> walk_at "d")
  | ((with_reducible apply et_and) <;> (try with_reducible intro _) <;> walk_at "d")
  | ((with_reducible apply et_or) <;> (try with_reducible intro _) <;> walk_at "d")
  | ((with_reducible apply ev_and) <;> (try with_reducible intro _) <;> walk_at "d")
  | ((with_reducible apply ev_or) <;> (try with_reducible intro _) <;> walk_at "d")
  | ((with_reducible apply ev_chain) <;> (try with_reducible intro _) <;> walk_at "d")
  | ((with_reducible apply ev_not) <;> walk_at "d")
  | ((with_reducible apply ev_pair) <;> walk_at "d")
  | ((with_reducible apply ev_t3) <;> walk_at "d")
  | ((with_reducible apply ev_lst1) <;> walk_at "d")
  | ((with_reducible apply ev_lst2) <;> walk_at "d")
  | ((with_reducible apply ev_lst3) <;> walk_at "d")
  | ((with_reducible apply ev_lst4) <;> walk_at "d")
  | ((with_reducible apply ev_cut) <;> walk_at "d")
  | ((with_reducible apply ep_some) <;> walk_at "d")
  | ((with_reducible apply EvD.s) <;> walk_at "d")
  | ((with_reducible apply EvT.s) <;> walk_at "d")
  | ((with_reducible apply EvN.s) <;> walk_at "d")
  | ((with_reducible apply en_lst1) <;> walk_at "d")
  | ((with_reducible apply en_lst2) <;> walk_at "d")
  | ((with_reducible apply en_lst3) <;> walk_at "d")
  | ((with_reducible apply en_lst4) <;> walk_at "d")
  | ((with_reducible apply en_cut) <;> walk_at "d")
  | with_reducible exact ev_lst0
  | with_reducible exact ep_none
  | with_reducible exact en_lst0
  | ((with_reducible apply wi_L) <;> walk_at "d")
  | ((with_reducible apply wi_T) <;> walk_at "d")
  | ((with_reducible apply wi_zip) <;> walk_at "d")
  | ((with_reducible apply WiD.s) <;> walk_at "d")
  | ((with_reducible apply wi_range) <;> walk_at "side")
  | exact spec_cell (by omega) (by omega)
  | skip)
local macro_rules | `(tactic| walk_at "div") => `(tactic| first
  | exact s_div ⟨by omega, by omega⟩
  | exact s_divW (wd_div (by first | assumption | omega) (by assumption))
  | with_reducible apply s_div)
local macro_rules | `(tactic| walk_at "mul") => `(tactic| first
  | exact s_mul (Or.inl ⟨by omega, by omega⟩) | exact s_mul (Or.inr ⟨by omega, by omega⟩)
  | exact s_mulW (wd_mul (by assumption) (by assumption))
  | with_reducible apply s_mulW)
local macro_rules | `(tactic| walk_at "fg") => `(tactic| repeat (first | exact Fg.nil | apply Fg.same | apply Fg.drop | (refine Fg.eq ?_ ?_; rotate_left)))
local macro_rules | `(tactic| walk_at "end") => `(tactic| exact bd_turnE trivial rfl (by walk_at "fg"))
local macro_rules | `(tactic| walk_at "range") => `(tactic| (apply WiD.s; apply wi_range; (walk_at "d"); omega; omega))
local macro_rules | `(tactic| walk_at "app") => `(tactic| (refine' bd_appR 0 ?_ rfl ?_ ?_ ?_ ?_; (walk_at "d"); (walk_at "d"); rotate_right))
local macro_rules | `(tactic| walk_at "lend") => `(tactic| repeat (first | exact LendC.nil | apply LendC.no | (apply LendC.one; (exact lend_list 0 rfl)) | (apply LendC.one; (exact lend_same))))
/-! ### the search -/
def sf (c : Cs) (p : Prob) (ss : SS) : List (Str × RP) := [("problem", insP c p), ("point", rep ss.pt), ("most", rep ss.most)]
structure SF (K : PySem.W.Frag) (c : Cs) : Prop where
  cl : Cls K c.Search
  problem : NoAttr K c.Search "problem"
  point : NoAttr K c.Search "point"
  most : NoAttr K c.Search "most"
def S_with_pair (K : PySem.W.Frag) (c : Cs) : Spec := fun Rs R => ∃ (box : Box) (u : Nat) (x : Int × Int), Rs = [rep box, rep (u : Int), rep x] ∧ u < box.length ∧ box.length ≤ 100 ∧ R = rep (box.set u x)
def S_parted (K : PySem.W.Frag) (c : Cs) : Spec := fun Rs R => ∃ (ns : List Int) (sc : Int), Rs = [rep ns, rep sc] ∧ 1 ≤ sc ∧ ns.length ≤ 100 ∧ R = rep ((partN ns sc : Nat) : Int)
def S_Search (K : PySem.W.Frag) (c : Cs) : SpecO := fun Rs O Po => ∃ (a : Addr) (p : Prob), Rs = [own a, insP c p] ∧ O = [(a, insO c.Search [])] ∧ Po = fun R O' => R = rep () ∧ O' = [(a, insO c.Search (sf c p ⟨none, 0⟩))]
abbrev SP_Search (K : PySem.W.Frag) (c : Cs) : Sp := spO (S_Search K c)
def S_Search_take (K : PySem.W.Frag) (c : Cs) : SpecO := fun Rs O Po => ∃ (a : Addr) (p : Prob) (ss : SS) (ns : List Int) (sc : Int), Rs = [own a, rep ns, rep sc] ∧ p.Ok ∧ ns.length = p.tops.length ∧ 1 ≤ sc ∧ sc ≤ 750000 ∧ O = [(a, insO c.Search (sf c p ss))] ∧ Po = fun R O' => R = rep () ∧ O' = [(a, insO c.Search (sf c p ⟨some (cutPt ns sc), dot p.gain (cutPt ns sc)⟩))]
abbrev SP_Search_take (K : PySem.W.Frag) (c : Cs) : Sp := spO (S_Search_take K c)
def S_Search_tree_ofN (K : PySem.W.Frag) (c : Cs) : Nat → SpecO
  | 0 => fun _ _ _ => False
  | n + 1 => fun Rs O Po => ∃ (a : Addr) (p : Prob) (box : Box) (ss : SS), Rs = [own a, rep box] ∧ p.Ok ∧ BoxOk p box ∧ width box < n + 1 ∧ O = [(a, insO c.Search (sf c p ss))] ∧ Po = fun R O' => R = rep (treeF p (n + 1) box ss).1 ∧ O' = [(a, insO c.Search (sf c p (treeF p (n + 1) box ss).2))]
abbrev SP_Search_tree_of (K : PySem.W.Frag) (c : Cs) : Sp := spO (S_Search_tree_ofN K c 61)
def S_solved (K : PySem.W.Frag) (c : Cs) : Spec := fun Rs R => ∃ p : Prob, Rs = [insP c p] ∧ p.Ok ∧ R = rep (solvedOf p)
def n_with_pair : List Str := ["box", "unknown", "pair"]
def t_with_pair (K : PySem.W.Frag) (c : Cs) : TS := (tSeq (tRet (tOp (rAddX K) (tOp (rAddX K) (tSl (rSlX K) (tVar 0) tNoPart (tPart (tVar 1))) (tLst (tCons (tVar 2) tNil))) (tSl (rSlX K) (tVar 0) (tPart (tOp (rAddX K) (tVar 1) (tC (.int 1)))) tNoPart)))
  tNext)
def n_parted : List Str := ["numbers", "scale", "unknown"]
def t_parted (K : PySem.W.Frag) (c : Cs) : TS := (tSeq (tFor (iRng1 (tCons (tCB (rLenX K) (tCons (tVar 0) tNil)) tNil)) (gName 2) (tSeq (tIfS (tTest (tOp (rNeX K) (tOp rModI (tOp (rIx K) (tVar 0) (tVar 2)) (tVar 1)) (tC (.int 0)))) (tSeq (tRet (tVar 2))
  tNext) tNext)
  tNext))
  (tSeq (tRet (tCB (rLenX K) (tCons (tVar 0) tNil)))
  tNext))
def n_Search_init : List Str := ["self", "problem"]
def t_Search_init (K : PySem.W.Frag) (c : Cs) : TS := (tSeq (sFld K (tVar 0) (tVar 1) "problem")
  (tSeq (sFld K (tVar 0) (tC .non) "point")
  (tSeq (sFld K (tVar 0) (tC (.int 0)) "most")
  tNext)))
def n_Search_take : List Str := ["self", "numbers", "scale", "number"]
def t_Search_take (K : PySem.W.Frag) (c : Cs) : TS := (tSeq (sFld K (tVar 0) (tLc (iList K (tVar 1)) (gName 3) tYes (tOp rDivI (tVar 3) (tVar 2)) [3]) "point")
  (tSeq (sFld K (tVar 0) (tCall (spX (S_gained K c) (SE_gained K c)) [] E0 (tCons (tFld K (tVar 0) "problem") (tCons (tFld K (tVar 0) "point") tNil))) "most")
  tNext))
def n_Search_tree_of : List Str := ["self", "box", "told", "weights", "scale", "limit", "numbers", "unknown", "at", "pair", "below", "above"]
def t_Search_tree_of (K : PySem.W.Frag) (c : Cs) (rec : Sp) : TS := (tSeq (tAsg (tCall (spD (S_loose K c)) [] E0 (tCons (tFld K (tVar 0) "problem") (tCons (tVar 1) tNil))) (gName 2))
  (tSeq (tIfS (tTest (tOp (rEqX K) (tOp (rIx K) (tVar 2) (tC (.int 0))) (tC (.str "none")))) (tSeq (tRet (tVar 2))
  tNext) tNext)
  (tSeq (tAsg (tOp (rIx K) (tVar 2) (tC (.int 2))) (gName 3))
  (tSeq (tAsg (tOp (rIx K) (tVar 2) (tC (.int 3))) (gName 4))
  (tSeq (tAsg (tOp rDivI (tOp (rIx K) (tCall (spX (S_summed K c) (SE_summed K c)) [] E0 (tCons (tFld K (tVar 0) "problem") (tCons (tVar 1) (tCons (tVar 3) tNil)))) (tC (.int 1))) (tVar 4)) (gName 5))
  (tSeq (tIfS (tAnd (tTest (tOp rNotNo (tFld K (tVar 0) "point") (tC .non))) (tTest (tOp rLeI (tVar 5) (tFld K (tVar 0) "most")))) (tSeq (tRet (tTup (tCons (tC (.str "bound")) (tCons (tVar 3) (tCons (tVar 4) tNil)))))
  tNext) tNext)
  (tSeq (tAsg (tOp (rIx K) (tOp (rIx K) (tVar 2) (tC (.int 1))) (tC (.int 0))) (gName 6))
  (tSeq (tAsg (tCall (spD (S_parted K c)) [] E0 (tCons (tVar 6) (tCons (tOp (rIx K) (tOp (rIx K) (tVar 2) (tC (.int 1))) (tC (.int 1))) tNil))) (gName 7))
  (tSeq (tIfS (tTest (tOp (rEqX K) (tVar 7) (tCB (rLenX K) (tCons (tVar 6) tNil)))) (tSeq (tDrop (tMeth c.Search "take" (SP_Search_take K c) [] E0 (tVar 0) (tCons (tVar 6) (tCons (tOp (rIx K) (tOp (rIx K) (tVar 2) (tC (.int 1))) (tC (.int 1))) tNil))))
  (tSeq (tRet (tTup (tCons (tC (.str "bound")) (tCons (tVar 3) (tCons (tVar 4) tNil)))))
  tNext)) tNext)
  (tSeq (tAsg (tOp rDivI (tOp (rIx K) (tVar 6) (tVar 7)) (tOp (rIx K) (tOp (rIx K) (tVar 2) (tC (.int 1))) (tC (.int 1)))) (gName 8))
  (tSeq (tAsg (tOp (rIx K) (tVar 1) (tVar 7)) (gName 9))
  (tSeq (tAsg (tMeth c.Search "tree_of" rec [] E0 (tVar 0) (tCons (tCall (spD (S_with_pair K c)) [] E0 (tCons (tVar 1) (tCons (tVar 7) (tCons (tTup (tCons (tOp (rIx K) (tVar 9) (tC (.int 0))) (tCons (tVar 8) tNil))) tNil)))) tNil)) (gName 10))
  (tSeq (tAsg (tMeth c.Search "tree_of" rec [] E0 (tVar 0) (tCons (tCall (spD (S_with_pair K c)) [] E0 (tCons (tVar 1) (tCons (tVar 7) (tCons (tTup (tCons (tOp (rAddX K) (tVar 8) (tC (.int 1))) (tCons (tOp (rIx K) (tVar 9) (tC (.int 1))) tNil))) tNil)))) tNil)) (gName 11))
  (tSeq (tRet (tTup (tCons (tC (.str "cut")) (tCons (tVar 7) (tCons (tVar 8) (tCons (tVar 10) (tCons (tVar 11) tNil)))))))
  tNext))))))))))))))
def n_solved : List Str := ["problem", "search", "tree"]
def t_solved (K : PySem.W.Frag) (c : Cs) : TS := (tSeq (tAsg (tMake c.Search (SP_Search K c) [] E0 (tCons (tVar 0) tNil)) (gName 1))
  (tSeq (tAsg (tMeth c.Search "tree_of" (SP_Search_tree_of K c) [] E0 (tVar 1) (tCons (tCall (spD (S_whole_box K c)) [] E0 (tCons (tVar 0) tNil)) tNil)) (gName 2))
  (tSeq (tRet (tTup (tCons (tFld K (tVar 1) "point") (tCons (tVar 2) tNil))))
  tNext)))
section
variable {K : PySem.W.Frag} {c : Cs}
theorem cut_set {α : Type} (xs : List α) (u : Nat) (x : α) (h : u < xs.length) : (cut xs none (some (u : Int)) ++ [x]) ++ cut xs (some ((u : Int) + 1)) none = xs.set u x := by
  have e1 : cut xs none (some (u : Int)) = xs.take u := by
    unfold cut
    have a : HT.sIx xs.length xs.length (some (u : Int)) = u := by
      show (if (u : Int) < 0 then ((u : Int) + (xs.length : Int)).toNat else min (u : Int).toNat xs.length) = u
      rw [if_neg (by omega)]
      omega
    rw [a]
    simp [HT.sIx]
  have e2 : cut xs (some ((u : Int) + 1)) none = xs.drop (u + 1) := by
    unfold cut
    have a : HT.sIx xs.length 0 (some ((u : Int) + 1)) = u + 1 := by
      show (if (u : Int) + 1 < 0 then ((u : Int) + 1 + (xs.length : Int)).toNat else min ((u : Int) + 1).toNat xs.length) = u + 1
      rw [if_neg (by omega)]
      omega
    rw [a]
    apply List.take_of_length_le
    simp [HT.sIx]
  rw [e1, e2, List.set_eq_take_append_cons_drop, if_pos h, List.append_assoc]
  rfl
theorem rd_with_pair : ∀ Rs R, S_with_pair K c Rs R → ∀ B : Base, B.m = [] → BDe B (startC n_with_pair Rs) [] (t_with_pair K c) (fnP B R) := by
  rintro _ _ ⟨box, u, x, rfl, h, hl, rfl⟩ B hm
  apply bd_retR hm
  apply EvD.s
  rw [← cut_set box u x h]
  have l1 : (cut box none (some (u : Int))).length ≤ box.length := by
    unfold cut
    rw [List.length_take, List.length_drop]
    omega
  have l2 : (cut box (some ((u : Int) + 1)) none).length ≤ box.length := by
    unfold cut
    rw [List.length_take, List.length_drop]
    omega
  apply ev_op
  · apply ev_op
    · exact ev_cut (ev_var rfl) ep_none (ep_some (ev_var rfl))
    · exact ev_lst1 (ev_var rfl)
    · exact s_catL (by simp only [List.length_cons, List.length_nil]; omega)
  · exact ev_cut (ev_var rfl) (ep_some (ev_op (ev_var rfl) ev_int s_add)) ep_none
  · exact s_catL (by simp only [List.length_append, List.length_cons, List.length_nil]; omega)
theorem rd_parted : ∀ Rs R, S_parted K c Rs R → ∀ B : Base, B.m = [] → BDe B (startC n_parted Rs) [] (t_parted K c) (fnP B R) := by
  rintro _ _ ⟨ns, sc, rfl, hs, hl, rfl⟩ B hm
  apply bd_forE (n := ns.length) (item := fun i => rep (i : Int)) (fun _ => startC n_parted [rep ns, rep sc]) (fun _ => []) (fun i => ∀ j, j < i → at_ ns j % sc = 0)
  · exact WiD.s (wi_rangeN (ev_cb (ea_cons (ev_var rfl) ea_nil) c_len) (by omega))
  · walk_at "fg"
  · rfl
  · intro j hj
    omega
  · intro i hi
    exact tg_name
  · intro i hi F
    apply bd_ifr (b := !decide (at_ ns i % sc = 0))
    · apply EvT.s
      apply et_test
      exact ev_op (ev_op (ev_op (ev_var rfl) (ev_var rfl) (s_ix (xs := ns) (by omega) (by omega))) (ev_var rfl) (s_mod (by omega))) ev_int s_neI
    · intro h
      simp at h
      have e : partN ns sc = i := by
        have le := partN_le ns sc
        rcases Nat.lt_trichotomy (partN ns sc) i with z | z | z
        · exact absurd (F _ z) (partN_at (by omega)).2
        · exact z
        · have := List.not_of_lt_findIdx (xs := List.range ns.length) (p := fun i => !decide (at_ ns i % sc = 0)) (i := i) z
          simp at this
          exact absurd this h
      rw [e]
      exact bd_retR hm (EvD.s (ev_var rfl))
    · intro h
      simp at h
      refine bd_turnE ?_ rfl (by walk_at "fg")
      intro j hj
      by_cases e : j = i
      · rw [e]
        exact h
      · exact F j (by omega)
  · intro F
    have e : partN ns sc = ns.length := by
      refine Classical.byContradiction fun z => ?_
      obtain ⟨h1, h2⟩ := partN_at z
      exact h2 (F _ h1)
    rw [e]
    exact bd_retR hm (EvD.s (ev_cb (ea_cons (ev_var rfl) ea_nil) c_len))
theorem rd_Search_init (F : SF K c) : RdO (S_Search K c) n_Search_init (t_Search_init K c) := by
  rintro _ _ _ ⟨a, p, rfl, rfl, rfl⟩ B hm
  refine bd_setF (fs := []) (R := insP c p) 0 (EvD.s (ev_var rfl)) (ev_var rfl) rfl F.cl F.problem (by simp) ?_
  refine bd_setF (fs := [("problem", insP c p)]) (R := rep (none : Option (List Int))) 0 (EvD.s ev_non) (ev_var rfl) rfl F.cl F.point (by simp) ?_
  refine bd_setF (fs := [("problem", insP c p), ("point", rep (none : Option (List Int)))]) (R := rep (0 : Int)) 0 (EvD.s ev_int) (ev_var rfl) rfl F.cl F.most (by simp) ?_
  exact bd_endO ⟨rfl, rfl⟩ fun f => rep_of_unit _
theorem rd_Search_take (F : SF K c) : RdO (S_Search_take K c) n_Search_take (t_Search_take K c) := by
  rintro _ _ _ ⟨a, p, ss, ns, sc, rfl, k, hl, h1, h2, rfl, rfl⟩ B hm
  have n3 := k.n3
  refine bd_setF (fs := sf c p ss) (R := rep (some (cutPt ns sc))) 0 ?_ (ev_var rfl) rfl F.cl F.point (by simp [sf]) ?_
  · apply EvD.s
    show EvD _ _ (rep (cutPt ns sc))
    apply ev_lc (α := Int) (n := ns.length) (item := fun i => rep (at_ ns i)) (val := fun i => at_ ns i / sc)
    · exact wi_L (ev_var rfl)
    · intro i hi
      exact tl_name (by decide)
    · intro i hi
      exact ev_op (ev_var rfl) (ev_var rfl) (s_div ⟨by omega, by omega⟩)
    · omega
  refine bd_setF (fs := [("problem", insP c p), ("point", rep (some (cutPt ns sc))), ("most", rep ss.most)]) (R := rep (dot p.gain (cutPt ns sc))) 0 ?_ (ev_var rfl) rfl F.cl F.most (by simp) ?_
  · apply es_callX
    · exact ea_consS (es_fld (R := insP c p) (fs := [("problem", insP c p), ("point", rep (some (cutPt ns sc))), ("most", rep ss.most)]) 0 (ev_var rfl) rfl F.cl F.problem rfl) (ea_consS (es_fld (R := rep (some (cutPt ns sc))) (fs := [("problem", insP c p), ("point", rep (some (cutPt ns sc))), ("most", rep ss.most)]) 0 (ev_var rfl) rfl F.cl F.point rfl) ea_nilS)
    · exact ⟨p, cutPt ns sc, rfl, k, by simp [cutPt, hl], rfl⟩
  exact bd_endO ⟨rfl, rfl⟩ fun f => rep_of_unit _
theorem lend_srch {a : Addr} {p : Prob} {ss : SS} : Lend [(a, insO c.Search (sf c p ss))] (own a) (insR c.Search (sf c p ss)) := lend_ins 0 rfl (.cons lend_same (.cons lend_same (.cons lend_same .nil)))
local macro_rules | `(tactic| walk_at "lendS") => `(tactic| repeat (first | exact LendC.nil | apply LendC.no | (apply LendC.one; (exact lend_srch)) | (apply LendC.one; (exact lend_same))))
theorem rd_Search_tree_of (F : SF K c) (n : Nat) : RdO (S_Search_tree_ofN K c (n + 1)) n_Search_tree_of (t_Search_tree_of K c (spO (S_Search_tree_ofN K c n))) := by
  rintro _ _ _ ⟨a, p, box, ss, rfl, k, hb, hw, rfl, rfl⟩ B hm
  have n3 : box.length ≤ 3 := by rw [hb.len]; exact k.n3
  have g := loose_good k hb
  apply bd_set (R := rep (looseOf p box))
  · apply es_call
    · exact ea_consS (es_fld (R := insP c p) (fs := sf c p ss) 0 (ev_var rfl) rfl F.cl F.problem rfl) (EvA.s (ea_cons (ev_var rfl) ea_nil))
    · exact ⟨p, box, rfl, k, hb, rfl⟩
  unfold treeF
  cases e : looseOf p box with
  | none ws =>
    apply bd_ifr (b := decide (("none" : Str) = "none"))
    · exact EvT.s (et_test (ev_op (ev_op (ev_var rfl) ev_int (s_ixTD (d := .str "none") (ds := [.str "none", py ws]) rfl)) ev_str s_eqS))
    · intro _
      exact bd_retO (R := rep (Told.none ws)) (EvD.s (ev_var rfl)) ⟨rfl, rfl⟩
    · intro h
      simp at h
  | most ns sc ws =>
    rw [e] at g
    obtain ⟨gl, g1, g2, gf, ⟨wl, w0⟩, gn, gb⟩ := g
    have tld : ∀ {Γ : Ctx}, EvD Γ (tVar 2) (rep (Told.most ns sc ws)) → EvD Γ (tVar 2) (rpD (.tuple [.str "most", .tuple [py ns, .int sc], py ws, .int sc])) := fun h => h
    apply bd_ifr (b := decide (("most" : Str) = "none"))
    · exact EvT.s (et_test (ev_op (ev_op (tld (ev_var rfl)) ev_int (s_ixTD (d := .str "most") rfl)) ev_str s_eqS))
    · intro h
      have : ¬ (("most" : Str) = "none") := by decide
      exact absurd (of_decide_eq_true h) this
    intro _
    apply bd_set (R := rep ws)
    · exact EvD.s (ev_op (tld (ev_var rfl)) ev_int (s_ixTD (d := py ws) rfl))
    apply bd_set (R := rep sc)
    · exact EvD.s (ev_op (tld (ev_var rfl)) ev_int (s_ixTD (d := .int sc) rfl))
    apply bd_set (R := rep (sumB (factsOf p box) ws (fN p box) / sc))
    · apply es_op (Ra := rep (sumB (factsOf p box) ws (fN p box))) (Rb := rep sc)
      · apply es_op (Ra := rep (summedOf (factsOf p box) ws box.length)) (Rb := rep (1 : Int))
        · apply es_callX
          · exact ea_consS (es_fld (R := insP c p) (fs := sf c p ss) 0 (ev_var rfl) rfl F.cl F.problem rfl) (EvA.s (ea_cons (ev_var rfl) (ea_cons (ev_var rfl) ea_nil)))
          · exact ⟨p, box, ws, rfl, k, hb, wl, w0, rfl⟩
        · exact EvD.s ev_int
        · have z : R2D (rIx K) (rep (summedOf (factsOf p box) ws box.length)) (rep (1 : Int)) (rep (summedOf (factsOf p box) ws box.length).2) := s_snd
          have e2 : (summedOf (factsOf p box) ws box.length).2 = sumB (factsOf p box) ws (fN p box) := by
            show sumB (factsOf p box) ws (factsOf p box).length = _
            rw [factsOf_len]
            rfl
          rw [e2] at z
          exact z
      · exact EvD.s (ev_var rfl)
      · exact s_div ⟨by omega, by omega⟩
    have ret : ∀ {Γ : Ctx} {O : Own} {P : Post} {ss' : SS} {nx bk ct : L2.St → Hp → Hp → Prop} {u : TS} {Po : RP → Own → Prop}, EvD Γ (tVar 3) (rep ws) → EvD Γ (tVar 4) (rep sc) → Po (rep (Tree.bound ws sc)) O → BDe B Γ O (tSeq (tRet (tTup (tCons (tC (.str "bound")) (tCons (tVar 3) (tCons (tVar 4) tNil))))) u) ⟨nx, (fnO B Po).rt, bk, ct⟩ := fun h1 h2 h3 =>
      bd_retO (R := rep (Tree.bound ws sc)) (EvD.s (ev_tupD (ds := [.str "bound", py ws, .int sc]) (ea_cons ev_str (ea_cons h1 (ea_cons h2 ea_nil))))) h3
    apply bd_ifr (b := ss.pt.isSome && decide (sumB (factsOf p box) ws (fN p box) / sc ≤ ss.most))
    · apply et_lend
      · walk_at "lendS"
      · have pt : ∀ {Γ : Ctx}, EvD Γ (tVar 0) (insR c.Search (sf c p ss)) → EvD Γ (tFld K (tVar 0) "point") (rep ss.pt) := fun h => ev_fld h F.cl F.point rfl
        apply et_and
        · apply et_test
          apply ev_op (pt (ev_var rfl)) ev_non
          cases ss.pt with
          | none => exact s_notNo
          | some x =>
            refine s_notYes fun v f h => ?_
            obtain ⟨q, vs, rfl, _⟩ := rep_list (xs := x) h
            exact fun z => nomatch z
        · intro _
          exact et_test (ev_op (ev_var rfl) (ev_fld (ev_var rfl) F.cl F.most rfl) s_le)
    · intro h
      rw [Bool.and_eq_true, decide_eq_true_eq] at h
      simp only [if_pos h]
      exact ret (P := noP) (ss' := ss) (ev_var rfl) (ev_var rfl) ⟨rfl, rfl⟩
    intro h
    have h : ¬ (ss.pt.isSome = true ∧ sumB (factsOf p box) ws (fN p box) / sc ≤ ss.most) := fun z => by
      rw [← decide_eq_true_eq (p := sumB (factsOf p box) ws (fN p box) / sc ≤ ss.most), ← Bool.and_eq_true, h] at z
      cases z
    simp only [if_neg h]
    have t1 : ∀ {Γ : Ctx}, EvD Γ (tVar 2) (rep (Told.most ns sc ws)) → EvD Γ (tOp (rIx K) (tVar 2) (tC (.int 1))) (rpD (.tuple [py ns, .int sc])) := fun h => ev_op (tld h) ev_int (s_ixTD (d := .tuple [py ns, .int sc]) rfl)
    have tsc : ∀ {Γ : Ctx}, EvD Γ (tVar 2) (rep (Told.most ns sc ws)) → EvD Γ (tOp (rIx K) (tOp (rIx K) (tVar 2) (tC (.int 1))) (tC (.int 1))) (rep sc) := fun h => ev_op (t1 h) ev_int (s_ixTD (d := .int sc) rfl)
    apply bd_set (R := rep ns)
    · exact EvD.s (ev_op (t1 (ev_var rfl)) ev_int (s_ixTD (d := py ns) rfl))
    apply bd_set (R := rep ((partN ns sc : Nat) : Int))
    · exact EvD.s (ev_call (ea_cons (ev_var rfl) (ea_cons (tsc (ev_var rfl)) ea_nil)) ⟨ns, sc, rfl, g1, by omega, rfl⟩)
    apply bd_ifr (b := decide (partN ns sc = ns.length))
    · apply EvT.s
      apply et_test
      refine ev_eq (ev_op (ev_var rfl) (ev_cb (ea_cons (ev_var rfl) ea_nil) c_len) s_eqI) ?_
      exact decide_eq_decide.mpr (by omega)
    · intro h2
      have h2 : partN ns sc = ns.length := of_decide_eq_true h2
      simp only [if_pos h2]
      refine bd_methO (fs := sf c p ss) (Po := fun R O' => R = rep () ∧ O' = [(a, insO c.Search (sf c p ⟨some (cutPt ns sc), dot p.gain (cutPt ns sc)⟩))]) 0 (ev_var rfl) rfl rfl (EvA.s (ea_cons (ev_var rfl) (ea_cons (tsc (ev_var rfl)) ea_nil))) ⟨a, p, ss, ns, sc, rfl, k, by rw [gl, hb.len], g1, g2, rfl, rfl⟩ ?_
      rintro R O' ⟨rfl, rfl⟩
      exact ret (P := noP) (ss' := ss) (ev_var rfl) (ev_var rfl) ⟨rfl, rfl⟩
    intro h2
    have h2 : ¬ partN ns sc = ns.length := of_decide_eq_false h2
    simp only [if_neg h2]
    obtain ⟨hu, hmod⟩ := partN_at h2
    generalize partN ns sc = u at hu hmod
    have hu2 : u < box.length := by omega
    obtain ⟨c1, c2⟩ := cut_at k hb gl g1 gf hu2 hmod
    have mid := hb.mid _ hu2
    have b1 := box_set hb hu2 (x := ((at_ box u).1, at_ ns u / sc)) (Int.le_refl _) c1 (by simp only; omega)
    have b2 := box_set hb hu2 (x := (at_ ns u / sc + 1, (at_ box u).2)) (by simp only; omega) c2 (Int.le_refl _)
    have w1 : width (box.set u ((at_ box u).1, at_ ns u / sc)) < n := by
      have := width_set hu2 (x := ((at_ box u).1, at_ ns u / sc)) (by simp only; omega)
      omega
    have w2 : width (box.set u (at_ ns u / sc + 1, (at_ box u).2)) < n := by
      have := width_set hu2 (x := (at_ ns u / sc + 1, (at_ box u).2)) (by simp only; omega)
      omega
    apply bd_set (R := rep (at_ ns u / sc))
    · exact EvD.s (ev_op (ev_op (ev_var rfl) (ev_var rfl) (s_ix (xs := ns) (i := (u : Int)) (by omega) (by omega))) (tsc (ev_var rfl)) (s_div ⟨by omega, by omega⟩))
    apply bd_set (R := rep (at_ box u))
    · exact EvD.s (ev_op (ev_var rfl) (ev_var rfl) (s_ix (xs := box) (i := (u : Int)) (by omega) (by omega)))
    obtain ⟨m, rfl⟩ : ∃ m, n = m + 1 := ⟨n - 1, by omega⟩
    refine bd_setMO (fs := sf c p ss) (Po := fun R O' => R = rep (treeF p (m + 1) (box.set u ((at_ box u).1, at_ ns u / sc)) ss).1 ∧ O' = [(a, insO c.Search (sf c p (treeF p (m + 1) (box.set u ((at_ box u).1, at_ ns u / sc)) ss).2))]) 0 (ev_var rfl) rfl rfl (EvA.s (ea_cons (ev_call (ea_cons (ev_var rfl) (ea_cons (ev_var rfl) (ea_cons (ev_pair (ev_op (ev_var rfl) ev_int s_fst) (ev_var rfl)) ea_nil))) ⟨box, u, _, rfl, hu2, by omega, rfl⟩) ea_nil)) ⟨a, p, _, ss, rfl, k, b1, w1, rfl, rfl⟩ ?_
    rintro R O' ⟨rfl, rfl⟩
    generalize treeF p (m + 1) (box.set u ((at_ box u).1, at_ ns u / sc)) ss = X
    refine bd_setMO (fs := sf c p X.2) (Po := fun R O' => R = rep (treeF p (m + 1) (box.set u (at_ ns u / sc + 1, (at_ box u).2)) X.2).1 ∧ O' = [(a, insO c.Search (sf c p (treeF p (m + 1) (box.set u (at_ ns u / sc + 1, (at_ box u).2)) X.2).2))]) 0 (ev_var rfl) rfl rfl (EvA.s (ea_cons (ev_call (ea_cons (ev_var rfl) (ea_cons (ev_var rfl) (ea_cons (ev_pair (ev_op (ev_var rfl) ev_int s_add) (ev_op (ev_var rfl) ev_int s_snd)) ea_nil))) ⟨box, u, _, rfl, hu2, by omega, rfl⟩) ea_nil)) ⟨a, p, _, X.2, rfl, k, b2, w2, rfl, rfl⟩ ?_
    rintro R O' ⟨rfl, rfl⟩
    generalize treeF p (m + 1) (box.set u (at_ ns u / sc + 1, (at_ box u).2)) X.2 = Y
    exact bd_retO (R := rep (Tree.cut u (at_ ns u / sc) X.1 Y.1)) (EvD.s (ev_tupD (ds := [.str "cut", .int (u : Int), .int (at_ ns u / sc), py X.1, py Y.1]) (ea_cons ev_str (ea_cons (ev_var rfl) (ea_cons (ev_var rfl) (ea_cons (ev_var rfl) (ea_cons (ev_var rfl) ea_nil))))))) ⟨rfl, rfl⟩
theorem rd_solved (F : SF K c) : ∀ Rs R, S_solved K c Rs R → ∀ B : Base, B.m = [] → BDe B (startC n_solved Rs) [] (t_solved K c) (fnP B R) := by
  rintro _ _ ⟨p, rfl, k, rfl⟩ B hm
  refine bd_make (EvA.s (ea_cons (ev_var rfl) ea_nil)) fun a => ⟨_, ⟨a, p, rfl, rfl, rfl⟩, ?_⟩
  rintro R O' ⟨rfl, rfl⟩
  refine ⟨rfl, ?_⟩
  refine bd_setMO (fs := sf c p ⟨none, 0⟩) (Po := fun R O' => R = rep (treeF p 61 (wholeB p) ⟨none, 0⟩).1 ∧ O' = [(a, insO c.Search (sf c p (treeF p 61 (wholeB p) ⟨none, 0⟩).2))]) 0 (ev_var rfl) rfl rfl (EvA.s (ea_cons (ev_call (ea_cons (ev_var rfl) ea_nil) ⟨p, rfl, k, rfl⟩) ea_nil)) ⟨a, p, wholeB p, ⟨none, 0⟩, rfl, k, whole_ok k, Nat.lt_succ_of_le (width_whole k), rfl, rfl⟩ ?_
  rintro R O' ⟨rfl, rfl⟩
  refine bd_frzI (fs := sf c p (treeF p 61 (wholeB p) ⟨none, 0⟩).2) 0 1 rfl rfl (fresh_nil hm) ?_
  apply bd_retR hm
  exact EvD.s (ev_pair (a := (treeF p 61 (wholeB p) ⟨none, 0⟩).2.pt) (b := (treeF p 61 (wholeB p) ⟨none, 0⟩).1) (ev_fld (ev_var rfl) F.cl F.point rfl) (ev_var rfl))
end
end D

set_option Elab.async false
set_option linter.all false
set_option maxRecDepth 100000
set_option maxHeartbeats 4000000
namespace D
open PySem PySem.Spec PyProof.Rows L2
open ToPy (py)
local macro_rules | `(tactic| walk_at "side") => `(tactic| first | assumption | omega | (refine Int.emod_nonneg _ ?_; omega) | (refine Int.emod_lt_of_pos _ ?_; omega) | (simp at *; omega) | (simp; done) | decide | skip)
local macro_rules | `(tactic| walk_at "d") => `(tactic| first
  | with_reducible exact ev_int | with_reducible exact ev_str | with_reducible exact ev_bl | with_reducible exact ev_non
  | exact ev_var rfl
  | with_reducible exact ev_ty
  | with_reducible exact ev_cls
  | ((with_reducible apply ev_op) <;> walk_at "d")
  | ((with_reducible apply ev_un) <;> walk_at "d")
  | ((with_reducible apply ev_call) <;> walk_at "d")
  | ((with_reducible apply ev_callX) <;> walk_at "d")
  | ((with_reducible apply ev_cb) <;> walk_at "d")
  | with_reducible exact ea_nil
  | ((with_reducible apply ea_cons) <;> walk_at "d")
  | with_reducible exact s_add
  | with_reducible exact s_sub
  | with_reducible exact s_lt
  | with_reducible exact s_le
  | with_reducible exact s_gt
  | with_reducible exact s_ge
  | with_reducible exact s_eqI
  | with_reducible exact s_neI
  | with_reducible exact s_eqS
  | with_reducible exact s_neS
  | with_reducible exact s_neB
  | exact s_eqSame (sh_ints2 _) | exact s_neSame (sh_ints2 _) | exact s_eqSame (sh_ints _) | exact s_neSame (sh_ints _)
  | ((with_reducible apply s_mod) <;> walk_at "side")
  | walk_at "div" | walk_at "mul"
  | ((with_reducible apply s_catL) <;> walk_at "side")
  | ((with_reducible apply s_repL) <;> walk_at "side")
  | with_reducible exact s_fst
  | with_reducible exact s_snd
  | with_reducible exact s_t0
  | with_reducible exact s_t1
  | with_reducible exact s_t2
  | ((with_reducible apply s_last) <;> walk_at "side")
  | ((with_reducible apply s_ixS) <;> walk_at "side")
  | ((with_reducible apply s_ix) <;> walk_at "side")
  | ((with_reducible apply s_ixT) <;> walk_at "side")
  | with_reducible exact s_negI
  | with_reducible exact c_len
  | with_reducible exact c_lI
  | with_reducible exact c_tI
  | with_reducible exact c_pI
  | with_reducible exact c_t3I
  | with_reducible exact c_sI
  | with_reducible exact c_iI
  | with_reducible exact c_iB
  | with_reducible exact c_lenP
  | with_reducible exact c_len3
  | with_reducible exact c_isInt
  | with_reducible exact c_isBool
  | with_reducible exact c_isStr
  | with_reducible exact c_isList
  | with_reducible exact c_isTup
  | with_reducible exact c_lenTup
  | with_reducible exact c_lenScr
  | with_reducible exact c_listD
  | with_reducible exact c_listTD
  | with_reducible exact c_tup
  | with_reducible exact c_abs
  | with_reducible exact c_min2
  | with_reducible exact c_max2
  | with_reducible exact c_intB
  | with_reducible exact c_sum
  | ((with_reducible apply c_min) <;> walk_at "side")
  | ((with_reducible apply c_max) <;> walk_at "side")
  | ((with_reducible apply et_val) <;> walk_at "d")
  | ((with_reducible apply et_test) <;> walk_at "d")
  | ((with_reducible apply et_not) <;> walk_at "d")
  | ((with_reducible apply et_and) <;> (try with_reducible intro _) <;> walk_at "d")
  | ((with_reducible apply et_or) <;> (try with_reducible intro _) <;> walk_at "d")
  | ((with_reducible apply ev_and) <;> (try with_reducible intro _) <;> walk_at "d")
  | ((with_reducible apply ev_or) <;> (try with_reducible intro _) <;> walk_at "d")
  | ((with_reducible apply ev_chain) <;> (try with_reducible intro _) <;> walk_at "d")
  | ((with_reducible apply ev_not) <;> walk_at "d")
  | ((with_reducible apply ev_pair) <;> walk_at "d")
  | ((with_reducible apply ev_t3) <;> walk_at "d")
  | ((with_reducible apply ev_lst1) <;> walk_at "d")
  | ((with_reducible apply ev_lst2) <;> walk_at "d")
  | ((with_reducible apply ev_lst3) <;> walk_at "d")
  | ((with_reducible apply ev_lst4) <;> walk_at "d")
  | ((with_reducible apply ev_cut) <;> walk_at "d")
  | ((with_reducible apply ep_some) <;> walk_at "d")
  | ((with_reducible apply EvD.s) <;> walk_at "d")
  | ((with_reducible apply EvT.s) <;> walk_at "d")
  | ((with_reducible apply EvN.s) <;> walk_at "d")
  | ((with_reducible apply en_lst1) <;> walk_at "d")
  | ((with_reducible apply en_lst2) <;> walk_at "d")
  | ((with_reducible apply en_lst3) <;> walk_at "d")
  | ((with_reducible apply en_lst4) <;> walk_at "d")
  | ((with_reducible apply en_cut) <;> walk_at "d")
  | with_reducible exact ev_lst0
  | with_reducible exact ep_none
  | with_reducible exact en_lst0
  | ((with_reducible apply wi_L) <;> walk_at "d")
  | ((with_reducible apply wi_T) <;> walk_at "d")
  | ((with_reducible apply wi_zip) <;> walk_at "d")
  | ((with_reducible apply WiD.s) <;> walk_at "d")
  | ((with_reducible apply wi_range) <;> walk_at "side")
  | exact spec_cell (by omega) (by omega)
  | skip)
local macro_rules | `(tactic| walk_at "div") => `(tactic| first
  | exact s_div ⟨by omega, by omega⟩
  | exact s_divW (wd_div (by first | assumption | omega) (by assumption))
  | with_reducible apply s_div)
local macro_rules | `(tactic| walk_at "mul") => `(tactic| first
  | exact s_mul (Or.inl ⟨by omega, by omega⟩) | exact s_mul (Or.inr ⟨by omega, by omega⟩)
  | exact s_mulW (wd_mul (by assumption) (by assumption))
  | with_reducible apply s_mulW)
local macro_rules | `(tactic| walk_at "fg") => `(tactic| repeat (first | exact Fg.nil | apply Fg.same | apply Fg.drop | (refine Fg.eq ?_ ?_; rotate_left)))
local macro_rules | `(tactic| walk_at "end") => `(tactic| exact bd_turnE trivial rfl (by walk_at "fg"))
local macro_rules | `(tactic| walk_at "range") => `(tactic| (apply WiD.s; apply wi_range; (walk_at "d"); omega; omega))
local macro_rules | `(tactic| walk_at "app") => `(tactic| (refine' bd_appR 0 ?_ rfl ?_ ?_ ?_ ?_; (walk_at "d"); (walk_at "d"); rotate_right))
local macro_rules | `(tactic| walk_at "lend") => `(tactic| repeat (first | exact LendC.nil | apply LendC.no | (apply LendC.one; (exact lend_list 0 rfl)) | (apply LendC.one; (exact lend_same))))
/-! ### rows cut to five, a row more, halves -/
noncomputable def gainW (p : Prob) : Option Int := (solvedOf p).1.map (dot p.gain)
def rows5 (ns : List Int) : List Row := cut (rowsOf ns) none (some 5)
def prob5 (ns : List Int) : Prob := ⟨topsOf ns, rows5 ns, gainOf ns⟩
def Prob.more (p : Prob) (r : Row) : Prob := ⟨p.tops, p.rows ++ [r], p.gain⟩
theorem cut_mem {α : Type} [ToPy α] {xs : List α} {lo hi : Option Int} {x : α} (h : x ∈ cut xs lo hi) : x ∈ xs := by
  unfold cut at h
  exact List.mem_of_mem_drop (List.mem_of_mem_take h)
theorem rows5_len (ns : List Int) : (rows5 ns).length ≤ 5 := by
  unfold rows5 cut
  rw [List.length_take, List.length_drop]
  have : HT.sIx (rowsOf ns).length (rowsOf ns).length (some (5 : Int)) ≤ 5 := by
    show (if (5 : Int) < 0 then ((5 : Int) + ((rowsOf ns).length : Int)).toNat else min (5 : Int).toNat (rowsOf ns).length) ≤ 5
    rw [if_neg (by omega)]
    exact Nat.min_le_left _ _
  omega
theorem prob5_ok (ns : List Int) : (prob5 ns).Ok := by
  have k := prob_ok ns
  have l := rows5_len ns
  exact ⟨k.n1, k.n3, k.tops, (show (rows5 ns).length ≤ 6 by omega), fun r hr => k.rl r (cut_mem hr), fun r hr => k.rn r (cut_mem hr), fun r hr => k.rw r (cut_mem hr), fun r hr => k.rb r (cut_mem hr), k.gl, k.gn⟩
theorem more_ok {p : Prob} (k : p.Ok) (h5 : p.rows.length ≤ 5) {r : Row} (h1 : r.a.l.length = p.tops.length) (h2 : ∀ x ∈ r.a.l, -50 ≤ x ∧ x ≤ 50) (h3 : r.b = "most" ∨ r.b = "least") (h4 : -2000 ≤ r.c ∧ r.c ≤ 2000) : (p.more r).Ok := by
  have m : ∀ {Q : Row → Prop}, (∀ s ∈ p.rows, Q s) → Q r → ∀ s ∈ (p.more r).rows, Q s := fun {Q} h h' s hs => by
    rcases List.mem_append.mp hs with z | z
    · exact h s z
    · rw [List.mem_singleton.mp z]
      exact h'
  exact ⟨k.n1, k.n3, k.tops, (show (p.rows ++ [r]).length ≤ 6 by simp; omega), m k.rl h1, m k.rn h2, m k.rw h3, m k.rb h4, k.gl, k.gn⟩
theorem met_more (p : Prob) (r : Row) (y : List Int) : met (p.more r) y = (met p y && rowMet r y) := by
  unfold met Prob.more
  simp [Bool.and_assoc]
def unit_ (n u : Nat) : List Int := (List.range n).map fun (k : Nat) => if decide ((k : Int) = (u : Int)) = true then 1 else 0
theorem unit_alone {n u : Nat} (hu : u < n) : unit_ n u = (aloneT n u 1).l := by
  apply list_ext_at
  · simp [unit_, aloneT]
  · intro j hj
    have hj : j < n := by simpa [unit_] using hj
    unfold unit_
    rw [at_map_range _ hj]
    unfold at_ aloneT
    rw [List.getD_eq_getElem?_getD, List.getElem?_set]
    simp
    by_cases e : u = j
    · rw [if_pos e, if_pos (by rw [e])]
      simp [hu]
    · rw [if_neg e, if_neg (by omega)]
      simp [hj]
theorem dot_unit {n u : Nat} {y : List Int} (hn : n ≤ 3) (hu : u < n) (hy : y.length = n) : dot (unit_ n u) y = at_ y u := by
  rw [unit_alone hu, dot_alone hn hu hy]
  omega
theorem met_halves {p : Prob} (k : p.Ok) {u : Nat} (hu : u < p.tops.length) {z : Int} {y : List Int} (hy : y.length = p.tops.length) :
    met (p.more ⟨⟨unit_ p.tops.length u⟩, "most", z⟩) y = (met p y && decide (at_ y u ≤ z)) ∧ met (p.more ⟨⟨unit_ p.tops.length u⟩, "least", z + 1⟩) y = (met p y && decide (z + 1 ≤ at_ y u)) := by
  have d := dot_unit k.n3 hu hy
  rw [met_more, met_more]
  constructor
  · unfold rowMet
    rw [if_pos rfl]
    simp only [d]
  · unfold rowMet
    rw [if_neg (show ¬ (("least" : Str) = "most") by decide)]
    simp only [d]
/-- the parts' best are the whole's -/
def parts (a b : Option Int) : List Int := a.toList ++ b.toList
theorem halves {p : Prob} (k : p.Ok) (h5 : p.rows.length ≤ 5) {u : Nat} (hu : u < p.tops.length) {z : Int} (k1 : (p.more ⟨⟨unit_ p.tops.length u⟩, "most", z⟩).Ok) (k2 : (p.more ⟨⟨unit_ p.tops.length u⟩, "least", z + 1⟩).Ok) {a b : Option Int}
    (ea : a = gainW (p.more ⟨⟨unit_ p.tops.length u⟩, "most", z⟩)) (eb : b = gainW (p.more ⟨⟨unit_ p.tops.length u⟩, "least", z + 1⟩)) :
    (parts a b = [] → gainW p = none) ∧ (parts a b ≠ [] → gainW p = some (greatest (parts a b))) := by
  have w := solved_best k
  have w1 := solved_best k1
  have w2 := solved_best k2
  unfold gainW at ea eb ⊢
  generalize (solvedOf p).1 = o at w
  generalize (solvedOf (p.more ⟨⟨unit_ p.tops.length u⟩, "most", z⟩)).1 = o1 at w1 ea
  generalize (solvedOf (p.more ⟨⟨unit_ p.tops.length u⟩, "least", z + 1⟩)).1 = o2 at w2 eb
  -- a number of the parts is what a point of the whole gains
  have from_ : ∀ x, x ∈ parts a b → ∃ y : List Int, y.length = p.tops.length ∧ met p y = true ∧ dot p.gain y = x := fun x hx => by
    rcases List.mem_append.mp hx with h | h
    · cases o1 with
      | none => rw [ea] at h; cases h
      | some y =>
        obtain ⟨l, m, _⟩ := w1.some y rfl
        have l : y.length = p.tops.length := l
        rw [(met_halves k hu l).1, Bool.and_eq_true] at m
        rw [ea] at h
        exact ⟨y, l, m.1, (List.mem_singleton.mp h).symm⟩
    · cases o2 with
      | none => rw [eb] at h; cases h
      | some y =>
        obtain ⟨l, m, _⟩ := w2.some y rfl
        have l : y.length = p.tops.length := l
        rw [(met_halves k hu l).2, Bool.and_eq_true] at m
        rw [eb] at h
        exact ⟨y, l, m.1, (List.mem_singleton.mp h).symm⟩
  have to : ∀ y : List Int, y.length = p.tops.length → met p y = true → ∃ x, x ∈ parts a b ∧ dot p.gain y ≤ x := fun y hy hm => by
    rcases Int.lt_or_le z (at_ y u) with q | q
    · have m : met (p.more ⟨⟨unit_ p.tops.length u⟩, "least", z + 1⟩) y = true := by
        rw [(met_halves k hu hy).2, hm, Bool.true_and]
        exact decide_eq_true (by omega)
      cases o2 with
      | none =>
        have := w2.none rfl y hy
        rw [m] at this
        cases this
      | some x =>
        refine ⟨dot p.gain x, List.mem_append.mpr (.inr ?_), (w2.some x rfl).2.2 y hy m⟩
        rw [eb]
        exact List.mem_singleton.mpr rfl
    · have m : met (p.more ⟨⟨unit_ p.tops.length u⟩, "most", z⟩) y = true := by
        rw [(met_halves k hu hy).1, hm, Bool.true_and]
        exact decide_eq_true q
      cases o1 with
      | none =>
        have := w1.none rfl y hy
        rw [m] at this
        cases this
      | some x =>
        refine ⟨dot p.gain x, List.mem_append.mpr (.inl ?_), (w1.some x rfl).2.2 y hy m⟩
        rw [ea]
        exact List.mem_singleton.mpr rfl
  constructor
  · intro h
    cases o with
    | none => rfl
    | some x =>
      obtain ⟨l, m, _⟩ := w.some x rfl
      obtain ⟨q, hq, _⟩ := to x l m
      rw [h] at hq
      cases hq
  · intro h
    obtain ⟨g1, g2⟩ := greatest_mem (l := parts a b) (List.length_pos_iff.mpr h)
    obtain ⟨y, l, m, e⟩ := from_ _ g1
    cases o with
    | none =>
      have := w.none rfl y l
      rw [m] at this
      cases this
    | some x =>
      obtain ⟨l', m', b'⟩ := w.some x rfl
      obtain ⟨q, hq, le⟩ := to x l' m'
      have := g2 q hq
      have := b' y l m
      show some (dot p.gain x) = _
      congr 1
      omega
section
variable {K : PySem.W.Frag} {c : Cs}
theorem rep_notnone {i : Int} : ∀ v f, (rep i).p v f → v ≠ .non := fun v f h => by
  cases rep_int h
  exact fun z => nomatch z
theorem s_notO {o : Option Int} : R2D rNotNo (rep o) (rep ()) (rep o.isSome) := by
  cases o with
  | none => exact s_notNo
  | some x => exact s_notYes (rep_notnone (i := x))
theorem s_isO {o : Option Int} : R2D rIsNo (rep o) (rep ()) (rep o.isNone) := by
  cases o with
  | none => exact s_isYes
  | some x => exact s_isNo (rep_notnone (i := x))
theorem s_eqE {o : Option Int} : R2D (rEqX K) (rep o) (rep ("" : Str)) (rep false) := by
  cases o with
  | none =>
    have z := s_eqA (K := K) (a := (none : Option Int)) (b := ("" : Str)) shd_none (shd_str (by decide +kernel))
    exact z
  | some x =>
    have z := s_eqA (K := K) (a := x) (b := ("" : Str)) (shd_int x) (shd_str (by decide +kernel))
    exact z
end
end D

set_option Elab.async false
set_option linter.all false
set_option maxRecDepth 100000
set_option maxHeartbeats 4000000
namespace D
open PySem PySem.Spec PyProof.Rows L2
open ToPy (py)
local macro_rules | `(tactic| walk_at "side") => `(tactic| first | assumption | omega | (refine Int.emod_nonneg _ ?_; omega) | (refine Int.emod_lt_of_pos _ ?_; omega) | (simp at *; omega) | (simp; done) | decide | skip)
local macro_rules | `(tactic| walk_at "d") => `(tactic| first
  | with_reducible exact ev_int | with_reducible exact ev_str | with_reducible exact ev_bl | with_reducible exact ev_non
  | exact ev_var rfl
  | with_reducible exact ev_ty
  | with_reducible exact ev_cls
  | ((with_reducible apply ev_op) <;> walk_at "d")
  | ((with_reducible apply ev_un) <;> walk_at "d")
  | ((with_reducible apply ev_call) <;> walk_at "d")
  | ((with_reducible apply ev_callX) <;> walk_at "d")
  | ((with_reducible apply ev_cb) <;> walk_at "d")
  | with_reducible exact ea_nil
  | ((with_reducible apply ea_cons) <;> walk_at "d")
  | with_reducible exact s_add
  | with_reducible exact s_sub
  | with_reducible exact s_lt
  | with_reducible exact s_le
  | with_reducible exact s_gt
  | with_reducible exact s_ge
  | with_reducible exact s_eqI
  | with_reducible exact s_neI
  | with_reducible exact s_eqS
  | with_reducible exact s_neS
  | with_reducible exact s_neB
  | exact s_eqSame (sh_ints2 _) | exact s_neSame (sh_ints2 _) | exact s_eqSame (sh_ints _) | exact s_neSame (sh_ints _)
  | ((with_reducible apply s_mod) <;> walk_at "side")
  | walk_at "div" | walk_at "mul"
  | ((with_reducible apply s_catL) <;> walk_at "side")
  | ((with_reducible apply s_repL) <;> walk_at "side")
  | with_reducible exact s_fst
  | with_reducible exact s_snd
  | with_reducible exact s_t0
  | with_reducible exact s_t1
  | with_reducible exact s_t2
  | ((with_reducible apply s_last) <;> walk_at "side")
  | ((with_reducible apply s_ixS) <;> walk_at "side")
  | ((with_reducible apply s_ix) <;> walk_at "side")
  | ((with_reducible apply s_ixT) <;> walk_at "side")
  | with_reducible exact s_negI
  | with_reducible exact c_len
  | with_reducible exact c_lI
  | with_reducible exact c_tI
  | with_reducible exact c_pI
  | with_reducible exact c_t3I
  | with_reducible exact c_sI
  | with_reducible exact c_iI
  | with_reducible exact c_iB
  | with_reducible exact c_lenP
  | with_reducible exact c_len3
  | with_reducible exact c_isInt
  | with_reducible exact c_isBool
  | with_reducible exact c_isStr
  | with_reducible exact c_isList
  | with_reducible exact c_isTup
  | with_reducible exact c_lenTup
  | with_reducible exact c_lenScr
  | with_reducible exact c_listD
  | with_reducible exact c_listTD
  | with_reducible exact c_tup
  | with_reducible exact c_abs
  | with_reducible exact c_min2
  | with_reducible exact c_max2
  | with_reducible exact c_intB
  | with_reducible exact c_sum
  | ((with_reducible apply c_min) <;> walk_at "side")
  | ((with_reducible apply c_max) <;> walk_at "side")
  | ((with_reducible apply et_val) <;> walk_at "d")
  | ((with_reducible apply et_test) <;> walk_at "d")
  | ((with_reducible apply et_not) <;> walk_at "d")
  | ((with_reducible apply et_and) <;> (try with_reducible intro _) <;> walk_at "d")
  | ((with_reducible apply et_or) <;> (try with_reducible intro _) <;> walk_at "d")
  | ((with_reducible apply ev_and) <;> (try with_reducible intro _) <;> walk_at "d")
  | ((with_reducible apply ev_or) <;> (try with_reducible intro _) <;> walk_at "d")
  | ((with_reducible apply ev_chain) <;> (try with_reducible intro _) <;> walk_at "d")
  | ((with_reducible apply ev_not) <;> walk_at "d")
  | ((with_reducible apply ev_pair) <;> walk_at "d")
  | ((with_reducible apply ev_t3) <;> walk_at "d")
  | ((with_reducible apply ev_lst1) <;> walk_at "d")
  | ((with_reducible apply ev_lst2) <;> walk_at "d")
  | ((with_reducible apply ev_lst3) <;> walk_at "d")
  | ((with_reducible apply ev_lst4) <;> walk_at "d")
  | ((with_reducible apply ev_cut) <;> walk_at "d")
  | ((with_reducible apply ep_some) <;> walk_at "d")
  | ((with_reducible apply EvD.s) <;> walk_at "d")
  | ((with_reducible apply EvT.s) <;> walk_at "d")
  | ((with_reducible apply EvN.s) <;> walk_at "d")
  | ((with_reducible apply en_lst1) <;> walk_at "d")
  | ((with_reducible apply en_lst2) <;> walk_at "d")
  | ((with_reducible apply en_lst3) <;> walk_at "d")
  | ((with_reducible apply en_lst4) <;> walk_at "d")
  | ((with_reducible apply en_cut) <;> walk_at "d")
  | with_reducible exact ev_lst0
  | with_reducible exact ep_none
  | with_reducible exact en_lst0
  | ((with_reducible apply wi_L) <;> walk_at "d")
  | ((with_reducible apply wi_T) <;> walk_at "d")
  | ((with_reducible apply wi_zip) <;> walk_at "d")
  | ((with_reducible apply WiD.s) <;> walk_at "d")
  | ((with_reducible apply wi_range) <;> walk_at "side")
  | exact spec_cell (by omega) (by omega)
  | skip)
local macro_rules | `(tactic| walk_at "div") => `(tactic| first
  | exact s_div ⟨by omega, by omega⟩
  | exact s_divW (wd_div (by first | assumption | omega) (by assumption))
  | with_reducible apply s_div)
local macro_rules | `(tactic| walk_at "mul") => `(tactic| first
  | exact s_mul (Or.inl ⟨by omega, by omega⟩) | exact s_mul (Or.inr ⟨by omega, by omega⟩)
  | exact s_mulW (wd_mul (by assumption) (by assumption))
  | with_reducible apply s_mulW)
local macro_rules | `(tactic| walk_at "fg") => `(tactic| repeat (first | exact Fg.nil | apply Fg.same | apply Fg.drop | (refine Fg.eq ?_ ?_; rotate_left)))
local macro_rules | `(tactic| walk_at "end") => `(tactic| exact bd_turnE trivial rfl (by walk_at "fg"))
local macro_rules | `(tactic| walk_at "range") => `(tactic| (apply WiD.s; apply wi_range; (walk_at "d"); omega; omega))
local macro_rules | `(tactic| walk_at "app") => `(tactic| (refine' bd_appR 0 ?_ rfl ?_ ?_ ?_ ?_; (walk_at "d"); (walk_at "d"); rotate_right))
local macro_rules | `(tactic| walk_at "lend") => `(tactic| repeat (first | exact LendC.nil | apply LendC.no | (apply LendC.one; (exact lend_list 0 rfl)) | (apply LendC.one; (exact lend_same))))
/-! ### what a tree shows -/
def wsB (ws : List Int) (n : Nat) : Bool := decide (ws.length = n) && ws.all fun w => decide (0 ≤ w)
def sumsN (p : Prob) (box : Box) (ws : List Int) : List Int := (List.range box.length).map fun u => sumN (factsOf p box) ws (fN p box) u
def noneB (p : Prob) (box : Box) (ws : List Int) : Bool := wsB ws (fN p box) && (decide (sumsN p box ws = List.replicate box.length 0) && decide (sumB (factsOf p box) ws (fN p box) < 0))
def boundB (p : Prob) (box : Box) (ws : List Int) (sc : Int) : Option Int → Bool
  | none => false
  | some m => wsB ws (fN p box) && (decide (1 ≤ sc) && (decide (sumsN p box ws = (List.range p.gain.length).map fun u => sc * at_ p.gain u) && decide (sumB (factsOf p box) ws (fN p box) / sc ≤ m)))
def holdsB (p : Prob) (mo : Option Int) : Box → Tree → Bool
  | box, .none ws => noneB p box ws
  | box, .bound ws sc => boundB p box ws sc mo
  | box, .cut u k b a => decide (0 ≤ u ∧ u < (box.length : Int)) && (decide ((at_ box u.toNat).1 ≤ k ∧ k < (at_ box u.toNat).2) && (holdsB p mo (box.set u.toNat ((at_ box u.toNat).1, k)) b && holdsB p mo (box.set u.toNat (k + 1, (at_ box u.toNat).2)) a))
def Tree.deep : Tree → Nat
  | .none _ => 0
  | .bound _ _ => 0
  | .cut _ _ b a => max b.deep a.deep + 1
def answerB (p : Prob) (o : Option (List Int)) (t : Tree) : Bool := match o with
  | none => holdsB p none (wholeB p) t
  | some x => (decide (x.length = p.tops.length) && met p x) && holdsB p (some (dot p.gain x)) (wholeB p) t
def MoOk (mo : Option Int) : Prop := ∀ m, mo = some m → -(2 ^ 40) < m ∧ m < 2 ^ 40
theorem wsB_of {ws : List Int} {n : Nat} (h1 : ws.length = n) (h2 : ∀ w ∈ ws, 0 ≤ w) : wsB ws n = true := by
  unfold wsB
  rw [Bool.and_eq_true]
  exact ⟨decide_eq_true h1, List.all_eq_true.mpr fun w hw => decide_eq_true (h2 w hw)⟩
theorem sums_zero {p : Prob} {box : Box} {ws : List Int} (h : ∀ u, u < box.length → sumN (factsOf p box) ws (fN p box) u = 0) : sumsN p box ws = List.replicate box.length 0 := by
  unfold sumsN
  rw [← List.map_const']
  · have : ∀ (l : List Nat), (∀ u ∈ l, u < box.length) → l.map (fun u => sumN (factsOf p box) ws (fN p box) u) = List.replicate l.length 0 := fun l => by
      intro hl
      induction l with
      | nil => rfl
      | cons a l ih =>
        rw [List.map_cons, h a (hl a (by simp)), ih fun u hu => hl u (List.mem_cons_of_mem _ hu)]
        rfl
    have z := this (List.range box.length) fun u hu => List.mem_range.mp hu
    rw [List.length_range] at z
    rw [z]
    simp [List.map_const']
theorem sums_gain {p : Prob} {box : Box} (e : p.gain.length = box.length) {ws : List Int} {sc : Int} (h : ∀ u, u < box.length → sumN (factsOf p box) ws (fN p box) u = sc * at_ p.gain u) : sumsN p box ws = (List.range p.gain.length).map fun u => sc * at_ p.gain u := by
  unfold sumsN
  rw [e]
  exact List.map_congr_left fun u hu => h u (List.mem_range.mp hu)
theorem set_box {p : Prob} {box : Box} (hb : BoxOk p box) {u : Nat} {x : Int × Int} (hu : u < box.length) (h1 : (at_ box u).1 ≤ x.1) (h2 : x.1 ≤ x.2) (h3 : x.2 ≤ (at_ box u).2) : BoxOk p (box.set u x) := box_set hb hu h1 h2 h3
theorem tree_holds {p : Prob} (k : p.Ok) : ∀ (n : Nat) (box : Box) (ss : SS), BoxOk p box → width box < n → SSok p ss → ∀ mo : Option Int, ((treeF p n box ss).2.pt.isSome = true → ∃ m, mo = some m ∧ (treeF p n box ss).2.most ≤ m) →
    holdsB p mo box (treeF p n box ss).1 = true ∧ (treeF p n box ss).1.deep < n
  | 0, _, _, _, h, _, _, _ => by omega
  | n + 1, box, ss, hb, hw, hs, mo, hmo => by
    have n3 : box.length ≤ 3 := by rw [hb.len]; exact k.n3
    have g := loose_good k hb
    have gl2 : p.gain.length = box.length := by rw [hb.len]; exact k.gl
    revert hmo
    unfold treeF
    cases e : looseOf p box with
    | none ws =>
      rw [e] at g
      obtain ⟨⟨wl, w0⟩, g1, g2⟩ := g
      intro _
      refine ⟨?_, by simp [Tree.deep]⟩
      show noneB p box ws = true
      unfold noneB
      rw [wsB_of wl w0, decide_eq_true (sums_zero g1), decide_eq_true g2]
      rfl
    | most ns sc ws =>
      rw [e] at g
      obtain ⟨gl, g1, _, gf, ⟨wl, w0⟩, gn, gb⟩ := g
      have bnd : ∀ m, sumB (factsOf p box) ws (fN p box) / sc ≤ m → boundB p box ws sc (some m) = true := fun m hm => by
        show (wsB ws (fN p box) && (decide (1 ≤ sc) && (decide (sumsN p box ws = (List.range p.gain.length).map fun u => sc * at_ p.gain u) && decide (sumB (factsOf p box) ws (fN p box) / sc ≤ m)))) = true
        rw [wsB_of wl w0, decide_eq_true g1, decide_eq_true (sums_gain gl2 gn), decide_eq_true hm]
        rfl
      simp only
      split
      · rename_i c
        intro hmo
        obtain ⟨m, rfl, hm⟩ := hmo c.1
        exact ⟨bnd m (Int.le_trans c.2 hm), by simp [Tree.deep]⟩
      · rename_i c
        split
        · rename_i hp
          intro hmo
          have dv := partN_all hp
          have gd : sumB (factsOf p box) ws (fN p box) / sc = dot p.gain (cutPt ns sc) := by
            rw [gb, div_dot g1 (by rw [k.gl]; exact k.n3) (by rw [k.gl, gl, hb.len]) dv]
            exact Int.mul_ediv_cancel_left _ (by omega)
          obtain ⟨m, rfl, hm⟩ := hmo rfl
          refine ⟨bnd m ?_, by simp [Tree.deep]⟩
          rw [gd]
          exact hm
        · rename_i hp
          intro hmo
          obtain ⟨hu, hm⟩ := partN_at hp
          have hu : partN ns sc < box.length := by omega
          obtain ⟨c1, c2⟩ := cut_at k hb gl g1 gf hu hm
          have mid := hb.mid _ hu
          have b1 := box_set hb hu (x := ((at_ box (partN ns sc)).1, at_ ns (partN ns sc) / sc)) (Int.le_refl _) c1 (by omega)
          have b2 := box_set hb hu (x := (at_ ns (partN ns sc) / sc + 1, (at_ box (partN ns sc)).2)) (by omega) c2 (Int.le_refl _)
          have w1 : width (box.set (partN ns sc) ((at_ box (partN ns sc)).1, at_ ns (partN ns sc) / sc)) < n := by
            have := width_set hu (x := ((at_ box (partN ns sc)).1, at_ ns (partN ns sc) / sc)) (by simp only; omega)
            omega
          have w2 : width (box.set (partN ns sc) (at_ ns (partN ns sc) / sc + 1, (at_ box (partN ns sc)).2)) < n := by
            have := width_set hu (x := (at_ ns (partN ns sc) / sc + 1, (at_ box (partN ns sc)).2)) (by simp only; omega)
            omega
          have t1 := tree_ok k n _ ss b1 w1 hs
          have t2 := tree_ok k n _ _ b2 w2 t1.ok
          obtain ⟨y1, y2⟩ := tree_holds k n _ _ b2 w2 t1.ok mo hmo
          obtain ⟨x1, x2⟩ := tree_holds k n _ ss b1 w1 hs mo fun h => by
            obtain ⟨m1, m2⟩ := t2.mono h
            obtain ⟨m, e, le⟩ := hmo m1
            exact ⟨m, e, Int.le_trans m2 le⟩
          refine ⟨?_, ?_⟩
          · show (decide (0 ≤ ((partN ns sc : Nat) : Int) ∧ ((partN ns sc : Nat) : Int) < (box.length : Int)) && (decide ((at_ box (partN ns sc)).1 ≤ at_ ns (partN ns sc) / sc ∧ at_ ns (partN ns sc) / sc < (at_ box (partN ns sc)).2) && (holdsB p mo (box.set (partN ns sc) ((at_ box (partN ns sc)).1, at_ ns (partN ns sc) / sc)) _ && holdsB p mo (box.set (partN ns sc) (at_ ns (partN ns sc) / sc + 1, (at_ box (partN ns sc)).2)) _))) = true
            rw [x1, y1, decide_eq_true ⟨by omega, by omega⟩, decide_eq_true ⟨by omega, by omega⟩]
            rfl
          · show max _ _ + 1 < n + 1
            omega
theorem solved_answer {p : Prob} (k : p.Ok) : answerB p (solvedOf p).1 (solvedOf p).2 = true ∧ (solvedOf p).2.deep < 61 := by
  have s0 : SSok p ⟨none, 0⟩ := ⟨(fun x h => nomatch h), (fun x h => nomatch h), (fun x h => nomatch h)⟩
  have w : width (wholeB p) < 61 := by have := width_whole k; omega
  have t := tree_ok k 61 (wholeB p) ⟨none, 0⟩ (whole_ok k) w s0
  have h := tree_holds k 61 (wholeB p) ⟨none, 0⟩ (whole_ok k) w s0
  show answerB p (treeF p 61 (wholeB p) ⟨none, 0⟩).2.pt (treeF p 61 (wholeB p) ⟨none, 0⟩).1 = true ∧ (treeF p 61 (wholeB p) ⟨none, 0⟩).1.deep < 61
  generalize treeF p 61 (wholeB p) ⟨none, 0⟩ = X at t h
  obtain ⟨tr, pt, most⟩ := X
  cases pt with
  | none => exact h none fun z => by cases z
  | some x =>
    obtain ⟨h1, h2⟩ := h (some most) fun _ => ⟨most, rfl, Int.le_refl _⟩
    have e : most = dot p.gain x := t.ok.most x rfl
    rw [e] at h1
    refine ⟨?_, h2⟩
    show ((decide (x.length = p.tops.length) && met p x) && holdsB p (some (dot p.gain x)) (wholeB p) tr) = true
    rw [h1, decide_eq_true (t.ok.len x rfl), t.ok.met x rfl]
    rfl
/-! equal lists of whole numbers -/
theorem eqv_ints : ∀ xs ys : List Int, PyData.eqvAll (xs.map PyData.int) (ys.map PyData.int) = decide (xs = ys)
  | [], [] => by simp [PyData.eqvAll]
  | [], b :: ys => by simp [PyData.eqvAll]
  | a :: xs, [] => by simp [PyData.eqvAll]
  | a :: xs, b :: ys => by
    simp only [List.map_cons, PyData.eqvAll, PyData.eqv, eqv_ints xs ys]
    by_cases e : a = b <;> by_cases e2 : xs = ys <;> simp [e, e2]
section
variable {K : PySem.W.Frag} {c : Cs}
theorem s_eqL {xs ys : List Int} : R2D (rEqX K) (rep xs) (rep ys) (rep (decide (xs = ys))) := by
  have z := s_eqA (K := K) (sh_ints xs) (sh_ints ys)
  have e : PyData.eqv (py xs) (py ys) = decide (xs = ys) := by
    show PyData.eqv (.list (xs.map py)) (.list (ys.map py)) = _
    simp only [PyData.eqv]
    exact eqv_ints xs ys
  rw [e] at z
  exact z
theorem s_neL {xs ys : List Int} : R2D (rNeX K) (rep xs) (rep ys) (rep (!decide (xs = ys))) := by
  have z := s_neA (K := K) (sh_ints xs) (sh_ints ys)
  have e : PyData.eqv (py xs) (py ys) = decide (xs = ys) := by
    show PyData.eqv (.list (xs.map py)) (.list (ys.map py)) = _
    simp only [PyData.eqv]
    exact eqv_ints xs ys
  rw [e] at z
  exact z
end
end D

set_option Elab.async false
set_option linter.all false
set_option maxRecDepth 100000
set_option maxHeartbeats 4000000
namespace D
open PySem PySem.Spec PyProof.Rows L2
open ToPy (py)
local macro_rules | `(tactic| walk_at "side") => `(tactic| first | assumption | omega | (refine Int.emod_nonneg _ ?_; omega) | (refine Int.emod_lt_of_pos _ ?_; omega) | (simp at *; omega) | (simp; done) | decide | skip)
local macro_rules | `(tactic| walk_at "d") => `(tactic| first
  | with_reducible exact ev_int | with_reducible exact ev_str | with_reducible exact ev_bl | with_reducible exact ev_non
  | exact ev_var rfl
  | with_reducible exact ev_ty
  | with_reducible exact ev_cls
  | ((with_reducible apply ev_op) <;> walk_at "d")
  | ((with_reducible apply ev_un) <;> walk_at "d")
  | ((with_reducible apply ev_call) <;> walk_at "d")
  | ((with_reducible apply ev_callX) <;> walk_at "d")
  | ((with_reducible apply ev_cb) <;> walk_at "d")
  | with_reducible exact ea_nil
  | ((with_reducible apply ea_cons) <;> walk_at "d")
  | with_reducible exact s_add
  | with_reducible exact s_sub
  | with_reducible exact s_lt
  | with_reducible exact s_le
  | with_reducible exact s_gt
  | with_reducible exact s_ge
  | with_reducible exact s_eqI
  | with_reducible exact s_neI
  | with_reducible exact s_eqS
  | with_reducible exact s_neS
  | with_reducible exact s_neB
  | exact s_eqSame (sh_ints2 _) | exact s_neSame (sh_ints2 _) | exact s_eqSame (sh_ints _) | exact s_neSame (sh_ints _)
  | ((with_reducible apply s_mod) <;> walk_at "side")
  | walk_at "div" | walk_at "mul"
  | ((with_reducible apply s_catL) <;> walk_at "side")
  | ((with_reducible apply s_repL) <;> walk_at "side")
  | with_reducible exact s_fst
  | with_reducible exact s_snd
  | with_reducible exact s_t0
  | with_reducible exact s_t1
  | with_reducible exact s_t2
  | ((with_reducible apply s_last) <;> walk_at "side")
  | ((with_reducible apply s_ixS) <;> walk_at "side")
  | ((with_reducible apply s_ix) <;> walk_at "side")
  | ((with_reducible apply s_ixT) <;> walk_at "side")
  | with_reducible exact s_negI
  | with_reducible exact c_len
  | with_reducible exact c_lI
  | with_reducible exact c_tI
  | with_reducible exact c_pI
  | with_reducible exact c_t3I
  | with_reducible exact c_sI
  | with_reducible exact c_iI
  | with_reducible exact c_iB
  | with_reducible exact c_lenP
  | with_reducible exact c_len3
  | with_reducible exact c_isInt
  | with_reducible exact c_isBool
  | with_reducible exact c_isStr
  | with_reducible exact c_isList
  | with_reducible exact c_isTup
  | with_reducible exact c_lenTup
  | with_reducible exact c_lenScr
  | with_reducible exact c_listD
  | with_reducible exact c_listTD
  | with_reducible exact c_tup
  | with_reducible exact c_abs
  | with_reducible exact c_min2
  | with_reducible exact c_max2
  | with_reducible exact c_intB
  | with_reducible exact c_sum
  | ((with_reducible apply c_min) <;> walk_at "side")
  | ((with_reducible apply c_max) <;> walk_at "side")
  | ((with_reducible apply et_val) <;> walk_at "d")
  | ((with_reducible apply et_test) <;> walk_at "d")
  | ((with_reducible apply et_not) <;> walk_at "d")
  | ((with_reducible apply et_and) <;> (try with_reducible intro _) <;> walk_at "d")
  | ((with_reducible apply et_or) <;> (try with_reducible intro _) <;> walk_at "d")
  | ((with_reducible apply ev_and) <;> (try with_reducible intro _) <;> walk_at "d")
  | ((with_reducible apply ev_or) <;> (try with_reducible intro _) <;> walk_at "d")
  | ((with_reducible apply ev_chain) <;> (try with_reducible intro _) <;> walk_at "d")
  | ((with_reducible apply ev_not) <;> walk_at "d")
  | ((with_reducible apply ev_pair) <;> walk_at "d")
  | ((with_reducible apply ev_t3) <;> walk_at "d")
  | ((with_reducible apply ev_lst1) <;> walk_at "d")
  | ((with_reducible apply ev_lst2) <;> walk_at "d")
  | ((with_reducible apply ev_lst3) <;> walk_at "d")
  | ((with_reducible apply ev_lst4) <;> walk_at "d")
  | ((with_reducible apply ev_cut) <;> walk_at "d")
  | ((with_reducible apply ep_some) <;> walk_at "d")
  | ((with_reducible apply EvD.s) <;> walk_at "d")
  | ((with_reducible apply EvT.s) <;> walk_at "d")
  | ((with_reducible apply EvN.s) <;> walk_at "d")
  | ((with_reducible apply en_lst1) <;> walk_at "d")
  | ((with_reducible apply en_lst2) <;> walk_at "d")
  | ((with_reducible apply en_lst3) <;> walk_at "d")
  | ((with_reducible apply en_lst4) <;> walk_at "d")
  | ((with_reducible apply en_cut) <;> walk_at "d")
  | with_reducible exact ev_lst0
  | with_reducible exact ep_none
  | with_reducible exact en_lst0
  | ((with_reducible apply wi_L) <;> walk_at "d")
  | ((with_reducible apply wi_T) <;> walk_at "d")
  | ((with_reducible apply wi_zip) <;> walk_at "d")
  | ((with_reducible apply WiD.s) <;> walk_at "d")
  | ((with_reducible apply wi_range) <;> walk_at "side")
  | exact spec_cell (by omega) (by omega)
  | skip)
local macro_rules | `(tactic| walk_at "div") => `(tactic| first
  | exact s_div ⟨by omega, by omega⟩
  | exact s_divW (wd_div (by first | assumption | omega) (by assumption))
  | with_reducible apply s_div)
local macro_rules | `(tactic| walk_at "mul") => `(tactic| first
  | exact s_mul (Or.inl ⟨by omega, by omega⟩) | exact s_mul (Or.inr ⟨by omega, by omega⟩)
  | exact s_mulW (wd_mul (by assumption) (by assumption))
  | with_reducible apply s_mulW)
local macro_rules | `(tactic| walk_at "fg") => `(tactic| repeat (first | exact Fg.nil | apply Fg.same | apply Fg.drop | (refine Fg.eq ?_ ?_; rotate_left)))
local macro_rules | `(tactic| walk_at "end") => `(tactic| exact bd_turnE trivial rfl (by walk_at "fg"))
local macro_rules | `(tactic| walk_at "range") => `(tactic| (apply WiD.s; apply wi_range; (walk_at "d"); omega; omega))
local macro_rules | `(tactic| walk_at "app") => `(tactic| (refine' bd_appR 0 ?_ rfl ?_ ?_ ?_ ?_; (walk_at "d"); (walk_at "d"); rotate_right))
local macro_rules | `(tactic| walk_at "lend") => `(tactic| repeat (first | exact LendC.nil | apply LendC.no | (apply LendC.one; (exact lend_list 0 rfl)) | (apply LendC.one; (exact lend_same))))
/-! ### the law's own sums -/
def lawF (p : Prob) (box : Box) : List (List Int × Int) := (List.range (fN p box)).map fun j => ((factAt p box j).1.l, (factAt p box j).2)
def S_law_are_weights (K : PySem.W.Frag) (c : Cs) : Spec := fun Rs R => ∃ (ws : List Int) (n : Nat), Rs = [rep ws, rep (n : Int)] ∧ R = rep (wsB ws n)
def S_law_summed (K : PySem.W.Frag) (c : Cs) : Spec := fun Rs R => ∃ (p : Prob) (box : Box) (ws : List Int), Rs = [rep (lawF p box), rep ws] ∧ p.Ok ∧ BoxOk p box ∧ ws.length = fN p box ∧ R = rep (sumsN p box ws, sumB (factsOf p box) ws (fN p box))
def n_law_summed : List Str := ["_law_rows_here", "_law_weights", "_law_numbers", "_law_whole_here", "_law_k", "_law_at"]
def t_law_summed (K : PySem.W.Frag) (c : Cs) : TS := (tSeq (tAsg (tOp (rMulX K) (tLst (tCons (tC (.int 0)) tNil)) (tCB (rLenX K) (tCons (tOp (rIx K) (tOp (rIx K) (tVar 0) (tC (.int 0))) (tC (.int 0))) tNil))) (gName 2))
  (tSeq (tAsg (tC (.int 0)) (gName 3))
  (tSeq (tFor (iRng1 (tCons (tCB (rLenX K) (tCons (tVar 0) tNil)) tNil)) (gName 4) (tSeq (tFor (iRng1 (tCons (tCB (rLenX K) (tCons (tVar 2) tNil)) tNil)) (gName 5) (tSeq (tAsg (tOp (rAddX K) (tOp (rIx K) (tVar 2) (tVar 5)) (tOp (rMulX K) (tOp (rIx K) (tVar 1) (tVar 4)) (tOp (rIx K) (tOp (rIx K) (tOp (rIx K) (tVar 0) (tVar 4)) (tC (.int 0))) (tVar 5)))) (gSub (tVar 2) (tVar 5) rSetL))
  tNext))
  (tSeq (tAsg (tOp (rAddX K) (tVar 3) (tOp (rMulX K) (tOp (rIx K) (tVar 1) (tVar 4)) (tOp (rIx K) (tOp (rIx K) (tVar 0) (tVar 4)) (tC (.int 1))))) (gName 3))
  tNext)))
  (tSeq (tRet (tTup (tCons (tVar 2) (tCons (tVar 3) tNil))))
  tNext))))
def n_law_are_weights : List Str := ["_law_weights", "_law_many", "_law_weight"]
def t_law_are_weights (K : PySem.W.Frag) (c : Cs) : TS := (tSeq (tIfS (tOr (tNot (tB (tCB (rIsi K) (tCons (tVar 0) (tCons (tC (.ty "list")) tNil))))) (tTest (tOp (rNeX K) (tCB (rLenX K) (tCons (tVar 0) tNil)) (tVar 1)))) (tSeq (tRet (tC (.bl false)))
  tNext) tNext)
  (tSeq (tFor (iList K (tVar 0)) (gName 2) (tSeq (tIfS (tOr (tNot (tB (tCall (spD (S_law_whole K c)) [] E0 (tCons (tVar 2) tNil)))) (tTest (tOp rLtI (tVar 2) (tC (.int 0))))) (tSeq (tRet (tC (.bl false)))
  tNext) tNext)
  tNext))
  (tSeq (tRet (tC (.bl true)))
  tNext)))
theorem lawF_len (p : Prob) (box : Box) : (lawF p box).length = fN p box := by simp [lawF]
theorem lawF_at (p : Prob) (box : Box) {j : Nat} (h : j < fN p box) : at_ (lawF p box) j = ((factAt p box j).1.l, (factAt p box j).2) := at_map_range _ h
section
variable {K : PySem.W.Frag} {c : Cs}
theorem rd_law_are_weights : ∀ Rs R, S_law_are_weights K c Rs R → ∀ B : Base, B.m = [] → BDe B (startC n_law_are_weights Rs) [] (t_law_are_weights K c) (fnP B R) := by
  rintro _ _ ⟨ws, n, rfl, rfl⟩ B hm
  apply bd_ifr (b := !true || !decide (ws.length = n))
  · apply EvT.s
    apply et_or
    · exact et_not (et_val (ev_cb (ea_cons (ev_var rfl) (ea_cons ev_ty ea_nil)) c_lI))
    · intro _
      refine et_eq (et_test (ev_op (ev_cb (ea_cons (ev_var rfl) ea_nil) (c_len (xs := ws))) (ev_var rfl) s_neI)) ?_
      have : decide ((ws.length : Int) = (n : Int)) = decide (ws.length = n) := decide_eq_decide.mpr (by omega)
      rw [this]
  · intro h
    apply bd_retE (a := false) hm (EvD.s ev_bl)
    unfold wsB
    have : decide (ws.length = n) = false := by simpa using h
    rw [this]
    rfl
  intro h
  have hl : ws.length = n := by simpa using h
  apply bd_forE (n := ws.length) (item := fun i => rep (at_ ws i)) (fun _ => [some (rep ws), some (rep (n : Int)), none]) (fun _ => []) (fun i => ∀ j, j < i → 0 ≤ at_ ws j)
  · exact WiD.s (wi_L (ev_var rfl))
  · walk_at "fg"
  · rfl
  · intro j hj
    omega
  · intro i hi
    exact tg_name
  · intro i hi F
    apply bd_ifr (b := !true || decide (at_ ws i < 0))
    · apply EvT.s
      apply et_or
      · exact et_not (et_val (ev_call (ea_cons (ev_var rfl) ea_nil) ⟨_, rfl, rfl⟩))
      · intro _
        exact et_test (ev_op (ev_var rfl) ev_int s_lt)
    · intro h
      have h : at_ ws i < 0 := by simpa using h
      apply bd_retE (a := false) hm (EvD.s ev_bl)
      unfold wsB
      symm
      rw [Bool.and_eq_false_iff]
      right
      rw [Bool.eq_false_iff]
      intro z
      have := List.all_eq_true.mp z _ (at_mem hi)
      have := of_decide_eq_true this
      omega
    · intro h
      have h : ¬ at_ ws i < 0 := by simpa using h
      refine bd_turnE ?_ rfl (by walk_at "fg")
      intro j hj
      by_cases e : j = i
      · rw [e]
        omega
      · exact F j (by omega)
  · intro F
    apply bd_retE (a := true) hm (EvD.s ev_bl)
    symm
    refine wsB_of hl fun w hw => ?_
    obtain ⟨i, hi, e⟩ := List.getElem_of_mem hw
    have := F i hi
    have ea : at_ ws i = w := by
      unfold at_
      rw [List.getD_eq_getElem?_getD, List.getElem?_eq_getElem hi]
      exact e
    omega
theorem rd_law_summed : ∀ Rs R, S_law_summed K c Rs R → ∀ B : Base, B.m = [] → BDe B (startC n_law_summed Rs) [] (t_law_summed K c) (fnP B R) := by
  rintro _ _ ⟨p, box, ws, rfl, k, hb, hw, rfl⟩ B hm
  have n1 := k.n1
  have n3 := k.n3
  have m6 := k.m6
  have bl := hb.len
  have fl := factsOf_len p box
  have ll := lawF_len p box
  have fe : fN p box = p.rows.length + 2 * box.length := rfl
  obtain ⟨fs, efs⟩ : ∃ fs, fs = factsOf p box := ⟨_, rfl⟩
  obtain ⟨lf, elf⟩ : ∃ lf, lf = lawF p box := ⟨_, rfl⟩
  rw [← efs] at fl
  rw [← elf] at ll
  have fn : ∀ j, j < fs.length → at_ lf j = ((at_ fs j).1.l, (at_ fs j).2) ∧ (at_ fs j).1.l.length = box.length ∧ (∀ x ∈ (at_ fs j).1.l, -50 ≤ x ∧ x ≤ 50) ∧ -2000 ≤ (at_ fs j).2 ∧ (at_ fs j).2 ≤ 2000 := fun j hj => by
    have hj2 : j < p.rows.length + 2 * box.length := by rw [fl] at hj; exact hj
    rw [efs, at_facts p box hj2, elf, lawF_at p box hj2]
    have a := fact_num k hb hj2
    exact ⟨rfl, a.1, a.2, fact_bnd k hb hj2⟩
  unfold sumsN
  rw [← elf, ← efs]
  clear elf
  have f0 := fn 0 (by omega)
  have e0 : ix lf (0 : Int) = ((at_ fs 0).1.l, (at_ fs 0).2) := f0.1
  apply bd_own (T := oL (numsAt fs ws box.length 0 0))
  · apply EvN.s
    have hlen : EvD (startC n_law_summed [rep lf, rep ws]) (tCB (rLenX K) (tCons (tOp (rIx K) (tOp (rIx K) (tVar 0) (tC (.int 0))) (tC (.int 0))) tNil)) (rep ((at_ fs 0).1.l.length : Int)) := by
      have z : EvD (startC n_law_summed [rep lf, rep ws]) (tOp (rIx K) (tVar 0) (tC (.int 0))) (rep (ix lf (0 : Int))) := ev_op (ev_var rfl) ev_int (s_ix (xs := lf) (by omega) (by omega))
      rw [e0] at z
      have z2 : EvD (startC n_law_summed [rep lf, rep ws]) (tOp (rIx K) (tOp (rIx K) (tVar 0) (tC (.int 0))) (tC (.int 0))) (rep (at_ fs 0).1.l) := ev_op z ev_int (s_fst (x := ((at_ fs 0).1.l, (at_ fs 0).2)))
      exact ev_cb (ea_cons z2 ea_nil) c_len
    rw [f0.2.1] at hlen
    have z := ev_opN (Γ := startC n_law_summed [rep lf, rep ws]) (ev_lst1 ev_int) hlen (s_rep (K := K) (a := (0 : Int)) (k := (box.length : Int)) (by omega) (by omega))
    have e : List.replicate ((box.length : Int)).toNat (0 : Int) = numsAt fs ws box.length 0 0 := by
      unfold numsAt
      have : (fun j => if j < 0 then sumN fs ws (0 + 1) j else sumN fs ws 0 j) = fun _ => (0 : Int) := by
        funext j
        rw [if_neg (by omega)]
        rfl
      rw [this]
      simp [List.map_const']
    rw [e] at z
    exact z
  intro q
  apply bd_set (R := rep (sumB fs ws 0)) (EvD.s ev_int)
  apply bd_forE (n := fs.length) (item := fun i => rep (i : Int)) (fun i => [some (rep lf), some (rep ws), some (own q), some (rep (sumB fs ws i)), none, none]) (fun i => [(q, oL (numsAt fs ws box.length i 0))]) (fun _ => True)
  · apply WiD.s
    have z := wi_rangeN (Γ := [some (rep lf), some (rep ws), some (own q), some (rep (sumB fs ws 0)), none, none]) (ev_cb (ea_cons (ev_var (i := 0) rfl) ea_nil) (c_len (K := K))) (by omega)
    have e : lf.length = fs.length := by omega
    rw [e] at z
    exact z
  · walk_at "fg"
  · rfl
  · trivial
  · intro i hi
    exact tg_name
  · intro i hi _
    obtain ⟨f1, f2, f3, f4, f5⟩ := fn i (by omega)
    have lfi : ∀ {Γ : Ctx}, EvD Γ (tVar 0) (rep lf) → EvD Γ (tVar 4) (rep (i : Int)) → EvD Γ (tOp (rIx K) (tVar 0) (tVar 4)) (rep ((at_ fs i).1.l, (at_ fs i).2)) := fun h1 h2 => by
      rw [← f1]
      exact ev_op h1 h2 (s_ix (xs := lf) (i := (i : Int)) (by omega) (by omega))
    apply bd_forE (n := box.length) (item := fun i => rep (i : Int)) (fun _ => [some (rep lf), some (rep ws), some (own q), some (rep (sumB fs ws i)), some (rep (i : Int)), none]) (fun u => [(q, oL (numsAt fs ws box.length i u))]) (fun _ => True)
    · have nl : (numsAt fs ws box.length i 0).length = box.length := by simp [numsAt]
      have z : WiS B [some (rep lf), some (rep ws), some (own q), some (rep (sumB fs ws i)), some (rep (i : Int)), none] [(q, oL (numsAt fs ws box.length i 0))] (iRng1 (tCons (tCB (rLenX K) (tCons (tVar 2) tNil)) tNil)) (numsAt fs ws box.length i 0).length (fun i => rep (i : Int)) := by
        apply ws_range
        · apply ev_lend
          · walk_at "lend"
          · exact ev_cb (ea_cons (ev_var rfl) ea_nil) (c_len (xs := numsAt fs ws box.length i 0))
          · exact flat_int _
        · omega
      rw [nl] at z
      exact z
    · walk_at "fg"
    · rfl
    · trivial
    · intro u hu
      exact tg_name
    · intro u hu _
      have nl : (numsAt fs ws box.length i u).length = box.length := by simp [numsAt]
      have fx := f3 (ix (at_ fs i).1.l (u : Int)) (ix_mem (by omega) (by omega))
      refine bd_setI (α := Int) (xs := numsAt fs ws box.length i u) (a := sumN fs ws (i + 1) u) (z := (u : Int)) 0 ?_ (ev_var rfl) (EvD.s (ev_var rfl)) rfl (by omega) (by omega) ?_
      · rw [sumN_succ]
        apply ev_lend
        · walk_at "lend"
        · apply ev_op
          · refine ev_eq (ev_op (ev_var rfl) (ev_var rfl) (s_ix (xs := numsAt fs ws box.length i u) (by omega) (by omega))) (numsAt_at fs ws box.length i u hu)
          · apply ev_op
            · exact ev_op (ev_var rfl) (ev_var rfl) (s_ix (xs := ws) (i := (i : Int)) (by omega) (by omega))
            · apply ev_op
              · exact ev_op (lfi (ev_var rfl) (ev_var rfl)) ev_int s_fst
              · exact ev_var rfl
              · exact s_ix (xs := (at_ fs i).1.l) (by omega) (by omega)
            · exact s_mul (.inr ⟨by omega, by omega⟩)
          · exact s_add
        · exact flat_int _
      · refine bd_turnE trivial ?_ (by walk_at "fg")
        show [(q, oL ((numsAt fs ws box.length i u).set (u : Int).toNat (sumN fs ws (i + 1) u)))] = _
        rw [Int.toNat_natCast, numsAt_set]
    intro _
    apply bd_set (R := rep (sumB fs ws (i + 1)))
    · rw [sumB_succ]
      apply EvD.s
      exact ev_op (ev_var rfl) (ev_op (ev_op (ev_var rfl) (ev_var rfl) (s_ix (xs := ws) (i := (i : Int)) (by omega) (by omega))) (ev_op (lfi (ev_var rfl) (ev_var rfl)) ev_int s_snd) (s_mul (.inr ⟨by omega, by omega⟩))) s_add
    refine bd_turnE trivial ?_ (by walk_at "fg")
    rw [numsAt_full]
  intro _
  refine bd_frz 0 2 rfl rfl hm ?_
  apply bd_retE (a := (numsAt fs ws box.length fs.length 0, sumB fs ws fs.length)) hm
  · exact EvD.s (ev_pair (ev_var rfl) (ev_var rfl))
  · have e : fs.length = fN p box := by omega
    rw [e]
    congr 1
end
end D

set_option Elab.async false
set_option linter.all false
set_option maxRecDepth 100000
set_option maxHeartbeats 4000000
namespace D
open PySem PySem.Spec PyProof.Rows L2
open ToPy (py)
local macro_rules | `(tactic| walk_at "side") => `(tactic| first | assumption | omega | (refine Int.emod_nonneg _ ?_; omega) | (refine Int.emod_lt_of_pos _ ?_; omega) | (simp at *; omega) | (simp; done) | decide | skip)
local macro_rules | `(tactic| walk_at "d") => `(tactic| first
  | with_reducible exact ev_int | with_reducible exact ev_str | with_reducible exact ev_bl | with_reducible exact ev_non
  | exact ev_var rfl
  | with_reducible exact ev_ty
  | with_reducible exact ev_cls
  | ((with_reducible apply ev_op) <;> walk_at "d")
  | ((with_reducible apply ev_un) <;> walk_at "d")
  | ((with_reducible apply ev_call) <;> walk_at "d")
  | ((with_reducible apply ev_callX) <;> walk_at "d")
  | ((with_reducible apply ev_cb) <;> walk_at "d")
  | with_reducible exact ea_nil
  | ((with_reducible apply ea_cons) <;> walk_at "d")
  | with_reducible exact s_add
  | with_reducible exact s_sub
  | with_reducible exact s_lt
  | with_reducible exact s_le
  | with_reducible exact s_gt
  | with_reducible exact s_ge
  | with_reducible exact s_eqI
  | with_reducible exact s_neI
  | with_reducible exact s_eqS
  | with_reducible exact s_neS
  | with_reducible exact s_neB
  | exact s_eqSame (sh_ints2 _) | exact s_neSame (sh_ints2 _) | exact s_eqSame (sh_ints _) | exact s_neSame (sh_ints _)
  | ((with_reducible apply s_mod) <;> walk_at "side")
  | walk_at "div" | walk_at "mul"
  | ((with_reducible apply s_catL) <;> walk_at "side")
  | ((with_reducible apply s_repL) <;> walk_at "side")
  | with_reducible exact s_fst
  | with_reducible exact s_snd
  | with_reducible exact s_t0
  | with_reducible exact s_t1
  | with_reducible exact s_t2
  | ((with_reducible apply s_last) <;> walk_at "side")
  | ((with_reducible apply s_ixS) <;> walk_at "side")
  | ((with_reducible apply s_ix) <;> walk_at "side")
  | ((with_reducible apply s_ixT) <;> walk_at "side")
  | with_reducible exact s_negI
  | with_reducible exact c_len
  | with_reducible exact c_lI
  | with_reducible exact c_tI
  | with_reducible exact c_pI
  | with_reducible exact c_t3I
  | with_reducible exact c_sI
  | with_reducible exact c_iI
  | with_reducible exact c_iB
  | with_reducible exact c_lenP
  | with_reducible exact c_len3
  | with_reducible exact c_isInt
  | with_reducible exact c_isBool
  | with_reducible exact c_isStr
  | with_reducible exact c_isList
  | with_reducible exact c_isTup
  | with_reducible exact c_lenTup
  | with_reducible exact c_lenScr
  | with_reducible exact c_listD
  | with_reducible exact c_listTD
  | with_reducible exact c_tup
  | with_reducible exact c_abs
  | with_reducible exact c_min2
  | with_reducible exact c_max2
  | with_reducible exact c_intB
  | with_reducible exact c_sum
  | ((with_reducible apply c_min) <;> walk_at "side")
  | ((with_reducible apply c_max) <;> walk_at "side")
  | ((with_reducible apply et_val) <;> walk_at "d")
  | ((with_reducible apply et_test) <;> walk_at "d")
  | ((with_reducible apply et_not) <;> walk_at "d")
  | ((with_reducible apply et_and) <;> (try with_reducible intro _) <;> walk_at "d")
  | ((with_reducible apply et_or) <;> (try with_reducible intro _) <;> walk_at "d")
  | ((with_reducible apply ev_and) <;> (try with_reducible intro _) <;> walk_at "d")
  | ((with_reducible apply ev_or) <;> (try with_reducible intro _) <;> walk_at "d")
  | ((with_reducible apply ev_chain) <;> (try with_reducible intro _) <;> walk_at "d")
  | ((with_reducible apply ev_not) <;> walk_at "d")
  | ((with_reducible apply ev_pair) <;> walk_at "d")
  | ((with_reducible apply ev_t3) <;> walk_at "d")
  | ((with_reducible apply ev_lst1) <;> walk_at "d")
  | ((with_reducible apply ev_lst2) <;> walk_at "d")
  | ((with_reducible apply ev_lst3) <;> walk_at "d")
  | ((with_reducible apply ev_lst4) <;> walk_at "d")
  | ((with_reducible apply ev_cut) <;> walk_at "d")
  | ((with_reducible apply ep_some) <;> walk_at "d")
  | ((with_reducible apply EvD.s) <;> walk_at "d")
  | ((with_reducible apply EvT.s) <;> walk_at "d")
  | ((with_reducible apply EvN.s) <;> walk_at "d")
  | ((with_reducible apply en_lst1) <;> walk_at "d")
  | ((with_reducible apply en_lst2) <;> walk_at "d")
  | ((with_reducible apply en_lst3) <;> walk_at "d")
  | ((with_reducible apply en_lst4) <;> walk_at "d")
  | ((with_reducible apply en_cut) <;> walk_at "d")
  | with_reducible exact ev_lst0
  | with_reducible exact ep_none
  | with_reducible exact en_lst0
  | ((with_reducible apply wi_L) <;> walk_at "d")
  | ((with_reducible apply wi_T) <;> walk_at "d")
  | ((with_reducible apply wi_zip) <;> walk_at "d")
  | ((with_reducible apply WiD.s) <;> walk_at "d")
  | ((with_reducible apply wi_range) <;> walk_at "side")
  | exact spec_cell (by omega) (by omega)
  | skip)
local macro_rules | `(tactic| walk_at "div") => `(tactic| first
  | exact s_div ⟨by omega, by omega⟩
  | exact s_divW (wd_div (by first | assumption | omega) (by assumption))
  | with_reducible apply s_div)
local macro_rules | `(tactic| walk_at "mul") => `(tactic| first
  | exact s_mul (Or.inl ⟨by omega, by omega⟩) | exact s_mul (Or.inr ⟨by omega, by omega⟩)
  | exact s_mulW (wd_mul (by assumption) (by assumption))
  | with_reducible apply s_mulW)
local macro_rules | `(tactic| walk_at "fg") => `(tactic| repeat (first | exact Fg.nil | apply Fg.same | apply Fg.drop | (refine Fg.eq ?_ ?_; rotate_left)))
local macro_rules | `(tactic| walk_at "end") => `(tactic| exact bd_turnE trivial rfl (by walk_at "fg"))
local macro_rules | `(tactic| walk_at "range") => `(tactic| (apply WiD.s; apply wi_range; (walk_at "d"); omega; omega))
local macro_rules | `(tactic| walk_at "app") => `(tactic| (refine' bd_appR 0 ?_ rfl ?_ ?_ ?_ ?_; (walk_at "d"); (walk_at "d"); rotate_right))
local macro_rules | `(tactic| walk_at "lend") => `(tactic| repeat (first | exact LendC.nil | apply LendC.no | (apply LendC.one; (exact lend_list 0 rfl)) | (apply LendC.one; (exact lend_same))))
/-! ### the telling of a table, laid anew -/
def S_Tableau_told_noneN (K : PySem.W.Frag) (c : Cs) : Hp → Spec := fun H Rs R => ∃ (d : Dat) (lows : List Int) (s : LS) (one : Nat), Rs = [insT c d lows s, rep (one : Int)] ∧ Tok d s ∧ one ∈ s.bs ∧ R = nw H (rep (Told.none (wNone d s one)))
abbrev SP_Tableau_told_noneN (K : PySem.W.Frag) (c : Cs) : Sp := spDH (S_Tableau_told_noneN K c)
def S_Tableau_told_mostN (K : PySem.W.Frag) (c : Cs) : Hp → Spec := fun H Rs R => ∃ (d : Dat) (lows : List Int) (s : LS), Rs = [insT c d lows s] ∧ Tok d s ∧ lows.length = d.n ∧ (∀ x ∈ lows, 0 ≤ x ∧ x ≤ 20) ∧ R = nw H (rep (Told.most ((List.range d.n).map (numOfS d lows s)) (frm d s.ov).sc (wMost d s)))
abbrev SP_Tableau_told_mostN (K : PySem.W.Frag) (c : Cs) : Sp := spDH (S_Tableau_told_mostN K c)
def S_looseN (K : PySem.W.Frag) (c : Cs) : Hp → Spec := fun H Rs R => ∃ (p : Prob) (box : Box), Rs = [insP c p, rep box] ∧ p.Ok ∧ BoxOk p box ∧ R = nw H (rep (looseOf p box))
def n_Tableau_told_noneN : List Str := ["self", "one", "line", "weights", "at"]
def t_Tableau_told_noneN (K : PySem.W.Frag) (c : Cs) : TS := (tSeq (tAsg (tOp (rIx K) (tFld K (tVar 0) "lines") (tBM K "list" (rIndex K) (tFld K (tVar 0) "beside") (tCons (tVar 1) tNil))) (gName 2))
  (tSeq (tAsg (tOp (rMulX K) (tLst (tCons (tC (.int 0)) tNil)) (tFld K (tVar 0) "many")) (gName 3))
  (tSeq (tAsg (tFld K (tVar 0) "scale") (gSub (tVar 3) (tVar 1) rSetL))
  (tSeq (tFor (iRng1 (tCons (tCB (rLenX K) (tCons (tFld K (tVar 0) "over") tNil)) tNil)) (gName 4) (tSeq (tAsg (tOp (rIx K) (tVar 2) (tVar 4)) (gSub (tVar 3) (tOp (rIx K) (tFld K (tVar 0) "over") (tVar 4)) rSetL))
  tNext))
  (tSeq (tRet (tTup (tCons (tC (.str "none")) (tCons (tVar 3) tNil))))
  tNext)))))
def n_Tableau_told_mostN : List Str := ["self", "weights", "at", "first", "numbers", "unknown", "number", "slack"]
def t_Tableau_told_mostN (K : PySem.W.Frag) (c : Cs) : TS := (tSeq (tAsg (tOp (rMulX K) (tLst (tCons (tC (.int 0)) tNil)) (tFld K (tVar 0) "many")) (gName 1))
  (tSeq (tFor (iRng1 (tCons (tCB (rLenX K) (tCons (tFld K (tVar 0) "over") tNil)) tNil)) (gName 2) (tSeq (tAsg (tOp (rIx K) (tOp (rIx K) (tFld K (tVar 0) "lines") (tUn rNegI (tC (.int 1)))) (tVar 2)) (gSub (tVar 1) (tOp (rIx K) (tFld K (tVar 0) "over") (tVar 2)) rSetL))
  tNext))
  (tSeq (tAsg (tOp rSubI (tFld K (tVar 0) "many") (tOp (rMulX K) (tC (.int 2)) (tCB (rLenX K) (tCons (tFld K (tVar 0) "lows") tNil)))) (gName 3))
  (tSeq (tAsg (tLst tNil) (gName 4))
  (tSeq (tFor (iRng1 (tCons (tCB (rLenX K) (tCons (tFld K (tVar 0) "lows") tNil)) tNil)) (gName 5) (tSeq (tAsg (tOp (rMulX K) (tOp (rIx K) (tFld K (tVar 0) "lows") (tVar 5)) (tFld K (tVar 0) "scale")) (gName 6))
  (tSeq (tAsg (tOp (rAddX K) (tOp (rAddX K) (tVar 3) (tOp (rMulX K) (tC (.int 2)) (tVar 5))) (tC (.int 1))) (gName 7))
  (tSeq (tIfS (tTest (tOp (rInX K) (tVar 7) (tFld K (tVar 0) "beside"))) (tSeq (tAsg (tOp (rAddX K) (tVar 6) (tOp (rIx K) (tOp (rIx K) (tFld K (tVar 0) "lines") (tBM K "list" (rIndex K) (tFld K (tVar 0) "beside") (tCons (tVar 7) tNil))) (tUn rNegI (tC (.int 1))))) (gName 6))
  tNext) tNext)
  (tSeq (tDrop (tBM K "list" rAppend (tVar 4) (tCons (tVar 6) tNil)))
  tNext)))))
  (tSeq (tRet (tTup (tCons (tC (.str "most")) (tCons (tTup (tCons (tVar 4) (tCons (tFld K (tVar 0) "scale") tNil))) (tCons (tVar 1) (tCons (tFld K (tVar 0) "scale") tNil))))))
  tNext))))))
def n_looseN : List Str := ["problem", "box", "tableau", "one", "other"]
def t_looseN (K : PySem.W.Frag) (c : Cs) : TS := (tSeq (tAsg (tMake c.Tableau (SP_Tableau K c) [] E0 (tCons (tVar 0) (tCons (tVar 1) tNil))) (gName 2))
  (tSeq (tAsg (tMeth c.Tableau "wrong" (SP_Tableau_wrong K c) [] E0 (tVar 2) tNil) (gName 3))
  (tSeq (tWhile (tTest (tOp rLtI (tVar 3) (tFld K (tVar 2) "many"))) (tSeq (tAsg (tMeth c.Tableau "partner" (SP_Tableau_partner K c) [] E0 (tVar 2) (tCons (tVar 3) tNil)) (gName 4))
  (tSeq (tIfS (tTest (tOp (rEqX K) (tVar 4) (tFld K (tVar 2) "many"))) (tSeq (tRet (tMeth c.Tableau "told_none" (SP_Tableau_told_noneN K c) [] E0 (tVar 2) (tCons (tVar 3) tNil)))
  tNext) tNext)
  (tSeq (tDrop (tMeth c.Tableau "change" (SP_Tableau_change K c) [] E0 (tVar 2) (tCons (tVar 3) (tCons (tVar 4) tNil))))
  (tSeq (tAsg (tMeth c.Tableau "wrong" (SP_Tableau_wrong K c) [] E0 (tVar 2) tNil) (gName 3))
  tNext)))))
  (tSeq (tRet (tMeth c.Tableau "told_most" (SP_Tableau_told_mostN K c) [] E0 (tVar 2) tNil))
  tNext))))
local macro_rules | `(tactic| walk_at "lendT") => `(tactic| repeat (first | exact LendC.nil | apply LendC.no | (apply LendC.one; (exact lend_tab)) | (apply LendC.one; (exact lend_same))))
section
variable {K : PySem.W.Frag} {c : Cs}
theorem rd_Tableau_told_noneN (F : TF K c) : ∀ B : Base, B.m = [] → ∀ Rs R, S_Tableau_told_noneN K c B.h Rs R → BDe B (startC n_Tableau_told_noneN Rs) [] (t_Tableau_told_noneN K c) (fnP B R) := by
  rintro B hm _ _ ⟨d, lows, s, one, rfl, T, hb, rfl⟩
  have S := T.S
  have lb := S.lb
  have lo := S.lo
  have hF := T.F
  have h1 := S.ltb _ hb
  have gi := gt_idxOf hb
  apply bd_set (R := rep (lineOf d s.ov one))
  · apply EvD.s
    have z := ev_index (K := K) (ev_beside F (ev_var (Γ := startC n_Tableau_told_noneN [insT c d lows s, rep (one : Int)]) (i := 0) rfl)) (ev_var (i := 1) rfl) (natL_mem.mpr hb)
    rw [natL_idx hb] at z
    have y := ev_lineAt F (ev_var (i := 0) rfl) z gi.1
    rw [gi.2] at y
    exact y
  apply bd_own (T := oL (List.replicate d.F (0 : Int)))
  · apply EvN.s
    have z := ev_opN (ev_lst1 ev_int) (ev_many_ F (ev_var (Γ := (startC n_Tableau_told_noneN [insT c d lows s, rep (one : Int)]).set 2 (some (rep (lineOf d s.ov one)))) (i := 0) rfl)) (s_rep (K := K) (a := (0 : Int)) (k := (d.F : Int)) (by omega) (by omega))
    rw [Int.toNat_natCast] at z
    exact z
  intro q
  refine bd_setI (α := Int) (xs := List.replicate d.F (0 : Int)) (a := (frm d s.ov).sc) (z := (one : Int)) 0 (EvD.s (ev_scale F (ev_var rfl))) (ev_var rfl) (EvD.s (ev_var rfl)) rfl (by omega) (by simp; omega) ?_
  apply bd_forE (n := d.n) (item := fun i => rep (i : Int)) (fun _ => [some (insT c d lows s), some (rep (one : Int)), some (rep (lineOf d s.ov one)), some (own q), none]) (fun i => [(q, oL (setOv d s.ov ((List.replicate d.F 0).set one (frm d s.ov).sc) one i))]) (fun _ => True)
  · apply WiD.s
    apply wi_rangeN
    · have z := ev_cb (ea_cons (ev_over F (ev_var (Γ := ((startC n_Tableau_told_noneN [insT c d lows s, rep (one : Int)]).set 2 (some (rep (lineOf d s.ov one)))).set 3 (some (own q))) (i := 0) rfl)) ea_nil) (c_len (K := K))
      rw [natL_len, lo] at z
      exact z
    · omega
  · walk_at "fg"
  · rfl
  · trivial
  · intro i hi
    exact tg_name
  · intro i hi _
    have hx := S.lto _ (gt_mem (l := s.ov) (k := i) (by omega))
    have ll : (setOv d s.ov ((List.replicate d.F (0 : Int)).set one (frm d s.ov).sc) one i).length = d.F := by rw [setOv_len]; simp
    have z1 := ev_op (ev_var (Γ := [some (insT c d lows s), some (rep (one : Int)), some (rep (lineOf d s.ov one)), some (own q), some (rep (i : Int))]) (i := 2) rfl) (ev_var (i := 4) rfl) (s_ix (K := K) (i := (i : Int)) (by omega) (by rw [line_len]; omega))
    rw [ix_line _ _ _ hi] at z1
    have z2 := ev_op (ev_over F (ev_var (Γ := [some (insT c d lows s), some (rep (one : Int)), some (rep (lineOf d s.ov one)), some (own q), some (rep (i : Int))]) (i := 0) rfl)) (ev_var (i := 4) rfl) (s_ix (K := K) (xs := natL s.ov) (i := (i : Int)) (by omega) (by rw [natL_len]; omega))
    rw [ix_natL (by omega)] at z2
    refine bd_setI (α := Int) (a := Lc d s.ov one i) (z := (gt s.ov i : Int)) 0 (EvD.s z1) (ev_var rfl) (EvD.s z2) rfl (by omega) (by rw [ll]; omega) ?_
    rw [Int.toNat_natCast]
    exact bd_turnE trivial rfl (by walk_at "fg")
  intro _
  refine bd_frzN (xs := wNone d s one) 0 3 rfl rfl hm ?_
  apply bd_retR hm
  exact es_tupN (ds := [.str "none", py (wNone d s one)]) (Dom.refl _) (EvA.s (ea_cons ev_strN (ea_cons (ev_var rfl) ea_nil)))
theorem rd_Tableau_told_mostN (F : TF K c) : ∀ B : Base, B.m = [] → ∀ Rs R, S_Tableau_told_mostN K c B.h Rs R → BDe B (startC n_Tableau_told_mostN Rs) [] (t_Tableau_told_mostN K c) (fnP B R) := by
  rintro B hm _ _ ⟨d, lows, s, rfl, T, hlw, hlb, rfl⟩
  have S := T.S
  have lb := S.lb
  have lo := S.lo
  have hF := T.F
  have F2 := T.K.F2
  have n3 := T.K.n3
  have scB := sc_in T.bd s.ov
  apply bd_own (T := oL (List.replicate d.F (0 : Int)))
  · apply EvN.s
    have z := ev_opN (ev_lst1 ev_int) (ev_many_ F (ev_var (Γ := startC n_Tableau_told_mostN [insT c d lows s]) (i := 0) rfl)) (s_rep (K := K) (a := (0 : Int)) (k := (d.F : Int)) (by omega) (by omega))
    rw [Int.toNat_natCast] at z
    exact z
  intro q
  apply bd_forE (n := d.n) (item := fun i => rep (i : Int)) (fun _ => startC n_Tableau_told_mostN [insT c d lows s] |>.set 1 (some (own q))) (fun i => [(q, oL (setOv d s.ov (List.replicate d.F 0) d.F i))]) (fun _ => True)
  · apply WiD.s
    apply wi_rangeN
    · have z := ev_cb (ea_cons (ev_over F (ev_var (Γ := (startC n_Tableau_told_mostN [insT c d lows s]).set 1 (some (own q))) (i := 0) rfl)) ea_nil) (c_len (K := K))
      rw [natL_len, lo] at z
      exact z
    · omega
  · walk_at "fg"
  · rfl
  · trivial
  · intro i hi
    exact tg_name
  · intro i hi _
    have hx := S.lto _ (gt_mem (l := s.ov) (k := i) (by omega))
    have ll : (setOv d s.ov (List.replicate d.F (0 : Int)) d.F i).length = d.F := by rw [setOv_len]; simp
    have z1 := ev_op (ev_lineF F (ev_var (Γ := ((startC n_Tableau_told_mostN [insT c d lows s]).set 1 (some (own q))).set 2 (some (rep (i : Int)))) (i := 0) rfl)) (ev_var (i := 2) rfl) (s_ix (K := K) (i := (i : Int)) (by omega) (by rw [line_len]; omega))
    rw [ix_line _ _ _ hi] at z1
    have z2 := ev_op (ev_over F (ev_var (Γ := ((startC n_Tableau_told_mostN [insT c d lows s]).set 1 (some (own q))).set 2 (some (rep (i : Int)))) (i := 0) rfl)) (ev_var (i := 2) rfl) (s_ix (K := K) (xs := natL s.ov) (i := (i : Int)) (by omega) (by rw [natL_len]; omega))
    rw [ix_natL (by omega)] at z2
    refine bd_setI (α := Int) (a := Lc d s.ov d.F i) (z := (gt s.ov i : Int)) 0 (EvD.s z1) (ev_var rfl) (EvD.s z2) rfl (by omega) (by rw [ll]; omega) ?_
    rw [Int.toNat_natCast]
    exact bd_turnE trivial rfl (by walk_at "fg")
  intro _
  refine bd_frzN (xs := wMost d s) 0 1 rfl rfl hm ?_
  apply bd_set (R := rep ((d.F - 2 * d.n : Nat) : Int))
  · apply EvD.s
    have z := ev_op (ev_many_ F (ev_var (Γ := ((startC n_Tableau_told_mostN [insT c d lows s]).set 1 (some (own q))).set 1 (some (nw B.h (rep (wMost d s))))) (i := 0) rfl)) (ev_op (ev_int (i := 2)) (ev_cb (ea_cons (ev_lows F (ev_var (i := 0) rfl)) ea_nil) (c_len (K := K))) (s_mul (K := K) (.inl ⟨by omega, by omega⟩))) s_sub
    have e : (d.F : Int) - 2 * (lows.length : Int) = ((d.F - 2 * d.n : Nat) : Int) := by omega
    rw [e] at z
    exact z
  apply bd_nil Int
  intro q2
  apply bd_forE (n := d.n) (item := fun i => rep (i : Int)) (fun _ => [some (insT c d lows s), some (nw B.h (rep (wMost d s))), none, some (rep ((d.F - 2 * d.n : Nat) : Int)), some (own q2), none, none, none]) (fun i => [(q2, oL ((List.range i).map (numOfS d lows s)))]) (fun _ => True)
  · apply WiD.s
    apply wi_rangeN
    · have z := ev_cb (ea_cons (ev_lows F (ev_var (Γ := ((((startC n_Tableau_told_mostN [insT c d lows s]).set 1 (some (own q))).set 1 (some (nw B.h (rep (wMost d s))))).set 3 (some (rep ((d.F - 2 * d.n : Nat) : Int)))).set 4 (some (own q2))) (i := 0) rfl)) ea_nil) (c_len (K := K))
      rw [hlw] at z
      exact z
    · omega
  · walk_at "fg"
  · rfl
  · trivial
  · intro i hi
    exact tg_name
  · intro i hi _
    have hx := hlb _ (at_mem (xs := lows) (k := i) (by omega))
    apply bd_set (R := rep (at_ lows i * (frm d s.ov).sc))
    · apply EvD.s
      have ei : ix lows (i : Int) = at_ lows i := rfl
      apply ev_op
      · exact ev_op (ev_lows F (ev_var rfl)) (ev_var rfl) (s_ix (xs := lows) (by omega) (by omega))
      · exact ev_scale F (ev_var rfl)
      · exact s_mul (.inl ⟨by omega, by omega⟩)
    apply bd_set (R := rep ((d.F - 2 * d.n + 2 * i + 1 : Nat) : Int))
    · apply EvD.s
      have e : ((d.F - 2 * d.n : Nat) : Int) + 2 * (i : Int) + 1 = ((d.F - 2 * d.n + 2 * i + 1 : Nat) : Int) := by omega
      rw [← e]
      exact ev_op (ev_op (ev_var rfl) (ev_op ev_int (ev_var rfl) (s_mul (.inl ⟨by omega, by omega⟩))) s_add) ev_int s_add
    apply bd_ifset (α := Int) (b := decide (d.F - 2 * d.n + 2 * i + 1 ∈ s.bs)) (a := at_ lows i * (frm d s.ov).sc + La d s.ov (d.F - 2 * d.n + 2 * i + 1)) (c := at_ lows i * (frm d s.ov).sc)
    · apply EvT.s
      apply et_test
      refine ev_eq (ev_op (ev_var rfl) (ev_beside F (ev_var rfl)) s_inI) ?_
      exact decide_eq_decide.mpr natL_mem
    · intro h
      have hb : d.F - 2 * d.n + 2 * i + 1 ∈ s.bs := of_decide_eq_true h
      have gi := gt_idxOf hb
      apply EvD.s
      apply ev_op (ev_var rfl)
      · apply ev_op (Ra := rep (lineOf d s.ov (d.F - 2 * d.n + 2 * i + 1))) (Rb := rep (-1 : Int))
        · apply ev_op (Ra := rep (tabOf d s)) (Rb := rep ((s.bs.idxOf (d.F - 2 * d.n + 2 * i + 1) : Nat) : Int))
          · exact ev_lines F (ev_var rfl)
          · rw [← natL_idx hb]
            exact ev_index (ev_beside F (ev_var rfl)) (ev_var rfl) (natL_mem.mpr hb)
          · have z : R2D (rIx K) (rep (tabOf d s)) (rep ((s.bs.idxOf (d.F - 2 * d.n + 2 * i + 1) : Nat) : Int)) (rep (ix (tabOf d s) ((s.bs.idxOf (d.F - 2 * d.n + 2 * i + 1) : Nat) : Int))) := s_ix (by omega) (by rw [tab_len]; omega)
            have e : ix (tabOf d s) ((s.bs.idxOf (d.F - 2 * d.n + 2 * i + 1) : Nat) : Int) = lineOf d s.ov (d.F - 2 * d.n + 2 * i + 1) := (tab_at d s gi.1).trans (by rw [gi.2])
            rw [e] at z
            exact z
        · exact ev_un ev_int s_negI
        · have z : R2D (rIx K) (rep (lineOf d s.ov (d.F - 2 * d.n + 2 * i + 1))) (rep (-1 : Int)) (rep (last (lineOf d s.ov (d.F - 2 * d.n + 2 * i + 1)))) := s_last (by rw [line_len]; omega)
          rw [last_line] at z
          exact z
      · exact s_add
    · rfl
    refine bd_appR (α := Int) (g := numOfS d lows s) (n := i) (a := numOfS d lows s i) 0 (ev_var rfl) rfl ?_ rfl (by omega) ?_
    · exact EvD.s (ev_var rfl)
    · exact bd_turnE trivial rfl (by walk_at "fg")
  intro _
  refine bd_frzN (xs := (List.range d.n).map (numOfS d lows s)) 0 4 rfl rfl hm ?_
  apply bd_retR hm
  have sc : ∀ {Γ : Ctx}, EvD Γ (tVar 0) (insT c d lows s) → EvD Γ (tFld K (tVar 0) "scale") (nw B.h (rep (frm d s.ov).sc)) := fun h => ev_imp (ev_scale F h) fun _ _ => nw_int
  exact es_tupN (ds := [.str "most", .tuple [py ((List.range d.n).map (numOfS d lows s)), .int (frm d s.ov).sc], py (wMost d s), .int (frm d s.ov).sc]) (Dom.refl _)
    (ea_consS (EvD.s ev_strN) (ea_consS (es_tupN (ds := [py ((List.range d.n).map (numOfS d lows s)), .int (frm d s.ov).sc]) (Dom.refl _) (EvA.s (ea_cons (ev_var rfl) (ea_cons (sc (ev_var rfl)) ea_nil)))) (EvA.s (ea_cons (ev_var rfl) (ea_cons (sc (ev_var rfl)) ea_nil)))))
theorem rd_looseN (F : TF K c) : ∀ B : Base, B.m = [] → ∀ Rs R, S_looseN K c B.h Rs R → BDe B (startC n_looseN Rs) [] (t_looseN K c) (fnP B R) := by
  rintro B hm _ _ ⟨p, box, rfl, k, hb, rfl⟩
  have Kd := dat_ok k hb
  have S0 := s0_ok k hb
  have n3 : box.length ≤ 3 := by rw [hb.len]; exact k.n3
  have hF : (datOf p box).F ≤ 100 := by
    show fN p box ≤ 100
    have := k.m6
    unfold fN
    omega
  have tok : ∀ {i : Nat}, Going (datOf p box) (s0 p box) i → Tok (datOf p box) (sts (datOf p box) (s0 p box) i) := fun g => ⟨Kd, (Going.ok Kd S0 g).1, dat_bd k hb, hF⟩
  refine bd_make (EvA.s (ea_cons (ev_var rfl) (ea_cons (ev_var rfl) ea_nil))) fun a => ⟨_, ⟨a, p, box, rfl, k, hb, rfl, rfl⟩, ?_⟩
  rintro R O' ⟨po, pb, rfl, rfl⟩
  refine ⟨rfl, ?_⟩
  have wr : ∀ {Γ : Ctx} {i : Nat}, Going (datOf p box) (s0 p box) i → Γ[2]? = some (some (insT c (datOf p box) (lowsOf box) (sts (datOf p box) (s0 p box) i))) → EvD Γ (tMeth c.Tableau "wrong" (SP_Tableau_wrong K c) [] E0 (tVar 2) tNil) (rep (wrongOf (datOf p box) (sts (datOf p box) (s0 p box) i))) := fun g h =>
    ev_meth (ev_var h) rfl ea_nil ⟨_, _, _, rfl, tok g, rfl⟩
  have g0 : Going (datOf p box) (s0 p box) 0 := fun i hi => by omega
  apply bd_set (R := rep (wrongOf (datOf p box) (s0 p box)))
  · apply ev_lend
    · walk_at "lendT"
    · exact wr (i := 0) g0 rfl
    · exact flat_int _
  apply bd_while (2 ^ (datOf p box).F) (fun i => [some (insP c p), some (rep box), some (own a), some (rep (wrongOf (datOf p box) (sts (datOf p box) (s0 p box) i))), none]) (fun i => ownT c a pb po (datOf p box) (lowsOf box) (sts (datOf p box) (s0 p box) i)) (Going (datOf p box) (s0 p box))
  · exact Fg.sta (by walk_at "fg") rfl
  · exact g0
  · intro i hi g
    apply et_lend
    · walk_at "lendT"
    · exact et_test (ev_op (ev_var rfl) (ev_many_ F (ev_var rfl)) s_lt)
  · intro i hi g hw
    have T := tok g
    have hw : wrongOf (datOf p box) (sts (datOf p box) (s0 p box) i) < (datOf p box).F := of_decide_eq_true hw
    obtain ⟨st, hst⟩ : ∃ st, st = sts (datOf p box) (s0 p box) i := ⟨_, rfl⟩
    have S := T.S
    rw [← hst] at hw T S
    obtain ⟨one, h1, h2, h3, h4⟩ : ∃ one : Nat, wrongOf (datOf p box) st = one ∧ one < (datOf p box).F ∧ Wrong (datOf p box) st.bs st.ov one ∧ ∀ j, j < one → ¬ Wrong (datOf p box) st.bs st.ov j := by
      rcases wrong_spec S with h | h
      · have := h.1
        omega
      · exact h
    have ps := part_spec Kd S h1 h2 h3 h4
    apply bd_set (R := rep (partOf (datOf p box) st one))
    · apply ev_lend
      · walk_at "lendT"
      · refine ev_meth (R := rep (partOf (datOf p box) st one)) (ev_var rfl) rfl (ea_cons (ev_var rfl) ea_nil) ⟨datOf p box, lowsOf box, st, one, ?_, T, h2, rfl⟩
        rw [← hst, h1]
        rfl
      · exact flat_int _
    apply bd_ifr (b := decide (partOf (datOf p box) st one = (datOf p box).F))
    · apply et_lend
      · walk_at "lendT"
      · exact et_test (ev_op (ev_var rfl) (ev_many_ F (ev_var rfl)) s_eqI)
    · intro h
      have h := of_decide_eq_true h
      have hb1 : one ∈ st.bs := by
        rcases ps with ⟨_, ⟨hb1, _⟩ | ⟨cc, _, hc, _, _, hq⟩⟩ | ⟨other, e, lt, _⟩
        · exact hb1
        · exact absurd (no_ray Kd S hc hq) id
        · omega
      have lo := loose_none k hb g (one := one) (by rw [← hst]; exact h1) h2 (by rw [← hst]; exact h)
      rw [← hst] at lo
      rw [lo]
      refine bd_frzT (c := c) 2 rfl hm ?_
      apply bd_retR hm
      refine es_methH (ev_var rfl) rfl (ea_cons (ev_var rfl) ea_nil) fun H dm => ⟨_, ⟨datOf p box, lowsOf box, st, one, ?_, T, hb1, rfl⟩, fun v f h => nw_anti dm h⟩
      rw [← hst, h1]
      rfl
    · intro h
      have h := of_decide_eq_false h
      obtain ⟨other, e1, lt, mv, way⟩ : ∃ other : Nat, partOf (datOf p box) st one = other ∧ other < (datOf p box).F ∧ Move (datOf p box) st.bs st.ov (rowOf (datOf p box) st) (colOf (datOf p box) st) ∧ ((one ∈ st.bs ∧ other ∈ st.ov ∧ rowOf (datOf p box) st = st.bs.idxOf one ∧ colOf (datOf p box) st = st.ov.idxOf other) ∨ (one ∉ st.bs ∧ one ∈ st.ov ∧ other ∈ st.bs ∧ rowOf (datOf p box) st = st.bs.idxOf other ∧ colOf (datOf p box) st = st.ov.idxOf one)) := by
        rcases ps with ⟨z, _⟩ | z
        · exact absurd z h
        · exact z
      have g1 : Going (datOf p box) (s0 p box) (i + 1) := fun j hj => by
        by_cases q : j = i
        · rw [q, ← hst, h1, Int.toNat_natCast, e1]
          omega
        · exact g j (by omega)
      have few := Going.few Kd S0 g1
      have es : sts (datOf p box) (s0 p box) (i + 1) = mvd (datOf p box) st (rowOf (datOf p box) st) (colOf (datOf p box) st) := by
        show stepOf (datOf p box) (sts (datOf p box) (s0 p box) i) = _
        rw [← hst]
        rfl
      refine bd_methO (fs := tf (own pb) (own po) (datOf p box) (lowsOf box) (sts (datOf p box) (s0 p box) i)) (Po := fun R O' => R = rep () ∧ O' = ownT c a pb po (datOf p box) (lowsOf box) (sts (datOf p box) (s0 p box) (i + 1))) 2 (ev_var rfl) rfl rfl (EvA.s (ea_cons (ev_var rfl) (ea_cons (ev_var rfl) ea_nil))) ⟨a, pb, po, datOf p box, lowsOf box, st, rowOf (datOf p box) st, colOf (datOf p box) st, one, other, ?_, T, mv.hr, mv.hc, mv.pv, ?_, ?_, ?_⟩ ?_
      · rw [← hst, h1, e1]
      · rcases way with ⟨w1, w2, w3, w4⟩ | ⟨w1, w2, w3, w4, w5⟩
        · exact .inl ⟨by rw [w3, (gt_idxOf w1).2], by rw [w4, (gt_idxOf w2).2]⟩
        · exact .inr ⟨Nat.le_refl 1, by rw [w5, (gt_idxOf w2).2], by rw [w4, (gt_idxOf w3).2]⟩
      · rw [hst]
      · rw [es]
      rintro R O' ⟨rfl, rfl⟩
      apply bd_set (R := rep (wrongOf (datOf p box) (sts (datOf p box) (s0 p box) (i + 1))))
      · apply ev_lend
        · walk_at "lendT"
        · exact wr g1 rfl
        · exact flat_int _
      exact bd_next fun σ f h s => ⟨by omega, g1, Fg.sta (by walk_at "fg") rfl σ f h s⟩
  · intro i hi g hw
    have T := tok g
    have hw : ¬ wrongOf (datOf p box) (sts (datOf p box) (s0 p box) i) < (datOf p box).F := of_decide_eq_false hw
    have lo := loose_most k hb g hw
    rw [lo]
    refine bd_frzT (c := c) 2 rfl hm ?_
    apply bd_retR hm
    exact es_methH (ev_var rfl) rfl ea_nil fun H dm => ⟨_, ⟨datOf p box, lowsOf box, _, rfl, T, lows_len box, lows_bnd k hb, rfl⟩, fun v f h => nw_anti dm h⟩
end
end D

set_option Elab.async false
set_option linter.all false
set_option maxRecDepth 100000
set_option maxHeartbeats 4000000
namespace D
open PySem PySem.Spec PyProof.Rows L2
open ToPy (py)
local macro_rules | `(tactic| walk_at "side") => `(tactic| first | assumption | omega | (refine Int.emod_nonneg _ ?_; omega) | (refine Int.emod_lt_of_pos _ ?_; omega) | (simp at *; omega) | (simp; done) | decide | skip)
local macro_rules | `(tactic| walk_at "d") => `(tactic| first
  | with_reducible exact ev_int | with_reducible exact ev_str | with_reducible exact ev_bl | with_reducible exact ev_non
  | exact ev_var rfl
  | with_reducible exact ev_ty
  | with_reducible exact ev_cls
  | ((with_reducible apply ev_op) <;> walk_at "d")
  | ((with_reducible apply ev_un) <;> walk_at "d")
  | ((with_reducible apply ev_call) <;> walk_at "d")
  | ((with_reducible apply ev_callX) <;> walk_at "d")
  | ((with_reducible apply ev_cb) <;> walk_at "d")
  | with_reducible exact ea_nil
  | ((with_reducible apply ea_cons) <;> walk_at "d")
  | with_reducible exact s_add
  | with_reducible exact s_sub
  | with_reducible exact s_lt
  | with_reducible exact s_le
  | with_reducible exact s_gt
  | with_reducible exact s_ge
  | with_reducible exact s_eqI
  | with_reducible exact s_neI
  | with_reducible exact s_eqS
  | with_reducible exact s_neS
  | with_reducible exact s_neB
  | exact s_eqSame (sh_ints2 _) | exact s_neSame (sh_ints2 _) | exact s_eqSame (sh_ints _) | exact s_neSame (sh_ints _)
  | ((with_reducible apply s_mod) <;> walk_at "side")
  | walk_at "div" | walk_at "mul"
  | ((with_reducible apply s_catL) <;> walk_at "side")
  | ((with_reducible apply s_repL) <;> walk_at "side")
  | with_reducible exact s_fst
  | with_reducible exact s_snd
  | with_reducible exact s_t0
  | with_reducible exact s_t1
  | with_reducible exact s_t2
  | ((with_reducible apply s_last) <;> walk_at "side")
  | ((with_reducible apply s_ixS) <;> walk_at "side")
  | ((with_reducible apply s_ix) <;> walk_at "side")
  | ((with_reducible apply s_ixT) <;> walk_at "side")
  | with_reducible exact s_negI
  | with_reducible exact c_len
  | with_reducible exact c_lI
  | with_reducible exact c_tI
  | with_reducible exact c_pI
  | with_reducible exact c_t3I
  | with_reducible exact c_sI
  | with_reducible exact c_iI
  | with_reducible exact c_iB
  | with_reducible exact c_lenP
  | with_reducible exact c_len3
  | with_reducible exact c_isInt
  | with_reducible exact c_isBool
  | with_reducible exact c_isStr
  | with_reducible exact c_isList
  | with_reducible exact c_isTup
  | with_reducible exact c_lenTup
  | with_reducible exact c_lenScr
  | with_reducible exact c_listD
  | with_reducible exact c_listTD
  | with_reducible exact c_tup
  | with_reducible exact c_abs
  | with_reducible exact c_min2
  | with_reducible exact c_max2
  | with_reducible exact c_intB
  | with_reducible exact c_sum
  | ((with_reducible apply c_min) <;> walk_at "side")
  | ((with_reducible apply c_max) <;> walk_at "side")
  | ((with_reducible apply et_val) <;> walk_at "d")
  | ((with_reducible apply et_test) <;> walk_at "d")
  | ((with_reducible apply et_not) <;> walk_at "d")
  | ((with_reducible apply et_and) <;> (try with_reducible intro _) <;> walk_at "d")
  | ((with_reducible apply et_or) <;> (try with_reducible intro _) <;> walk_at "d")
  | ((with_reducible apply ev_and) <;> (try with_reducible intro _) <;> walk_at "d")
  | ((with_reducible apply ev_or) <;> (try with_reducible intro _) <;> walk_at "d")
  | ((with_reducible apply ev_chain) <;> (try with_reducible intro _) <;> walk_at "d")
  | ((with_reducible apply ev_not) <;> walk_at "d")
  | ((with_reducible apply ev_pair) <;> walk_at "d")
  | ((with_reducible apply ev_t3) <;> walk_at "d")
  | ((with_reducible apply ev_lst1) <;> walk_at "d")
  | ((with_reducible apply ev_lst2) <;> walk_at "d")
  | ((with_reducible apply ev_lst3) <;> walk_at "d")
  | ((with_reducible apply ev_lst4) <;> walk_at "d")
  | ((with_reducible apply ev_cut) <;> walk_at "d")
  | ((with_reducible apply ep_some) <;> walk_at "d")
  | ((with_reducible apply EvD.s) <;> walk_at "d")
  | ((with_reducible apply EvT.s) <;> walk_at "d")
  | ((with_reducible apply EvN.s) <;> walk_at "d")
  | ((with_reducible apply en_lst1) <;> walk_at "d")
  | ((with_reducible apply en_lst2) <;> walk_at "d")
  | ((with_reducible apply en_lst3) <;> walk_at "d")
  | ((with_reducible apply en_lst4) <;> walk_at "d")
  | ((with_reducible apply en_cut) <;> walk_at "d")
  | with_reducible exact ev_lst0
  | with_reducible exact ep_none
  | with_reducible exact en_lst0
  | ((with_reducible apply wi_L) <;> walk_at "d")
  | ((with_reducible apply wi_T) <;> walk_at "d")
  | ((with_reducible apply wi_zip) <;> walk_at "d")
  | ((with_reducible apply WiD.s) <;> walk_at "d")
  | ((with_reducible apply wi_range) <;> walk_at "side")
  | exact spec_cell (by omega) (by omega)
  | skip)
local macro_rules | `(tactic| walk_at "div") => `(tactic| first
  | exact s_div ⟨by omega, by omega⟩
  | exact s_divW (wd_div (by first | assumption | omega) (by assumption))
  | with_reducible apply s_div)
local macro_rules | `(tactic| walk_at "mul") => `(tactic| first
  | exact s_mul (Or.inl ⟨by omega, by omega⟩) | exact s_mul (Or.inr ⟨by omega, by omega⟩)
  | exact s_mulW (wd_mul (by assumption) (by assumption))
  | with_reducible apply s_mulW)
local macro_rules | `(tactic| walk_at "fg") => `(tactic| repeat (first | exact Fg.nil | apply Fg.same | apply Fg.drop | (refine Fg.eq ?_ ?_; rotate_left)))
local macro_rules | `(tactic| walk_at "end") => `(tactic| exact bd_turnE trivial rfl (by walk_at "fg"))
local macro_rules | `(tactic| walk_at "range") => `(tactic| (apply WiD.s; apply wi_range; (walk_at "d"); omega; omega))
local macro_rules | `(tactic| walk_at "app") => `(tactic| (refine' bd_appR 0 ?_ rfl ?_ ?_ ?_ ?_; (walk_at "d"); (walk_at "d"); rotate_right))
local macro_rules | `(tactic| walk_at "lend") => `(tactic| repeat (first | exact LendC.nil | apply LendC.no | (apply LendC.one; (exact lend_list 0 rfl)) | (apply LendC.one; (exact lend_same))))
/-! ### k06: the law's own look at what is told -/
def S_law_facts (K : PySem.W.Frag) (c : Cs) : Spec := fun Rs R => ∃ (p : Prob) (box : Box), Rs = [rep p.rows, rep box] ∧ p.Ok ∧ BoxOk p box ∧ R = rep (lawF p box)
def boxAt (ns : List Int) (i : Nat) : Int × Int :=
  if decide (cellAt ns (31 + (i : Int)) % 2 = 1) = true then (0, at_ (topsOf ns) i)
  else (cellAt ns (31 + (i : Int)) / 2 % (at_ (topsOf ns) i + 1), cellAt ns (31 + (i : Int)) / 2 % (at_ (topsOf ns) i + 1) + cellAt ns (31 + (i : Int)) / 42 % (at_ (topsOf ns) i - cellAt ns (31 + (i : Int)) / 2 % (at_ (topsOf ns) i + 1) + 1))
def boxOf (ns : List Int) : Box := (List.range (topsOf ns).length).map (boxAt ns)
def S_law_box (K : PySem.W.Frag) (c : Cs) : Spec := fun Rs R => ∃ ns : List Int, Rs = [scr K ns, rep (topsOf ns)] ∧ R = rep (boxOf ns)
def S_law_spot (K : PySem.W.Frag) (c : Cs) : Spec := fun Rs R => ∃ (p : Prob) (box : Box) (ns : List Int) (sc : Int), Rs = [rep (lawF p box), rep (ns, sc)] ∧ p.Ok ∧ BoxOk p box ∧ ns.length = box.length ∧ 1 ≤ sc ∧ sc ≤ 750000 ∧ (∀ j, j < fN p box → dot (factAt p box j).1.l ns ≤ (factAt p box j).2 * sc) ∧ R = rep true
def S_law_most (K : PySem.W.Frag) (c : Cs) : Spec := fun Rs R => ∃ (p : Prob) (box : Box) (ns : List Int) (sc : Int) (ws : List Int), Rs = [rep (lawF p box), rep p.gain, rep (Told.most ns sc ws)] ∧ p.Ok ∧ BoxOk p box ∧ (Told.most ns sc ws).Good p box ∧ R = rep true
def S_law_right (K : PySem.W.Frag) (c : Cs) : Spec := fun Rs R => ∃ (p : Prob) (box : Box) (t : Told), Rs = [rep (lawF p box), rep p.gain, rep t] ∧ p.Ok ∧ BoxOk p box ∧ t.Good p box ∧ R = rep true
def n_law_box : List Str := ["_law_script", "_law_tops_here", "_law_box_here", "_law_k", "_law_cell", "_law_low", "_law_pair"]
def t_law_box (K : PySem.W.Frag) (c : Cs) : TS := (tSeq (tAsg (tLst tNil) (gName 2))
  (tSeq (tFor (iRng1 (tCons (tCB (rLenX K) (tCons (tVar 1) tNil)) tNil)) (gName 3) (tSeq (tAsg (tCall (spD (S_law_cell_at K c)) [] E0 (tCons (tVar 0) (tCons (tOp (rAddX K) (tC (.int 31)) (tVar 3)) tNil))) (gName 4))
  (tSeq (tAsg (tOp rModI (tOp rDivI (tVar 4) (tC (.int 2))) (tOp (rAddX K) (tOp (rIx K) (tVar 1) (tVar 3)) (tC (.int 1)))) (gName 5))
  (tSeq (tAsg (tTup (tCons (tVar 5) (tCons (tOp (rAddX K) (tVar 5) (tOp rModI (tOp rDivI (tVar 4) (tC (.int 42))) (tOp (rAddX K) (tOp rSubI (tOp (rIx K) (tVar 1) (tVar 3)) (tVar 5)) (tC (.int 1))))) tNil))) (gName 6))
  (tSeq (tIfS (tTest (tOp (rEqX K) (tOp rModI (tVar 4) (tC (.int 2))) (tC (.int 1)))) (tSeq (tAsg (tTup (tCons (tC (.int 0)) (tCons (tOp (rIx K) (tVar 1) (tVar 3)) tNil))) (gName 6))
  tNext) tNext)
  (tSeq (tDrop (tBM K "list" rAppend (tVar 2) (tCons (tVar 6) tNil)))
  tNext))))))
  (tSeq (tRet (tVar 2))
  tNext)))
def n_law_facts : List Str := ["_law_rows_here", "_law_box_here", "_law_found", "_law_row", "_law_k", "_law_sign", "_law_one", "_law_other", "_law_number_here"]
def t_law_facts (K : PySem.W.Frag) (c : Cs) : TS := (tSeq (tAsg (tLst tNil) (gName 2))
  (tSeq (tFor (iList K (tVar 0)) (gName 3) (tSeq (tAsg (tC (.int 1)) (gName 5))
  (tSeq (tIfS (tTest (tOp (rEqX K) (tOp (rIx K) (tVar 3) (tC (.int 1))) (tC (.str "least")))) (tSeq (tAsg (tUn rNegI (tC (.int 1))) (gName 5))
  tNext) tNext)
  (tSeq (tDrop (tBM K "list" rAppend (tVar 2) (tCons (tTup (tCons (tLc (iTup K (tOp (rIx K) (tVar 3) (tC (.int 0)))) (gName 8) tYes (tOp (rMulX K) (tVar 5) (tVar 8)) [8]) (tCons (tOp (rMulX K) (tVar 5) (tOp (rIx K) (tVar 3) (tC (.int 2)))) tNil))) tNil)))
  tNext))))
  (tSeq (tFor (iRng1 (tCons (tCB (rLenX K) (tCons (tVar 1) tNil)) tNil)) (gName 4) (tSeq (tAsg (tOp (rMulX K) (tLst (tCons (tC (.int 0)) tNil)) (tCB (rLenX K) (tCons (tVar 1) tNil))) (gName 6))
  (tSeq (tAsg (tC (.int 1)) (gSub (tVar 6) (tVar 4) rSetL))
  (tSeq (tAsg (tOp (rMulX K) (tLst (tCons (tC (.int 0)) tNil)) (tCB (rLenX K) (tCons (tVar 1) tNil))) (gName 7))
  (tSeq (tAsg (tUn rNegI (tC (.int 1))) (gSub (tVar 7) (tVar 4) rSetL))
  (tSeq (tDrop (tBM K "list" rAppend (tVar 2) (tCons (tTup (tCons (tVar 6) (tCons (tOp (rIx K) (tOp (rIx K) (tVar 1) (tVar 4)) (tC (.int 1))) tNil))) tNil)))
  (tSeq (tDrop (tBM K "list" rAppend (tVar 2) (tCons (tTup (tCons (tVar 7) (tCons (tOp rSubI (tC (.int 0)) (tOp (rIx K) (tOp (rIx K) (tVar 1) (tVar 4)) (tC (.int 0)))) tNil))) tNil)))
  tNext)))))))
  (tSeq (tRet (tVar 2))
  tNext))))
def n_law_spot : List Str := ["_law_rows_here", "_law_spot_here", "_law_number_here", "_law_fact", "_law_whole_here", "_law_k"]
def t_law_spot (K : PySem.W.Frag) (c : Cs) : TS := (tSeq (tIfS (tOr (tNot (tB (tCB (rIsi K) (tCons (tVar 1) (tCons (tC (.ty "tuple")) tNil))))) (tOr (tTest (tOp (rNeX K) (tCB (rLenX K) (tCons (tVar 1) tNil)) (tC (.int 2)))) (tOr (tNot (tB (tCB (rIsi K) (tCons (tOp (rIx K) (tVar 1) (tC (.int 0))) (tCons (tC (.ty "list")) tNil))))) (tNot (tB (tCall (spD (S_law_whole K c)) [] E0 (tCons (tOp (rIx K) (tVar 1) (tC (.int 1))) tNil))))))) (tSeq (tRet (tC (.bl false)))
  tNext) tNext)
  (tSeq (tIfS (tOr (tTest (tOp rLtI (tOp (rIx K) (tVar 1) (tC (.int 1))) (tC (.int 1)))) (tTest (tOp (rNeX K) (tCB (rLenX K) (tCons (tOp (rIx K) (tVar 1) (tC (.int 0))) tNil)) (tCB (rLenX K) (tCons (tOp (rIx K) (tOp (rIx K) (tVar 0) (tC (.int 0))) (tC (.int 0))) tNil))))) (tSeq (tRet (tC (.bl false)))
  tNext) tNext)
  (tSeq (tFor (iList K (tOp (rIx K) (tVar 1) (tC (.int 0)))) (gName 2) (tSeq (tIfS (tNot (tB (tCall (spD (S_law_whole K c)) [] E0 (tCons (tVar 2) tNil)))) (tSeq (tRet (tC (.bl false)))
  tNext) tNext)
  tNext))
  (tSeq (tFor (iList K (tVar 0)) (gName 3) (tSeq (tAsg (tC (.int 0)) (gName 4))
  (tSeq (tFor (iRng1 (tCons (tCB (rLenX K) (tCons (tOp (rIx K) (tVar 1) (tC (.int 0))) tNil)) tNil)) (gName 5) (tSeq (tAsg (tOp (rAddX K) (tVar 4) (tOp (rMulX K) (tOp (rIx K) (tOp (rIx K) (tVar 3) (tC (.int 0))) (tVar 5)) (tOp (rIx K) (tOp (rIx K) (tVar 1) (tC (.int 0))) (tVar 5)))) (gName 4))
  tNext))
  (tSeq (tIfS (tTest (tOp rGtI (tVar 4) (tOp (rMulX K) (tOp (rIx K) (tVar 3) (tC (.int 1))) (tOp (rIx K) (tVar 1) (tC (.int 1)))))) (tSeq (tRet (tC (.bl false)))
  tNext) tNext)
  tNext))))
  (tSeq (tRet (tC (.bl true)))
  tNext)))))
def n_law_most : List Str := ["_law_rows_here", "_law_gain_here", "_law_found", "_law_pair", "_law_whole_here", "_law_k", "_law_number_here"]
def t_law_most (K : PySem.W.Frag) (c : Cs) : TS := (tSeq (tIfS (tOr (tTest (tOp (rNeX K) (tCB (rLenX K) (tCons (tVar 2) tNil)) (tC (.int 4)))) (tOr (tNot (tB (tCall (spD (S_law_spot K c)) [] E0 (tCons (tVar 0) (tCons (tOp (rIx K) (tVar 2) (tC (.int 1))) tNil))))) (tNot (tB (tCall (spD (S_law_are_weights K c)) [] E0 (tCons (tOp (rIx K) (tVar 2) (tC (.int 2))) (tCons (tCB (rLenX K) (tCons (tVar 0) tNil)) tNil))))))) (tSeq (tRet (tC (.bl false)))
  tNext) tNext)
  (tSeq (tIfS (tOr (tNot (tB (tCall (spD (S_law_whole K c)) [] E0 (tCons (tOp (rIx K) (tVar 2) (tC (.int 3))) tNil)))) (tTest (tOp rLtI (tOp (rIx K) (tVar 2) (tC (.int 3))) (tC (.int 1))))) (tSeq (tRet (tC (.bl false)))
  tNext) tNext)
  (tSeq (tAsg (tCall (spD (S_law_summed K c)) [] E0 (tCons (tVar 0) (tCons (tOp (rIx K) (tVar 2) (tC (.int 2))) tNil))) (gName 3))
  (tSeq (tAsg (tC (.int 0)) (gName 4))
  (tSeq (tFor (iRng1 (tCons (tCB (rLenX K) (tCons (tVar 1) tNil)) tNil)) (gName 5) (tSeq (tAsg (tOp (rAddX K) (tVar 4) (tOp (rMulX K) (tOp (rIx K) (tVar 1) (tVar 5)) (tOp (rIx K) (tOp (rIx K) (tOp (rIx K) (tVar 2) (tC (.int 1))) (tC (.int 0))) (tVar 5)))) (gName 4))
  tNext))
  (tSeq (tRet (tAndV (tOp (rEqX K) (tOp (rIx K) (tVar 3) (tC (.int 0))) (tLc (iList K (tVar 1)) (gName 6) tYes (tOp (rMulX K) (tOp (rIx K) (tVar 2) (tC (.int 3))) (tVar 6)) [6])) (tOp (rEqX K) (tOp (rMulX K) (tOp (rIx K) (tVar 3) (tC (.int 1))) (tOp (rIx K) (tOp (rIx K) (tVar 2) (tC (.int 1))) (tC (.int 1)))) (tOp (rMulX K) (tVar 4) (tOp (rIx K) (tVar 2) (tC (.int 3)))))))
  tNext))))))
def n_law_right : List Str := ["_law_rows_here", "_law_gain_here", "_law_found", "_law_pair"]
def t_law_right (K : PySem.W.Frag) (c : Cs) : TS := (tSeq (tIfS (tOr (tNot (tB (tCB (rIsi K) (tCons (tVar 2) (tCons (tC (.ty "tuple")) tNil))))) (tOr (tTest (tOp rLtI (tCB (rLenX K) (tCons (tVar 2) tNil)) (tC (.int 2)))) (tNot (tB (tCB (rIsi K) (tCons (tOp (rIx K) (tVar 2) (tC (.int 0))) (tCons (tC (.ty "str")) tNil))))))) (tSeq (tRet (tC (.bl false)))
  tNext) tNext)
  (tSeq (tIfS (tTest (tOp (rEqX K) (tOp (rIx K) (tVar 2) (tC (.int 0))) (tC (.str "none")))) (tSeq (tIfS (tOr (tTest (tOp (rNeX K) (tCB (rLenX K) (tCons (tVar 2) tNil)) (tC (.int 2)))) (tNot (tB (tCall (spD (S_law_are_weights K c)) [] E0 (tCons (tOp (rIx K) (tVar 2) (tC (.int 1))) (tCons (tCB (rLenX K) (tCons (tVar 0) tNil)) tNil)))))) (tSeq (tRet (tC (.bl false)))
  tNext) tNext)
  (tSeq (tAsg (tCall (spD (S_law_summed K c)) [] E0 (tCons (tVar 0) (tCons (tOp (rIx K) (tVar 2) (tC (.int 1))) tNil))) (gName 3))
  (tSeq (tRet (tAndV (tOp (rEqX K) (tOp (rIx K) (tVar 3) (tC (.int 0))) (tOp (rMulX K) (tLst (tCons (tC (.int 0)) tNil)) (tCB (rLenX K) (tCons (tVar 1) tNil)))) (tOp rLtI (tOp (rIx K) (tVar 3) (tC (.int 1))) (tC (.int 0)))))
  tNext))) tNext)
  (tSeq (tRet (tAndV (tOp (rEqX K) (tOp (rIx K) (tVar 2) (tC (.int 0))) (tC (.str "most"))) (tCall (spD (S_law_most K c)) [] E0 (tCons (tVar 0) (tCons (tVar 1) (tCons (tVar 2) tNil))))))
  tNext)))
theorem box_at (ns : List Int) (i : Nat) (h : i < (topsOf ns).length) : 0 ≤ (boxAt ns i).1 ∧ (boxAt ns i).1 ≤ (boxAt ns i).2 ∧ (boxAt ns i).2 ≤ at_ (topsOf ns) i := by
  have t := (tops_in ns).2 _ (at_mem h)
  unfold boxAt
  generalize at_ (topsOf ns) i = top at t
  generalize cellAt ns (31 + (i : Int)) = x
  split
  · exact ⟨Int.le_refl _, t.1, Int.le_refl _⟩
  · have a1 := Int.emod_nonneg (x / 2) (b := top + 1) (by omega)
    have a2 := Int.emod_lt_of_pos (x / 2) (b := top + 1) (by omega)
    generalize x / 2 % (top + 1) = lo at a1 a2
    have b1 := Int.emod_nonneg (x / 42) (b := top - lo + 1) (by omega)
    have b2 := Int.emod_lt_of_pos (x / 42) (b := top - lo + 1) (by omega)
    generalize x / 42 % (top - lo + 1) = m at b1 b2
    exact ⟨a1, by simp only; omega, by simp only; omega⟩
theorem boxOf_ok (ns : List Int) : BoxOk (probOf ns) (boxOf ns) := by
  have l : (boxOf ns).length = (topsOf ns).length := by simp [boxOf]
  have e : ∀ i, i < (boxOf ns).length → at_ (boxOf ns) i = boxAt ns i := fun i hi => at_map_range _ (by omega)
  exact ⟨l, fun i hi => by rw [e i hi]; exact (box_at ns i (by omega)).1, fun i hi => by rw [e i hi]; exact (box_at ns i (by omega)).2.1, fun i hi => by rw [e i hi]; exact (box_at ns i (by omega)).2.2⟩
def dotTo (xs ys : List Int) (i : Nat) : Int := ((List.range i).map fun k => at_ xs k * at_ ys k).sum
theorem dotTo_succ (xs ys : List Int) (i : Nat) : dotTo xs ys (i + 1) = dotTo xs ys i + at_ xs i * at_ ys i := by
  unfold dotTo
  rw [List.range_succ, List.map_append, List.sum_append]
  simp
section
variable {K : PySem.W.Frag} {c : Cs}
theorem rd_law_facts : ∀ Rs R, S_law_facts K c Rs R → ∀ B : Base, B.m = [] → BDe B (startC n_law_facts Rs) [] (t_law_facts K c) (fnP B R) := by
  rintro _ _ ⟨p, box, rfl, k, hb, rfl⟩ B hm
  have n3 := k.n3
  have n1 := k.n1
  have m6 := k.m6
  have bl := hb.len
  obtain ⟨g, eg⟩ : ∃ g : Nat → List Int × Int, g = fun j => ((factAt p box j).1.l, (factAt p box j).2) := ⟨_, rfl⟩
  have ge : ∀ j, g j = ((factAt p box j).1.l, (factAt p box j).2) := fun j => by rw [eg]
  apply bd_nil (List Int × Int)
  intro q
  apply bd_forE (n := p.rows.length) (item := fun i => rep (at_ p.rows i)) (fun _ => [some (rep p.rows), some (rep box), some (own q), none, none, none, none, none, none]) (fun i => [(q, oL ((List.range i).map g))]) (fun _ => True)
  · exact WiD.s (wi_L (ev_var rfl))
  · walk_at "fg"
  · rfl
  · trivial
  · intro i hi
    exact tg_name
  · intro i hi _
    have hr : at_ p.rows i ∈ p.rows := at_mem hi
    have ef : factAt p box i = rowFact (at_ p.rows i) := by unfold factAt; rw [if_pos hi]
    have rl := k.rl _ hr
    have rn := k.rn _ hr
    have rb := k.rb _ hr
    have rw_ := k.rw _ hr
    obtain ⟨sg, es⟩ : ∃ sg : Int, sg = if (at_ p.rows i).b = "least" then -1 else 1 := ⟨_, rfl⟩
    have gi : ((List.range (at_ p.rows i).a.l.length).map (fun j => sg * at_ (at_ p.rows i).a.l j), sg * (at_ p.rows i).c) = g i := by
      rw [ge, ef]
      unfold rowFact
      rcases rw_ with w | w
      · have e : sg = 1 := by
          rw [es, if_neg (by rw [w]; decide)]
        rw [if_pos w, e]
        congr 1
        · have := map_range_len (at_ p.rows i).a.l (fun x => x)
          simpa using this
        · omega
      · have e : sg = -1 := by
          rw [es, if_pos w]
        rw [if_neg (by rw [w]; decide), e]
        congr 1
        · apply List.map_congr_left
          intro j _
          omega
        · show -1 * (at_ p.rows i).c = 0 - (at_ p.rows i).c
          omega
    have sb : sg = 1 ∨ sg = -1 := by rw [es]; split <;> omega
    apply bd_set (R := rep (1 : Int)) (EvD.s ev_int)
    apply bd_ifset (α := Int) (b := decide ((at_ p.rows i).b = "least")) (a := -1) (c := 1)
    · exact EvT.s (et_test (ev_op (ev_op (ev_var rfl) ev_int s_t1) ev_str s_eqS))
    · intro _
      exact EvD.s (ev_un ev_int s_negI)
    · rfl
    have e2 : (if decide ((at_ p.rows i).b = "least") = true then (-1 : Int) else 1) = sg := by
      rw [es]
      simp only [decide_eq_true_eq]
    rw [e2]
    refine bd_appR (α := List Int × Int) (g := g) (n := i) (a := ((List.range (at_ p.rows i).a.l.length).map (fun j => sg * at_ (at_ p.rows i).a.l j), sg * (at_ p.rows i).c)) 0 (ev_var rfl) rfl ?_ gi (by omega) ?_
    · apply EvD.s
      apply ev_pair
      · apply ev_lc (α := Int) (n := (at_ p.rows i).a.l.length) (item := fun j => rep (at_ (at_ p.rows i).a.l j)) (val := fun j => sg * at_ (at_ p.rows i).a.l j)
        · exact wi_T (xs := (at_ p.rows i).a.l) (ev_op (ev_var (R := rep (at_ p.rows i)) rfl) ev_int s_t0)
        · intro j hj
          exact tl_name (by decide)
        · intro j hj
          exact ev_op (ev_var rfl) (ev_var rfl) (s_mul (.inl ⟨by omega, by omega⟩))
        · omega
      · exact ev_op (ev_var rfl) (ev_op (ev_var rfl) ev_int s_t2) (s_mul (.inl ⟨by omega, by omega⟩))
    exact bd_turnE trivial rfl (by walk_at "fg")
  intro _
  apply bd_forE (n := box.length) (item := fun i => rep (i : Int)) (fun _ => [some (rep p.rows), some (rep box), some (own q), none, none, none, none, none, none]) (fun i => [(q, oL ((List.range (p.rows.length + 2 * i)).map g))]) (fun _ => True)
  · exact WiD.s (wi_rangeN (ev_cb (ea_cons (ev_var rfl) ea_nil) c_len) (by omega))
  · walk_at "fg"
  · rfl
  · trivial
  · intro i hi
    exact tg_name
  · intro i hi _
    have e1 : g (p.rows.length + 2 * i) = ((List.replicate box.length 0).set i 1, (at_ box i).2) := by
      rw [ge, fact_up hi]
      rfl
    have e2 : g (p.rows.length + 2 * i + 1) = ((List.replicate box.length 0).set i (-1), 0 - (at_ box i).1) := by
      rw [ge, fact_lw hi]
      rfl
    have zs : ∀ {Γ : Ctx}, EvD Γ (tVar 1) (rep box) → EvN Γ (tOp (rMulX K) (tLst (tCons (tC (.int 0)) tNil)) (tCB (rLenX K) (tCons (tVar 1) tNil))) (oL (List.replicate box.length (0 : Int))) := fun h => by
      have z := ev_opN (ev_lst1 (ev_int (i := 0))) (ev_cb (ea_cons h ea_nil) (c_len (K := K))) (s_rep (K := K) (a := (0 : Int)) (k := (box.length : Int)) (by omega) (by omega))
      rw [Int.toNat_natCast] at z
      exact z
    apply bd_own (T := oL (List.replicate box.length (0 : Int))) (EvN.s (zs (ev_var rfl)))
    intro r
    refine bd_setI (α := Int) (xs := List.replicate box.length 0) (a := 1) (z := (i : Int)) 0 (EvD.s ev_int) (ev_var rfl) (EvD.s (ev_var rfl)) rfl (by omega) (by rw [List.length_replicate]; omega) ?_
    refine bd_frz (xs := (List.replicate box.length (0 : Int)).set i 1) 0 6 rfl rfl hm ?_
    apply bd_own (T := oL (List.replicate box.length (0 : Int))) (EvN.s (zs (ev_var rfl)))
    intro r'
    refine bd_setI (α := Int) (xs := List.replicate box.length 0) (a := -1) (z := (i : Int)) 0 (EvD.s (ev_un ev_int s_negI)) (ev_var rfl) (EvD.s (ev_var rfl)) rfl (by omega) (by rw [List.length_replicate]; omega) ?_
    refine bd_frz (xs := (List.replicate box.length (0 : Int)).set i (-1)) 0 7 rfl rfl hm ?_
    refine bd_appR (α := List Int × Int) (g := g) (n := p.rows.length + 2 * i) (a := ((List.replicate box.length 0).set i 1, (ix box (i : Int)).2)) 0 (ev_var rfl) rfl ?_ e1.symm (by omega) ?_
    · exact EvD.s (ev_pair (ev_var rfl) (ev_op (ev_op (ev_var rfl) (ev_var rfl) (s_ix (xs := box) (by omega) (by omega))) ev_int s_snd))
    refine bd_appR (α := List Int × Int) (g := g) (n := p.rows.length + 2 * i + 1) (a := ((List.replicate box.length 0).set i (-1), 0 - (ix box (i : Int)).1)) 0 (ev_var rfl) rfl ?_ e2.symm (by omega) ?_
    · exact EvD.s (ev_pair (ev_var rfl) (ev_op ev_int (ev_op (ev_op (ev_var rfl) (ev_var rfl) (s_ix (xs := box) (by omega) (by omega))) ev_int s_fst) s_sub))
    · refine bd_turnE trivial ?_ (by walk_at "fg")
      rfl
  intro _
  refine bd_frz (xs := (List.range (p.rows.length + 2 * box.length)).map g) 0 2 rfl rfl hm ?_
  refine bd_retE (a := (List.range (p.rows.length + 2 * box.length)).map g) hm (EvD.s (ev_var rfl)) ?_
  rw [eg]
  rfl
theorem rd_law_box : ∀ Rs R, S_law_box K c Rs R → ∀ B : Base, B.m = [] → BDe B (startC n_law_box Rs) [] (t_law_box K c) (fnP B R) := by
  rintro _ _ ⟨ns, rfl, rfl⟩ B hm
  have k := prob_ok ns
  have n3 : (topsOf ns).length ≤ 3 := k.n3
  apply bd_nil (Int × Int)
  intro q
  apply bd_forE (n := (topsOf ns).length) (item := fun i => rep (i : Int)) (fun _ => [some (scr K ns), some (rep (topsOf ns)), some (own q), none, none, none, none]) (fun i => [(q, oL ((List.range i).map (boxAt ns)))]) (fun _ => True)
  · exact WiD.s (wi_rangeN (ev_cb (ea_cons (ev_var rfl) ea_nil) c_len) (by omega))
  · walk_at "fg"
  · rfl
  · trivial
  · intro i hi
    exact tg_name
  · intro i hi _
    have t := (tops_in ns).2 _ (at_mem hi)
    obtain ⟨x, ex⟩ : ∃ x, x = cellAt ns (31 + (i : Int)) := ⟨_, rfl⟩
    obtain ⟨top, et⟩ : ∃ top, top = at_ (topsOf ns) i := ⟨_, rfl⟩
    have ti : ∀ {Γ : Ctx}, EvD Γ (tVar 1) (rep (topsOf ns)) → EvD Γ (tVar 3) (rep (i : Int)) → EvD Γ (tOp (rIx K) (tVar 1) (tVar 3)) (rep top) := fun h1 h2 => by
      rw [et]
      exact ev_op h1 h2 (s_ix (xs := topsOf ns) (i := (i : Int)) (by omega) (by omega))
    have ea : boxAt ns i = if decide (x % 2 = 1) = true then (0, top) else (x / 2 % (top + 1), x / 2 % (top + 1) + x / 42 % (top - x / 2 % (top + 1) + 1)) := by
      rw [ex, et]
      rfl
    rw [← et] at t
    have a1 := Int.emod_nonneg (x / 2) (b := top + 1) (by omega)
    have a2 := Int.emod_lt_of_pos (x / 2) (b := top + 1) (by omega)
    apply bd_set (R := rep x)
    · apply EvD.s
      rw [ex]
      exact ev_call (ea_cons (ev_var rfl) (ea_cons (ev_op ev_int (ev_var rfl) s_add) ea_nil)) (spec_cell (by omega) (by omega))
    apply bd_set (R := rep (x / 2 % (top + 1)))
    · exact EvD.s (ev_op (ev_op (ev_var rfl) ev_int (s_div ⟨by omega, by omega⟩)) (ev_op (ti (ev_var rfl) (ev_var rfl)) ev_int s_add) (s_mod (by omega)))
    apply bd_set (R := rep (x / 2 % (top + 1), x / 2 % (top + 1) + x / 42 % (top - x / 2 % (top + 1) + 1)))
    · refine EvD.s (ev_pair (ev_var rfl) (ev_op (ev_var rfl) (ev_op (ev_op (ev_var rfl) ev_int (s_div ⟨by omega, by omega⟩)) (ev_op (ev_op (ti (ev_var rfl) (ev_var rfl)) (ev_var rfl) s_sub) ev_int s_add) (s_mod ?_)) s_add))
      omega
    apply bd_ifset (α := Int × Int) (b := decide (x % 2 = 1)) (a := (0, top)) (c := (x / 2 % (top + 1), x / 2 % (top + 1) + x / 42 % (top - x / 2 % (top + 1) + 1)))
    · exact EvT.s (et_test (ev_op (ev_op (ev_var rfl) ev_int (s_mod (by omega))) ev_int s_eqI))
    · intro _
      exact EvD.s (ev_pair ev_int (ti (ev_var rfl) (ev_var rfl)))
    · rfl
    rw [← ea]
    refine bd_appR (α := Int × Int) (g := boxAt ns) (n := i) (a := boxAt ns i) 0 (ev_var rfl) rfl (EvD.s (ev_var rfl)) rfl (by omega) ?_
    exact bd_turnE trivial rfl (by walk_at "fg")
  · intro _
    refine bd_frz (xs := boxOf ns) 0 2 rfl rfl hm ?_
    exact bd_retR hm (EvD.s (ev_var rfl))
theorem rd_law_spot : ∀ Rs R, S_law_spot K c Rs R → ∀ B : Base, B.m = [] → BDe B (startC n_law_spot Rs) [] (t_law_spot K c) (fnP B R) := by
  rintro _ _ ⟨p, box, ns, sc, rfl, k, hb, nl, s1, s2, hf, rfl⟩ B hm
  have n1 := k.n1
  have n3 := k.n3
  have bl := hb.len
  have ll := lawF_len p box
  have fe : fN p box = p.rows.length + 2 * box.length := rfl
  have f0 := fact_num k hb (j := 0) (by omega)
  have g0 : ∀ {Γ : Ctx}, EvD Γ (tVar 1) (rep (ns, sc)) → EvD Γ (tOp (rIx K) (tVar 1) (tC (.int 0))) (rep ns) := fun h => ev_op h ev_int s_fst
  have g1 : ∀ {Γ : Ctx}, EvD Γ (tVar 1) (rep (ns, sc)) → EvD Γ (tOp (rIx K) (tVar 1) (tC (.int 1))) (rep sc) := fun h => ev_op h ev_int s_snd
  apply bd_ifr (b := !true || (!decide ((2 : Int) = 2) || (!true || !true)))
  · apply EvT.s
    apply et_or (et_not (et_val (ev_cb (ea_cons (ev_var rfl) (ea_cons ev_ty ea_nil)) c_pI)))
    intro _
    apply et_or (et_test (ev_op (ev_cb (ea_cons (ev_var rfl) ea_nil) c_lenP) ev_int s_neI))
    intro _
    apply et_or (et_not (et_val (ev_cb (ea_cons (g0 (ev_var rfl)) (ea_cons ev_ty ea_nil)) c_lI)))
    intro _
    exact et_not (et_val (ev_call (ea_cons (g1 (ev_var rfl)) ea_nil) ⟨sc, rfl, rfl⟩))
  · intro h
    simp at h
  intro _
  apply bd_ifr (b := decide (sc < 1) || !decide ((ns.length : Int) = (box.length : Int)))
  · apply EvT.s
    apply et_or (et_test (ev_op (g1 (ev_var rfl)) ev_int s_lt))
    intro _
    apply et_test
    refine ev_op (ev_cb (ea_cons (g0 (ev_var rfl)) ea_nil) c_len) ?_ s_neI
    have z : EvD (startC n_law_spot [rep (lawF p box), rep (ns, sc)]) (tOp (rIx K) (tVar 0) (tC (.int 0))) (rep (ix (lawF p box) (0 : Int))) := ev_op (ev_var rfl) ev_int (s_ix (xs := lawF p box) (by omega) (by omega))
    have e0 : ix (lawF p box) (0 : Int) = ((factAt p box 0).1.l, (factAt p box 0).2) := lawF_at p box (by omega)
    rw [e0] at z
    have z2 : EvD (startC n_law_spot [rep (lawF p box), rep (ns, sc)]) (tOp (rIx K) (tOp (rIx K) (tVar 0) (tC (.int 0))) (tC (.int 0))) (rep (factAt p box 0).1.l) := ev_op z ev_int (s_fst (x := ((factAt p box 0).1.l, (factAt p box 0).2)))
    refine ev_eq (ev_cb (ea_cons z2 ea_nil) c_len) ?_
    rw [f0.1]
  · intro h
    simp at h
    omega
  intro _
  apply bd_forE (n := ns.length) (item := fun i => rep (at_ ns i)) (fun _ => startC n_law_spot [rep (lawF p box), rep (ns, sc)]) (fun _ => []) (fun _ => True)
  · exact WiD.s (wi_L (g0 (ev_var rfl)))
  · walk_at "fg"
  · rfl
  · trivial
  · intro i hi
    exact tg_name
  · intro i hi _
    apply bd_ifr (b := !true)
    · exact EvT.s (et_not (et_val (ev_call (ea_cons (ev_var rfl) ea_nil) ⟨_, rfl, rfl⟩)))
    · intro h
      cases h
    intro _
    exact bd_turnE trivial rfl (by walk_at "fg")
  intro _
  apply bd_forE (n := (lawF p box).length) (item := fun i => rep (at_ (lawF p box) i)) (fun _ => startC n_law_spot [rep (lawF p box), rep (ns, sc)]) (fun _ => []) (fun _ => True)
  · exact WiD.s (wi_L (ev_var rfl))
  · walk_at "fg"
  · rfl
  · trivial
  · intro i hi
    exact tg_name
  · intro i hi _
    rw [ll] at hi
    have fa := fact_num k hb hi
    have fb := fact_bnd k hb hi
    have hfi := hf i hi
    rw [lawF_at p box hi]
    generalize factAt p box i = F at fa fb hfi
    apply bd_set (R := rep (dotTo F.1.l ns 0)) (EvD.s ev_int)
    apply bd_forE (n := ns.length) (item := fun j => rep (j : Int)) (fun j => [some (rep (lawF p box)), some (rep (ns, sc)), none, some (rep (F.1.l, F.2)), some (rep (dotTo F.1.l ns j)), none]) (fun _ => []) (fun _ => True)
    · exact WiD.s (wi_rangeN (ev_cb (ea_cons (g0 (ev_var rfl)) ea_nil) c_len) (by omega))
    · walk_at "fg"
    · rfl
    · trivial
    · intro j hj
      exact tg_name
    · intro j hj _
      have hx := fa.2 (at_ F.1.l j) (at_mem (by omega))
      apply bd_set (R := rep (dotTo F.1.l ns (j + 1)))
      · rw [dotTo_succ]
        apply EvD.s
        apply ev_op (ev_var rfl)
        · apply ev_op (Ra := rep (at_ F.1.l j)) (Rb := rep (at_ ns j))
          · exact ev_op (ev_op (ev_var rfl) ev_int (s_fst (x := (F.1.l, F.2)))) (ev_var rfl) (s_ix (xs := F.1.l) (i := (j : Int)) (by omega) (by omega))
          · exact ev_op (g0 (ev_var rfl)) (ev_var rfl) (s_ix (xs := ns) (i := (j : Int)) (by omega) (by omega))
          · exact s_mul (.inl ⟨by omega, by omega⟩)
        · exact s_add
      exact bd_turnE trivial rfl (by walk_at "fg")
    intro _
    apply bd_ifr (b := decide (F.2 * sc < dotTo F.1.l ns ns.length))
    · exact EvT.s (et_test (ev_op (ev_var rfl) (ev_op (ev_op (ev_var rfl) ev_int (s_snd (x := (F.1.l, F.2)))) (g1 (ev_var rfl)) (s_mul (.inl ⟨by omega, by omega⟩))) s_gt))
    · intro h
      have h := of_decide_eq_true h
      have e : dotTo F.1.l ns ns.length = dot F.1.l ns := by
        unfold dotTo dot
        rw [fa.1, nl]
      omega
    intro _
    exact bd_turnE trivial rfl (by walk_at "fg")
  intro _
  exact bd_retR hm (EvD.s ev_bl)
theorem rd_law_most : ∀ Rs R, S_law_most K c Rs R → ∀ B : Base, B.m = [] → BDe B (startC n_law_most Rs) [] (t_law_most K c) (fnP B R) := by
  rintro _ _ ⟨p, box, ns, sc, ws, rfl, k, hb, ⟨nl, s1, s2, hf, ⟨wl, w0⟩, gn, gb⟩, rfl⟩ B hm
  have n3 := k.n3
  have bl := hb.len
  have gl := k.gl
  have ll := lawF_len p box
  have tld : ∀ {Γ : Ctx}, EvD Γ (tVar 2) (rep (Told.most ns sc ws)) → EvD Γ (tVar 2) (rpD (.tuple [.str "most", .tuple [py ns, .int sc], py ws, .int sc])) := fun h => h
  have t1 : ∀ {Γ : Ctx}, EvD Γ (tVar 2) (rep (Told.most ns sc ws)) → EvD Γ (tOp (rIx K) (tVar 2) (tC (.int 1))) (rep (ns, sc)) := fun h => ev_op (tld h) ev_int (s_ixTD (d := .tuple [py ns, .int sc]) rfl)
  have t2 : ∀ {Γ : Ctx}, EvD Γ (tVar 2) (rep (Told.most ns sc ws)) → EvD Γ (tOp (rIx K) (tVar 2) (tC (.int 2))) (rep ws) := fun h => ev_op (tld h) ev_int (s_ixTD (d := py ws) rfl)
  have t3 : ∀ {Γ : Ctx}, EvD Γ (tVar 2) (rep (Told.most ns sc ws)) → EvD Γ (tOp (rIx K) (tVar 2) (tC (.int 3))) (rep sc) := fun h => ev_op (tld h) ev_int (s_ixTD (d := .int sc) rfl)
  apply bd_ifr (b := !decide ((4 : Int) = 4) || (!true || !true))
  · apply EvT.s
    apply et_or (et_test (ev_op (ev_cb (ea_cons (tld (ev_var rfl)) ea_nil) c_lenT) ev_int s_neI))
    intro _
    apply et_or (et_not (et_val (ev_call (ea_cons (ev_var rfl) (ea_cons (t1 (ev_var rfl)) ea_nil)) ⟨p, box, ns, sc, rfl, k, hb, nl, s1, s2, hf, rfl⟩)))
    intro _
    refine et_not (et_val (ev_eq (ev_call (ea_cons (t2 (ev_var rfl)) (ea_cons (ev_cb (ea_cons (ev_var rfl) ea_nil) (c_len (xs := lawF p box))) ea_nil)) ⟨ws, (lawF p box).length, rfl, rfl⟩) ?_))
    rw [ll]
    exact wsB_of wl w0
  · intro h
    simp at h
  intro _
  apply bd_ifr (b := !true || decide (sc < 1))
  · apply EvT.s
    apply et_or (et_not (et_val (ev_call (ea_cons (t3 (ev_var rfl)) ea_nil) ⟨sc, rfl, rfl⟩)))
    intro _
    exact et_test (ev_op (t3 (ev_var rfl)) ev_int s_lt)
  · intro h
    simp at h
    omega
  intro _
  apply bd_set (R := rep (sumsN p box ws, sumB (factsOf p box) ws (fN p box)))
  · exact EvD.s (ev_call (ea_cons (ev_var rfl) (ea_cons (t2 (ev_var rfl)) ea_nil)) ⟨p, box, ws, rfl, k, hb, wl, rfl⟩)
  apply bd_set (R := rep (dotTo p.gain ns 0)) (EvD.s ev_int)
  apply bd_forE (n := p.gain.length) (item := fun j => rep (j : Int)) (fun j => [some (rep (lawF p box)), some (rep p.gain), some (rep (Told.most ns sc ws)), some (rep (sumsN p box ws, sumB (factsOf p box) ws (fN p box))), some (rep (dotTo p.gain ns j)), none, none]) (fun _ => []) (fun _ => True)
  · exact WiD.s (wi_rangeN (ev_cb (ea_cons (ev_var rfl) ea_nil) c_len) (by omega))
  · walk_at "fg"
  · rfl
  · trivial
  · intro j hj
    exact tg_name
  · intro j hj _
    have hx := k.gn (at_ p.gain j) (at_mem (by omega))
    apply bd_set (R := rep (dotTo p.gain ns (j + 1)))
    · rw [dotTo_succ]
      apply EvD.s
      apply ev_op (ev_var rfl)
      · apply ev_op (Ra := rep (at_ p.gain j)) (Rb := rep (at_ ns j))
        · exact ev_op (ev_var rfl) (ev_var rfl) (s_ix (xs := p.gain) (i := (j : Int)) (by omega) (by omega))
        · exact ev_op (ev_op (t1 (ev_var rfl)) ev_int (s_fst (x := (ns, sc)))) (ev_var rfl) (s_ix (xs := ns) (i := (j : Int)) (by omega) (by omega))
        · exact s_mul (.inl ⟨by omega, by omega⟩)
      · exact s_add
    exact bd_turnE trivial rfl (by walk_at "fg")
  intro _
  have e : dotTo p.gain ns p.gain.length = sumB (factsOf p box) ws (fN p box) := by
    rw [gb]
    rfl
  apply bd_retE (a := decide (sumsN p box ws = (List.range p.gain.length).map fun u => sc * at_ p.gain u) && decide (sumB (factsOf p box) ws (fN p box) * sc = dotTo p.gain ns p.gain.length * sc)) hm
  · apply EvD.s
    apply ev_and
    · apply ev_op
      · exact ev_op (ev_var rfl) ev_int (s_fst (x := (sumsN p box ws, sumB (factsOf p box) ws (fN p box))))
      · apply ev_lc (α := Int) (n := p.gain.length) (item := fun i => rep (at_ p.gain i)) (val := fun u => sc * at_ p.gain u)
        · exact wi_L (ev_var rfl)
        · intro i hi
          exact tl_name (by decide)
        · intro i hi
          have gb := k.gn _ (at_mem hi)
          exact ev_op (t3 (ev_var rfl)) (ev_var rfl) (s_mul (.inr ⟨by omega, by omega⟩))
        · omega
      · exact s_eqL
    · intro _
      exact ev_op (ev_op (ev_op (ev_var rfl) ev_int (s_snd (x := (sumsN p box ws, sumB (factsOf p box) ws (fN p box))))) (ev_op (t1 (ev_var rfl)) ev_int (s_snd (x := (ns, sc)))) (s_mul (.inr ⟨by omega, by omega⟩))) (ev_op (ev_var rfl) (t3 (ev_var rfl)) (s_mul (.inr ⟨by omega, by omega⟩))) s_eqI
  · rw [decide_eq_true (sums_gain (by rw [gl, bl]) gn), e, decide_eq_true rfl]
    rfl
theorem rd_law_right : ∀ Rs R, S_law_right K c Rs R → ∀ B : Base, B.m = [] → BDe B (startC n_law_right Rs) [] (t_law_right K c) (fnP B R) := by
  rintro _ _ ⟨p, box, t, rfl, k, hb, good, rfl⟩ B hm
  have n3 := k.n3
  have bl := hb.len
  have gl := k.gl
  have ll := lawF_len p box
  cases t with
  | none ws =>
    obtain ⟨⟨wl, w0⟩, g1, g2⟩ := good
    have tld : ∀ {Γ : Ctx}, EvD Γ (tVar 2) (rep (Told.none ws)) → EvD Γ (tVar 2) (rpD (.tuple [.str "none", py ws])) := fun h => h
    have t0 : ∀ {Γ : Ctx}, EvD Γ (tVar 2) (rep (Told.none ws)) → EvD Γ (tOp (rIx K) (tVar 2) (tC (.int 0))) (rep ("none" : Str)) := fun h => ev_op (tld h) ev_int (s_ixTD (d := .str "none") rfl)
    have t1 : ∀ {Γ : Ctx}, EvD Γ (tVar 2) (rep (Told.none ws)) → EvD Γ (tOp (rIx K) (tVar 2) (tC (.int 1))) (rep ws) := fun h => ev_op (tld h) ev_int (s_ixTD (d := py ws) rfl)
    apply bd_ifr (b := !true || (false || !true))
    · apply EvT.s
      apply et_or (et_not (et_val (ev_cb (ea_cons (tld (ev_var rfl)) (ea_cons ev_ty ea_nil)) (c_isTup (d := .tuple [.str "none", py ws])))))
      intro _
      apply et_or (et_test (ev_op (ev_cb (ea_cons (tld (ev_var rfl)) ea_nil) c_lenT) ev_int s_lt))
      intro _
      exact et_not (et_val (ev_cb (ea_cons (t0 (ev_var rfl)) (ea_cons ev_ty ea_nil)) c_sI))
    · intro h
      cases h
    intro _
    apply bd_ifr (b := decide (("none" : Str) = "none"))
    · exact EvT.s (et_test (ev_op (t0 (ev_var rfl)) ev_str s_eqS))
    · intro _
      apply bd_ifr (b := !decide ((2 : Int) = 2) || !true)
      · apply EvT.s
        apply et_or (et_test (ev_op (ev_cb (ea_cons (tld (ev_var rfl)) ea_nil) c_lenT) ev_int s_neI))
        intro _
        refine et_not (et_val (ev_eq (ev_call (ea_cons (t1 (ev_var rfl)) (ea_cons (ev_cb (ea_cons (ev_var rfl) ea_nil) (c_len (xs := lawF p box))) ea_nil)) ⟨ws, (lawF p box).length, rfl, rfl⟩) ?_))
        rw [ll]
        exact wsB_of wl w0
      · intro h
        simp at h
      intro _
      apply bd_set (R := rep (sumsN p box ws, sumB (factsOf p box) ws (fN p box)))
      · exact EvD.s (ev_call (ea_cons (ev_var rfl) (ea_cons (t1 (ev_var rfl)) ea_nil)) ⟨p, box, ws, rfl, k, hb, wl, rfl⟩)
      apply bd_retE (a := decide (sumsN p box ws = List.replicate ((p.gain.length : Int)).toNat 0) && decide (sumB (factsOf p box) ws (fN p box) < 0)) hm
      · apply EvD.s
        apply ev_and
        · exact ev_op (ev_op (ev_var rfl) ev_int (s_fst (x := (sumsN p box ws, sumB (factsOf p box) ws (fN p box))))) (ev_op (ev_lst1 ev_int) (ev_cb (ea_cons (ev_var rfl) ea_nil) (c_len (xs := p.gain))) (s_repL (by omega) (by omega))) s_eqL
        · intro _
          exact ev_op (ev_op (ev_var rfl) ev_int (s_snd (x := (sumsN p box ws, sumB (factsOf p box) ws (fN p box))))) ev_int s_lt
      · have e : ((p.gain.length : Int)).toNat = box.length := by omega
        rw [e, decide_eq_true (sums_zero g1), decide_eq_true g2]
        rfl
    · intro h
      simp at h
  | most ns sc ws =>
    have tld : ∀ {Γ : Ctx}, EvD Γ (tVar 2) (rep (Told.most ns sc ws)) → EvD Γ (tVar 2) (rpD (.tuple [.str "most", .tuple [py ns, .int sc], py ws, .int sc])) := fun h => h
    have t0 : ∀ {Γ : Ctx}, EvD Γ (tVar 2) (rep (Told.most ns sc ws)) → EvD Γ (tOp (rIx K) (tVar 2) (tC (.int 0))) (rep ("most" : Str)) := fun h => ev_op (tld h) ev_int (s_ixTD (d := .str "most") rfl)
    apply bd_ifr (b := !true || (false || !true))
    · apply EvT.s
      apply et_or (et_not (et_val (ev_cb (ea_cons (tld (ev_var rfl)) (ea_cons ev_ty ea_nil)) (c_isTup (d := .tuple [.str "most", .tuple [py ns, .int sc], py ws, .int sc])))))
      intro _
      apply et_or (et_test (ev_op (ev_cb (ea_cons (tld (ev_var rfl)) ea_nil) c_lenT) ev_int s_lt))
      intro _
      exact et_not (et_val (ev_cb (ea_cons (t0 (ev_var rfl)) (ea_cons ev_ty ea_nil)) c_sI))
    · intro h
      cases h
    intro _
    apply bd_ifr (b := decide (("most" : Str) = "none"))
    · exact EvT.s (et_test (ev_op (t0 (ev_var rfl)) ev_str s_eqS))
    · intro h
      exact absurd (of_decide_eq_true h) (by decide)
    intro _
    apply bd_retE (a := decide (("most" : Str) = "most") && true) hm
    · apply EvD.s
      apply ev_and (ev_op (t0 (ev_var rfl)) ev_str s_eqS)
      intro _
      exact ev_call (ea_cons (ev_var rfl) (ea_cons (ev_var rfl) (ea_cons (ev_var rfl) ea_nil))) ⟨p, box, ns, sc, ws, rfl, k, hb, good, rfl⟩
    · decide
end
end D

set_option Elab.async false
set_option linter.all false
set_option maxRecDepth 100000
set_option maxHeartbeats 4000000
namespace D
open PySem PySem.Spec PyProof.Rows L2
open ToPy (py)
local macro_rules | `(tactic| walk_at "side") => `(tactic| first | assumption | omega | (refine Int.emod_nonneg _ ?_; omega) | (refine Int.emod_lt_of_pos _ ?_; omega) | (simp at *; omega) | (simp; done) | decide | skip)
local macro_rules | `(tactic| walk_at "d") => `(tactic| first
  | with_reducible exact ev_int | with_reducible exact ev_str | with_reducible exact ev_bl | with_reducible exact ev_non
  | exact ev_var rfl
  | with_reducible exact ev_ty
  | with_reducible exact ev_cls
  | ((with_reducible apply ev_op) <;> walk_at "d")
  | ((with_reducible apply ev_un) <;> walk_at "d")
  | ((with_reducible apply ev_call) <;> walk_at "d")
  | ((with_reducible apply ev_callX) <;> walk_at "d")
  | ((with_reducible apply ev_cb) <;> walk_at "d")
  | with_reducible exact ea_nil
  | ((with_reducible apply ea_cons) <;> walk_at "d")
  | with_reducible exact s_add
  | with_reducible exact s_sub
  | with_reducible exact s_lt
  | with_reducible exact s_le
  | with_reducible exact s_gt
  | with_reducible exact s_ge
  | with_reducible exact s_eqI
  | with_reducible exact s_neI
  | with_reducible exact s_eqS
  | with_reducible exact s_neS
  | with_reducible exact s_neB
  | exact s_eqSame (sh_ints2 _) | exact s_neSame (sh_ints2 _) | exact s_eqSame (sh_ints _) | exact s_neSame (sh_ints _)
  | ((with_reducible apply s_mod) <;> walk_at "side")
  | walk_at "div" | walk_at "mul"
  | ((with_reducible apply s_catL) <;> walk_at "side")
  | ((with_reducible apply s_repL) <;> walk_at "side")
  | with_reducible exact s_fst
  | with_reducible exact s_snd
  | with_reducible exact s_t0
  | with_reducible exact s_t1
  | with_reducible exact s_t2
  | ((with_reducible apply s_last) <;> walk_at "side")
  | ((with_reducible apply s_ixS) <;> walk_at "side")
  | ((with_reducible apply s_ix) <;> walk_at "side")
  | ((with_reducible apply s_ixT) <;> walk_at "side")
  | with_reducible exact s_negI
  | with_reducible exact c_len
  | with_reducible exact c_lI
  | with_reducible exact c_tI
  | with_reducible exact c_pI
  | with_reducible exact c_t3I
  | with_reducible exact c_sI
  | with_reducible exact c_iI
  | with_reducible exact c_iB
  | with_reducible exact c_lenP
  | with_reducible exact c_len3
  | with_reducible exact c_isInt
  | with_reducible exact c_isBool
  | with_reducible exact c_isStr
  | with_reducible exact c_isList
  | with_reducible exact c_isTup
  | with_reducible exact c_lenTup
  | with_reducible exact c_lenScr
  | with_reducible exact c_listD
  | with_reducible exact c_listTD
  | with_reducible exact c_tup
  | with_reducible exact c_abs
  | with_reducible exact c_min2
  | with_reducible exact c_max2
  | with_reducible exact c_intB
  | with_reducible exact c_sum
  | ((with_reducible apply c_min) <;> walk_at "side")
  | ((with_reducible apply c_max) <;> walk_at "side")
  | ((with_reducible apply et_val) <;> walk_at "d")
  | ((with_reducible apply et_test) <;> walk_at "d")
  | ((with_reducible apply et_not) <;> walk_at "d")
  | ((with_reducible apply et_and) <;> (try with_reducible intro _) <;> walk_at "d")
  | ((with_reducible apply et_or) <;> (try with_reducible intro _) <;> walk_at "d")
  | ((with_reducible apply ev_and) <;> (try with_reducible intro _) <;> walk_at "d")
  | ((with_reducible apply ev_or) <;> (try with_reducible intro _) <;> walk_at "d")
  | ((with_reducible apply ev_chain) <;> (try with_reducible intro _) <;> walk_at "d")
  | ((with_reducible apply ev_not) <;> walk_at "d")
  | ((with_reducible apply ev_pair) <;> walk_at "d")
  | ((with_reducible apply ev_t3) <;> walk_at "d")
  | ((with_reducible apply ev_lst1) <;> walk_at "d")
  | ((with_reducible apply ev_lst2) <;> walk_at "d")
  | ((with_reducible apply ev_lst3) <;> walk_at "d")
  | ((with_reducible apply ev_lst4) <;> walk_at "d")
  | ((with_reducible apply ev_cut) <;> walk_at "d")
  | ((with_reducible apply ep_some) <;> walk_at "d")
  | ((with_reducible apply EvD.s) <;> walk_at "d")
  | ((with_reducible apply EvT.s) <;> walk_at "d")
  | ((with_reducible apply EvN.s) <;> walk_at "d")
  | ((with_reducible apply en_lst1) <;> walk_at "d")
  | ((with_reducible apply en_lst2) <;> walk_at "d")
  | ((with_reducible apply en_lst3) <;> walk_at "d")
  | ((with_reducible apply en_lst4) <;> walk_at "d")
  | ((with_reducible apply en_cut) <;> walk_at "d")
  | with_reducible exact ev_lst0
  | with_reducible exact ep_none
  | with_reducible exact en_lst0
  | ((with_reducible apply wi_L) <;> walk_at "d")
  | ((with_reducible apply wi_T) <;> walk_at "d")
  | ((with_reducible apply wi_zip) <;> walk_at "d")
  | ((with_reducible apply WiD.s) <;> walk_at "d")
  | ((with_reducible apply wi_range) <;> walk_at "side")
  | exact spec_cell (by omega) (by omega)
  | skip)
local macro_rules | `(tactic| walk_at "div") => `(tactic| first
  | exact s_div ⟨by omega, by omega⟩
  | exact s_divW (wd_div (by first | assumption | omega) (by assumption))
  | with_reducible apply s_div)
local macro_rules | `(tactic| walk_at "mul") => `(tactic| first
  | exact s_mul (Or.inl ⟨by omega, by omega⟩) | exact s_mul (Or.inr ⟨by omega, by omega⟩)
  | exact s_mulW (wd_mul (by assumption) (by assumption))
  | with_reducible apply s_mulW)
local macro_rules | `(tactic| walk_at "fg") => `(tactic| repeat (first | exact Fg.nil | apply Fg.same | apply Fg.drop | (refine Fg.eq ?_ ?_; rotate_left)))
local macro_rules | `(tactic| walk_at "end") => `(tactic| exact bd_turnE trivial rfl (by walk_at "fg"))
local macro_rules | `(tactic| walk_at "range") => `(tactic| (apply WiD.s; apply wi_range; (walk_at "d"); omega; omega))
local macro_rules | `(tactic| walk_at "app") => `(tactic| (refine' bd_appR 0 ?_ rfl ?_ ?_ ?_ ?_; (walk_at "d"); (walk_at "d"); rotate_right))
local macro_rules | `(tactic| walk_at "lend") => `(tactic| repeat (first | exact LendC.nil | apply LendC.no | (apply LendC.one; (exact lend_list 0 rfl)) | (apply LendC.one; (exact lend_same))))
/-! ### k06: the law -/
def n_law : List Str := ["_law_script", "_law_tops_here", "_law_rows_here", "_law_gain_here", "_law_box_here", "_law_problem", "_law_handed", "_law_kept", "_law_turn", "_law_row", "_law_found", "_law_told", "_law_one", "_law_pair", "_law_top"]
def t_law (K : PySem.W.Frag) (c : Cs) : TS := (tSeq (tAsg (tCall (spD (S_law_tops K c)) [] E0 (tCons (tVar 0) tNil)) (gName 1))
  (tSeq (tAsg (tCall (spD (S_law_rows K c)) [] E0 (tCons (tVar 0) tNil)) (gName 2))
  (tSeq (tAsg (tCall (spD (S_law_gain K c)) [] E0 (tCons (tVar 0) tNil)) (gName 3))
  (tSeq (tAsg (tCall (spD (S_law_box K c)) [] E0 (tCons (tVar 0) (tCons (tVar 1) tNil))) (gName 4))
  (tSeq (tAsg (tMake c.Problem (SP_Problem K c) [] E0 (tCons (tCB (rListX K) (tCons (tVar 1) tNil)) (tCons (tCB (rListX K) (tCons (tVar 2) tNil)) (tCons (tCB (rListX K) (tCons (tVar 3) tNil)) tNil)))) (gName 5))
  (tSeq (tAsg (tLst tNil) (gName 6))
  (tSeq (tAsg (tLst tNil) (gName 7))
  (tSeq (tFor (iEnum K (tCons (tLst (tCons (tVar 4) (tCons (tLc (iList K (tVar 1)) (gName 14) tYes (tTup (tCons (tC (.int 0)) (tCons (tVar 14) tNil))) [14]) (tCons (tOp (rAddX K) (tSl (rSlX K) (tVar 4) tNoPart (tPart (tUn rNegI (tC (.int 1))))) (tLst (tCons (tTup (tCons (tC (.int 0)) (tCons (tOp (rIx K) (tVar 1) (tUn rNegI (tC (.int 1)))) tNil))) tNil))) (tCons (tVar 4) tNil))))) tNil)) (gTup K 2 (gCons (gName 8) (gCons (gName 9) gNil))) (tSeq (tIfS (tTest (tOp (rEqX K) (tOp rModI (tVar 8) (tC (.int 2))) (tC (.int 1)))) (tSeq (tDrop (tCall (spX (S_facts K c) (SE_facts K c)) [] E0 (tCons (tVar 5) (tCons (tCB (rListX K) (tCons (tVar 4) tNil)) tNil))))
  tNext) tNext)
  (tSeq (tDrop (tBM0 K "list" rClear (tVar 6)))
  (tSeq (tDrop (tBM K "list" rExtend (tVar 6) (tCons (tVar 9) tNil)))
  (tSeq (tAsg (tCall (spDH (S_looseN K c)) [] E0 (tCons (tVar 5) (tCons (tVar 6) tNil))) (gName 10))
  (tSeq (tIfS (tOr (tNot (tB (tCall (spD (S_law_right K c)) [] E0 (tCons (tCall (spD (S_law_facts K c)) [] E0 (tCons (tVar 2) (tCons (tVar 9) tNil))) (tCons (tVar 3) (tCons (tVar 10) tNil)))))) (tTest (tOp (rNeX K) (tVar 6) (tVar 9)))) (tSeq (tRet (tC (.bl false)))
  tNext) tNext)
  (tSeq (tAsg (tLst (tCons (tOp (rIx K) (tVar 10) (tC (.int 1))) tNil)) (gName 11))
  (tSeq (tIfS (tTest (tOp (rEqX K) (tOp (rIx K) (tVar 10) (tC (.int 0))) (tC (.str "most")))) (tSeq (tAsg (tLst (tCons (tOp (rIx K) (tOp (rIx K) (tVar 10) (tC (.int 1))) (tC (.int 0))) (tCons (tOp (rIx K) (tVar 10) (tC (.int 2))) tNil))) (gName 11))
  tNext) tNext)
  (tSeq (tFor (iList K (tVar 11)) (gName 12) (tSeq (tDrop (tBM K "list" rAppend (tVar 12) (tCons (tC (.int 0)) tNil)))
  (tSeq (tDrop (tBM K "list" rAppend (tVar 7) (tCons (tTup (tCons (tVar 12) (tCons (tCB (rListX K) (tCons (tVar 12) tNil)) tNil))) tNil)))
  tNext)))
  tNext)))))))))
  (tSeq (tIfS (tTest (tOp (rNeX K) (tLc (iList K (tVar 7)) (gName 13) (tTest (tOp (rNeX K) (tOp (rIx K) (tVar 13) (tC (.int 0))) (tOp (rIx K) (tVar 13) (tC (.int 1))))) (tVar 13) [13]) (tLst tNil))) (tSeq (tRet (tC (.bl false)))
  tNext) tNext)
  (tSeq (tRet (tAndV (tOp (rEqX K) (tFld K (tVar 5) "tops") (tVar 1)) (tAndV (tOp (rEqX K) (tFld K (tVar 5) "rows") (tVar 2)) (tOp (rEqX K) (tFld K (tVar 5) "gain") (tVar 3)))))
  tNext))))))))))
def exT (vs : List V) : RP := ⟨fun v f => ∃ q, v = .ref q ∧ f q = some (.tup vs), fun ⟨q, e, h⟩ s => ⟨q, e, s _ _ h⟩⟩
def mostR (l1 l2 : Addr) (sc : Int) : RP := ⟨fun v f => ∃ q b, v = .ref q ∧ f q = some (.tup [.str "most", .ref b, .ref l2, .int sc]) ∧ f b = some (.tup [.ref l1, .int sc]), fun ⟨q, b, e, h, h2⟩ s => ⟨q, b, e, s _ _ h, s _ _ h2⟩⟩
def toldLists : Told → List (List Int)
  | .none ws => [ws]
  | .most ns _ ws => [ns, ws]
def keptOf (t : Told) : List (List Int × List Int) := (toldLists t).map fun x => (x ++ [0], x ++ [0])
noncomputable def ksAt (p : Prob) (bs : List Box) : Nat → List (List Int × List Int)
  | 0 => []
  | i + 1 => ksAt p bs i ++ keptOf (looseOf p (at_ bs i))
def hsAt (bs : List Box) : Nat → Box
  | 0 => []
  | i + 1 => at_ bs i
abbrev ctx6 (K : PySem.W.Frag) (c : Cs) (ns : List Int) (p : Prob) (qh qk : Addr) (R8 R9 R10 R11 R12 : Option RP) : Ctx := [some (scr K ns), some (rep p.tops), some (rep p.rows), some (rep p.gain), some (rep (boxOf ns)), some (insP c p), some (own qh), some (own qk), R8, R9, R10, R11, R12, none, none]
theorem shd_row' (r : Row) (h : r.b = "most" ∨ r.b = "least") : Shd (py r) 2 := by
  refine shd_tup (ds := [.tuple (r.a.l.map PyData.int), .str r.b, .int r.c]) fun d hd => ?_
  simp only [List.mem_cons, List.not_mem_nil, or_false] at hd
  rcases hd with rfl | rfl | rfl
  · refine shd_tup fun d hd => ?_
    obtain ⟨x, _, rfl⟩ := List.mem_map.mp hd
    exact shd_int x
  · refine (shd_str ?_).mono (Nat.zero_le 1)
    rcases h with e | e <;> rw [e] <;> decide +kernel
  · exact (shd_int _).mono (Nat.zero_le 1)
theorem shd_rows' {p : Prob} (k : p.Ok) : Shd (py p.rows) 3 := shL fun r hr => shd_row' r (k.rw r hr)
theorem kept_len (t : Told) : (keptOf t).length ≤ 2 := by
  cases t <;> simp [keptOf, toldLists]
theorem ks_len (p : Prob) (bs : List Box) : ∀ i, (ksAt p bs i).length ≤ 2 * i
  | 0 => by simp [ksAt]
  | i + 1 => by
    have := ks_len p bs i
    have := kept_len (looseOf p (at_ bs i))
    show (ksAt p bs i ++ keptOf _).length ≤ _
    rw [List.length_append]
    omega
theorem ks_same (p : Prob) (bs : List Box) : ∀ i, ∀ x ∈ ksAt p bs i, x.1 = x.2
  | 0, x, h => by cases h
  | i + 1, x, h => by
    rcases List.mem_append.mp h with h | h
    · exact ks_same p bs i x h
    · obtain ⟨y, _, rfl⟩ := List.mem_map.mp h
      rfl
theorem sh_box (b : Box) : Shd (py b) 2 := shL fun x _ => shd_tup (ds := [.int x.1, .int x.2]) fun d hd => by
  simp only [List.mem_cons, List.not_mem_nil, or_false] at hd
  rcases hd with rfl | rfl <;> exact shd_int _
theorem cut_last {α : Type} [ToPy α] (xs : List α) (y : α) (h : 1 ≤ xs.length) : cut xs none (some (-1)) ++ [y] = xs.set (xs.length - 1) y := by
  have e : cut xs none (some (-1)) = xs.take (xs.length - 1) := by
    unfold cut
    have a : HT.sIx xs.length xs.length (some (-1)) = ((-1 : Int) + (xs.length : Int)).toNat := by
      show (if (-1 : Int) < 0 then ((-1 : Int) + (xs.length : Int)).toNat else min (-1 : Int).toNat xs.length) = _
      rw [if_pos (by omega)]
    have b : HT.sIx xs.length 0 none = 0 := rfl
    rw [a, b, List.drop_zero]
    congr 1
    omega
  rw [e, List.set_eq_take_append_cons_drop, if_pos (by omega)]
  congr 1
  have : xs.length - 1 + 1 = xs.length := by omega
  rw [this, List.drop_length]
theorem last_ok {p : Prob} (k : p.Ok) {b : Box} (hb : BoxOk p b) : BoxOk p (cut b none (some (-1)) ++ [((0 : Int), at_ p.tops (p.tops.length - 1))]) := by
  have n1 := k.n1
  have bl := hb.len
  rw [cut_last b _ (by omega)]
  have hu : b.length - 1 < b.length := by omega
  have ts := k.tops _ (at_mem (xs := p.tops) (k := p.tops.length - 1) (by omega))
  refine ⟨by rw [List.length_set]; exact hb.len, fun i hi => ?_, fun i hi => ?_, fun i hi => ?_⟩ <;> rw [List.length_set] at hi <;> rw [at_setB hu] <;> split
  · exact Int.le_refl _
  · exact hb.lo i hi
  · exact ts.1
  · exact hb.mid i hi
  · rename_i e
    have : i = p.tops.length - 1 := by omega
    rw [this]
    exact Int.le_refl _
  · exact hb.hi i hi
section
variable {K : PySem.W.Frag} {c : Cs}
theorem at_tup' {f hp : Hp} {q : Addr} {vs : List V} {i : Nat} {v : V} {Q : V → Hp → Prop} (h : f q = some (.tup vs)) (s : Same f hp) (hv : vs[i]? = some v) (k : Q v hp) : rIx K (.ref q) (.int (i : Int)) hp Q := by
  refine .inr (.inl ⟨q, vs, (i : Int), v, rfl, rfl, SqT.of1 (s _ _ h), ?_, k⟩)
  have hl : i < vs.length := by
    rw [List.getElem?_eq_some_iff] at hv
    exact hv.1
  unfold atI ixN
  rw [if_pos (by omega), if_pos (by omega), Int.toNat_natCast]
  exact hv
theorem ix_exT {vs : List V} {i : Nat} {v : V} (h : vs[i]? = some v) : R2D (rIx K) (exT vs) (rep (i : Int)) (exV v) := fun x y f hp s rx ry Q q => by
  obtain ⟨z, rfl, h1⟩ := rx
  cases rep_int ry
  exact at_tup' h1 s h (q _ f hp (.refl s) rfl)
theorem ix_exTs {vs : List V} {i : Nat} {x : Str} (h : vs[i]? = some (.str x)) : R2D (rIx K) (exT vs) (rep (i : Int)) (rep x) := fun x y f hp s rx ry Q q => by
  obtain ⟨z, rfl, h1⟩ := rx
  cases rep_int ry
  exact at_tup' h1 s h (q _ f hp (.refl s) (rep_of_str _ _))
theorem ix_most0 {l1 l2 : Addr} {sc : Int} : R2D (rIx K) (mostR l1 l2 sc) (rep (0 : Int)) (rep ("most" : Str)) := fun x y f hp s rx ry Q q => by
  obtain ⟨z, b, rfl, h1, h2⟩ := rx
  cases rep_int ry
  exact at_tup' (i := 0) h1 s rfl (q _ f hp (.refl s) (rep_of_str _ _))
theorem ix_most1 {l1 l2 : Addr} {sc : Int} : R2D (rIx K) (mostR l1 l2 sc) (rep (1 : Int)) (exT [.ref l1, .int sc]) := fun x y f hp s rx ry Q q => by
  obtain ⟨z, b, rfl, h1, h2⟩ := rx
  cases rep_int ry
  exact at_tup' (i := 1) h1 s rfl (q _ f hp (.refl s) ⟨b, rfl, h2⟩)
theorem ix_most2 {l1 l2 : Addr} {sc : Int} : R2D (rIx K) (mostR l1 l2 sc) (rep (2 : Int)) (exV (.ref l2)) := fun x y f hp s rx ry Q q => by
  obtain ⟨z, b, rfl, h1, h2⟩ := rx
  cases rep_int ry
  exact at_tup' (i := 2) h1 s rfl (q _ f hp (.refl s) rfl)
theorem ev_lstAny {Γ : Ctx} {te : TE} {R : RP} (x : EvD Γ te R) : EvD Γ (tLst (tCons te tNil)) anyR := fun σ f hp s ok Q q =>
  x σ f hp s ok _ fun u f1 h1 e ru => ⟨(show 1 ≤ sizeLine by decide), fun p hn => q (.ref p) _ _ (e.trans (Ext.new (o := .lst [u]) e.fh hn)) trivial⟩
theorem loop6 {B : Base} (hm : B.m = []) {ns : List Int} {p : Prob} {qh qk : Addr} {LL : List (Addr × List Int)} {ks : List (List Int × List Int)} {hs : Box} {R8 R9 R10 : Option RP} {P : Post} {u : TS} (hlen : ∀ x ∈ LL, x.2.length ≤ 1000) (hk : ks.length + LL.length ≤ 1000)
    (rest : BDe B (ctx6 K c ns p qh qk R8 R9 R10 (some (exL (LL.map fun x => .ref x.1))) none) [(qk, oL (ks ++ LL.map fun x => (x.2 ++ [0], x.2 ++ [0]))), (qh, oL hs)] u P) :
    BDe B (ctx6 K c ns p qh qk R8 R9 R10 (some (exL (LL.map fun x => .ref x.1))) none) ((qk, oL ks) :: (qh, oL hs) :: LL.map fun x => (x.1, oL x.2)) (tSeq (tFor (iList K (tVar 11)) (gName 12) (tSeq (tDrop (tBM K "list" rAppend (tVar 12) (tCons (tC (.int 0)) tNil)))
      (tSeq (tDrop (tBM K "list" rAppend (tVar 7) (tCons (tTup (tCons (tVar 12) (tCons (tCB (rListX K) (tCons (tVar 12) tNil)) tNil))) tNil))) tNext))) u) P := by
  apply bd_forE (n := LL.length) (item := fun i => exV ((LL.map fun x => V.ref x.1).getD i .non)) (fun _ => ctx6 K c ns p qh qk R8 R9 R10 (some (exL (LL.map fun x => .ref x.1))) none) (fun i => (qk, oL (ks ++ (LL.take i).map fun x => (x.2 ++ [0], x.2 ++ [0]))) :: (qh, oL hs) :: (LL.drop i).map fun x => (x.1, oL x.2)) (fun _ => True)
  · have z := wi_ex (K := K) (Γ := ctx6 K c ns p qh qk R8 R9 R10 (some (exL (LL.map fun x => .ref x.1))) none) (ev_var (i := 11) rfl)
    rw [List.length_map] at z
    exact z.s
  · walk_at "fg"
  · simp
  · trivial
  · intro i hi
    exact tg_name
  · intro i hi _
    have hx := hlen _ (List.getElem_mem hi)
    have ed : LL.drop i = LL[i] :: LL.drop (i + 1) := List.drop_eq_getElem_cons hi
    have et : LL.take (i + 1) = LL.take i ++ [LL[i]] := List.take_succ_eq_append_getElem hi
    have eg : (LL.map fun x => V.ref x.1).getD i .non = .ref LL[i].1 := by
      rw [List.getD_eq_getElem?_getD, List.getElem?_map, List.getElem?_eq_getElem hi]
      rfl
    rw [eg, ed, et]
    generalize LL[i] = x at hx
    obtain ⟨l, xs⟩ := x
    have kl : (ks ++ (LL.take i).map fun x => (x.2 ++ [0], x.2 ++ [0])).length < 1000000 := by
      rw [List.length_append, List.length_map, List.length_take]
      omega
    rw [List.map_append, ← List.append_assoc]
    generalize (ks ++ (LL.take i).map fun x => (x.2 ++ [0], x.2 ++ [0])) = kk at kl
    have hx : xs.length ≤ 1000 := hx
    show BDe B (ctx6 K c ns p qh qk R8 R9 R10 (some (exL (LL.map fun x => .ref x.1))) (some (own l))) ((qk, oL kk) :: (qh, oL hs) :: (l, oL xs) :: (LL.drop (i + 1)).map fun x => (x.1, oL x.2)) _ _
    refine bd_app (xs := xs) (a := (0 : Int)) 2 (ev_var rfl) rfl (EvD.s ev_int) (by omega) ?_
    refine bd_frz (xs := xs ++ [0]) 2 12 rfl rfl hm ?_
    refine bd_app (α := List Int × List Int) (xs := kk) (a := (xs ++ [0], xs ++ [0])) 0 (ev_var rfl) rfl (EvD.s (ev_pair (ev_var rfl) (ev_cb (ea_cons (ev_var rfl) ea_nil) (c_listD (xs := xs ++ [0]))))) kl ?_
    exact bd_turnE trivial rfl (by walk_at "fg")
  · intro _
    rw [List.take_length, List.drop_length]
    exact rest
theorem rd_law (G : PF K c) : ∀ Rs R, S_law K c Rs R → ∀ B : Base, B.m = [] → BDe B (startC n_law Rs) [] (t_law K c) (fnP B R) := by
  rintro _ _ ⟨ns, rfl, hl, rfl⟩ B hm
  have k := prob_ok ns
  have bok := boxOf_ok ns
  obtain ⟨p, ep⟩ : ∃ p, p = probOf ns := ⟨_, rfl⟩
  rw [← ep] at k bok
  have pt : p.tops = topsOf ns := by rw [ep]; rfl
  have pr : p.rows = rowsOf ns := by rw [ep]; rfl
  have pg : p.gain = gainOf ns := by rw [ep]; rfl
  have n1 := k.n1
  have n3 := k.n3
  have m6 := k.m6
  have bl := bok.len
  apply bd_set (R := rep p.tops)
  · apply EvD.s
    rw [pt]
    exact ev_call (ea_cons (ev_var rfl) ea_nil) ⟨ns, rfl, rfl⟩
  apply bd_set (R := rep p.rows)
  · apply EvD.s
    rw [pr]
    exact ev_call (ea_cons (ev_var rfl) ea_nil) ⟨ns, rfl, rfl⟩
  apply bd_set (R := rep p.gain)
  · apply EvD.s
    rw [pg]
    exact ev_call (ea_cons (ev_var rfl) ea_nil) ⟨ns, rfl, rfl⟩
  apply bd_set (R := rep (boxOf ns))
  · exact EvD.s (ev_call (ea_cons (ev_var rfl) (ea_cons (ev_var rfl) ea_nil)) ⟨ns, by rw [pt], rfl⟩)
  apply bd_set (R := insP c p)
  · exact EvD.s (ev_Problem p k (ev_cb (ea_cons (ev_var rfl) ea_nil) (c_listD (xs := p.tops))) (ev_cb (ea_cons (ev_var rfl) ea_nil) (c_listD (xs := p.rows))) (ev_cb (ea_cons (ev_var rfl) ea_nil) (c_listD (xs := p.gain))))
  apply bd_nil (Int × Int)
  intro qh
  apply bd_nil (List Int × List Int)
  intro qk
  obtain ⟨bs, ebs⟩ : ∃ bs : List Box, bs = [boxOf ns, wholeB p, cut (boxOf ns) none (some (-1)) ++ [((0 : Int), at_ p.tops (p.tops.length - 1))], boxOf ns] := ⟨_, rfl⟩
  have bl4 : bs.length = 4 := by rw [ebs]; rfl
  have boks : ∀ i, i < 4 → BoxOk p (at_ bs i) := fun i hi => by
    rw [ebs]
    match i, hi with
    | 0, _ => exact bok
    | 1, _ => exact whole_ok k
    | 2, _ => exact last_ok k bok
    | 3, _ => exact bok
  apply bd_forE (n := bs.length) (item := fun i => rep ((i : Int), at_ bs i)) (fun _ => ctx6 K c ns p qh qk none none none none none) (fun i => [(qk, oL (ksAt p bs i)), (qh, oL (hsAt bs i))]) (fun _ => True)
  · apply WiD.s
    apply wi_enum
    rw [ebs]
    refine ev_lst4 (α := Box) (ev_var rfl) ?_ ?_ (ev_var rfl)
    · apply ev_lc (α := Int × Int) (n := p.tops.length) (item := fun i => rep (at_ p.tops i)) (val := fun i => ((0 : Int), at_ p.tops i))
      · exact wi_L (ev_var rfl)
      · intro i hi
        exact tl_name (by decide)
      · intro i hi
        exact ev_pair ev_int (ev_var rfl)
      · omega
    · have c1 : (cut (boxOf ns) none (some (-1))).length ≤ (boxOf ns).length := by
        unfold cut
        rw [List.length_take, List.length_drop]
        omega
      apply ev_op
      · exact ev_cut (ev_var rfl) ep_none (ep_some (ev_un ev_int s_negI))
      · exact ev_lst1 (a := ((0 : Int), at_ p.tops (p.tops.length - 1))) (ev_pair (b := at_ p.tops (p.tops.length - 1)) ev_int (ev_op (ev_var (R := rep p.tops) rfl) (ev_un (ev_int (i := 1)) s_negI) (s_last (xs := p.tops) (by omega))))
      · exact s_catL (by simp only [List.length_cons, List.length_nil]; omega)
  · walk_at "fg"
  · rfl
  · trivial
  · intro i hi
    exact tg_pair
  · intro i hi _
    rw [bl4] at hi
    have bi := boks i hi
    have good := loose_good k bi
    have kl := ks_len p bs i
    have hk : ksAt p bs (i + 1) = ksAt p bs i ++ keptOf (looseOf p (at_ bs i)) := rfl
    have hh : hsAt bs (i + 1) = at_ bs i := rfl
    rw [hk, hh]
    generalize ksAt p bs i = ks at kl
    generalize hsAt bs i = hs
    generalize at_ bs i = b at bi good
    have bil := bi.len
    obtain ⟨t, et⟩ : ∃ t, t = looseOf p b := ⟨_, rfl⟩
    apply bd_if (b := decide ((i : Int) % 2 = 1)) (Γ' := ctx6 K c ns p qh qk (some (rep (i : Int))) (some (rep b)) none none none) (O' := [(qk, oL ks), (qh, oL hs)])
    · exact EvT.s (et_test (ev_op (ev_op (ev_var rfl) ev_int (s_mod (by omega))) ev_int s_eqI))
    · intro _
      apply bd_drop (R := rep (factsOf p (boxOf ns)))
      · exact EvD.s (ev_callX (Rs := [insP c p, rep (boxOf ns)]) (ea_cons (ev_var rfl) (ea_cons (ev_cb (ea_cons (ev_var rfl) ea_nil) (c_listD (xs := boxOf ns))) ea_nil)) ⟨p, _, rfl, k, bok, rfl⟩)
      exact bd_joinE rfl (by walk_at "fg")
    · intro _
      exact bd_joinE rfl (by walk_at "fg")
    refine bd_clear' (xs := hs) 1 (ev_var rfl) rfl ?_
    refine bd_extend' (xs := ([] : Box)) (ys := b) 1 (ev_var rfl) rfl (EvD.s (ev_var rfl)) (by simp only [List.length_nil]; omega) ?_
    show BDe B (ctx6 K c ns p qh qk (some (rep (i : Int))) (some (rep b)) none none none) [(qk, oL ks), (qh, oL b)] _ _
    refine bd_told (X := rep t) (es_nwCall (Γ' := [some (scr K ns), some (rep p.tops), some (rep p.rows), some (rep p.gain), some (rep (boxOf ns)), some (insP c p), some (rep b), none, some (rep (i : Int)), some (rep b), none, none, none, none, none]) (Rs := [insP c p, rep b]) ?_ (ea_cons (ev_var rfl) (ea_cons (ev_var rfl) ea_nil)) fun H => ⟨p, b, rfl, k, bi, by rw [et]⟩) ?_ ?_
    · exact .one lend_same (.one lend_same (.one lend_same (.one lend_same (.one lend_same (.one lend_same (.one (lend_list 1 rfl) (.skip (.one lend_same (.one lend_same (.no (.no (.no (.no (.no .nil))))))))))))))
    · refine et_lend (Γ' := [some (scr K ns), some (rep p.tops), some (rep p.rows), some (rep p.gain), some (rep (boxOf ns)), some (insP c p), some (rep b), none, some (rep (i : Int)), some (rep b), some (rep t), none, none, none, none]) ?_ ?_
      · exact .one lend_same (.one lend_same (.one lend_same (.one lend_same (.one lend_same (.one lend_same (.one (lend_list 1 rfl) (.skip (.one lend_same (.one lend_same (.one lend_same (.no (.no (.no (.no .nil))))))))))))))
      · refine et_eq (et_or (a := !true) (b := false) ?_ fun _ => ?_) rfl
        · refine et_not (et_val (ev_call (ea_cons (ev_call (ea_cons (ev_var rfl) (ea_cons (ev_var rfl) ea_nil)) ⟨p, b, rfl, k, bi, rfl⟩) (ea_cons (ev_var rfl) (ea_cons (ev_var rfl) ea_nil))) ⟨p, b, t, rfl, k, bi, by rw [et]; exact good, rfl⟩))
        · exact et_test (ev_op (ev_var rfl) (ev_var rfl) (s_neSame (sh_box b)))
    intro σ f h v g h2 s E rv
    rw [← et] at good ⊢
    clear et
    cases t with
    | none ws =>
      obtain ⟨⟨wl, _⟩, _⟩ := good
      have wl : ws.length = p.rows.length + 2 * b.length := wl
      have rv : repD (.tuple [.str "none", .list (ws.map PyData.int)]) v (offH h g) := rv
      simp only [repD, repL] at rv
      obtain ⟨t0, vs, rfl, q1, v1, r1, rfl, rfl, v2, r2, rfl, ⟨l, ls, rfl, q2, q3⟩, rfl⟩ := rv
      have := repL_ints q3
      subst this
      obtain ⟨z1, z2⟩ := off_some q1
      obtain ⟨y1, y2⟩ := off_some q2
      refine ⟨exT [.str "none", .ref l], [(l, ws)], fun l' xs m => ?_, by simp, ⟨t0, rfl, rm_keep z2 fun m => ?_⟩, ?_⟩
      · simp only [List.mem_singleton] at m
        cases m
        exact ⟨y1, y2⟩
      · simp only [List.map_cons, List.map_nil, List.mem_singleton] at m
        subst m
        rw [z2] at y2
        cases y2
      refine bd_perm (O' := (qk, oL ks) :: (qh, oL b) :: [(l, ws)].map fun x => (x.1, oL x.2)) List.perm_append_comm ?_
      apply bd_set (R := exL [.ref l])
      · exact EvD.s (ev_lstEx1 (ev_op (ev_var rfl) ev_int (ix_exT (i := 1) rfl)))
      apply bd_ifr (b := decide (("none" : Str) = "most"))
      · exact EvT.s (et_test (ev_op (ev_op (ev_var rfl) ev_int (ix_exTs (i := 0) rfl)) ev_str s_eqS))
      · intro h
        exact absurd (of_decide_eq_true h) (by decide)
      intro _
      refine loop6 (LL := [(l, ws)]) hm (fun x hx => ?_) (by simp; omega) ?_
      · simp only [List.mem_singleton] at hx
        subst hx
        simp only
        omega
      · exact bd_turnE trivial rfl (by walk_at "fg")
    | most xs sc ws =>
      obtain ⟨nl, _, _, _, ⟨wl, _⟩, _⟩ := good
      have wl : ws.length = p.rows.length + 2 * b.length := wl
      have rv : repD (.tuple [.str "most", .tuple [.list (xs.map PyData.int), .int sc], .list (ws.map PyData.int), .int sc]) v (offH h g) := rv
      simp only [repD, repL] at rv
      obtain ⟨t0, vs, rfl, q1, v1, r1, rfl, rfl, v2, r2, rfl, ⟨bq, bvs, rfl, q2, w1, rr1, rfl, ⟨l1, ls1, rfl, q3, q4⟩, w2, rr2, rfl, rfl, rfl⟩, v3, r3, rfl, ⟨l2, ls2, rfl, q5, q6⟩, v4, r4, rfl, rfl, rfl⟩ := rv
      have := repL_ints q4
      subst this
      have := repL_ints q6
      subst this
      obtain ⟨z1, z2⟩ := off_some q1
      obtain ⟨b1, b2⟩ := off_some q2
      obtain ⟨y1, y2⟩ := off_some q3
      obtain ⟨x1, x2⟩ := off_some q5
      have ne : l1 ≠ l2 := fun z => by
        subst z
        rw [y2] at x2
        have x2 : (xs.map V.int : List V) = ws.map V.int := by
          injection x2 with e
          injection e
        have := congrArg List.length x2
        rw [List.length_map, List.length_map] at this
        omega
      have nt : ∀ {a : Addr} {us : List V}, g a = some (.tup us) → a ∉ ([(l1, xs), (l2, ws)] : List (Addr × List Int)).map (·.1) := fun {a us} e m => by
        simp only [List.map_cons, List.map_nil, List.mem_cons, List.not_mem_nil, or_false] at m
        rcases m with m | m
        · subst m
          rw [e] at y2
          cases y2
        · subst m
          rw [e] at x2
          cases x2
      refine ⟨mostR l1 l2 sc, [(l1, xs), (l2, ws)], fun l' xs' m => ?_, by simp [ne], ⟨t0, bq, rfl, rm_keep z2 (nt z2), rm_keep b2 (nt b2)⟩, ?_⟩
      · simp only [List.mem_cons, List.not_mem_nil, or_false] at m
        rcases m with m | m
        · cases m
          exact ⟨y1, y2⟩
        · cases m
          exact ⟨x1, x2⟩
      refine bd_perm (O' := (qk, oL ks) :: (qh, oL b) :: [(l1, xs), (l2, ws)].map fun x => (x.1, oL x.2)) List.perm_append_comm ?_
      apply bd_set (R := anyR)
      · exact EvD.s (ev_lstAny (ev_op (ev_var rfl) ev_int ix_most1))
      apply bd_if (b := decide (("most" : Str) = "most")) (Γ' := ctx6 K c ns p qh qk (some (rep (i : Int))) (some (rep b)) (some (mostR l1 l2 sc)) (some (exL [.ref l1, .ref l2])) none) (O' := (qk, oL ks) :: (qh, oL b) :: [(l1, xs), (l2, ws)].map fun x => (x.1, oL x.2))
      · exact EvT.s (et_test (ev_op (ev_op (ev_var rfl) ev_int ix_most0) ev_str s_eqS))
      · intro _
        apply bd_set (R := exL [.ref l1, .ref l2])
        · exact EvD.s (ev_lstEx2 (ev_op (ev_op (ev_var rfl) ev_int ix_most1) ev_int (ix_exT (i := 0) rfl)) (ev_op (ev_var rfl) ev_int ix_most2))
        exact bd_joinE rfl (by walk_at "fg")
      · intro h
        simp at h
      refine loop6 (LL := [(l1, xs), (l2, ws)]) hm (fun x hx => ?_) (by simp; omega) ?_
      · simp only [List.mem_cons, List.not_mem_nil, or_false] at hx
        rcases hx with hx | hx
        · subst hx
          simp only
          omega
        · subst hx
          simp only
          omega
      · exact bd_turnE trivial rfl (by walk_at "fg")
  intro _
  rw [bl4]
  have kl := ks_len p bs 4
  have same := ks_same p bs 4
  generalize ksAt p bs 4 = ks at kl same
  generalize hsAt bs 4 = hs
  refine bd_frz (xs := ks) 0 7 rfl rfl hm ?_
  refine bd_frz (xs := hs) 0 6 rfl rfl hm ?_
  apply bd_ifr (b := false)
  · apply EvT.s
    apply et_test
    refine ev_op (Ra := rep ([] : List (List Int × List Int))) ?_ (ev_lst0 (α := List Int × List Int)) (s_neSame (n := 1) (shL fun x hx => by cases hx))
    have z : ((List.range ks.length).filter fun _ => false).map (at_ ks) = [] := by simp
    rw [← z]
    apply ev_lcIf (α := List Int × List Int) (n := ks.length) (item := fun i => rep (at_ ks i)) (val := at_ ks) (keep := fun _ => false)
    · exact wi_L (ev_var rfl)
    · intro i hi
      exact tl_name (by decide)
    · intro i hi
      have e := same _ (at_mem hi)
      refine et_eq (et_test (ev_op (ev_op (ev_var rfl) ev_int (s_fst (x := at_ ks i))) (ev_op (ev_var rfl) ev_int (s_snd (x := at_ ks i))) s_neL)) ?_
      rw [e]
      simp
    · intro i hi _
      exact ev_var rfl
    · omega
  · intro h
    cases h
  intro _
  refine bd_retE (a := true && (true && true)) hm (EvD.s ?_) rfl
  refine ev_and (ev_op (ev_tops G (ev_var rfl)) (ev_var rfl) (s_eqSame (sh_ints _))) fun _ => ?_
  exact ev_and (ev_op (ev_rows G (ev_var rfl)) (ev_var rfl) (s_eqSame (shd_rows' k))) fun _ => ev_op (ev_gain G (ev_var rfl)) (ev_var rfl) (s_eqSame (sh_ints _))
end
end D

set_option Elab.async false
set_option linter.all false
set_option maxRecDepth 100000
set_option maxHeartbeats 4000000
namespace D
open PySem PySem.Spec PyProof.Rows L2
open ToPy (py)
def top (i : Nat) : Stmt := PySem.Challenge.pw_wholecut_k06_whole_loosened.main.body.getD i (.Pass ⟨0, 0, 0, 0⟩)
abbrev s_between : Stmt := top 11
abbrev s_are_between : Stmt := top 12
abbrev s_is_row : Stmt := top 13
abbrev s_need_problem : Stmt := top 14
abbrev s_Problem_init : Stmt := inClass (top 15) 0
abbrev s_sum_at : Stmt := top 16
abbrev s_need_box : Stmt := top 18
abbrev s_alone : Stmt := top 19
abbrev s_facts : Stmt := top 20
abbrev s_turned_line : Stmt := top 22
abbrev s_turned : Stmt := top 23
abbrev s_Tableau_init : Stmt := inClass (top 25) 0
abbrev s_Tableau_wrong : Stmt := inClass (top 25) 1
abbrev s_Tableau_partner : Stmt := inClass (top 25) 2
abbrev s_Tableau_change : Stmt := inClass (top 25) 3
abbrev s_Tableau_told_noneN : Stmt := inClass (top 25) 4
abbrev s_Tableau_told_mostN : Stmt := inClass (top 25) 5
abbrev s_looseN : Stmt := top 26
abbrev s_law_cell_at : Stmt := top 28
abbrev s_law_whole : Stmt := top 29
abbrev s_law_number : Stmt := top 30
abbrev s_law_bound : Stmt := top 31
abbrev s_law_tops : Stmt := top 32
abbrev s_law_kind : Stmt := top 33
abbrev s_law_gain : Stmt := top 34
abbrev s_law_rows : Stmt := top 35
abbrev s_law_box : Stmt := top 36
abbrev s_law_facts : Stmt := top 37
abbrev s_law_summed : Stmt := top 38
abbrev s_law_are_weights : Stmt := top 39
abbrev s_law_spot : Stmt := top 40
abbrev s_law_most : Stmt := top 41
abbrev s_law_right : Stmt := top 42
abbrev s_law : Stmt := top 43
structure Txt (K : PySem.W.Frag) (mg : Str → Option Value) (c : Cs) : Prop where
  b_abs : mg "abs" = none
  b_bool : mg "bool" = none
  b_enumerate : mg "enumerate" = none
  b_int : mg "int" = none
  b_isinstance : mg "isinstance" = none
  b_len : mg "len" = none
  b_list : mg "list" = none
  b_min : mg "min" = none
  b_range : mg "range" = none
  b_str : mg "str" = none
  b_sum : mg "sum" = none
  b_tuple : mg "tuple" = none
  b_zip : mg "zip" = none
  g_GREATEST : ∃ t, mg "GREATEST" = some (.int 50 t)
  g_GREATEST_BOUND : ∃ t, mg "GREATEST_BOUND" = some (.int 2000 t)
  g_MOST_ROWS : ∃ t, mg "MOST_ROWS" = some (.int 6 t)
  g_MOST_TOP : ∃ t, mg "MOST_TOP" = some (.int 20 t)
  g_MOST_UNKNOWNS : ∃ t, mg "MOST_UNKNOWNS" = some (.int 3 t)
  g_BadProblem : mg "BadProblem" = some (.ref c.BadProblem)
  g_BadBox : mg "BadBox" = some (.ref c.BadBox)
  g_NoTurn : mg "NoTurn" = some (.ref c.NoTurn)
  g_CutError : mg "CutError" = some (.ref c.CutError)
  x_BadBox : PySem.W.excIn K c.BadBox [.type "ValueError", .type "Exception", .type "BaseException", .type "object"] "ValueError.__new__" = true
  k_BadBox : PySem.W.keepIn K (.ref c.BadBox) = true
  bx_BadBox : PySem.W.subIn K (.ref c.BadBox) (.type "BaseException") = some true
  tx_BadBox : PySem.W.typeIn K (.ref c.BadBox) = some (.type "type")
  x_BadProblem : PySem.W.excIn K c.BadProblem [.type "ValueError", .type "Exception", .type "BaseException", .type "object"] "ValueError.__new__" = true
  k_BadProblem : PySem.W.keepIn K (.ref c.BadProblem) = true
  bx_BadProblem : PySem.W.subIn K (.ref c.BadProblem) (.type "BaseException") = some true
  tx_BadProblem : PySem.W.typeIn K (.ref c.BadProblem) = some (.type "type")
  x_NoTurn : PySem.W.excIn K c.NoTurn [.type "ValueError", .type "Exception", .type "BaseException", .type "object"] "ValueError.__new__" = true
  k_NoTurn : PySem.W.keepIn K (.ref c.NoTurn) = true
  bx_NoTurn : PySem.W.subIn K (.ref c.NoTurn) (.type "BaseException") = some true
  tx_NoTurn : PySem.W.typeIn K (.ref c.NoTurn) = some (.type "type")
  c_Problem : Cls K c.Problem
  n_Problem_gain : NoAttr K c.Problem "gain"
  n_Problem_rows : NoAttr K c.Problem "rows"
  n_Problem_tops : NoAttr K c.Problem "tops"
  c_Tableau : Cls K c.Tableau
  n_Tableau_beside : NoAttr K c.Tableau "beside"
  n_Tableau_lines : NoAttr K c.Tableau "lines"
  n_Tableau_lows : NoAttr K c.Tableau "lows"
  n_Tableau_many : NoAttr K c.Tableau "many"
  n_Tableau_over : NoAttr K c.Tableau "over"
  n_Tableau_scale : NoAttr K c.Tableau "scale"
  d_between : Def K mg "between" s_between ["thing", "low", "high"]
  d_are_between : Def K mg "are_between" s_are_between ["things", "many", "low", "high"]
  d_is_row : Def K mg "is_row" s_is_row ["row", "many"]
  d_need_problem : Def K mg "need_problem" s_need_problem ["tops", "rows", "gain"]
  d_Problem_init : DefJ K mg "Problem" c.Problem "Problem.__init__" s_Problem_init ["self", "tops", "rows", "gain"]
  d_sum_at : Def K mg "sum_at" s_sum_at ["numbers", "point"]
  d_need_box : Def K mg "need_box" s_need_box ["problem", "box"]
  d_alone : Def K mg "alone" s_alone ["many", "unknown", "number"]
  d_facts : Def K mg "facts" s_facts ["problem", "box"]
  d_turned_line : Def K mg "turned_line" s_turned_line ["table", "scale", "row", "column", "at"]
  d_turned : Def K mg "turned" s_turned ["table", "scale", "row", "column"]
  d_Tableau_init : DefJ K mg "Tableau" c.Tableau "Tableau.__init__" s_Tableau_init ["self", "problem", "box"]
  d_Tableau_wrong : DefM K c.Tableau "wrong" "Tableau.wrong" s_Tableau_wrong ["self"]
  d_Tableau_partner : DefM K c.Tableau "partner" "Tableau.partner" s_Tableau_partner ["self", "one"]
  d_Tableau_change : DefM K c.Tableau "change" "Tableau.change" s_Tableau_change ["self", "one", "other"]
  d_Tableau_told_noneN : DefM K c.Tableau "told_none" "Tableau.told_none" s_Tableau_told_noneN ["self", "one"]
  d_Tableau_told_mostN : DefM K c.Tableau "told_most" "Tableau.told_most" s_Tableau_told_mostN ["self"]
  d_looseN : Def K mg "loose" s_looseN ["problem", "box"]
  d_law_cell_at : Def K mg "_law_cell_at" s_law_cell_at ["_law_script", "_law_k"]
  d_law_whole : Def K mg "_law_whole" s_law_whole ["_law_found"]
  d_law_number : Def K mg "_law_number" s_law_number ["_law_cell", "_law_kind_here"]
  d_law_bound : Def K mg "_law_bound" s_law_bound ["_law_cell", "_law_kind_here"]
  d_law_tops : Def K mg "_law_tops" s_law_tops ["_law_script"]
  d_law_kind : Def K mg "_law_kind" s_law_kind ["_law_script"]
  d_law_gain : Def K mg "_law_gain" s_law_gain ["_law_script"]
  d_law_rows : Def K mg "_law_rows" s_law_rows ["_law_script"]
  d_law_box : Def K mg "_law_box" s_law_box ["_law_script", "_law_tops_here"]
  d_law_facts : Def K mg "_law_facts" s_law_facts ["_law_rows_here", "_law_box_here"]
  d_law_summed : Def K mg "_law_summed" s_law_summed ["_law_rows_here", "_law_weights"]
  d_law_are_weights : Def K mg "_law_are_weights" s_law_are_weights ["_law_weights", "_law_many"]
  d_law_spot : Def K mg "_law_spot" s_law_spot ["_law_rows_here", "_law_spot_here"]
  d_law_most : Def K mg "_law_most" s_law_most ["_law_rows_here", "_law_gain_here", "_law_found"]
  d_law_right : Def K mg "_law_right" s_law_right ["_law_rows_here", "_law_gain_here", "_law_found"]
  d_law : Def K mg "law" s_law ["_law_script"]
theorem pf_ {K : PySem.W.Frag} {mg : Str → Option Value} {c : Cs} (T : Txt K mg c) : PF K c := ⟨T.c_Problem, T.n_Problem_tops, T.n_Problem_rows, T.n_Problem_gain⟩
theorem tf_ {K : PySem.W.Frag} {mg : Str → Option Value} {c : Cs} (T : Txt K mg c) : TF K c := ⟨T.c_Tableau, T.n_Tableau_lows, T.n_Tableau_beside, T.n_Tableau_over, T.n_Tableau_scale, T.n_Tableau_lines, T.n_Tableau_many⟩
theorem sc_between : FnScope n_between ["thing", "low", "high"] (defScope s_between) := ⟨rfl, rfl, rfl, by decide +kernel, rfl, by decide +kernel, by decide +kernel⟩
theorem ps_between {P : Program} {w : World} {K : PySem.W.Frag} {mg : Str → Option Value} {base : Heap} {c : Cs} (T : Txt K mg c)  (f : Addr) (cdv : Value) (A : Around) (outer : List Env) (s : Shared) (H : Hp) (E : XK) (hr : Room 0 (A.deeper (envOfC "between" (defScope s_between) s.heap.objs.size f cdv))) :
    PSs (cx0 P w K mg base n_between "between" s_between f cdv A outer s H E) (defBody s_between) (t_between K c) := by
  unfold t_between
  exact (pss_cons (ps_ret (pe_and (pe_callB call_isi (by rfl) T.b_isinstance b_isi (pa_cons (pv 0) (pa_cons (pe_bltn (v := .ty "int") (by rfl) T.b_int b_int rfl) pa_nil))) (pe_and (pe_not (pe_callB call_isi (by rfl) T.b_isinstance b_isi (pa_cons (pv 0) (pa_cons (pe_bltn (v := .ty "bool") (by rfl) T.b_bool b_bool rfl) pa_nil)))) (pe_one (pe_chain op_leX op_leX (pv 1) (pv 0) (pv 2))))))
  pss_nil)
theorem ok_between {P : Program} {w : World} {K : PySem.W.Frag} {mg : Str → Option Value} {base : Heap} {c : Cs} (T : Txt K mg c) : Okd P w K mg base CX0 1 "between" ["thing", "low", "high"] (spD (S_between K c)) :=
  okd T.d_between sc_between (by intro Rs R h; first | ((rcases h with ⟨_, _, _, rfl, _⟩ | ⟨_, _, _, rfl, _⟩) <;> rfl) | (rcases h with ⟨_, rfl, _⟩; rfl) | (rcases h with ⟨_, _, rfl, _⟩; rfl) | (rcases h with ⟨_, _, _, rfl, _⟩; rfl) | (rcases h with ⟨_, _, _, _, rfl, _⟩; rfl) | (rcases h with ⟨_, _, _, _, _, rfl, _⟩; rfl) | (rcases h with ⟨_, _, _, _, _, _, rfl, _⟩; rfl) | (rcases h with ⟨_, _, _, _, _, _, _, rfl, _⟩; rfl) | (rcases h with ⟨_, _, _, _, _, _, _, _, rfl, _⟩; rfl)) (fun f cdv A outer s H E hr => ps_between T  f cdv A outer s H E hr) (rd_between )
theorem sc_are_between : FnScope n_are_between ["things", "many", "low", "high"] (defScope s_are_between) := ⟨rfl, rfl, rfl, by decide +kernel, rfl, by decide +kernel, by decide +kernel⟩
theorem ps_are_between {P : Program} {w : World} {K : PySem.W.Frag} {mg : Str → Option Value} {base : Heap} {c : Cs} (T : Txt K mg c) (O_between : Okd P w K mg base CX0 1 "between" ["thing", "low", "high"] (spD (S_between K c))) (f : Addr) (cdv : Value) (A : Around) (outer : List Env) (s : Shared) (H : Hp) (E : XK) (hr : Room 1 (A.deeper (envOfC "are_between" (defScope s_are_between) s.heap.objs.size f cdv))) :
    PSs (cx0 P w K mg base n_are_between "are_between" s_are_between f cdv A outer s H E) (defBody s_are_between) (t_are_between K c) := by
  unfold t_are_between
  exact (pss_cons (ps_if (pt_cmpR (op_neX hr.units) (pe_callB call_lenX (by rfl) T.b_len b_len (pa_cons (pv 0) pa_nil)) (pv 1) (nomark _)) (pss_cons (ps_ret pe_bl)
  pss_nil) pss_nil)
  (pss_cons (ps_for PassesOwn.never rfl (pi_lt (pv 0)) (pg_name (i := 4) sc_are_between.nd rfl (by first | exact Or.inl rfl | exact Or.inr rfl)) (pss_cons (ps_if (pt_not (pt_val (pe_callD O_between hr pass0 (pa_cons (pv 4) (pa_cons (pv 2) (pa_cons (pv 3) pa_nil)))))) (pss_cons (ps_ret pe_bl)
  pss_nil) pss_nil)
  pss_nil))
  (pss_cons (ps_ret pe_bl)
  pss_nil)))
theorem ok_are_between {P : Program} {w : World} {K : PySem.W.Frag} {mg : Str → Option Value} {base : Heap} {c : Cs} (T : Txt K mg c) : Okd P w K mg base CX0 2 "are_between" ["things", "many", "low", "high"] (spD (S_are_between K c)) :=
  okd T.d_are_between sc_are_between (by intro Rs R h; first | ((rcases h with ⟨_, _, _, rfl, _⟩ | ⟨_, _, _, rfl, _⟩) <;> rfl) | (rcases h with ⟨_, rfl, _⟩; rfl) | (rcases h with ⟨_, _, rfl, _⟩; rfl) | (rcases h with ⟨_, _, _, rfl, _⟩; rfl) | (rcases h with ⟨_, _, _, _, rfl, _⟩; rfl) | (rcases h with ⟨_, _, _, _, _, rfl, _⟩; rfl) | (rcases h with ⟨_, _, _, _, _, _, rfl, _⟩; rfl) | (rcases h with ⟨_, _, _, _, _, _, _, rfl, _⟩; rfl) | (rcases h with ⟨_, _, _, _, _, _, _, _, rfl, _⟩; rfl)) (fun f cdv A outer s H E hr => ps_are_between T (ok_between T) f cdv A outer s H E hr) (rd_are_between )
theorem sc_is_row : FnScope n_is_row ["row", "many"] (defScope s_is_row) := ⟨rfl, rfl, rfl, by decide +kernel, rfl, by decide +kernel, by decide +kernel⟩
theorem ps_is_row {P : Program} {w : World} {K : PySem.W.Frag} {mg : Str → Option Value} {base : Heap} {c : Cs} (T : Txt K mg c) (O_between : Okd P w K mg base CX0 1 "between" ["thing", "low", "high"] (spD (S_between K c))) (O_are_between : Okd P w K mg base CX0 2 "are_between" ["things", "many", "low", "high"] (spD (S_are_between K c))) (f : Addr) (cdv : Value) (A : Around) (outer : List Env) (s : Shared) (H : Hp) (E : XK) (hr : Room 2 (A.deeper (envOfC "is_row" (defScope s_is_row) s.heap.objs.size f cdv))) :
    PSs (cx0 P w K mg base n_is_row "is_row" s_is_row f cdv A outer s H E) (defBody s_is_row) (t_is_row K c) := by
  unfold t_is_row
  exact (pss_cons (ps_if (PW.pt (pw_or (pt_not (pt_val (pe_callB call_isi (by rfl) T.b_isinstance b_isi (pa_cons (pv 0) (pa_cons (pe_bltn (v := .ty "tuple") (by rfl) T.b_tuple b_tuple rfl) pa_nil))))) (pw_or (pt_cmpR (op_neX hr.units) (pe_callB call_lenX (by rfl) T.b_len b_len (pa_cons (pv 0) pa_nil)) pe_int (nomark _)) (pw_or1 (pt_not (pt_val (pe_callB call_isi (by rfl) T.b_isinstance b_isi (pa_cons (pe_ix ix_seq (pv 0) pe_int (fun _ _ => rfl)) (pa_cons (pe_bltn (v := .ty "tuple") (by rfl) T.b_tuple b_tuple rfl) pa_nil))))))))) (pss_cons (ps_ret pe_bl)
  pss_nil) pss_nil)
  (pss_cons (ps_if (PW.pt (pw_or (pt_not (pt_val (pe_callD O_are_between hr pass0 (pa_cons (pe_ix ix_seq (pv 0) pe_int (fun _ _ => rfl)) (pa_cons (pv 1) (pa_cons (pe_un un_neg (pe_globI T.g_GREATEST)) (pa_cons (pe_globI T.g_GREATEST) pa_nil))))))) (pw_or1 (pt_not (pt_val (pe_callB call_isi (by rfl) T.b_isinstance b_isi (pa_cons (pe_ix ix_seq (pv 0) pe_int (fun _ _ => rfl)) (pa_cons (pe_bltn (v := .ty "str") (by rfl) T.b_str b_str rfl) pa_nil)))))))) (pss_cons (ps_ret pe_bl)
  pss_nil) pss_nil)
  (pss_cons (ps_ret (pe_and (pe_cmpR op_inX (pe_ix ix_seq (pv 0) pe_int (fun _ _ => rfl)) (pe_tup (pa_cons pe_str (pa_cons pe_str pa_nil))) rfl) (pe_one (pe_callD O_between hr pass0 (pa_cons (pe_ix ix_seq (pv 0) pe_int (fun _ _ => rfl)) (pa_cons (pe_un un_neg (pe_globI T.g_GREATEST_BOUND)) (pa_cons (pe_globI T.g_GREATEST_BOUND) pa_nil)))))))
  pss_nil)))
theorem ok_is_row {P : Program} {w : World} {K : PySem.W.Frag} {mg : Str → Option Value} {base : Heap} {c : Cs} (T : Txt K mg c) : Okd P w K mg base CX0 3 "is_row" ["row", "many"] (spD (S_is_row K c)) :=
  okd T.d_is_row sc_is_row (by intro Rs R h; first | ((rcases h with ⟨_, _, _, rfl, _⟩ | ⟨_, _, _, rfl, _⟩) <;> rfl) | (rcases h with ⟨_, rfl, _⟩; rfl) | (rcases h with ⟨_, _, rfl, _⟩; rfl) | (rcases h with ⟨_, _, _, rfl, _⟩; rfl) | (rcases h with ⟨_, _, _, _, rfl, _⟩; rfl) | (rcases h with ⟨_, _, _, _, _, rfl, _⟩; rfl) | (rcases h with ⟨_, _, _, _, _, _, rfl, _⟩; rfl) | (rcases h with ⟨_, _, _, _, _, _, _, rfl, _⟩; rfl) | (rcases h with ⟨_, _, _, _, _, _, _, _, rfl, _⟩; rfl)) (fun f cdv A outer s H E hr => ps_is_row T (ok_between T) (ok_are_between T) f cdv A outer s H E hr) (rd_is_row )
theorem sc_need_problem : FnScope n_need_problem ["tops", "rows", "gain"] (defScope s_need_problem) := ⟨rfl, rfl, rfl, by decide +kernel, rfl, by decide +kernel, by decide +kernel⟩
theorem ps_need_problem {P : Program} {w : World} {K : PySem.W.Frag} {mg : Str → Option Value} {base : Heap} {c : Cs} (T : Txt K mg c) (O_are_between : Okd P w K mg base CX0 2 "are_between" ["things", "many", "low", "high"] (spD (S_are_between K c))) (O_is_row : Okd P w K mg base CX0 3 "is_row" ["row", "many"] (spD (S_is_row K c))) (f : Addr) (cdv : Value) (A : Around) (outer : List Env) (s : Shared) (H : Hp) (E : XK) (hr : Room 3 (A.deeper (envOfC "need_problem" (defScope s_need_problem) s.heap.objs.size f cdv))) :
    PSs (cxX P w K mg base n_need_problem "need_problem" s_need_problem f cdv A outer s H E) (defBody s_need_problem) (t_need_problem K c E) := by
  unfold t_need_problem
  exact (pss_cons (ps_if (PW.pt (pw_or (pt_not (pt_val (pe_callB call_isi (by rfl) T.b_isinstance b_isi (pa_cons (pv 0) (pa_cons (pe_bltn (v := .ty "list") (by rfl) T.b_list b_list rfl) pa_nil))))) (pw_or1 (pt_not (pt_chain op_leX op_leX pe_int (pe_callB call_lenX (by rfl) T.b_len b_len (pa_cons (pv 0) pa_nil)) (pe_globI T.g_MOST_UNKNOWNS)))))) (pss_cons (ps_raise rfl (takes_of rfl rfl rfl rfl) (pmk_own PySem.F.excBase_ValueError T.x_BadProblem T.g_BadProblem T.k_BadProblem (raises_own T.bx_BadProblem T.tx_BadProblem) (by exact rfl)))
  pss_nil) pss_nil)
  (pss_cons (ps_if (pt_not (pt_val (pe_callD O_are_between hr pass0 (pa_cons (pv 0) (pa_cons (pe_callB call_lenX (by rfl) T.b_len b_len (pa_cons (pv 0) pa_nil)) (pa_cons pe_int (pa_cons (pe_globI T.g_MOST_TOP) pa_nil))))))) (pss_cons (ps_raise rfl (takes_of rfl rfl rfl rfl) (pmk_own PySem.F.excBase_ValueError T.x_BadProblem T.g_BadProblem T.k_BadProblem (raises_own T.bx_BadProblem T.tx_BadProblem) (by exact rfl)))
  pss_nil) pss_nil)
  (pss_cons (ps_if (PW.pt (pw_or (pt_not (pt_val (pe_callB call_isi (by rfl) T.b_isinstance b_isi (pa_cons (pv 1) (pa_cons (pe_bltn (v := .ty "list") (by rfl) T.b_list b_list rfl) pa_nil))))) (pw_or1 (pt_cmpR op_gtX (pe_callB call_lenX (by rfl) T.b_len b_len (pa_cons (pv 1) pa_nil)) (pe_globI T.g_MOST_ROWS) (nomark _))))) (pss_cons (ps_raise rfl (takes_of rfl rfl rfl rfl) (pmk_own PySem.F.excBase_ValueError T.x_BadProblem T.g_BadProblem T.k_BadProblem (raises_own T.bx_BadProblem T.tx_BadProblem) (by exact rfl)))
  pss_nil) pss_nil)
  (pss_cons (ps_for (passes_of rfl) rfl (pi_list (pv 1)) (pg_name (i := 3) sc_need_problem.nd rfl (by first | exact Or.inl rfl | exact Or.inr rfl)) (pss_cons (ps_if (pt_not (pt_val (pe_callD O_is_row hr pass0 (pa_cons (pv 3) (pa_cons (pe_callB call_lenX (by rfl) T.b_len b_len (pa_cons (pv 0) pa_nil)) pa_nil))))) (pss_cons (ps_raise rfl (takes_of rfl rfl rfl rfl) (pmk_own PySem.F.excBase_ValueError T.x_BadProblem T.g_BadProblem T.k_BadProblem (raises_own T.bx_BadProblem T.tx_BadProblem) (by exact rfl)))
  pss_nil) pss_nil)
  pss_nil))
  (pss_cons (ps_if (PW.pt (pw_or (pt_not (pt_val (pe_callB call_isi (by rfl) T.b_isinstance b_isi (pa_cons (pv 2) (pa_cons (pe_bltn (v := .ty "list") (by rfl) T.b_list b_list rfl) pa_nil))))) (pw_or1 (pt_not (pt_val (pe_callD O_are_between hr pass0 (pa_cons (pv 2) (pa_cons (pe_callB call_lenX (by rfl) T.b_len b_len (pa_cons (pv 0) pa_nil)) (pa_cons (pe_un un_neg (pe_globI T.g_GREATEST)) (pa_cons (pe_globI T.g_GREATEST) pa_nil)))))))))) (pss_cons (ps_raise rfl (takes_of rfl rfl rfl rfl) (pmk_own PySem.F.excBase_ValueError T.x_BadProblem T.g_BadProblem T.k_BadProblem (raises_own T.bx_BadProblem T.tx_BadProblem) (by exact rfl)))
  pss_nil) pss_nil)
  pss_nil)))))
theorem ok_need_problem {P : Program} {w : World} {K : PySem.W.Frag} {mg : Str → Option Value} {base : Heap} {c : Cs} (T : Txt K mg c) : Okd P w K mg base (L2.CX P w) 4 "need_problem" ["tops", "rows", "gain"] (spX (S_need_problem K c) (SE_need_problem K c)) :=
  okdX T.d_need_problem sc_need_problem (by intro Rs R h; first | ((rcases h with ⟨_, _, _, rfl, _⟩ | ⟨_, _, _, rfl, _⟩) <;> rfl) | (rcases h with ⟨_, rfl, _⟩; rfl) | (rcases h with ⟨_, _, rfl, _⟩; rfl) | (rcases h with ⟨_, _, _, rfl, _⟩; rfl) | (rcases h with ⟨_, _, _, _, rfl, _⟩; rfl) | (rcases h with ⟨_, _, _, _, _, rfl, _⟩; rfl) | (rcases h with ⟨_, _, _, _, _, _, rfl, _⟩; rfl) | (rcases h with ⟨_, _, _, _, _, _, _, rfl, _⟩; rfl) | (rcases h with ⟨_, _, _, _, _, _, _, _, rfl, _⟩; rfl)) (by intro Rs R h; first | ((rcases h with ⟨_, _, _, rfl, _⟩ | ⟨_, _, _, rfl, _⟩) <;> rfl) | (rcases h with ⟨_, rfl, _⟩; rfl) | (rcases h with ⟨_, _, rfl, _⟩; rfl) | (rcases h with ⟨_, _, _, rfl, _⟩; rfl) | (rcases h with ⟨_, _, _, _, rfl, _⟩; rfl) | (rcases h with ⟨_, _, _, _, _, rfl, _⟩; rfl) | (rcases h with ⟨_, _, _, _, _, _, rfl, _⟩; rfl) | (rcases h with ⟨_, _, _, _, _, _, _, rfl, _⟩; rfl) | (rcases h with ⟨_, _, _, _, _, _, _, _, rfl, _⟩; rfl)) (fun f cdv A outer s H E hr => ps_need_problem T (ok_are_between T) (ok_is_row T) f cdv A outer s H E hr) (rd_need_problem ) (rd_need_problemX )
theorem sc_Problem_init : FnScope n_Problem_init ["self", "tops", "rows", "gain"] (defScope s_Problem_init) := ⟨rfl, rfl, rfl, by decide +kernel, rfl, by decide +kernel, by decide +kernel⟩
theorem ps_Problem_init {P : Program} {w : World} {K : PySem.W.Frag} {mg : Str → Option Value} {base : Heap} {c : Cs} (T : Txt K mg c) (O_need_problem : Okd P w K mg base (L2.CX P w) 4 "need_problem" ["tops", "rows", "gain"] (spX (S_need_problem K c) (SE_need_problem K c))) (f : Addr) (cdv : Value) (A : Around) (outer : List Env) (s : Shared) (H : Hp) (E : XK) (hr : Room 4 (A.deeper (envOfC "Problem.__init__" (defScope s_Problem_init) s.heap.objs.size f cdv))) :
    PSs (cx0 P w K mg base n_Problem_init "Problem.__init__" s_Problem_init f cdv A outer s H E) (defBody s_Problem_init) (t_Problem_init K c) := by
  unfold t_Problem_init
  exact (pss_cons (ps_expr (pe_callD O_need_problem hr passL (pa_cons (pv 1) (pa_cons (pv 2) (pa_cons (pv 3) pa_nil)))))
  (pss_cons (ps_fld (pv 0) (pe_callTy call_listX (by rfl) T.b_list b_list (pa_cons (pv 1) pa_nil)) rfl)
  (pss_cons (ps_fld (pv 0) (pe_callTy call_listX (by rfl) T.b_list b_list (pa_cons (pv 2) pa_nil)) rfl)
  (pss_cons (ps_fld (pv 0) (pe_callTy call_listX (by rfl) T.b_list b_list (pa_cons (pv 3) pa_nil)) rfl)
  pss_nil))))
theorem ok_Problem {P : Program} {w : World} {K : PySem.W.Frag} {mg : Str → Option Value} {base : Heap} {c : Cs} (T : Txt K mg c) : Oki P w K mg base CX0 5 "Problem" c.Problem ["self", "tops", "rows", "gain"] (SP_Problem K c) :=
  okjO T.d_Problem_init sc_Problem_init (by intro Rs O Po h; first | (rcases h with ⟨_, rfl, _⟩; rfl) | (rcases h with ⟨_, _, rfl, _⟩; rfl) | (rcases h with ⟨_, _, _, rfl, _⟩; rfl) | (rcases h with ⟨_, _, _, _, rfl, _⟩; rfl) | (rcases h with ⟨_, _, _, _, _, rfl, _⟩; rfl) | (rcases h with ⟨_, _, _, _, _, _, rfl, _⟩; rfl) | (rcases h with ⟨_, _, _, _, _, _, _, rfl, _⟩; rfl) | (rcases h with ⟨_, _, _, _, _, _, _, _, rfl, _⟩; rfl) | (rcases h with ⟨_, _, _, _, _, _, _, _, _, rfl, _⟩; rfl) | (rcases h with ⟨_, _, _, _, _, _, _, _, _, _, rfl, _⟩; rfl) | (rcases h with ⟨_, _, _, _, _, _, _, _, _, _, _, rfl, _⟩; rfl) | (rcases h with ⟨_, _, _, _, _, _, _, _, _, _, _, _, rfl, _⟩; rfl) | (rcases h with ⟨_, _, _, _, _, _, _, _, _, _, _, _, _, rfl, _⟩; rfl)) (fun f cdv A outer s H E hr => ps_Problem_init T (ok_need_problem T) f cdv A outer s H E hr) (rd_Problem_init (pf_ T))
theorem sc_sum_at : FnScope n_sum_at ["numbers", "point"] (defScope s_sum_at) := ⟨rfl, rfl, rfl, by decide +kernel, rfl, by decide +kernel, by decide +kernel⟩
theorem ps_sum_at {P : Program} {w : World} {K : PySem.W.Frag} {mg : Str → Option Value} {base : Heap} {c : Cs} (T : Txt K mg c)  (f : Addr) (cdv : Value) (A : Around) (outer : List Env) (s : Shared) (H : Hp) (E : XK) (hr : Room 0 (A.deeper (envOfC "sum_at" (defScope s_sum_at) s.heap.objs.size f cdv))) :
    PSs (cx0 P w K mg base n_sum_at "sum_at" s_sum_at f cdv A outer s H E) (defBody s_sum_at) (t_sum_at K c) := by
  unfold t_sum_at
  exact (pss_cons (ps_ret (pe_callB (cr_sum rfl) (by rfl) T.b_sum b_sum (pa_cons (pe_lc (own := [("number", 2), ("value", 3)]) (g := (gTup K 2 (gCons (gName 2) (gCons (gName 3) gNil)))) (tt := tYes) rfl sc_sum_at.nd (pi_zipX rfl T.b_zip (pa_cons (pv 0) (pa_cons (pv 1) pa_nil))) (blkOk_by (N := n_sum_at) (sc := defScope s_sum_at) (by decide +kernel)) (fun _ _ _ _ _ => (pg_tup rfl (pgs_cons (pg_name (i := 2) sc_sum_at.nd rfl (by first | exact Or.inl rfl | exact Or.inr rfl)) (pgs_cons (pg_name (i := 3) sc_sum_at.nd rfl (by first | exact Or.inl rfl | exact Or.inr rfl)) pgs_nil)))) (fun _ _ _ _ _ => pts_nil) (fun _ _ _ _ _ => (pe_op op_mulX (pv 2) (pv 3)))) pa_nil)))
  pss_nil)
theorem ok_sum_at {P : Program} {w : World} {K : PySem.W.Frag} {mg : Str → Option Value} {base : Heap} {c : Cs} (T : Txt K mg c) : Okd P w K mg base CX0 1 "sum_at" ["numbers", "point"] (spD (S_sum_at K c)) :=
  okd T.d_sum_at sc_sum_at (by intro Rs R h; first | ((rcases h with ⟨_, _, _, rfl, _⟩ | ⟨_, _, _, rfl, _⟩) <;> rfl) | (rcases h with ⟨_, rfl, _⟩; rfl) | (rcases h with ⟨_, _, rfl, _⟩; rfl) | (rcases h with ⟨_, _, _, rfl, _⟩; rfl) | (rcases h with ⟨_, _, _, _, rfl, _⟩; rfl) | (rcases h with ⟨_, _, _, _, _, rfl, _⟩; rfl) | (rcases h with ⟨_, _, _, _, _, _, rfl, _⟩; rfl) | (rcases h with ⟨_, _, _, _, _, _, _, rfl, _⟩; rfl) | (rcases h with ⟨_, _, _, _, _, _, _, _, rfl, _⟩; rfl)) (fun f cdv A outer s H E hr => ps_sum_at T  f cdv A outer s H E hr) (rd_sum_at )
theorem sc_need_box : FnScope n_need_box ["problem", "box"] (defScope s_need_box) := ⟨rfl, rfl, rfl, by decide +kernel, rfl, by decide +kernel, by decide +kernel⟩
theorem ps_need_box {P : Program} {w : World} {K : PySem.W.Frag} {mg : Str → Option Value} {base : Heap} {c : Cs} (T : Txt K mg c) (O_between : Okd P w K mg base CX0 1 "between" ["thing", "low", "high"] (spD (S_between K c))) (f : Addr) (cdv : Value) (A : Around) (outer : List Env) (s : Shared) (H : Hp) (E : XK) (hr : Room 1 (A.deeper (envOfC "need_box" (defScope s_need_box) s.heap.objs.size f cdv))) :
    PSs (cxX P w K mg base n_need_box "need_box" s_need_box f cdv A outer s H E) (defBody s_need_box) (t_need_box K c E) := by
  unfold t_need_box
  exact (pss_cons (ps_if (PW.pt (pw_or (pt_not (pt_val (pe_callB call_isi (by rfl) T.b_isinstance b_isi (pa_cons (pv 1) (pa_cons (pe_bltn (v := .ty "list") (by rfl) T.b_list b_list rfl) pa_nil))))) (pw_or1 (pt_cmpR (op_neX hr.units) (pe_callB call_lenX (by rfl) T.b_len b_len (pa_cons (pv 1) pa_nil)) (pe_callB call_lenX (by rfl) T.b_len b_len (pa_cons (pe_fld (pv 0) rfl) pa_nil)) (nomark _))))) (pss_cons (ps_raise rfl (takes_of rfl rfl rfl rfl) (pmk_own PySem.F.excBase_ValueError T.x_BadBox T.g_BadBox T.k_BadBox (raises_own T.bx_BadBox T.tx_BadBox) (by exact rfl)))
  pss_nil) pss_nil)
  (pss_cons (ps_for (passes_of rfl) rfl (pi_zip rfl T.b_zip (pa_cons (pv 1) (pa_cons (pe_fld (pv 0) rfl) pa_nil))) (pg_tup rfl (pgs_cons (pg_name (i := 2) sc_need_box.nd rfl (by first | exact Or.inl rfl | exact Or.inr rfl)) (pgs_cons (pg_name (i := 3) sc_need_box.nd rfl (by first | exact Or.inl rfl | exact Or.inr rfl)) pgs_nil))) (pss_cons (ps_if (PW.pt (pw_or (pt_not (pt_val (pe_callB call_isi (by rfl) T.b_isinstance b_isi (pa_cons (pv 2) (pa_cons (pe_bltn (v := .ty "tuple") (by rfl) T.b_tuple b_tuple rfl) pa_nil))))) (pw_or1 (pt_cmpR (op_neX hr.units) (pe_callB call_lenX (by rfl) T.b_len b_len (pa_cons (pv 2) pa_nil)) pe_int (nomark _))))) (pss_cons (ps_raise rfl (takes_of rfl rfl rfl rfl) (pmk_own PySem.F.excBase_ValueError T.x_BadBox T.g_BadBox T.k_BadBox (raises_own T.bx_BadBox T.tx_BadBox) (by exact rfl)))
  pss_nil) pss_nil)
  (pss_cons (ps_if (PW.pt (pw_or (pt_not (pt_val (pe_callD O_between hr pass0 (pa_cons (pe_ix ix_seq (pv 2) pe_int (fun _ _ => rfl)) (pa_cons pe_int (pa_cons (pv 3) pa_nil)))))) (pw_or1 (pt_not (pt_val (pe_callD O_between hr pass0 (pa_cons (pe_ix ix_seq (pv 2) pe_int (fun _ _ => rfl)) (pa_cons (pe_ix ix_seq (pv 2) pe_int (fun _ _ => rfl)) (pa_cons (pv 3) pa_nil))))))))) (pss_cons (ps_raise rfl (takes_of rfl rfl rfl rfl) (pmk_own PySem.F.excBase_ValueError T.x_BadBox T.g_BadBox T.k_BadBox (raises_own T.bx_BadBox T.tx_BadBox) (by exact rfl)))
  pss_nil) pss_nil)
  pss_nil)))
  pss_nil))
theorem ok_need_box {P : Program} {w : World} {K : PySem.W.Frag} {mg : Str → Option Value} {base : Heap} {c : Cs} (T : Txt K mg c) : Okd P w K mg base (L2.CX P w) 2 "need_box" ["problem", "box"] (spX (S_need_box K c) (SE_need_box K c)) :=
  okdX T.d_need_box sc_need_box (by intro Rs R h; first | ((rcases h with ⟨_, _, _, rfl, _⟩ | ⟨_, _, _, rfl, _⟩) <;> rfl) | (rcases h with ⟨_, rfl, _⟩; rfl) | (rcases h with ⟨_, _, rfl, _⟩; rfl) | (rcases h with ⟨_, _, _, rfl, _⟩; rfl) | (rcases h with ⟨_, _, _, _, rfl, _⟩; rfl) | (rcases h with ⟨_, _, _, _, _, rfl, _⟩; rfl) | (rcases h with ⟨_, _, _, _, _, _, rfl, _⟩; rfl) | (rcases h with ⟨_, _, _, _, _, _, _, rfl, _⟩; rfl) | (rcases h with ⟨_, _, _, _, _, _, _, _, rfl, _⟩; rfl)) (by intro Rs R h; first | ((rcases h with ⟨_, _, _, rfl, _⟩ | ⟨_, _, _, rfl, _⟩) <;> rfl) | (rcases h with ⟨_, rfl, _⟩; rfl) | (rcases h with ⟨_, _, rfl, _⟩; rfl) | (rcases h with ⟨_, _, _, rfl, _⟩; rfl) | (rcases h with ⟨_, _, _, _, rfl, _⟩; rfl) | (rcases h with ⟨_, _, _, _, _, rfl, _⟩; rfl) | (rcases h with ⟨_, _, _, _, _, _, rfl, _⟩; rfl) | (rcases h with ⟨_, _, _, _, _, _, _, rfl, _⟩; rfl) | (rcases h with ⟨_, _, _, _, _, _, _, _, rfl, _⟩; rfl)) (fun f cdv A outer s H E hr => ps_need_box T (ok_between T) f cdv A outer s H E hr) (rd_need_box (pf_ T)) (rd_need_boxX (pf_ T))
theorem sc_alone : FnScope n_alone ["many", "unknown", "number"] (defScope s_alone) := ⟨rfl, rfl, rfl, by decide +kernel, rfl, by decide +kernel, by decide +kernel⟩
theorem ps_alone {P : Program} {w : World} {K : PySem.W.Frag} {mg : Str → Option Value} {base : Heap} {c : Cs} (T : Txt K mg c)  (f : Addr) (cdv : Value) (A : Around) (outer : List Env) (s : Shared) (H : Hp) (E : XK) (hr : Room 0 (A.deeper (envOfC "alone" (defScope s_alone) s.heap.objs.size f cdv))) :
    PSs (cx0 P w K mg base n_alone "alone" s_alone f cdv A outer s H E) (defBody s_alone) (t_alone K c) := by
  unfold t_alone
  exact (pss_cons (ps_set (i := 3) sc_alone.nd rfl (by first | exact Or.inl rfl | exact Or.inr rfl) (pe_op op_mulX (pe_lst (pa_cons pe_int pa_nil)) (pv 0)))
  (pss_cons (ps_asg (pv 2) (pg_sub (pv 3) (pv 1) set_list))
  (pss_cons (ps_ret (pe_callTy call_tupX (by rfl) T.b_tuple b_tuple (pa_cons (pv 3) pa_nil)))
  pss_nil)))
theorem ok_alone {P : Program} {w : World} {K : PySem.W.Frag} {mg : Str → Option Value} {base : Heap} {c : Cs} (T : Txt K mg c) : Okd P w K mg base CX0 1 "alone" ["many", "unknown", "number"] (spD (S_alone K c)) :=
  okd T.d_alone sc_alone (by intro Rs R h; first | ((rcases h with ⟨_, _, _, rfl, _⟩ | ⟨_, _, _, rfl, _⟩) <;> rfl) | (rcases h with ⟨_, rfl, _⟩; rfl) | (rcases h with ⟨_, _, rfl, _⟩; rfl) | (rcases h with ⟨_, _, _, rfl, _⟩; rfl) | (rcases h with ⟨_, _, _, _, rfl, _⟩; rfl) | (rcases h with ⟨_, _, _, _, _, rfl, _⟩; rfl) | (rcases h with ⟨_, _, _, _, _, _, rfl, _⟩; rfl) | (rcases h with ⟨_, _, _, _, _, _, _, rfl, _⟩; rfl) | (rcases h with ⟨_, _, _, _, _, _, _, _, rfl, _⟩; rfl)) (fun f cdv A outer s H E hr => ps_alone T  f cdv A outer s H E hr) (rd_alone )
theorem sc_facts : FnScope n_facts ["problem", "box"] (defScope s_facts) := ⟨rfl, rfl, rfl, by decide +kernel, rfl, by decide +kernel, by decide +kernel⟩
theorem ps_facts {P : Program} {w : World} {K : PySem.W.Frag} {mg : Str → Option Value} {base : Heap} {c : Cs} (T : Txt K mg c) (O_alone : Okd P w K mg base CX0 1 "alone" ["many", "unknown", "number"] (spD (S_alone K c))) (O_need_box : Okd P w K mg base (L2.CX P w) 2 "need_box" ["problem", "box"] (spX (S_need_box K c) (SE_need_box K c))) (f : Addr) (cdv : Value) (A : Around) (outer : List Env) (s : Shared) (H : Hp) (E : XK) (hr : Room 2 (A.deeper (envOfC "facts" (defScope s_facts) s.heap.objs.size f cdv))) :
    PSs (cxX P w K mg base n_facts "facts" s_facts f cdv A outer s H E) (defBody s_facts) (t_facts K c E) := by
  unfold t_facts
  exact (pss_cons (ps_expr (pe_callE O_need_box hr (takes_of rfl rfl rfl rfl) (pa_cons (pv 0) (pa_cons (pv 1) pa_nil))))
  (pss_cons (ps_set (i := 2) sc_facts.nd rfl (by first | exact Or.inl rfl | exact Or.inr rfl) (pe_callB call_lenX (by rfl) T.b_len b_len (pa_cons (pv 1) pa_nil)))
  (pss_cons (ps_set (i := 3) sc_facts.nd rfl (by first | exact Or.inl rfl | exact Or.inr rfl) (pe_lst pa_nil))
  (pss_cons (ps_for (passes_of rfl) rfl (pi_list (pe_fld (pv 0) rfl)) (pg_tup rfl (pgs_cons (pg_name (i := 4) sc_facts.nd rfl (by first | exact Or.inl rfl | exact Or.inr rfl)) (pgs_cons (pg_name (i := 5) sc_facts.nd rfl (by first | exact Or.inl rfl | exact Or.inr rfl)) (pgs_cons (pg_name (i := 6) sc_facts.nd rfl (by first | exact Or.inl rfl | exact Or.inr rfl)) pgs_nil)))) (pss_cons (ps_if (pt_cmpR (op_eqX hr.units) (pv 5) pe_str (nomark _)) (pss_cons (ps_expr (pe_bm PySem.F.plainAttrs_list PySem.F.slot_list_append PySem.F.type_list_append mt_append (pv 3) (pa_cons (pe_tup (pa_cons (pv 4) (pa_cons (pv 6) pa_nil))) pa_nil)))
  pss_nil) (pss_cons (ps_expr (pe_bm PySem.F.plainAttrs_list PySem.F.slot_list_append PySem.F.type_list_append mt_append (pv 3) (pa_cons (pe_tup (pa_cons (pe_callTy call_tupX (by rfl) T.b_tuple b_tuple (pa_cons (pe_lc (own := [("number", 8)]) (g := (gName 8)) (tt := tYes) rfl sc_facts.nd (pi_tup (pv 4)) (blkOk_by (N := n_facts) (sc := defScope s_facts) (by decide +kernel)) (fun _ _ _ _ _ => (pg_name (i := 8) sc_facts.nd rfl (by first | exact Or.inl rfl | exact Or.inr rfl))) (fun _ _ _ _ _ => pts_nil) (fun _ _ _ _ _ => (pe_op op_subX pe_int (pv 8)))) pa_nil)) (pa_cons (pe_op op_subX pe_int (pv 6)) pa_nil))) pa_nil)))
  pss_nil))
  pss_nil))
  (pss_cons (ps_for (passes_of rfl) rfl (pi_range1 rfl T.b_range (pa_cons (pv 2) pa_nil)) (pg_name (i := 7) sc_facts.nd rfl (by first | exact Or.inl rfl | exact Or.inr rfl)) (pss_cons (ps_expr (pe_bm PySem.F.plainAttrs_list PySem.F.slot_list_append PySem.F.type_list_append mt_append (pv 3) (pa_cons (pe_tup (pa_cons (pe_callD O_alone hr pass0 (pa_cons (pv 2) (pa_cons (pv 7) (pa_cons pe_int pa_nil)))) (pa_cons (pe_ix ix_seq (pe_ix ix_seq (pv 1) (pv 7) (fun _ _ => rfl)) pe_int (fun _ _ => rfl)) pa_nil))) pa_nil)))
  (pss_cons (ps_expr (pe_bm PySem.F.plainAttrs_list PySem.F.slot_list_append PySem.F.type_list_append mt_append (pv 3) (pa_cons (pe_tup (pa_cons (pe_callD O_alone hr pass0 (pa_cons (pv 2) (pa_cons (pv 7) (pa_cons (pe_un un_neg pe_int) pa_nil)))) (pa_cons (pe_op op_subX pe_int (pe_ix ix_seq (pe_ix ix_seq (pv 1) (pv 7) (fun _ _ => rfl)) pe_int (fun _ _ => rfl))) pa_nil))) pa_nil)))
  pss_nil)))
  (pss_cons (ps_ret (pv 3))
  pss_nil))))))
theorem ok_facts {P : Program} {w : World} {K : PySem.W.Frag} {mg : Str → Option Value} {base : Heap} {c : Cs} (T : Txt K mg c) : Okd P w K mg base (L2.CX P w) 3 "facts" ["problem", "box"] (spX (S_facts K c) (SE_facts K c)) :=
  okdX T.d_facts sc_facts (by intro Rs R h; first | ((rcases h with ⟨_, _, _, rfl, _⟩ | ⟨_, _, _, rfl, _⟩) <;> rfl) | (rcases h with ⟨_, rfl, _⟩; rfl) | (rcases h with ⟨_, _, rfl, _⟩; rfl) | (rcases h with ⟨_, _, _, rfl, _⟩; rfl) | (rcases h with ⟨_, _, _, _, rfl, _⟩; rfl) | (rcases h with ⟨_, _, _, _, _, rfl, _⟩; rfl) | (rcases h with ⟨_, _, _, _, _, _, rfl, _⟩; rfl) | (rcases h with ⟨_, _, _, _, _, _, _, rfl, _⟩; rfl) | (rcases h with ⟨_, _, _, _, _, _, _, _, rfl, _⟩; rfl)) (by intro Rs R h; first | ((rcases h with ⟨_, _, _, rfl, _⟩ | ⟨_, _, _, rfl, _⟩) <;> rfl) | (rcases h with ⟨_, rfl, _⟩; rfl) | (rcases h with ⟨_, _, rfl, _⟩; rfl) | (rcases h with ⟨_, _, _, rfl, _⟩; rfl) | (rcases h with ⟨_, _, _, _, rfl, _⟩; rfl) | (rcases h with ⟨_, _, _, _, _, rfl, _⟩; rfl) | (rcases h with ⟨_, _, _, _, _, _, rfl, _⟩; rfl) | (rcases h with ⟨_, _, _, _, _, _, _, rfl, _⟩; rfl) | (rcases h with ⟨_, _, _, _, _, _, _, _, rfl, _⟩; rfl)) (fun f cdv A outer s H E hr => ps_facts T (ok_alone T) (ok_need_box T) f cdv A outer s H E hr) (rd_facts (pf_ T)) (rd_factsX (pf_ T))
theorem sc_turned_line : FnScope n_turned_line ["table", "scale", "row", "column", "at"] (defScope s_turned_line) := ⟨rfl, rfl, rfl, by decide +kernel, rfl, by decide +kernel, by decide +kernel⟩
theorem ps_turned_line {P : Program} {w : World} {K : PySem.W.Frag} {mg : Str → Option Value} {base : Heap} {c : Cs} (T : Txt K mg c)  (f : Addr) (cdv : Value) (A : Around) (outer : List Env) (s : Shared) (H : Hp) (E : XK) (hr : Room 0 (A.deeper (envOfC "turned_line" (defScope s_turned_line) s.heap.objs.size f cdv))) :
    PSs (cx0 P w K mg base n_turned_line "turned_line" s_turned_line f cdv A outer s H E) (defBody s_turned_line) (t_turned_line K c) := by
  unfold t_turned_line
  exact (pss_cons (ps_set (i := 5) sc_turned_line.nd rfl (by first | exact Or.inl rfl | exact Or.inr rfl) (pe_ix ix_seq (pe_ix ix_seq (pv 0) (pv 2) (fun _ _ => rfl)) (pv 3) (fun _ _ => rfl)))
  (pss_cons (ps_if (pt_cmpR (op_eqX hr.units) (pv 4) (pv 2) (nomark _)) (pss_cons (ps_set (i := 7) sc_turned_line.nd rfl (by first | exact Or.inl rfl | exact Or.inr rfl) (pe_callTy call_listX (by rfl) T.b_list b_list (pa_cons (pe_ix ix_seq (pv 0) (pv 2) (fun _ _ => rfl)) pa_nil)))
  (pss_cons (ps_asg (pv 1) (pg_sub (pv 7) (pv 3) set_list))
  (pss_cons (ps_ret (pv 7))
  pss_nil))) pss_nil)
  (pss_cons (ps_set (i := 6) sc_turned_line.nd rfl (by first | exact Or.inl rfl | exact Or.inr rfl) (pe_ix ix_seq (pe_ix ix_seq (pv 0) (pv 4) (fun _ _ => rfl)) (pv 3) (fun _ _ => rfl)))
  (pss_cons (ps_setLc (i := 7) (own := [("one", 8), ("other", 9)]) (g := (gTup K 2 (gCons (gName 8) (gCons (gName 9) gNil)))) (tt := tYes) rfl sc_turned_line.nd rfl rfl (sw_true rfl rfl rfl (by decide +kernel)) (pi_zip rfl T.b_zip (pa_cons (pe_ix ix_seq (pv 0) (pv 4) (fun _ _ => rfl)) (pa_cons (pe_ix ix_seq (pv 0) (pv 2) (fun _ _ => rfl)) pa_nil))) (blkOk_by (N := n_turned_line) (sc := defScope s_turned_line) (by decide +kernel)) (fun _ _ _ _ _ => (pg_tup rfl (pgs_cons (pg_name (i := 8) sc_turned_line.nd rfl (by first | exact Or.inl rfl | exact Or.inr rfl)) (pgs_cons (pg_name (i := 9) sc_turned_line.nd rfl (by first | exact Or.inl rfl | exact Or.inr rfl)) pgs_nil)))) (fun _ _ _ _ _ => pts_nil) (fun _ _ _ _ _ => (pe_op op_divX (pe_op op_subX (pe_op op_mulX (pv 8) (pv 5)) (pe_op op_mulX (pv 6) (pv 9))) (pv 1))))
  (pss_cons (ps_asg (pe_op op_subX pe_int (pv 6)) (pg_sub (pv 7) (pv 3) set_list))
  (pss_cons (ps_ret (pv 7))
  pss_nil))))))
theorem ok_turned_line {P : Program} {w : World} {K : PySem.W.Frag} {mg : Str → Option Value} {base : Heap} {c : Cs} (T : Txt K mg c) : Okd P w K mg base CX0 1 "turned_line" ["table", "scale", "row", "column", "at"] (spD (S_turned_line K c)) :=
  okd T.d_turned_line sc_turned_line (by intro Rs R h; first | ((rcases h with ⟨_, _, _, rfl, _⟩ | ⟨_, _, _, rfl, _⟩) <;> rfl) | (rcases h with ⟨_, rfl, _⟩; rfl) | (rcases h with ⟨_, _, rfl, _⟩; rfl) | (rcases h with ⟨_, _, _, rfl, _⟩; rfl) | (rcases h with ⟨_, _, _, _, rfl, _⟩; rfl) | (rcases h with ⟨_, _, _, _, _, rfl, _⟩; rfl) | (rcases h with ⟨_, _, _, _, _, _, rfl, _⟩; rfl) | (rcases h with ⟨_, _, _, _, _, _, _, rfl, _⟩; rfl) | (rcases h with ⟨_, _, _, _, _, _, _, _, rfl, _⟩; rfl)) (fun f cdv A outer s H E hr => ps_turned_line T  f cdv A outer s H E hr) (rd_turned_line )
theorem sc_turned : FnScope n_turned ["table", "scale", "row", "column"] (defScope s_turned) := ⟨rfl, rfl, rfl, by decide +kernel, rfl, by decide +kernel, by decide +kernel⟩
theorem ps_turned {P : Program} {w : World} {K : PySem.W.Frag} {mg : Str → Option Value} {base : Heap} {c : Cs} (T : Txt K mg c) (O_turned_line : Okd P w K mg base CX0 1 "turned_line" ["table", "scale", "row", "column", "at"] (spD (S_turned_line K c))) (f : Addr) (cdv : Value) (A : Around) (outer : List Env) (s : Shared) (H : Hp) (E : XK) (hr : Room 1 (A.deeper (envOfC "turned" (defScope s_turned) s.heap.objs.size f cdv))) :
    PSs (cxX P w K mg base n_turned "turned" s_turned f cdv A outer s H E) (defBody s_turned) (t_turned K c E) := by
  unfold t_turned
  exact (pss_cons (ps_set (i := 4) sc_turned.nd rfl (by first | exact Or.inl rfl | exact Or.inr rfl) (pe_ix ix_seq (pe_ix ix_seq (pv 0) (pv 2) (fun _ _ => rfl)) (pv 3) (fun _ _ => rfl)))
  (pss_cons (ps_if (pt_cmpR (op_eqX hr.units) (pv 4) pe_int (nomark _)) (pss_cons (ps_raise rfl (takes_of rfl rfl rfl rfl) (pmk_own PySem.F.excBase_ValueError T.x_NoTurn T.g_NoTurn T.k_NoTurn (raises_own T.bx_NoTurn T.tx_NoTurn) (by exact rfl)))
  pss_nil) pss_nil)
  (pss_cons (ps_set (i := 5) sc_turned.nd rfl (by first | exact Or.inl rfl | exact Or.inr rfl) (pe_lst pa_nil))
  (pss_cons (ps_for (passes_of rfl) rfl (pi_range1 rfl T.b_range (pa_cons (pe_callB call_lenX (by rfl) T.b_len b_len (pa_cons (pv 0) pa_nil)) pa_nil)) (pg_name (i := 6) sc_turned.nd rfl (by first | exact Or.inl rfl | exact Or.inr rfl)) (pss_cons (ps_set (i := 7) sc_turned.nd rfl (by first | exact Or.inl rfl | exact Or.inr rfl) (pe_callD O_turned_line hr pass0 (pa_cons (pv 0) (pa_cons (pv 1) (pa_cons (pv 2) (pa_cons (pv 3) (pa_cons (pv 6) pa_nil)))))))
  (pss_cons (ps_if (pt_cmpR op_ltX (pv 4) pe_int (nomark _)) (pss_cons (ps_setLc (i := 7) (own := [("number", 8)]) (g := (gName 8)) (tt := tYes) rfl sc_turned.nd rfl rfl (sw_true rfl rfl rfl (by decide +kernel)) (pi_list (pv 7)) (blkOk_by (N := n_turned) (sc := defScope s_turned) (by decide +kernel)) (fun _ _ _ _ _ => (pg_name (i := 8) sc_turned.nd rfl (by first | exact Or.inl rfl | exact Or.inr rfl))) (fun _ _ _ _ _ => pts_nil) (fun _ _ _ _ _ => (pe_op op_subX pe_int (pv 8))))
  pss_nil) pss_nil)
  (pss_cons (ps_expr (pe_bm PySem.F.plainAttrs_list PySem.F.slot_list_append PySem.F.type_list_append mt_append (pv 5) (pa_cons (pv 7) pa_nil)))
  pss_nil))))
  (pss_cons (ps_ret (pe_tup (pa_cons (pv 5) (pa_cons (pe_callB call_absX (by rfl) T.b_abs b_abs (pa_cons (pv 4) pa_nil)) pa_nil))))
  pss_nil)))))
theorem ok_turned {P : Program} {w : World} {K : PySem.W.Frag} {mg : Str → Option Value} {base : Heap} {c : Cs} (T : Txt K mg c) : Okd P w K mg base (L2.CX P w) 2 "turned" ["table", "scale", "row", "column"] (spX (S_turned K c) (SE_turned K c)) :=
  okdX T.d_turned sc_turned (by intro Rs R h; first | ((rcases h with ⟨_, _, _, rfl, _⟩ | ⟨_, _, _, rfl, _⟩) <;> rfl) | (rcases h with ⟨_, rfl, _⟩; rfl) | (rcases h with ⟨_, _, rfl, _⟩; rfl) | (rcases h with ⟨_, _, _, rfl, _⟩; rfl) | (rcases h with ⟨_, _, _, _, rfl, _⟩; rfl) | (rcases h with ⟨_, _, _, _, _, rfl, _⟩; rfl) | (rcases h with ⟨_, _, _, _, _, _, rfl, _⟩; rfl) | (rcases h with ⟨_, _, _, _, _, _, _, rfl, _⟩; rfl) | (rcases h with ⟨_, _, _, _, _, _, _, _, rfl, _⟩; rfl)) (by intro Rs R h; first | ((rcases h with ⟨_, _, _, rfl, _⟩ | ⟨_, _, _, rfl, _⟩) <;> rfl) | (rcases h with ⟨_, rfl, _⟩; rfl) | (rcases h with ⟨_, _, rfl, _⟩; rfl) | (rcases h with ⟨_, _, _, rfl, _⟩; rfl) | (rcases h with ⟨_, _, _, _, rfl, _⟩; rfl) | (rcases h with ⟨_, _, _, _, _, rfl, _⟩; rfl) | (rcases h with ⟨_, _, _, _, _, _, rfl, _⟩; rfl) | (rcases h with ⟨_, _, _, _, _, _, _, rfl, _⟩; rfl) | (rcases h with ⟨_, _, _, _, _, _, _, _, rfl, _⟩; rfl)) (fun f cdv A outer s H E hr => ps_turned T (ok_turned_line T) f cdv A outer s H E hr) (rd_turned ) (rd_turnedX )
theorem sc_Tableau_init : FnScope n_Tableau_init ["self", "problem", "box"] (defScope s_Tableau_init) := ⟨rfl, rfl, rfl, by decide +kernel, rfl, by decide +kernel, by decide +kernel⟩
theorem ps_Tableau_init {P : Program} {w : World} {K : PySem.W.Frag} {mg : Str → Option Value} {base : Heap} {c : Cs} (T : Txt K mg c) (O_sum_at : Okd P w K mg base CX0 1 "sum_at" ["numbers", "point"] (spD (S_sum_at K c))) (O_facts : Okd P w K mg base (L2.CX P w) 3 "facts" ["problem", "box"] (spX (S_facts K c) (SE_facts K c))) (f : Addr) (cdv : Value) (A : Around) (outer : List Env) (s : Shared) (H : Hp) (E : XK) (hr : Room 3 (A.deeper (envOfC "Tableau.__init__" (defScope s_Tableau_init) s.heap.objs.size f cdv))) :
    PSs (cx0 P w K mg base n_Tableau_init "Tableau.__init__" s_Tableau_init f cdv A outer s H E) (defBody s_Tableau_init) (t_Tableau_init K c) := by
  unfold t_Tableau_init
  exact (pss_cons (ps_set (i := 3) sc_Tableau_init.nd rfl (by first | exact Or.inl rfl | exact Or.inr rfl) (pe_callD O_facts hr passL (pa_cons (pv 1) (pa_cons (pv 2) pa_nil))))
  (pss_cons (ps_set (i := 4) sc_Tableau_init.nd rfl (by first | exact Or.inl rfl | exact Or.inr rfl) (pe_callB call_lenX (by rfl) T.b_len b_len (pa_cons (pe_fld (pv 1) rfl) pa_nil)))
  (pss_cons (ps_set (i := 5) sc_Tableau_init.nd rfl (by first | exact Or.inl rfl | exact Or.inr rfl) (pe_lc (own := [("pair", 6)]) (g := (gName 6)) (tt := tYes) rfl sc_Tableau_init.nd (pi_list (pv 2)) (blkOk_by (N := n_Tableau_init) (sc := defScope s_Tableau_init) (by decide +kernel)) (fun _ _ _ _ _ => (pg_name (i := 6) sc_Tableau_init.nd rfl (by first | exact Or.inl rfl | exact Or.inr rfl))) (fun _ _ _ _ _ => pts_nil) (fun _ _ _ _ _ => (pe_ix ix_seq (pv 6) pe_int (fun _ _ => rfl)))))
  (pss_cons (ps_fld (pv 0) (pv 5) rfl)
  (pss_cons (ps_fld (pv 0) (pe_op op_addX (pe_listRg rfl (by rfl) T.b_list (prg_1 (by rfl) T.b_range (pv 4))) (pe_lc (own := [("unknown", 7)]) (g := (gName 7)) (tt := tYes) rfl sc_Tableau_init.nd (pi_range1 rfl T.b_range (pa_cons (pe_callB call_lenX (by rfl) T.b_len b_len (pa_cons (pv 2) pa_nil)) pa_nil)) (blkOk_by (N := n_Tableau_init) (sc := defScope s_Tableau_init) (by decide +kernel)) (fun _ _ _ _ _ => (pg_name (i := 7) sc_Tableau_init.nd rfl (by first | exact Or.inl rfl | exact Or.inr rfl))) (fun _ _ _ _ _ => pts_nil) (fun _ _ _ _ _ => (pe_op op_addX (pv 4) (pe_op op_mulX pe_int (pv 7)))))) rfl)
  (pss_cons (ps_fld (pv 0) (pe_lc (own := [("unknown", 7)]) (g := (gName 7)) (tt := tYes) rfl sc_Tableau_init.nd (pi_range1 rfl T.b_range (pa_cons (pe_callB call_lenX (by rfl) T.b_len b_len (pa_cons (pv 2) pa_nil)) pa_nil)) (blkOk_by (N := n_Tableau_init) (sc := defScope s_Tableau_init) (by decide +kernel)) (fun _ _ _ _ _ => (pg_name (i := 7) sc_Tableau_init.nd rfl (by first | exact Or.inl rfl | exact Or.inr rfl))) (fun _ _ _ _ _ => pts_nil) (fun _ _ _ _ _ => (pe_op op_addX (pe_op op_addX (pv 4) (pe_op op_mulX pe_int (pv 7))) pe_int))) rfl)
  (pss_cons (ps_fld (pv 0) pe_int rfl)
  (pss_cons (ps_fld (pv 0) (pe_lc (own := [("one", 8)]) (g := (gName 8)) (tt := tYes) rfl sc_Tableau_init.nd (pi_list (pe_fld (pv 0) rfl)) (blkOk_by (N := n_Tableau_init) (sc := defScope s_Tableau_init) (by decide +kernel)) (fun _ _ _ _ _ => (pg_name (i := 8) sc_Tableau_init.nd rfl (by first | exact Or.inl rfl | exact Or.inr rfl))) (fun _ _ _ _ _ => pts_nil) (fun _ _ _ _ _ => (pe_op op_addX (pe_callTy call_listX (by rfl) T.b_list b_list (pa_cons (pe_ix ix_seq (pe_ix ix_seq (pv 3) (pv 8) (fun _ _ => rfl)) pe_int (fun _ _ => rfl)) pa_nil)) (pe_lst (pa_cons (pe_op op_subX (pe_ix ix_seq (pe_ix ix_seq (pv 3) (pv 8) (fun _ _ => rfl)) pe_int (fun _ _ => rfl)) (pe_callD O_sum_at hr pass0 (pa_cons (pe_ix ix_seq (pe_ix ix_seq (pv 3) (pv 8) (fun _ _ => rfl)) pe_int (fun _ _ => rfl)) (pa_cons (pv 5) pa_nil)))) pa_nil))))) rfl)
  (pss_cons (ps_expr (pe_bm PySem.F.plainAttrs_list PySem.F.slot_list_append PySem.F.type_list_append mt_append (pe_fld (pv 0) rfl) (pa_cons (pe_op op_addX (pe_lc (own := [("number", 9)]) (g := (gName 9)) (tt := tYes) rfl sc_Tableau_init.nd (pi_list (pe_fld (pv 1) rfl)) (blkOk_by (N := n_Tableau_init) (sc := defScope s_Tableau_init) (by decide +kernel)) (fun _ _ _ _ _ => (pg_name (i := 9) sc_Tableau_init.nd rfl (by first | exact Or.inl rfl | exact Or.inr rfl))) (fun _ _ _ _ _ => pts_nil) (fun _ _ _ _ _ => (pe_op op_subX pe_int (pv 9)))) (pe_lst (pa_cons pe_int pa_nil))) pa_nil)))
  (pss_cons (ps_fld (pv 0) (pe_callB call_lenX (by rfl) T.b_len b_len (pa_cons (pv 3) pa_nil)) rfl)
  pss_nil))))))))))
theorem ok_Tableau {P : Program} {w : World} {K : PySem.W.Frag} {mg : Str → Option Value} {base : Heap} {c : Cs} (T : Txt K mg c) : Oki P w K mg base CX0 4 "Tableau" c.Tableau ["self", "problem", "box"] (SP_Tableau K c) :=
  okjO T.d_Tableau_init sc_Tableau_init (by intro Rs O Po h; first | (rcases h with ⟨_, rfl, _⟩; rfl) | (rcases h with ⟨_, _, rfl, _⟩; rfl) | (rcases h with ⟨_, _, _, rfl, _⟩; rfl) | (rcases h with ⟨_, _, _, _, rfl, _⟩; rfl) | (rcases h with ⟨_, _, _, _, _, rfl, _⟩; rfl) | (rcases h with ⟨_, _, _, _, _, _, rfl, _⟩; rfl) | (rcases h with ⟨_, _, _, _, _, _, _, rfl, _⟩; rfl) | (rcases h with ⟨_, _, _, _, _, _, _, _, rfl, _⟩; rfl) | (rcases h with ⟨_, _, _, _, _, _, _, _, _, rfl, _⟩; rfl) | (rcases h with ⟨_, _, _, _, _, _, _, _, _, _, rfl, _⟩; rfl) | (rcases h with ⟨_, _, _, _, _, _, _, _, _, _, _, rfl, _⟩; rfl) | (rcases h with ⟨_, _, _, _, _, _, _, _, _, _, _, _, rfl, _⟩; rfl) | (rcases h with ⟨_, _, _, _, _, _, _, _, _, _, _, _, _, rfl, _⟩; rfl)) (fun f cdv A outer s H E hr => ps_Tableau_init T (ok_sum_at T) (ok_facts T) f cdv A outer s H E hr) (rd_Tableau_init (pf_ T) (tf_ T))
theorem sc_Tableau_wrong : FnScope n_Tableau_wrong ["self"] (defScope s_Tableau_wrong) := ⟨rfl, rfl, rfl, by decide +kernel, rfl, by decide +kernel, by decide +kernel⟩
theorem ps_Tableau_wrong {P : Program} {w : World} {K : PySem.W.Frag} {mg : Str → Option Value} {base : Heap} {c : Cs} (T : Txt K mg c)  (f : Addr) (cdv : Value) (A : Around) (outer : List Env) (s : Shared) (H : Hp) (E : XK) (hr : Room 0 (A.deeper (envOfC "Tableau.wrong" (defScope s_Tableau_wrong) s.heap.objs.size f cdv))) :
    PSs (cx0 P w K mg base n_Tableau_wrong "Tableau.wrong" s_Tableau_wrong f cdv A outer s H E) (defBody s_Tableau_wrong) (t_Tableau_wrong K c) := by
  unfold t_Tableau_wrong
  exact (pss_cons (ps_set (i := 1) sc_Tableau_wrong.nd rfl (by first | exact Or.inl rfl | exact Or.inr rfl) (pe_lst (pa_cons (pe_fld (pv 0) rfl) pa_nil)))
  (pss_cons (ps_for PassesOwn.never rfl (pi_range1 rfl T.b_range (pa_cons (pe_callB call_lenX (by rfl) T.b_len b_len (pa_cons (pe_fld (pv 0) rfl) pa_nil)) pa_nil)) (pg_name (i := 2) sc_Tableau_wrong.nd rfl (by first | exact Or.inl rfl | exact Or.inr rfl)) (pss_cons (ps_if (pt_cmpR op_ltX (pe_ix ix_seq (pe_ix ix_seq (pe_fld (pv 0) rfl) (pv 2) (fun _ _ => rfl)) (pe_un un_neg pe_int) (fun _ _ => rfl)) pe_int (nomark _)) (pss_cons (ps_expr (pe_bm PySem.F.plainAttrs_list PySem.F.slot_list_append PySem.F.type_list_append mt_append (pv 1) (pa_cons (pe_ix ix_seq (pe_fld (pv 0) rfl) (pv 2) (fun _ _ => rfl)) pa_nil)))
  pss_nil) pss_nil)
  pss_nil))
  (pss_cons (ps_for PassesOwn.never rfl (pi_range1 rfl T.b_range (pa_cons (pe_callB call_lenX (by rfl) T.b_len b_len (pa_cons (pe_fld (pv 0) rfl) pa_nil)) pa_nil)) (pg_name (i := 2) sc_Tableau_wrong.nd rfl (by first | exact Or.inl rfl | exact Or.inr rfl)) (pss_cons (ps_if (pt_cmpR op_ltX (pe_ix ix_seq (pe_ix ix_seq (pe_fld (pv 0) rfl) (pe_un un_neg pe_int) (fun _ _ => rfl)) (pv 2) (fun _ _ => rfl)) pe_int (nomark _)) (pss_cons (ps_expr (pe_bm PySem.F.plainAttrs_list PySem.F.slot_list_append PySem.F.type_list_append mt_append (pv 1) (pa_cons (pe_ix ix_seq (pe_fld (pv 0) rfl) (pv 2) (fun _ _ => rfl)) pa_nil)))
  pss_nil) pss_nil)
  pss_nil))
  (pss_cons (ps_ret (pe_callB (cr_min rfl) (by rfl) T.b_min b_min (pa_cons (pv 1) pa_nil)))
  pss_nil))))
theorem ok_Tableau_wrong {P : Program} {w : World} {K : PySem.W.Frag} {mg : Str → Option Value} {base : Heap} {c : Cs} (T : Txt K mg c) : Okm P w K mg base CX0 1 c.Tableau "wrong" ["self"] (SP_Tableau_wrong K c) :=
  okm T.d_Tableau_wrong sc_Tableau_wrong (by intro Rs R h; first | ((rcases h with ⟨_, _, _, rfl, _⟩ | ⟨_, _, _, rfl, _⟩) <;> rfl) | (rcases h with ⟨_, rfl, _⟩; rfl) | (rcases h with ⟨_, _, rfl, _⟩; rfl) | (rcases h with ⟨_, _, _, rfl, _⟩; rfl) | (rcases h with ⟨_, _, _, _, rfl, _⟩; rfl) | (rcases h with ⟨_, _, _, _, _, rfl, _⟩; rfl) | (rcases h with ⟨_, _, _, _, _, _, rfl, _⟩; rfl) | (rcases h with ⟨_, _, _, _, _, _, _, rfl, _⟩; rfl) | (rcases h with ⟨_, _, _, _, _, _, _, _, rfl, _⟩; rfl)) (fun f cdv A outer s H E hr => ps_Tableau_wrong T  f cdv A outer s H E hr) (rd_Tableau_wrong (tf_ T))
theorem sc_Tableau_partner : FnScope n_Tableau_partner ["self", "one"] (defScope s_Tableau_partner) := ⟨rfl, rfl, rfl, by decide +kernel, rfl, by decide +kernel, by decide +kernel⟩
theorem ps_Tableau_partner {P : Program} {w : World} {K : PySem.W.Frag} {mg : Str → Option Value} {base : Heap} {c : Cs} (T : Txt K mg c)  (f : Addr) (cdv : Value) (A : Around) (outer : List Env) (s : Shared) (H : Hp) (E : XK) (hr : Room 0 (A.deeper (envOfC "Tableau.partner" (defScope s_Tableau_partner) s.heap.objs.size f cdv))) :
    PSs (cx0 P w K mg base n_Tableau_partner "Tableau.partner" s_Tableau_partner f cdv A outer s H E) (defBody s_Tableau_partner) (t_Tableau_partner K c) := by
  unfold t_Tableau_partner
  exact (pss_cons (ps_set (i := 2) sc_Tableau_partner.nd rfl (by first | exact Or.inl rfl | exact Or.inr rfl) (pe_lst (pa_cons (pe_fld (pv 0) rfl) pa_nil)))
  (pss_cons (ps_if (pt_cmpR op_inX (pv 1) (pe_fld (pv 0) rfl) rfl) (pss_cons (ps_set (i := 3) sc_Tableau_partner.nd rfl (by first | exact Or.inl rfl | exact Or.inr rfl) (pe_ix ix_seq (pe_fld (pv 0) rfl) (pe_bm PySem.F.plainAttrs_list PySem.F.slot_list_index PySem.F.type_list_index mt_index (pe_fld (pv 0) rfl) (pa_cons (pv 1) pa_nil)) (fun _ _ => rfl)))
  (pss_cons (ps_for PassesOwn.never rfl (pi_range1 rfl T.b_range (pa_cons (pe_callB call_lenX (by rfl) T.b_len b_len (pa_cons (pe_fld (pv 0) rfl) pa_nil)) pa_nil)) (pg_name (i := 4) sc_Tableau_partner.nd rfl (by first | exact Or.inl rfl | exact Or.inr rfl)) (pss_cons (ps_if (pt_cmpR op_ltX (pe_ix ix_seq (pv 3) (pv 4) (fun _ _ => rfl)) pe_int (nomark _)) (pss_cons (ps_expr (pe_bm PySem.F.plainAttrs_list PySem.F.slot_list_append PySem.F.type_list_append mt_append (pv 2) (pa_cons (pe_ix ix_seq (pe_fld (pv 0) rfl) (pv 4) (fun _ _ => rfl)) pa_nil)))
  pss_nil) pss_nil)
  pss_nil))
  pss_nil)) (pss_cons (ps_set (i := 5) sc_Tableau_partner.nd rfl (by first | exact Or.inl rfl | exact Or.inr rfl) (pe_bm PySem.F.plainAttrs_list PySem.F.slot_list_index PySem.F.type_list_index mt_index (pe_fld (pv 0) rfl) (pa_cons (pv 1) pa_nil)))
  (pss_cons (ps_for PassesOwn.never rfl (pi_range1 rfl T.b_range (pa_cons (pe_callB call_lenX (by rfl) T.b_len b_len (pa_cons (pe_fld (pv 0) rfl) pa_nil)) pa_nil)) (pg_name (i := 4) sc_Tableau_partner.nd rfl (by first | exact Or.inl rfl | exact Or.inr rfl)) (pss_cons (ps_if (pt_cmpR op_gtX (pe_ix ix_seq (pe_ix ix_seq (pe_fld (pv 0) rfl) (pv 4) (fun _ _ => rfl)) (pv 5) (fun _ _ => rfl)) pe_int (nomark _)) (pss_cons (ps_expr (pe_bm PySem.F.plainAttrs_list PySem.F.slot_list_append PySem.F.type_list_append mt_append (pv 2) (pa_cons (pe_ix ix_seq (pe_fld (pv 0) rfl) (pv 4) (fun _ _ => rfl)) pa_nil)))
  pss_nil) pss_nil)
  pss_nil))
  pss_nil)))
  (pss_cons (ps_ret (pe_callB (cr_min rfl) (by rfl) T.b_min b_min (pa_cons (pv 2) pa_nil)))
  pss_nil)))
theorem ok_Tableau_partner {P : Program} {w : World} {K : PySem.W.Frag} {mg : Str → Option Value} {base : Heap} {c : Cs} (T : Txt K mg c) : Okm P w K mg base CX0 1 c.Tableau "partner" ["self", "one"] (SP_Tableau_partner K c) :=
  okm T.d_Tableau_partner sc_Tableau_partner (by intro Rs R h; first | ((rcases h with ⟨_, _, _, rfl, _⟩ | ⟨_, _, _, rfl, _⟩) <;> rfl) | (rcases h with ⟨_, rfl, _⟩; rfl) | (rcases h with ⟨_, _, rfl, _⟩; rfl) | (rcases h with ⟨_, _, _, rfl, _⟩; rfl) | (rcases h with ⟨_, _, _, _, rfl, _⟩; rfl) | (rcases h with ⟨_, _, _, _, _, rfl, _⟩; rfl) | (rcases h with ⟨_, _, _, _, _, _, rfl, _⟩; rfl) | (rcases h with ⟨_, _, _, _, _, _, _, rfl, _⟩; rfl) | (rcases h with ⟨_, _, _, _, _, _, _, _, rfl, _⟩; rfl)) (fun f cdv A outer s H E hr => ps_Tableau_partner T  f cdv A outer s H E hr) (rd_Tableau_partner (tf_ T))
theorem sc_Tableau_change : FnScope n_Tableau_change ["self", "one", "other"] (defScope s_Tableau_change) := ⟨rfl, rfl, rfl, by decide +kernel, rfl, by decide +kernel, by decide +kernel⟩
theorem ps_Tableau_change {P : Program} {w : World} {K : PySem.W.Frag} {mg : Str → Option Value} {base : Heap} {c : Cs} {n : Nat} {rec : Sp} (T : Txt K mg c) (O_turned : Okd P w K mg base (L2.CX P w) 2 "turned" ["table", "scale", "row", "column"] (spX (S_turned K c) (SE_turned K c))) (O_rec : Okm P w K mg base CX0 (2 + 1 + n) c.Tableau "change" ["self", "one", "other"] rec) (f : Addr) (cdv : Value) (A : Around) (outer : List Env) (s : Shared) (H : Hp) (E : XK) (hr : Room (2 + 1 + n) (A.deeper (envOfC "Tableau.change" (defScope s_Tableau_change) s.heap.objs.size f cdv))) :
    PSs (cx0 P w K mg base n_Tableau_change "Tableau.change" s_Tableau_change f cdv A outer s H E) (defBody s_Tableau_change) (t_Tableau_change K c rec) := by
  unfold t_Tableau_change
  exact (pss_cons (ps_if (pt_cmpR op_inX (pv 1) (pe_fld (pv 0) rfl) rfl) (pss_cons (ps_expr (pe_methD (hk := by omega) (pv 0) T.c_Tableau O_rec hr pass0 (pa_cons (pv 2) (pa_cons (pv 1) pa_nil))))
  (pss_cons ps_retN
  pss_nil)) pss_nil)
  (pss_cons (ps_set (i := 3) sc_Tableau_change.nd rfl (by first | exact Or.inl rfl | exact Or.inr rfl) (pe_bm PySem.F.plainAttrs_list PySem.F.slot_list_index PySem.F.type_list_index mt_index (pe_fld (pv 0) rfl) (pa_cons (pv 1) pa_nil)))
  (pss_cons (ps_set (i := 4) sc_Tableau_change.nd rfl (by first | exact Or.inl rfl | exact Or.inr rfl) (pe_bm PySem.F.plainAttrs_list PySem.F.slot_list_index PySem.F.type_list_index mt_index (pe_fld (pv 0) rfl) (pa_cons (pv 2) pa_nil)))
  (pss_cons (ps_set (i := 5) sc_Tableau_change.nd rfl (by first | exact Or.inl rfl | exact Or.inr rfl) (pe_callD (hk := by omega) O_turned hr passL (pa_cons (pe_fld (pv 0) rfl) (pa_cons (pe_fld (pv 0) rfl) (pa_cons (pv 3) (pa_cons (pv 4) pa_nil))))))
  (pss_cons (ps_fld (pv 0) (pe_ix ix_seq (pv 5) pe_int (fun _ _ => rfl)) rfl)
  (pss_cons (ps_fld (pv 0) (pe_ix ix_seq (pv 5) pe_int (fun _ _ => rfl)) rfl)
  (pss_cons (ps_asg (pv 2) (pg_sub (pe_fld (pv 0) rfl) (pv 3) set_list))
  (pss_cons (ps_asg (pv 1) (pg_sub (pe_fld (pv 0) rfl) (pv 4) set_list))
  pss_nil))))))))
theorem ok_Tableau_change_N {P : Program} {w : World} {K : PySem.W.Frag} {mg : Str → Option Value} {base : Heap} {c : Cs} (T : Txt K mg c) : ∀ m : Nat, Okm P w K mg base CX0 (2 + 1 + m) c.Tableau "change" ["self", "one", "other"] (spO (S_Tableau_changeN K c m))
  | 0 => okm0 T.d_Tableau_change sc_Tableau_change
  | m + 1 => okmO T.d_Tableau_change sc_Tableau_change (by intro Rs O Po h; first | (rcases h with ⟨_, rfl, _⟩; rfl) | (rcases h with ⟨_, _, rfl, _⟩; rfl) | (rcases h with ⟨_, _, _, rfl, _⟩; rfl) | (rcases h with ⟨_, _, _, _, rfl, _⟩; rfl) | (rcases h with ⟨_, _, _, _, _, rfl, _⟩; rfl) | (rcases h with ⟨_, _, _, _, _, _, rfl, _⟩; rfl) | (rcases h with ⟨_, _, _, _, _, _, _, rfl, _⟩; rfl) | (rcases h with ⟨_, _, _, _, _, _, _, _, rfl, _⟩; rfl) | (rcases h with ⟨_, _, _, _, _, _, _, _, _, rfl, _⟩; rfl) | (rcases h with ⟨_, _, _, _, _, _, _, _, _, _, rfl, _⟩; rfl) | (rcases h with ⟨_, _, _, _, _, _, _, _, _, _, _, rfl, _⟩; rfl) | (rcases h with ⟨_, _, _, _, _, _, _, _, _, _, _, _, rfl, _⟩; rfl) | (rcases h with ⟨_, _, _, _, _, _, _, _, _, _, _, _, _, rfl, _⟩; rfl)) (fun f cdv A outer s H E hr => ps_Tableau_change T (ok_turned T) (ok_Tableau_change_N T m) f cdv A outer s H E hr) (rd_Tableau_change (tf_ T) m)
theorem ok_Tableau_change {P : Program} {w : World} {K : PySem.W.Frag} {mg : Str → Option Value} {base : Heap} {c : Cs} (T : Txt K mg c) : Okm P w K mg base CX0 5 c.Tableau "change" ["self", "one", "other"] (SP_Tableau_change K c) := ok_Tableau_change_N T 2
theorem sc_Tableau_told_noneN : FnScope n_Tableau_told_noneN ["self", "one"] (defScope s_Tableau_told_noneN) := ⟨rfl, rfl, rfl, by decide +kernel, rfl, by decide +kernel, by decide +kernel⟩
theorem ps_Tableau_told_noneN {P : Program} {w : World} {K : PySem.W.Frag} {mg : Str → Option Value} {base : Heap} {c : Cs} (T : Txt K mg c)  (f : Addr) (cdv : Value) (A : Around) (outer : List Env) (s : Shared) (H : Hp) (E : XK) (hr : Room 0 (A.deeper (envOfC "Tableau.told_none" (defScope s_Tableau_told_noneN) s.heap.objs.size f cdv))) :
    PSs (cx0 P w K mg base n_Tableau_told_noneN "Tableau.told_none" s_Tableau_told_noneN f cdv A outer s H E) (defBody s_Tableau_told_noneN) (t_Tableau_told_noneN K c) := by
  unfold t_Tableau_told_noneN
  exact (pss_cons (ps_set (i := 2) sc_Tableau_told_noneN.nd rfl (by first | exact Or.inl rfl | exact Or.inr rfl) (pe_ix ix_seq (pe_fld (pv 0) rfl) (pe_bm PySem.F.plainAttrs_list PySem.F.slot_list_index PySem.F.type_list_index mt_index (pe_fld (pv 0) rfl) (pa_cons (pv 1) pa_nil)) (fun _ _ => rfl)))
  (pss_cons (ps_set (i := 3) sc_Tableau_told_noneN.nd rfl (by first | exact Or.inl rfl | exact Or.inr rfl) (pe_op op_mulX (pe_lst (pa_cons pe_int pa_nil)) (pe_fld (pv 0) rfl)))
  (pss_cons (ps_asg (pe_fld (pv 0) rfl) (pg_sub (pv 3) (pv 1) set_list))
  (pss_cons (ps_for PassesOwn.never rfl (pi_range1 rfl T.b_range (pa_cons (pe_callB call_lenX (by rfl) T.b_len b_len (pa_cons (pe_fld (pv 0) rfl) pa_nil)) pa_nil)) (pg_name (i := 4) sc_Tableau_told_noneN.nd rfl (by first | exact Or.inl rfl | exact Or.inr rfl)) (pss_cons (ps_asg (pe_ix ix_seq (pv 2) (pv 4) (fun _ _ => rfl)) (pg_sub (pv 3) (pe_ix ix_seq (pe_fld (pv 0) rfl) (pv 4) (fun _ _ => rfl)) set_list))
  pss_nil))
  (pss_cons (ps_ret (pe_tup (pa_cons pe_str (pa_cons (pv 3) pa_nil))))
  pss_nil)))))
theorem ok_Tableau_told_noneN {P : Program} {w : World} {K : PySem.W.Frag} {mg : Str → Option Value} {base : Heap} {c : Cs} (T : Txt K mg c) : Okm P w K mg base CX0 1 c.Tableau "told_none" ["self", "one"] (SP_Tableau_told_noneN K c) :=
  okmH T.d_Tableau_told_noneN sc_Tableau_told_noneN (by intro H Rs R h; first | ((rcases h with ⟨_, _, _, rfl, _⟩ | ⟨_, _, _, rfl, _⟩) <;> rfl) | (rcases h with ⟨_, rfl, _⟩; rfl) | (rcases h with ⟨_, _, rfl, _⟩; rfl) | (rcases h with ⟨_, _, _, rfl, _⟩; rfl) | (rcases h with ⟨_, _, _, _, rfl, _⟩; rfl) | (rcases h with ⟨_, _, _, _, _, rfl, _⟩; rfl) | (rcases h with ⟨_, _, _, _, _, _, rfl, _⟩; rfl) | (rcases h with ⟨_, _, _, _, _, _, _, rfl, _⟩; rfl) | (rcases h with ⟨_, _, _, _, _, _, _, _, rfl, _⟩; rfl)) (fun f cdv A outer s H E hr => ps_Tableau_told_noneN T  f cdv A outer s H E hr) (rd_Tableau_told_noneN (tf_ T))
theorem sc_Tableau_told_mostN : FnScope n_Tableau_told_mostN ["self"] (defScope s_Tableau_told_mostN) := ⟨rfl, rfl, rfl, by decide +kernel, rfl, by decide +kernel, by decide +kernel⟩
theorem ps_Tableau_told_mostN {P : Program} {w : World} {K : PySem.W.Frag} {mg : Str → Option Value} {base : Heap} {c : Cs} (T : Txt K mg c)  (f : Addr) (cdv : Value) (A : Around) (outer : List Env) (s : Shared) (H : Hp) (E : XK) (hr : Room 0 (A.deeper (envOfC "Tableau.told_most" (defScope s_Tableau_told_mostN) s.heap.objs.size f cdv))) :
    PSs (cx0 P w K mg base n_Tableau_told_mostN "Tableau.told_most" s_Tableau_told_mostN f cdv A outer s H E) (defBody s_Tableau_told_mostN) (t_Tableau_told_mostN K c) := by
  unfold t_Tableau_told_mostN
  exact (pss_cons (ps_set (i := 1) sc_Tableau_told_mostN.nd rfl (by first | exact Or.inl rfl | exact Or.inr rfl) (pe_op op_mulX (pe_lst (pa_cons pe_int pa_nil)) (pe_fld (pv 0) rfl)))
  (pss_cons (ps_for PassesOwn.never rfl (pi_range1 rfl T.b_range (pa_cons (pe_callB call_lenX (by rfl) T.b_len b_len (pa_cons (pe_fld (pv 0) rfl) pa_nil)) pa_nil)) (pg_name (i := 2) sc_Tableau_told_mostN.nd rfl (by first | exact Or.inl rfl | exact Or.inr rfl)) (pss_cons (ps_asg (pe_ix ix_seq (pe_ix ix_seq (pe_fld (pv 0) rfl) (pe_un un_neg pe_int) (fun _ _ => rfl)) (pv 2) (fun _ _ => rfl)) (pg_sub (pv 1) (pe_ix ix_seq (pe_fld (pv 0) rfl) (pv 2) (fun _ _ => rfl)) set_list))
  pss_nil))
  (pss_cons (ps_set (i := 3) sc_Tableau_told_mostN.nd rfl (by first | exact Or.inl rfl | exact Or.inr rfl) (pe_op op_subX (pe_fld (pv 0) rfl) (pe_op op_mulX pe_int (pe_callB call_lenX (by rfl) T.b_len b_len (pa_cons (pe_fld (pv 0) rfl) pa_nil)))))
  (pss_cons (ps_set (i := 4) sc_Tableau_told_mostN.nd rfl (by first | exact Or.inl rfl | exact Or.inr rfl) (pe_lst pa_nil))
  (pss_cons (ps_for PassesOwn.never rfl (pi_range1 rfl T.b_range (pa_cons (pe_callB call_lenX (by rfl) T.b_len b_len (pa_cons (pe_fld (pv 0) rfl) pa_nil)) pa_nil)) (pg_name (i := 5) sc_Tableau_told_mostN.nd rfl (by first | exact Or.inl rfl | exact Or.inr rfl)) (pss_cons (ps_set (i := 6) sc_Tableau_told_mostN.nd rfl (by first | exact Or.inl rfl | exact Or.inr rfl) (pe_op op_mulX (pe_ix ix_seq (pe_fld (pv 0) rfl) (pv 5) (fun _ _ => rfl)) (pe_fld (pv 0) rfl)))
  (pss_cons (ps_set (i := 7) sc_Tableau_told_mostN.nd rfl (by first | exact Or.inl rfl | exact Or.inr rfl) (pe_op op_addX (pe_op op_addX (pv 3) (pe_op op_mulX pe_int (pv 5))) pe_int))
  (pss_cons (ps_if (pt_cmpR op_inX (pv 7) (pe_fld (pv 0) rfl) rfl) (pss_cons (ps_set (i := 6) sc_Tableau_told_mostN.nd rfl (by first | exact Or.inl rfl | exact Or.inr rfl) (pe_op op_addX (pv 6) (pe_ix ix_seq (pe_ix ix_seq (pe_fld (pv 0) rfl) (pe_bm PySem.F.plainAttrs_list PySem.F.slot_list_index PySem.F.type_list_index mt_index (pe_fld (pv 0) rfl) (pa_cons (pv 7) pa_nil)) (fun _ _ => rfl)) (pe_un un_neg pe_int) (fun _ _ => rfl))))
  pss_nil) pss_nil)
  (pss_cons (ps_expr (pe_bm PySem.F.plainAttrs_list PySem.F.slot_list_append PySem.F.type_list_append mt_append (pv 4) (pa_cons (pv 6) pa_nil)))
  pss_nil)))))
  (pss_cons (ps_ret (pe_tup (pa_cons pe_str (pa_cons (pe_tup (pa_cons (pv 4) (pa_cons (pe_fld (pv 0) rfl) pa_nil))) (pa_cons (pv 1) (pa_cons (pe_fld (pv 0) rfl) pa_nil))))))
  pss_nil))))))
theorem ok_Tableau_told_mostN {P : Program} {w : World} {K : PySem.W.Frag} {mg : Str → Option Value} {base : Heap} {c : Cs} (T : Txt K mg c) : Okm P w K mg base CX0 1 c.Tableau "told_most" ["self"] (SP_Tableau_told_mostN K c) :=
  okmH T.d_Tableau_told_mostN sc_Tableau_told_mostN (by intro H Rs R h; first | ((rcases h with ⟨_, _, _, rfl, _⟩ | ⟨_, _, _, rfl, _⟩) <;> rfl) | (rcases h with ⟨_, rfl, _⟩; rfl) | (rcases h with ⟨_, _, rfl, _⟩; rfl) | (rcases h with ⟨_, _, _, rfl, _⟩; rfl) | (rcases h with ⟨_, _, _, _, rfl, _⟩; rfl) | (rcases h with ⟨_, _, _, _, _, rfl, _⟩; rfl) | (rcases h with ⟨_, _, _, _, _, _, rfl, _⟩; rfl) | (rcases h with ⟨_, _, _, _, _, _, _, rfl, _⟩; rfl) | (rcases h with ⟨_, _, _, _, _, _, _, _, rfl, _⟩; rfl)) (fun f cdv A outer s H E hr => ps_Tableau_told_mostN T  f cdv A outer s H E hr) (rd_Tableau_told_mostN (tf_ T))
theorem sc_looseN : FnScope n_looseN ["problem", "box"] (defScope s_looseN) := ⟨rfl, rfl, rfl, by decide +kernel, rfl, by decide +kernel, by decide +kernel⟩
theorem ps_looseN {P : Program} {w : World} {K : PySem.W.Frag} {mg : Str → Option Value} {base : Heap} {c : Cs} (T : Txt K mg c) (O_Tableau_told_mostN : Okm P w K mg base CX0 1 c.Tableau "told_most" ["self"] (SP_Tableau_told_mostN K c)) (O_Tableau_wrong : Okm P w K mg base CX0 1 c.Tableau "wrong" ["self"] (SP_Tableau_wrong K c)) (O_Tableau_change : Okm P w K mg base CX0 5 c.Tableau "change" ["self", "one", "other"] (SP_Tableau_change K c)) (O_Tableau_told_noneN : Okm P w K mg base CX0 1 c.Tableau "told_none" ["self", "one"] (SP_Tableau_told_noneN K c)) (O_Tableau_partner : Okm P w K mg base CX0 1 c.Tableau "partner" ["self", "one"] (SP_Tableau_partner K c)) (O_Tableau : Oki P w K mg base CX0 4 "Tableau" c.Tableau ["self", "problem", "box"] (SP_Tableau K c)) (f : Addr) (cdv : Value) (A : Around) (outer : List Env) (s : Shared) (H : Hp) (E : XK) (hr : Room 5 (A.deeper (envOfC "loose" (defScope s_looseN) s.heap.objs.size f cdv))) :
    PSs (cx0 P w K mg base n_looseN "loose" s_looseN f cdv A outer s H E) (defBody s_looseN) (t_looseN K c) := by
  unfold t_looseN
  exact (pss_cons (ps_set (i := 2) sc_looseN.nd rfl (by first | exact Or.inl rfl | exact Or.inr rfl) (pe_makeD O_Tableau hr pass0 (pa_cons (pv 0) (pa_cons (pv 1) pa_nil))))
  (pss_cons (ps_set (i := 3) sc_looseN.nd rfl (by first | exact Or.inl rfl | exact Or.inr rfl) (pe_methD0 (pv 2) T.c_Tableau O_Tableau_wrong hr pass0))
  (pss_cons (ps_while PassesOwn.never (pt_cmpR op_ltX (pv 3) (pe_fld (pv 2) rfl) (nomark _)) (pss_cons (ps_set (i := 4) sc_looseN.nd rfl (by first | exact Or.inl rfl | exact Or.inr rfl) (pe_methD (pv 2) T.c_Tableau O_Tableau_partner hr pass0 (pa_cons (pv 3) pa_nil)))
  (pss_cons (ps_if (pt_cmpR (op_eqX hr.units) (pv 4) (pe_fld (pv 2) rfl) (nomark _)) (pss_cons (ps_ret (pe_methD (pv 2) T.c_Tableau O_Tableau_told_noneN hr pass0 (pa_cons (pv 3) pa_nil)))
  pss_nil) pss_nil)
  (pss_cons (ps_expr (pe_methD (pv 2) T.c_Tableau O_Tableau_change hr pass0 (pa_cons (pv 3) (pa_cons (pv 4) pa_nil))))
  (pss_cons (ps_set (i := 3) sc_looseN.nd rfl (by first | exact Or.inl rfl | exact Or.inr rfl) (pe_methD0 (pv 2) T.c_Tableau O_Tableau_wrong hr pass0))
  pss_nil)))))
  (pss_cons (ps_ret (pe_methD0 (pv 2) T.c_Tableau O_Tableau_told_mostN hr pass0))
  pss_nil))))
theorem ok_looseN {P : Program} {w : World} {K : PySem.W.Frag} {mg : Str → Option Value} {base : Heap} {c : Cs} (T : Txt K mg c) : Okd P w K mg base CX0 6 "loose" ["problem", "box"] (spDH (S_looseN K c)) :=
  okdH T.d_looseN sc_looseN (by intro H Rs R h; first | ((rcases h with ⟨_, _, _, rfl, _⟩ | ⟨_, _, _, rfl, _⟩) <;> rfl) | (rcases h with ⟨_, rfl, _⟩; rfl) | (rcases h with ⟨_, _, rfl, _⟩; rfl) | (rcases h with ⟨_, _, _, rfl, _⟩; rfl) | (rcases h with ⟨_, _, _, _, rfl, _⟩; rfl) | (rcases h with ⟨_, _, _, _, _, rfl, _⟩; rfl) | (rcases h with ⟨_, _, _, _, _, _, rfl, _⟩; rfl) | (rcases h with ⟨_, _, _, _, _, _, _, rfl, _⟩; rfl) | (rcases h with ⟨_, _, _, _, _, _, _, _, rfl, _⟩; rfl)) (fun f cdv A outer s H E hr => ps_looseN T (ok_Tableau_told_mostN T) (ok_Tableau_wrong T) (ok_Tableau_change T) (ok_Tableau_told_noneN T) (ok_Tableau_partner T) (ok_Tableau T) f cdv A outer s H E hr) (rd_looseN (tf_ T))
theorem sc_law_cell_at : FnScope n_law_cell_at ["_law_script", "_law_k"] (defScope s_law_cell_at) := ⟨rfl, rfl, rfl, by decide +kernel, rfl, by decide +kernel, by decide +kernel⟩
theorem ps_law_cell_at {P : Program} {w : World} {K : PySem.W.Frag} {mg : Str → Option Value} {base : Heap} {c : Cs} (T : Txt K mg c)  (f : Addr) (cdv : Value) (A : Around) (outer : List Env) (s : Shared) (H : Hp) (E : XK) (hr : Room 0 (A.deeper (envOfC "_law_cell_at" (defScope s_law_cell_at) s.heap.objs.size f cdv))) :
    PSs (cx0 P w K mg base n_law_cell_at "_law_cell_at" s_law_cell_at f cdv A outer s H E) (defBody s_law_cell_at) (t_law_cell_at K c) := by
  unfold t_law_cell_at
  exact (pss_cons (ps_set (i := 2) sc_law_cell_at.nd rfl (by first | exact Or.inl rfl | exact Or.inr rfl) pe_int)
  (pss_cons (ps_if (pt_cmpR op_gtX (pe_callB call_lenX (by rfl) T.b_len b_len (pa_cons (pv 0) pa_nil)) pe_int (nomark _)) (pss_cons (ps_set (i := 2) sc_law_cell_at.nd rfl (by first | exact Or.inl rfl | exact Or.inr rfl) (pe_ix ix_seq (pv 0) (pe_op op_modX (pv 1) (pe_callB call_lenX (by rfl) T.b_len b_len (pa_cons (pv 0) pa_nil))) (fun _ _ => rfl)))
  pss_nil) pss_nil)
  (pss_cons (ps_ret (pe_op op_modX (pe_op op_mulX (pe_op op_addX (pv 2) (pe_op op_mulX pe_int (pv 1))) pe_int) pe_int))
  pss_nil)))
theorem ok_law_cell_at {P : Program} {w : World} {K : PySem.W.Frag} {mg : Str → Option Value} {base : Heap} {c : Cs} (T : Txt K mg c) : Okd P w K mg base CX0 1 "_law_cell_at" ["_law_script", "_law_k"] (spD (S_law_cell_at K c)) :=
  okd T.d_law_cell_at sc_law_cell_at (by intro Rs R h; first | ((rcases h with ⟨_, _, _, rfl, _⟩ | ⟨_, _, _, rfl, _⟩) <;> rfl) | (rcases h with ⟨_, rfl, _⟩; rfl) | (rcases h with ⟨_, _, rfl, _⟩; rfl) | (rcases h with ⟨_, _, _, rfl, _⟩; rfl) | (rcases h with ⟨_, _, _, _, rfl, _⟩; rfl) | (rcases h with ⟨_, _, _, _, _, rfl, _⟩; rfl) | (rcases h with ⟨_, _, _, _, _, _, rfl, _⟩; rfl) | (rcases h with ⟨_, _, _, _, _, _, _, rfl, _⟩; rfl) | (rcases h with ⟨_, _, _, _, _, _, _, _, rfl, _⟩; rfl)) (fun f cdv A outer s H E hr => ps_law_cell_at T  f cdv A outer s H E hr) (rd_law_cell_at )
theorem sc_law_whole : FnScope n_law_whole ["_law_found"] (defScope s_law_whole) := ⟨rfl, rfl, rfl, by decide +kernel, rfl, by decide +kernel, by decide +kernel⟩
theorem ps_law_whole {P : Program} {w : World} {K : PySem.W.Frag} {mg : Str → Option Value} {base : Heap} {c : Cs} (T : Txt K mg c)  (f : Addr) (cdv : Value) (A : Around) (outer : List Env) (s : Shared) (H : Hp) (E : XK) (hr : Room 0 (A.deeper (envOfC "_law_whole" (defScope s_law_whole) s.heap.objs.size f cdv))) :
    PSs (cx0 P w K mg base n_law_whole "_law_whole" s_law_whole f cdv A outer s H E) (defBody s_law_whole) (t_law_whole K c) := by
  unfold t_law_whole
  exact (pss_cons (ps_ret (pe_and (pe_callB call_isi (by rfl) T.b_isinstance b_isi (pa_cons (pv 0) (pa_cons (pe_bltn (v := .ty "int") (by rfl) T.b_int b_int rfl) pa_nil))) (pe_one (pe_not (pe_callB call_isi (by rfl) T.b_isinstance b_isi (pa_cons (pv 0) (pa_cons (pe_bltn (v := .ty "bool") (by rfl) T.b_bool b_bool rfl) pa_nil)))))))
  pss_nil)
theorem ok_law_whole {P : Program} {w : World} {K : PySem.W.Frag} {mg : Str → Option Value} {base : Heap} {c : Cs} (T : Txt K mg c) : Okd P w K mg base CX0 1 "_law_whole" ["_law_found"] (spD (S_law_whole K c)) :=
  okd T.d_law_whole sc_law_whole (by intro Rs R h; first | ((rcases h with ⟨_, _, _, rfl, _⟩ | ⟨_, _, _, rfl, _⟩) <;> rfl) | (rcases h with ⟨_, rfl, _⟩; rfl) | (rcases h with ⟨_, _, rfl, _⟩; rfl) | (rcases h with ⟨_, _, _, rfl, _⟩; rfl) | (rcases h with ⟨_, _, _, _, rfl, _⟩; rfl) | (rcases h with ⟨_, _, _, _, _, rfl, _⟩; rfl) | (rcases h with ⟨_, _, _, _, _, _, rfl, _⟩; rfl) | (rcases h with ⟨_, _, _, _, _, _, _, rfl, _⟩; rfl) | (rcases h with ⟨_, _, _, _, _, _, _, _, rfl, _⟩; rfl)) (fun f cdv A outer s H E hr => ps_law_whole T  f cdv A outer s H E hr) (rd_law_whole )
theorem sc_law_number : FnScope n_law_number ["_law_cell", "_law_kind_here"] (defScope s_law_number) := ⟨rfl, rfl, rfl, by decide +kernel, rfl, by decide +kernel, by decide +kernel⟩
theorem ps_law_number {P : Program} {w : World} {K : PySem.W.Frag} {mg : Str → Option Value} {base : Heap} {c : Cs} (T : Txt K mg c)  (f : Addr) (cdv : Value) (A : Around) (outer : List Env) (s : Shared) (H : Hp) (E : XK) (hr : Room 0 (A.deeper (envOfC "_law_number" (defScope s_law_number) s.heap.objs.size f cdv))) :
    PSs (cx0 P w K mg base n_law_number "_law_number" s_law_number f cdv A outer s H E) (defBody s_law_number) (t_law_number K c) := by
  unfold t_law_number
  exact (pss_cons (ps_if (pt_cmpR (op_eqX hr.units) (pv 1) pe_int (nomark _)) (pss_cons (ps_ret (pe_op op_subX (pe_op op_modX (pv 0) pe_int) pe_int))
  pss_nil) pss_nil)
  (pss_cons (ps_if (pt_cmpR (op_eqX hr.units) (pv 1) pe_int (nomark _)) (pss_cons (ps_ret (pe_op op_subX (pe_op op_modX (pv 0) pe_int) pe_int))
  pss_nil) pss_nil)
  (pss_cons (ps_if (pt_cmpR (op_eqX hr.units) (pe_op op_modX (pe_op op_divX (pv 0) pe_int) pe_int) pe_int (nomark _)) (pss_cons (ps_ret (pe_op op_subX (pe_op op_subX pe_int pe_int) (pe_op op_modX (pv 0) pe_int)))
  pss_nil) pss_nil)
  (pss_cons (ps_ret (pe_op op_addX pe_int (pe_op op_modX (pv 0) pe_int)))
  pss_nil))))
theorem ok_law_number {P : Program} {w : World} {K : PySem.W.Frag} {mg : Str → Option Value} {base : Heap} {c : Cs} (T : Txt K mg c) : Okd P w K mg base CX0 1 "_law_number" ["_law_cell", "_law_kind_here"] (spD (S_law_number K c)) :=
  okd T.d_law_number sc_law_number (by intro Rs R h; first | ((rcases h with ⟨_, _, _, rfl, _⟩ | ⟨_, _, _, rfl, _⟩) <;> rfl) | (rcases h with ⟨_, rfl, _⟩; rfl) | (rcases h with ⟨_, _, rfl, _⟩; rfl) | (rcases h with ⟨_, _, _, rfl, _⟩; rfl) | (rcases h with ⟨_, _, _, _, rfl, _⟩; rfl) | (rcases h with ⟨_, _, _, _, _, rfl, _⟩; rfl) | (rcases h with ⟨_, _, _, _, _, _, rfl, _⟩; rfl) | (rcases h with ⟨_, _, _, _, _, _, _, rfl, _⟩; rfl) | (rcases h with ⟨_, _, _, _, _, _, _, _, rfl, _⟩; rfl)) (fun f cdv A outer s H E hr => ps_law_number T  f cdv A outer s H E hr) (rd_law_number )
theorem sc_law_bound : FnScope n_law_bound ["_law_cell", "_law_kind_here"] (defScope s_law_bound) := ⟨rfl, rfl, rfl, by decide +kernel, rfl, by decide +kernel, by decide +kernel⟩
theorem ps_law_bound {P : Program} {w : World} {K : PySem.W.Frag} {mg : Str → Option Value} {base : Heap} {c : Cs} (T : Txt K mg c)  (f : Addr) (cdv : Value) (A : Around) (outer : List Env) (s : Shared) (H : Hp) (E : XK) (hr : Room 0 (A.deeper (envOfC "_law_bound" (defScope s_law_bound) s.heap.objs.size f cdv))) :
    PSs (cx0 P w K mg base n_law_bound "_law_bound" s_law_bound f cdv A outer s H E) (defBody s_law_bound) (t_law_bound K c) := by
  unfold t_law_bound
  exact (pss_cons (ps_if (pt_cmpR (op_eqX hr.units) (pv 1) pe_int (nomark _)) (pss_cons (ps_ret (pe_op op_subX (pe_op op_modX (pv 0) pe_int) pe_int))
  pss_nil) pss_nil)
  (pss_cons (ps_if (PW.pt (pw_and (pt_cmpR (op_eqX hr.units) (pv 1) pe_int (nomark _)) (pw_and1 (pt_cmpR (op_eqX hr.units) (pe_op op_modX (pv 0) pe_int) pe_int (nomark _))))) (pss_cons (ps_ret (pe_op op_subX (pe_op op_modX (pe_op op_divX (pv 0) pe_int) pe_int) pe_int))
  pss_nil) pss_nil)
  (pss_cons (ps_if (pt_cmpR (op_eqX hr.units) (pv 1) pe_int (nomark _)) (pss_cons (ps_ret (pe_op op_subX (pe_op op_modX (pe_op op_divX (pv 0) pe_int) pe_int) pe_int))
  pss_nil) pss_nil)
  (pss_cons (ps_ret (pe_op op_addX pe_int (pe_op op_modX (pv 0) pe_int)))
  pss_nil))))
theorem ok_law_bound {P : Program} {w : World} {K : PySem.W.Frag} {mg : Str → Option Value} {base : Heap} {c : Cs} (T : Txt K mg c) : Okd P w K mg base CX0 1 "_law_bound" ["_law_cell", "_law_kind_here"] (spD (S_law_bound K c)) :=
  okd T.d_law_bound sc_law_bound (by intro Rs R h; first | ((rcases h with ⟨_, _, _, rfl, _⟩ | ⟨_, _, _, rfl, _⟩) <;> rfl) | (rcases h with ⟨_, rfl, _⟩; rfl) | (rcases h with ⟨_, _, rfl, _⟩; rfl) | (rcases h with ⟨_, _, _, rfl, _⟩; rfl) | (rcases h with ⟨_, _, _, _, rfl, _⟩; rfl) | (rcases h with ⟨_, _, _, _, _, rfl, _⟩; rfl) | (rcases h with ⟨_, _, _, _, _, _, rfl, _⟩; rfl) | (rcases h with ⟨_, _, _, _, _, _, _, rfl, _⟩; rfl) | (rcases h with ⟨_, _, _, _, _, _, _, _, rfl, _⟩; rfl)) (fun f cdv A outer s H E hr => ps_law_bound T  f cdv A outer s H E hr) (rd_law_bound )
theorem sc_law_tops : FnScope n_law_tops ["_law_script"] (defScope s_law_tops) := ⟨rfl, rfl, rfl, by decide +kernel, rfl, by decide +kernel, by decide +kernel⟩
theorem ps_law_tops {P : Program} {w : World} {K : PySem.W.Frag} {mg : Str → Option Value} {base : Heap} {c : Cs} (T : Txt K mg c) (O_law_cell_at : Okd P w K mg base CX0 1 "_law_cell_at" ["_law_script", "_law_k"] (spD (S_law_cell_at K c))) (f : Addr) (cdv : Value) (A : Around) (outer : List Env) (s : Shared) (H : Hp) (E : XK) (hr : Room 1 (A.deeper (envOfC "_law_tops" (defScope s_law_tops) s.heap.objs.size f cdv))) :
    PSs (cx0 P w K mg base n_law_tops "_law_tops" s_law_tops f cdv A outer s H E) (defBody s_law_tops) (t_law_tops K c) := by
  unfold t_law_tops
  exact (pss_cons (ps_set (i := 1) sc_law_tops.nd rfl (by first | exact Or.inl rfl | exact Or.inr rfl) (pe_ix ix_seq (pe_lst (pa_cons pe_int (pa_cons pe_int (pa_cons pe_int (pa_cons pe_int pa_nil))))) (pe_op op_modX (pe_callD O_law_cell_at hr pass0 (pa_cons (pv 0) (pa_cons pe_int pa_nil))) pe_int) (fun _ _ => rfl)))
  (pss_cons (ps_setLc (i := 2) (own := [("_law_k", 4)]) (g := (gName 4)) (tt := tYes) rfl sc_law_tops.nd rfl rfl (sw_true rfl rfl rfl (by decide +kernel)) (pi_range1 rfl T.b_range (pa_cons (pv 1) pa_nil)) (blkOk_by (N := n_law_tops) (sc := defScope s_law_tops) (by decide +kernel)) (fun _ _ _ _ _ => (pg_name (i := 4) sc_law_tops.nd rfl (by first | exact Or.inl rfl | exact Or.inr rfl))) (fun _ _ _ _ _ => pts_nil) (fun _ _ _ _ _ => (pe_op op_modX (pe_op op_divX (pe_callD O_law_cell_at hr pass0 (pa_cons (pv 0) (pa_cons (pe_op op_addX pe_int (pv 4)) pa_nil))) pe_int) pe_int)))
  (pss_cons (ps_set (i := 3) sc_law_tops.nd rfl (by first | exact Or.inl rfl | exact Or.inr rfl) (pe_callD O_law_cell_at hr pass0 (pa_cons (pv 0) (pa_cons pe_int pa_nil))))
  (pss_cons (ps_if (pt_cmpR (op_eqX hr.units) (pe_op op_modX (pv 3) pe_int) pe_int (nomark _)) (pss_cons (ps_for PassesOwn.never rfl (pi_range1 rfl T.b_range (pa_cons (pe_callB (call_min2X rfl) (by rfl) T.b_min b_min (pa_cons (pv 1) (pa_cons pe_int pa_nil))) pa_nil)) (pg_name (i := 4) sc_law_tops.nd rfl (by first | exact Or.inl rfl | exact Or.inr rfl)) (pss_cons (ps_asg (pe_op op_modX (pe_op op_divX (pe_callD O_law_cell_at hr pass0 (pa_cons (pv 0) (pa_cons (pe_op op_addX pe_int (pv 4)) pa_nil))) pe_int) pe_int) (pg_sub (pv 2) (pv 4) set_list))
  pss_nil))
  pss_nil) pss_nil)
  (pss_cons (ps_if (pt_cmpR (op_eqX hr.units) (pe_op op_modX (pv 3) pe_int) pe_int (nomark _)) (pss_cons (ps_asg (pe_op op_modX (pe_op op_divX (pv 3) pe_int) pe_int) (pg_sub (pv 2) (pe_op op_modX (pe_op op_divX (pe_callD O_law_cell_at hr pass0 (pa_cons (pv 0) (pa_cons pe_int pa_nil))) pe_int) (pv 1)) set_list))
  pss_nil) pss_nil)
  (pss_cons (ps_ret (pv 2))
  pss_nil))))))
theorem ok_law_tops {P : Program} {w : World} {K : PySem.W.Frag} {mg : Str → Option Value} {base : Heap} {c : Cs} (T : Txt K mg c) : Okd P w K mg base CX0 2 "_law_tops" ["_law_script"] (spD (S_law_tops K c)) :=
  okd T.d_law_tops sc_law_tops (by intro Rs R h; first | ((rcases h with ⟨_, _, _, rfl, _⟩ | ⟨_, _, _, rfl, _⟩) <;> rfl) | (rcases h with ⟨_, rfl, _⟩; rfl) | (rcases h with ⟨_, _, rfl, _⟩; rfl) | (rcases h with ⟨_, _, _, rfl, _⟩; rfl) | (rcases h with ⟨_, _, _, _, rfl, _⟩; rfl) | (rcases h with ⟨_, _, _, _, _, rfl, _⟩; rfl) | (rcases h with ⟨_, _, _, _, _, _, rfl, _⟩; rfl) | (rcases h with ⟨_, _, _, _, _, _, _, rfl, _⟩; rfl) | (rcases h with ⟨_, _, _, _, _, _, _, _, rfl, _⟩; rfl)) (fun f cdv A outer s H E hr => ps_law_tops T (ok_law_cell_at T) f cdv A outer s H E hr) (rd_law_tops )
theorem sc_law_kind : FnScope n_law_kind ["_law_script"] (defScope s_law_kind) := ⟨rfl, rfl, rfl, by decide +kernel, rfl, by decide +kernel, by decide +kernel⟩
theorem ps_law_kind {P : Program} {w : World} {K : PySem.W.Frag} {mg : Str → Option Value} {base : Heap} {c : Cs} (T : Txt K mg c) (O_law_cell_at : Okd P w K mg base CX0 1 "_law_cell_at" ["_law_script", "_law_k"] (spD (S_law_cell_at K c))) (f : Addr) (cdv : Value) (A : Around) (outer : List Env) (s : Shared) (H : Hp) (E : XK) (hr : Room 1 (A.deeper (envOfC "_law_kind" (defScope s_law_kind) s.heap.objs.size f cdv))) :
    PSs (cx0 P w K mg base n_law_kind "_law_kind" s_law_kind f cdv A outer s H E) (defBody s_law_kind) (t_law_kind K c) := by
  unfold t_law_kind
  exact (pss_cons (ps_ret (pe_op op_modX (pe_op op_divX (pe_callD O_law_cell_at hr pass0 (pa_cons (pv 0) (pa_cons pe_int pa_nil))) pe_int) pe_int))
  pss_nil)
theorem ok_law_kind {P : Program} {w : World} {K : PySem.W.Frag} {mg : Str → Option Value} {base : Heap} {c : Cs} (T : Txt K mg c) : Okd P w K mg base CX0 2 "_law_kind" ["_law_script"] (spD (S_law_kind K c)) :=
  okd T.d_law_kind sc_law_kind (by intro Rs R h; first | ((rcases h with ⟨_, _, _, rfl, _⟩ | ⟨_, _, _, rfl, _⟩) <;> rfl) | (rcases h with ⟨_, rfl, _⟩; rfl) | (rcases h with ⟨_, _, rfl, _⟩; rfl) | (rcases h with ⟨_, _, _, rfl, _⟩; rfl) | (rcases h with ⟨_, _, _, _, rfl, _⟩; rfl) | (rcases h with ⟨_, _, _, _, _, rfl, _⟩; rfl) | (rcases h with ⟨_, _, _, _, _, _, rfl, _⟩; rfl) | (rcases h with ⟨_, _, _, _, _, _, _, rfl, _⟩; rfl) | (rcases h with ⟨_, _, _, _, _, _, _, _, rfl, _⟩; rfl)) (fun f cdv A outer s H E hr => ps_law_kind T (ok_law_cell_at T) f cdv A outer s H E hr) (rd_law_kind )
theorem sc_law_gain : FnScope n_law_gain ["_law_script"] (defScope s_law_gain) := ⟨rfl, rfl, rfl, by decide +kernel, rfl, by decide +kernel, by decide +kernel⟩
theorem ps_law_gain {P : Program} {w : World} {K : PySem.W.Frag} {mg : Str → Option Value} {base : Heap} {c : Cs} (T : Txt K mg c) (O_law_number : Okd P w K mg base CX0 1 "_law_number" ["_law_cell", "_law_kind_here"] (spD (S_law_number K c))) (O_law_kind : Okd P w K mg base CX0 2 "_law_kind" ["_law_script"] (spD (S_law_kind K c))) (O_law_cell_at : Okd P w K mg base CX0 1 "_law_cell_at" ["_law_script", "_law_k"] (spD (S_law_cell_at K c))) (f : Addr) (cdv : Value) (A : Around) (outer : List Env) (s : Shared) (H : Hp) (E : XK) (hr : Room 2 (A.deeper (envOfC "_law_gain" (defScope s_law_gain) s.heap.objs.size f cdv))) :
    PSs (cx0 P w K mg base n_law_gain "_law_gain" s_law_gain f cdv A outer s H E) (defBody s_law_gain) (t_law_gain K c) := by
  unfold t_law_gain
  exact (pss_cons (ps_set (i := 1) sc_law_gain.nd rfl (by first | exact Or.inl rfl | exact Or.inr rfl) (pe_ix ix_seq (pe_lst (pa_cons pe_int (pa_cons pe_int (pa_cons pe_int (pa_cons pe_int pa_nil))))) (pe_op op_modX (pe_callD O_law_cell_at hr pass0 (pa_cons (pv 0) (pa_cons pe_int pa_nil))) pe_int) (fun _ _ => rfl)))
  (pss_cons (ps_ret (pe_lc (own := [("_law_k", 2)]) (g := (gName 2)) (tt := tYes) rfl sc_law_gain.nd (pi_range1 rfl T.b_range (pa_cons (pv 1) pa_nil)) (blkOk_by (N := n_law_gain) (sc := defScope s_law_gain) (by decide +kernel)) (fun _ _ _ _ _ => (pg_name (i := 2) sc_law_gain.nd rfl (by first | exact Or.inl rfl | exact Or.inr rfl))) (fun _ _ _ _ _ => pts_nil) (fun _ _ _ _ _ => (pe_callD O_law_number hr pass0 (pa_cons (pe_callD O_law_cell_at hr pass0 (pa_cons (pv 0) (pa_cons (pe_op op_addX pe_int (pv 2)) pa_nil))) (pa_cons (pe_callD O_law_kind hr pass0 (pa_cons (pv 0) pa_nil)) pa_nil))))))
  pss_nil))
theorem ok_law_gain {P : Program} {w : World} {K : PySem.W.Frag} {mg : Str → Option Value} {base : Heap} {c : Cs} (T : Txt K mg c) : Okd P w K mg base CX0 3 "_law_gain" ["_law_script"] (spD (S_law_gain K c)) :=
  okd T.d_law_gain sc_law_gain (by intro Rs R h; first | ((rcases h with ⟨_, _, _, rfl, _⟩ | ⟨_, _, _, rfl, _⟩) <;> rfl) | (rcases h with ⟨_, rfl, _⟩; rfl) | (rcases h with ⟨_, _, rfl, _⟩; rfl) | (rcases h with ⟨_, _, _, rfl, _⟩; rfl) | (rcases h with ⟨_, _, _, _, rfl, _⟩; rfl) | (rcases h with ⟨_, _, _, _, _, rfl, _⟩; rfl) | (rcases h with ⟨_, _, _, _, _, _, rfl, _⟩; rfl) | (rcases h with ⟨_, _, _, _, _, _, _, rfl, _⟩; rfl) | (rcases h with ⟨_, _, _, _, _, _, _, _, rfl, _⟩; rfl)) (fun f cdv A outer s H E hr => ps_law_gain T (ok_law_number T) (ok_law_kind T) (ok_law_cell_at T) f cdv A outer s H E hr) (rd_law_gain )
theorem sc_law_rows : FnScope n_law_rows ["_law_script"] (defScope s_law_rows) := ⟨rfl, rfl, rfl, by decide +kernel, rfl, by decide +kernel, by decide +kernel⟩
theorem ps_law_rows {P : Program} {w : World} {K : PySem.W.Frag} {mg : Str → Option Value} {base : Heap} {c : Cs} (T : Txt K mg c) (O_law_bound : Okd P w K mg base CX0 1 "_law_bound" ["_law_cell", "_law_kind_here"] (spD (S_law_bound K c))) (O_law_cell_at : Okd P w K mg base CX0 1 "_law_cell_at" ["_law_script", "_law_k"] (spD (S_law_cell_at K c))) (O_law_number : Okd P w K mg base CX0 1 "_law_number" ["_law_cell", "_law_kind_here"] (spD (S_law_number K c))) (O_law_kind : Okd P w K mg base CX0 2 "_law_kind" ["_law_script"] (spD (S_law_kind K c))) (f : Addr) (cdv : Value) (A : Around) (outer : List Env) (s : Shared) (H : Hp) (E : XK) (hr : Room 2 (A.deeper (envOfC "_law_rows" (defScope s_law_rows) s.heap.objs.size f cdv))) :
    PSs (cx0 P w K mg base n_law_rows "_law_rows" s_law_rows f cdv A outer s H E) (defBody s_law_rows) (t_law_rows K c) := by
  unfold t_law_rows
  exact (pss_cons (ps_set (i := 1) sc_law_rows.nd rfl (by first | exact Or.inl rfl | exact Or.inr rfl) (pe_ix ix_seq (pe_lst (pa_cons pe_int (pa_cons pe_int (pa_cons pe_int (pa_cons pe_int pa_nil))))) (pe_op op_modX (pe_callD O_law_cell_at hr pass0 (pa_cons (pv 0) (pa_cons pe_int pa_nil))) pe_int) (fun _ _ => rfl)))
  (pss_cons (ps_set (i := 2) sc_law_rows.nd rfl (by first | exact Or.inl rfl | exact Or.inr rfl) (pe_callD O_law_kind hr pass0 (pa_cons (pv 0) pa_nil)))
  (pss_cons (ps_set (i := 3) sc_law_rows.nd rfl (by first | exact Or.inl rfl | exact Or.inr rfl) (pe_op op_modX (pe_op op_divX (pe_callD O_law_cell_at hr pass0 (pa_cons (pv 0) (pa_cons pe_int pa_nil))) pe_int) pe_int))
  (pss_cons (ps_if (pt_cmpR (op_eqX hr.units) (pe_op op_modX (pe_op op_divX (pe_callD O_law_cell_at hr pass0 (pa_cons (pv 0) (pa_cons pe_int pa_nil))) pe_int) pe_int) pe_int (nomark _)) (pss_cons (ps_set (i := 3) sc_law_rows.nd rfl (by first | exact Or.inl rfl | exact Or.inr rfl) pe_int)
  pss_nil) pss_nil)
  (pss_cons (ps_set (i := 4) sc_law_rows.nd rfl (by first | exact Or.inl rfl | exact Or.inr rfl) (pe_lst pa_nil))
  (pss_cons (ps_for PassesOwn.never rfl (pi_range1 rfl T.b_range (pa_cons (pv 3) pa_nil)) (pg_name (i := 5) sc_law_rows.nd rfl (by first | exact Or.inl rfl | exact Or.inr rfl)) (pss_cons (ps_set (i := 6) sc_law_rows.nd rfl (by first | exact Or.inl rfl | exact Or.inr rfl) (pe_op op_addX pe_int (pe_op op_mulX pe_int (pv 5))))
  (pss_cons (ps_setLc (i := 7) (own := [("_law_k", 10)]) (g := (gName 10)) (tt := tYes) rfl sc_law_rows.nd rfl rfl (sw_true rfl rfl rfl (by decide +kernel)) (pi_range1 rfl T.b_range (pa_cons (pv 1) pa_nil)) (blkOk_by (N := n_law_rows) (sc := defScope s_law_rows) (by decide +kernel)) (fun _ _ _ _ _ => (pg_name (i := 10) sc_law_rows.nd rfl (by first | exact Or.inl rfl | exact Or.inr rfl))) (fun _ _ _ _ _ => pts_nil) (fun _ _ _ _ _ => (pe_callD O_law_number hr pass0 (pa_cons (pe_callD O_law_cell_at hr pass0 (pa_cons (pv 0) (pa_cons (pe_op op_addX (pv 6) (pv 10)) pa_nil))) (pa_cons (pv 2) pa_nil)))))
  (pss_cons (ps_set (i := 8) sc_law_rows.nd rfl (by first | exact Or.inl rfl | exact Or.inr rfl) (pe_callD O_law_cell_at hr pass0 (pa_cons (pv 0) (pa_cons (pe_op op_addX (pv 6) pe_int) pa_nil))))
  (pss_cons (ps_set (i := 9) sc_law_rows.nd rfl (by first | exact Or.inl rfl | exact Or.inr rfl) (pe_ix ix_seq (pe_lst (pa_cons pe_str (pa_cons pe_str pa_nil))) (pe_op op_modX (pv 8) pe_int) (fun _ _ => rfl)))
  (pss_cons (ps_if (pt_cmpR op_gtX (pv 2) pe_int (nomark _)) (pss_cons (ps_set (i := 9) sc_law_rows.nd rfl (by first | exact Or.inl rfl | exact Or.inr rfl) (pe_ix ix_seq (pe_lst (pa_cons pe_str (pa_cons pe_str (pa_cons pe_str (pa_cons pe_str pa_nil))))) (pe_op op_modX (pv 8) pe_int) (fun _ _ => rfl)))
  pss_nil) pss_nil)
  (pss_cons (ps_expr (pe_bm PySem.F.plainAttrs_list PySem.F.slot_list_append PySem.F.type_list_append mt_append (pv 4) (pa_cons (pe_tup (pa_cons (pe_callTy call_tupX (by rfl) T.b_tuple b_tuple (pa_cons (pv 7) pa_nil)) (pa_cons (pv 9) (pa_cons (pe_callD O_law_bound hr pass0 (pa_cons (pe_op op_divX (pv 8) pe_int) (pa_cons (pv 2) pa_nil))) pa_nil)))) pa_nil)))
  pss_nil)))))))
  (pss_cons (ps_ret (pv 4))
  pss_nil)))))))
theorem ok_law_rows {P : Program} {w : World} {K : PySem.W.Frag} {mg : Str → Option Value} {base : Heap} {c : Cs} (T : Txt K mg c) : Okd P w K mg base CX0 3 "_law_rows" ["_law_script"] (spD (S_law_rows K c)) :=
  okd T.d_law_rows sc_law_rows (by intro Rs R h; first | ((rcases h with ⟨_, _, _, rfl, _⟩ | ⟨_, _, _, rfl, _⟩) <;> rfl) | (rcases h with ⟨_, rfl, _⟩; rfl) | (rcases h with ⟨_, _, rfl, _⟩; rfl) | (rcases h with ⟨_, _, _, rfl, _⟩; rfl) | (rcases h with ⟨_, _, _, _, rfl, _⟩; rfl) | (rcases h with ⟨_, _, _, _, _, rfl, _⟩; rfl) | (rcases h with ⟨_, _, _, _, _, _, rfl, _⟩; rfl) | (rcases h with ⟨_, _, _, _, _, _, _, rfl, _⟩; rfl) | (rcases h with ⟨_, _, _, _, _, _, _, _, rfl, _⟩; rfl)) (fun f cdv A outer s H E hr => ps_law_rows T (ok_law_bound T) (ok_law_cell_at T) (ok_law_number T) (ok_law_kind T) f cdv A outer s H E hr) (rd_law_rows )
theorem sc_law_box : FnScope n_law_box ["_law_script", "_law_tops_here"] (defScope s_law_box) := ⟨rfl, rfl, rfl, by decide +kernel, rfl, by decide +kernel, by decide +kernel⟩
theorem ps_law_box {P : Program} {w : World} {K : PySem.W.Frag} {mg : Str → Option Value} {base : Heap} {c : Cs} (T : Txt K mg c) (O_law_cell_at : Okd P w K mg base CX0 1 "_law_cell_at" ["_law_script", "_law_k"] (spD (S_law_cell_at K c))) (f : Addr) (cdv : Value) (A : Around) (outer : List Env) (s : Shared) (H : Hp) (E : XK) (hr : Room 1 (A.deeper (envOfC "_law_box" (defScope s_law_box) s.heap.objs.size f cdv))) :
    PSs (cx0 P w K mg base n_law_box "_law_box" s_law_box f cdv A outer s H E) (defBody s_law_box) (t_law_box K c) := by
  unfold t_law_box
  exact (pss_cons (ps_set (i := 2) sc_law_box.nd rfl (by first | exact Or.inl rfl | exact Or.inr rfl) (pe_lst pa_nil))
  (pss_cons (ps_for PassesOwn.never rfl (pi_range1 rfl T.b_range (pa_cons (pe_callB call_lenX (by rfl) T.b_len b_len (pa_cons (pv 1) pa_nil)) pa_nil)) (pg_name (i := 3) sc_law_box.nd rfl (by first | exact Or.inl rfl | exact Or.inr rfl)) (pss_cons (ps_set (i := 4) sc_law_box.nd rfl (by first | exact Or.inl rfl | exact Or.inr rfl) (pe_callD O_law_cell_at hr pass0 (pa_cons (pv 0) (pa_cons (pe_op op_addX pe_int (pv 3)) pa_nil))))
  (pss_cons (ps_set (i := 5) sc_law_box.nd rfl (by first | exact Or.inl rfl | exact Or.inr rfl) (pe_op op_modX (pe_op op_divX (pv 4) pe_int) (pe_op op_addX (pe_ix ix_seq (pv 1) (pv 3) (fun _ _ => rfl)) pe_int)))
  (pss_cons (ps_set (i := 6) sc_law_box.nd rfl (by first | exact Or.inl rfl | exact Or.inr rfl) (pe_tup (pa_cons (pv 5) (pa_cons (pe_op op_addX (pv 5) (pe_op op_modX (pe_op op_divX (pv 4) pe_int) (pe_op op_addX (pe_op op_subX (pe_ix ix_seq (pv 1) (pv 3) (fun _ _ => rfl)) (pv 5)) pe_int))) pa_nil))))
  (pss_cons (ps_if (pt_cmpR (op_eqX hr.units) (pe_op op_modX (pv 4) pe_int) pe_int (nomark _)) (pss_cons (ps_set (i := 6) sc_law_box.nd rfl (by first | exact Or.inl rfl | exact Or.inr rfl) (pe_tup (pa_cons pe_int (pa_cons (pe_ix ix_seq (pv 1) (pv 3) (fun _ _ => rfl)) pa_nil))))
  pss_nil) pss_nil)
  (pss_cons (ps_expr (pe_bm PySem.F.plainAttrs_list PySem.F.slot_list_append PySem.F.type_list_append mt_append (pv 2) (pa_cons (pv 6) pa_nil)))
  pss_nil))))))
  (pss_cons (ps_ret (pv 2))
  pss_nil)))
theorem ok_law_box {P : Program} {w : World} {K : PySem.W.Frag} {mg : Str → Option Value} {base : Heap} {c : Cs} (T : Txt K mg c) : Okd P w K mg base CX0 2 "_law_box" ["_law_script", "_law_tops_here"] (spD (S_law_box K c)) :=
  okd T.d_law_box sc_law_box (by intro Rs R h; first | ((rcases h with ⟨_, _, _, rfl, _⟩ | ⟨_, _, _, rfl, _⟩) <;> rfl) | (rcases h with ⟨_, rfl, _⟩; rfl) | (rcases h with ⟨_, _, rfl, _⟩; rfl) | (rcases h with ⟨_, _, _, rfl, _⟩; rfl) | (rcases h with ⟨_, _, _, _, rfl, _⟩; rfl) | (rcases h with ⟨_, _, _, _, _, rfl, _⟩; rfl) | (rcases h with ⟨_, _, _, _, _, _, rfl, _⟩; rfl) | (rcases h with ⟨_, _, _, _, _, _, _, rfl, _⟩; rfl) | (rcases h with ⟨_, _, _, _, _, _, _, _, rfl, _⟩; rfl)) (fun f cdv A outer s H E hr => ps_law_box T (ok_law_cell_at T) f cdv A outer s H E hr) (rd_law_box )
theorem sc_law_facts : FnScope n_law_facts ["_law_rows_here", "_law_box_here"] (defScope s_law_facts) := ⟨rfl, rfl, rfl, by decide +kernel, rfl, by decide +kernel, by decide +kernel⟩
theorem ps_law_facts {P : Program} {w : World} {K : PySem.W.Frag} {mg : Str → Option Value} {base : Heap} {c : Cs} (T : Txt K mg c)  (f : Addr) (cdv : Value) (A : Around) (outer : List Env) (s : Shared) (H : Hp) (E : XK) (hr : Room 0 (A.deeper (envOfC "_law_facts" (defScope s_law_facts) s.heap.objs.size f cdv))) :
    PSs (cx0 P w K mg base n_law_facts "_law_facts" s_law_facts f cdv A outer s H E) (defBody s_law_facts) (t_law_facts K c) := by
  unfold t_law_facts
  exact (pss_cons (ps_set (i := 2) sc_law_facts.nd rfl (by first | exact Or.inl rfl | exact Or.inr rfl) (pe_lst pa_nil))
  (pss_cons (ps_for PassesOwn.never rfl (pi_list (pv 0)) (pg_name (i := 3) sc_law_facts.nd rfl (by first | exact Or.inl rfl | exact Or.inr rfl)) (pss_cons (ps_set (i := 5) sc_law_facts.nd rfl (by first | exact Or.inl rfl | exact Or.inr rfl) pe_int)
  (pss_cons (ps_if (pt_cmpR (op_eqX hr.units) (pe_ix ix_seq (pv 3) pe_int (fun _ _ => rfl)) pe_str (nomark _)) (pss_cons (ps_set (i := 5) sc_law_facts.nd rfl (by first | exact Or.inl rfl | exact Or.inr rfl) (pe_un un_neg pe_int))
  pss_nil) pss_nil)
  (pss_cons (ps_expr (pe_bm PySem.F.plainAttrs_list PySem.F.slot_list_append PySem.F.type_list_append mt_append (pv 2) (pa_cons (pe_tup (pa_cons (pe_lc (own := [("_law_number_here", 8)]) (g := (gName 8)) (tt := tYes) rfl sc_law_facts.nd (pi_tup (pe_ix ix_seq (pv 3) pe_int (fun _ _ => rfl))) (blkOk_by (N := n_law_facts) (sc := defScope s_law_facts) (by decide +kernel)) (fun _ _ _ _ _ => (pg_name (i := 8) sc_law_facts.nd rfl (by first | exact Or.inl rfl | exact Or.inr rfl))) (fun _ _ _ _ _ => pts_nil) (fun _ _ _ _ _ => (pe_op op_mulX (pv 5) (pv 8)))) (pa_cons (pe_op op_mulX (pv 5) (pe_ix ix_seq (pv 3) pe_int (fun _ _ => rfl))) pa_nil))) pa_nil)))
  pss_nil))))
  (pss_cons (ps_for PassesOwn.never rfl (pi_range1 rfl T.b_range (pa_cons (pe_callB call_lenX (by rfl) T.b_len b_len (pa_cons (pv 1) pa_nil)) pa_nil)) (pg_name (i := 4) sc_law_facts.nd rfl (by first | exact Or.inl rfl | exact Or.inr rfl)) (pss_cons (ps_set (i := 6) sc_law_facts.nd rfl (by first | exact Or.inl rfl | exact Or.inr rfl) (pe_op op_mulX (pe_lst (pa_cons pe_int pa_nil)) (pe_callB call_lenX (by rfl) T.b_len b_len (pa_cons (pv 1) pa_nil))))
  (pss_cons (ps_asg pe_int (pg_sub (pv 6) (pv 4) set_list))
  (pss_cons (ps_set (i := 7) sc_law_facts.nd rfl (by first | exact Or.inl rfl | exact Or.inr rfl) (pe_op op_mulX (pe_lst (pa_cons pe_int pa_nil)) (pe_callB call_lenX (by rfl) T.b_len b_len (pa_cons (pv 1) pa_nil))))
  (pss_cons (ps_asg (pe_un un_neg pe_int) (pg_sub (pv 7) (pv 4) set_list))
  (pss_cons (ps_expr (pe_bm PySem.F.plainAttrs_list PySem.F.slot_list_append PySem.F.type_list_append mt_append (pv 2) (pa_cons (pe_tup (pa_cons (pv 6) (pa_cons (pe_ix ix_seq (pe_ix ix_seq (pv 1) (pv 4) (fun _ _ => rfl)) pe_int (fun _ _ => rfl)) pa_nil))) pa_nil)))
  (pss_cons (ps_expr (pe_bm PySem.F.plainAttrs_list PySem.F.slot_list_append PySem.F.type_list_append mt_append (pv 2) (pa_cons (pe_tup (pa_cons (pv 7) (pa_cons (pe_op op_subX pe_int (pe_ix ix_seq (pe_ix ix_seq (pv 1) (pv 4) (fun _ _ => rfl)) pe_int (fun _ _ => rfl))) pa_nil))) pa_nil)))
  pss_nil)))))))
  (pss_cons (ps_ret (pv 2))
  pss_nil))))
theorem ok_law_facts {P : Program} {w : World} {K : PySem.W.Frag} {mg : Str → Option Value} {base : Heap} {c : Cs} (T : Txt K mg c) : Okd P w K mg base CX0 1 "_law_facts" ["_law_rows_here", "_law_box_here"] (spD (S_law_facts K c)) :=
  okd T.d_law_facts sc_law_facts (by intro Rs R h; first | ((rcases h with ⟨_, _, _, rfl, _⟩ | ⟨_, _, _, rfl, _⟩) <;> rfl) | (rcases h with ⟨_, rfl, _⟩; rfl) | (rcases h with ⟨_, _, rfl, _⟩; rfl) | (rcases h with ⟨_, _, _, rfl, _⟩; rfl) | (rcases h with ⟨_, _, _, _, rfl, _⟩; rfl) | (rcases h with ⟨_, _, _, _, _, rfl, _⟩; rfl) | (rcases h with ⟨_, _, _, _, _, _, rfl, _⟩; rfl) | (rcases h with ⟨_, _, _, _, _, _, _, rfl, _⟩; rfl) | (rcases h with ⟨_, _, _, _, _, _, _, _, rfl, _⟩; rfl)) (fun f cdv A outer s H E hr => ps_law_facts T  f cdv A outer s H E hr) (rd_law_facts )
theorem sc_law_summed : FnScope n_law_summed ["_law_rows_here", "_law_weights"] (defScope s_law_summed) := ⟨rfl, rfl, rfl, by decide +kernel, rfl, by decide +kernel, by decide +kernel⟩
theorem ps_law_summed {P : Program} {w : World} {K : PySem.W.Frag} {mg : Str → Option Value} {base : Heap} {c : Cs} (T : Txt K mg c)  (f : Addr) (cdv : Value) (A : Around) (outer : List Env) (s : Shared) (H : Hp) (E : XK) (hr : Room 0 (A.deeper (envOfC "_law_summed" (defScope s_law_summed) s.heap.objs.size f cdv))) :
    PSs (cx0 P w K mg base n_law_summed "_law_summed" s_law_summed f cdv A outer s H E) (defBody s_law_summed) (t_law_summed K c) := by
  unfold t_law_summed
  exact (pss_cons (ps_set (i := 2) sc_law_summed.nd rfl (by first | exact Or.inl rfl | exact Or.inr rfl) (pe_op op_mulX (pe_lst (pa_cons pe_int pa_nil)) (pe_callB call_lenX (by rfl) T.b_len b_len (pa_cons (pe_ix ix_seq (pe_ix ix_seq (pv 0) pe_int (fun _ _ => rfl)) pe_int (fun _ _ => rfl)) pa_nil))))
  (pss_cons (ps_set (i := 3) sc_law_summed.nd rfl (by first | exact Or.inl rfl | exact Or.inr rfl) pe_int)
  (pss_cons (ps_for PassesOwn.never rfl (pi_range1 rfl T.b_range (pa_cons (pe_callB call_lenX (by rfl) T.b_len b_len (pa_cons (pv 0) pa_nil)) pa_nil)) (pg_name (i := 4) sc_law_summed.nd rfl (by first | exact Or.inl rfl | exact Or.inr rfl)) (pss_cons (ps_for PassesOwn.never rfl (pi_range1 rfl T.b_range (pa_cons (pe_callB call_lenX (by rfl) T.b_len b_len (pa_cons (pv 2) pa_nil)) pa_nil)) (pg_name (i := 5) sc_law_summed.nd rfl (by first | exact Or.inl rfl | exact Or.inr rfl)) (pss_cons (ps_asg (pe_op op_addX (pe_ix ix_seq (pv 2) (pv 5) (fun _ _ => rfl)) (pe_op op_mulX (pe_ix ix_seq (pv 1) (pv 4) (fun _ _ => rfl)) (pe_ix ix_seq (pe_ix ix_seq (pe_ix ix_seq (pv 0) (pv 4) (fun _ _ => rfl)) pe_int (fun _ _ => rfl)) (pv 5) (fun _ _ => rfl)))) (pg_sub (pv 2) (pv 5) set_list))
  pss_nil))
  (pss_cons (ps_set (i := 3) sc_law_summed.nd rfl (by first | exact Or.inl rfl | exact Or.inr rfl) (pe_op op_addX (pv 3) (pe_op op_mulX (pe_ix ix_seq (pv 1) (pv 4) (fun _ _ => rfl)) (pe_ix ix_seq (pe_ix ix_seq (pv 0) (pv 4) (fun _ _ => rfl)) pe_int (fun _ _ => rfl)))))
  pss_nil)))
  (pss_cons (ps_ret (pe_tup (pa_cons (pv 2) (pa_cons (pv 3) pa_nil))))
  pss_nil))))
theorem ok_law_summed {P : Program} {w : World} {K : PySem.W.Frag} {mg : Str → Option Value} {base : Heap} {c : Cs} (T : Txt K mg c) : Okd P w K mg base CX0 1 "_law_summed" ["_law_rows_here", "_law_weights"] (spD (S_law_summed K c)) :=
  okd T.d_law_summed sc_law_summed (by intro Rs R h; first | ((rcases h with ⟨_, _, _, rfl, _⟩ | ⟨_, _, _, rfl, _⟩) <;> rfl) | (rcases h with ⟨_, rfl, _⟩; rfl) | (rcases h with ⟨_, _, rfl, _⟩; rfl) | (rcases h with ⟨_, _, _, rfl, _⟩; rfl) | (rcases h with ⟨_, _, _, _, rfl, _⟩; rfl) | (rcases h with ⟨_, _, _, _, _, rfl, _⟩; rfl) | (rcases h with ⟨_, _, _, _, _, _, rfl, _⟩; rfl) | (rcases h with ⟨_, _, _, _, _, _, _, rfl, _⟩; rfl) | (rcases h with ⟨_, _, _, _, _, _, _, _, rfl, _⟩; rfl)) (fun f cdv A outer s H E hr => ps_law_summed T  f cdv A outer s H E hr) (rd_law_summed )
theorem sc_law_are_weights : FnScope n_law_are_weights ["_law_weights", "_law_many"] (defScope s_law_are_weights) := ⟨rfl, rfl, rfl, by decide +kernel, rfl, by decide +kernel, by decide +kernel⟩
theorem ps_law_are_weights {P : Program} {w : World} {K : PySem.W.Frag} {mg : Str → Option Value} {base : Heap} {c : Cs} (T : Txt K mg c) (O_law_whole : Okd P w K mg base CX0 1 "_law_whole" ["_law_found"] (spD (S_law_whole K c))) (f : Addr) (cdv : Value) (A : Around) (outer : List Env) (s : Shared) (H : Hp) (E : XK) (hr : Room 1 (A.deeper (envOfC "_law_are_weights" (defScope s_law_are_weights) s.heap.objs.size f cdv))) :
    PSs (cx0 P w K mg base n_law_are_weights "_law_are_weights" s_law_are_weights f cdv A outer s H E) (defBody s_law_are_weights) (t_law_are_weights K c) := by
  unfold t_law_are_weights
  exact (pss_cons (ps_if (PW.pt (pw_or (pt_not (pt_val (pe_callB call_isi (by rfl) T.b_isinstance b_isi (pa_cons (pv 0) (pa_cons (pe_bltn (v := .ty "list") (by rfl) T.b_list b_list rfl) pa_nil))))) (pw_or1 (pt_cmpR (op_neX hr.units) (pe_callB call_lenX (by rfl) T.b_len b_len (pa_cons (pv 0) pa_nil)) (pv 1) (nomark _))))) (pss_cons (ps_ret pe_bl)
  pss_nil) pss_nil)
  (pss_cons (ps_for PassesOwn.never rfl (pi_list (pv 0)) (pg_name (i := 2) sc_law_are_weights.nd rfl (by first | exact Or.inl rfl | exact Or.inr rfl)) (pss_cons (ps_if (PW.pt (pw_or (pt_not (pt_val (pe_callD O_law_whole hr pass0 (pa_cons (pv 2) pa_nil)))) (pw_or1 (pt_cmpR op_ltX (pv 2) pe_int (nomark _))))) (pss_cons (ps_ret pe_bl)
  pss_nil) pss_nil)
  pss_nil))
  (pss_cons (ps_ret pe_bl)
  pss_nil)))
theorem ok_law_are_weights {P : Program} {w : World} {K : PySem.W.Frag} {mg : Str → Option Value} {base : Heap} {c : Cs} (T : Txt K mg c) : Okd P w K mg base CX0 2 "_law_are_weights" ["_law_weights", "_law_many"] (spD (S_law_are_weights K c)) :=
  okd T.d_law_are_weights sc_law_are_weights (by intro Rs R h; first | ((rcases h with ⟨_, _, _, rfl, _⟩ | ⟨_, _, _, rfl, _⟩) <;> rfl) | (rcases h with ⟨_, rfl, _⟩; rfl) | (rcases h with ⟨_, _, rfl, _⟩; rfl) | (rcases h with ⟨_, _, _, rfl, _⟩; rfl) | (rcases h with ⟨_, _, _, _, rfl, _⟩; rfl) | (rcases h with ⟨_, _, _, _, _, rfl, _⟩; rfl) | (rcases h with ⟨_, _, _, _, _, _, rfl, _⟩; rfl) | (rcases h with ⟨_, _, _, _, _, _, _, rfl, _⟩; rfl) | (rcases h with ⟨_, _, _, _, _, _, _, _, rfl, _⟩; rfl)) (fun f cdv A outer s H E hr => ps_law_are_weights T (ok_law_whole T) f cdv A outer s H E hr) (rd_law_are_weights )
theorem sc_law_spot : FnScope n_law_spot ["_law_rows_here", "_law_spot_here"] (defScope s_law_spot) := ⟨rfl, rfl, rfl, by decide +kernel, rfl, by decide +kernel, by decide +kernel⟩
theorem ps_law_spot {P : Program} {w : World} {K : PySem.W.Frag} {mg : Str → Option Value} {base : Heap} {c : Cs} (T : Txt K mg c) (O_law_whole : Okd P w K mg base CX0 1 "_law_whole" ["_law_found"] (spD (S_law_whole K c))) (f : Addr) (cdv : Value) (A : Around) (outer : List Env) (s : Shared) (H : Hp) (E : XK) (hr : Room 1 (A.deeper (envOfC "_law_spot" (defScope s_law_spot) s.heap.objs.size f cdv))) :
    PSs (cx0 P w K mg base n_law_spot "_law_spot" s_law_spot f cdv A outer s H E) (defBody s_law_spot) (t_law_spot K c) := by
  unfold t_law_spot
  exact (pss_cons (ps_if (PW.pt (pw_or (pt_not (pt_val (pe_callB call_isi (by rfl) T.b_isinstance b_isi (pa_cons (pv 1) (pa_cons (pe_bltn (v := .ty "tuple") (by rfl) T.b_tuple b_tuple rfl) pa_nil))))) (pw_or (pt_cmpR (op_neX hr.units) (pe_callB call_lenX (by rfl) T.b_len b_len (pa_cons (pv 1) pa_nil)) pe_int (nomark _)) (pw_or (pt_not (pt_val (pe_callB call_isi (by rfl) T.b_isinstance b_isi (pa_cons (pe_ix ix_seq (pv 1) pe_int (fun _ _ => rfl)) (pa_cons (pe_bltn (v := .ty "list") (by rfl) T.b_list b_list rfl) pa_nil))))) (pw_or1 (pt_not (pt_val (pe_callD O_law_whole hr pass0 (pa_cons (pe_ix ix_seq (pv 1) pe_int (fun _ _ => rfl)) pa_nil))))))))) (pss_cons (ps_ret pe_bl)
  pss_nil) pss_nil)
  (pss_cons (ps_if (PW.pt (pw_or (pt_cmpR op_ltX (pe_ix ix_seq (pv 1) pe_int (fun _ _ => rfl)) pe_int (nomark _)) (pw_or1 (pt_cmpR (op_neX hr.units) (pe_callB call_lenX (by rfl) T.b_len b_len (pa_cons (pe_ix ix_seq (pv 1) pe_int (fun _ _ => rfl)) pa_nil)) (pe_callB call_lenX (by rfl) T.b_len b_len (pa_cons (pe_ix ix_seq (pe_ix ix_seq (pv 0) pe_int (fun _ _ => rfl)) pe_int (fun _ _ => rfl)) pa_nil)) (nomark _))))) (pss_cons (ps_ret pe_bl)
  pss_nil) pss_nil)
  (pss_cons (ps_for PassesOwn.never rfl (pi_list (pe_ix ix_seq (pv 1) pe_int (fun _ _ => rfl))) (pg_name (i := 2) sc_law_spot.nd rfl (by first | exact Or.inl rfl | exact Or.inr rfl)) (pss_cons (ps_if (pt_not (pt_val (pe_callD O_law_whole hr pass0 (pa_cons (pv 2) pa_nil)))) (pss_cons (ps_ret pe_bl)
  pss_nil) pss_nil)
  pss_nil))
  (pss_cons (ps_for PassesOwn.never rfl (pi_list (pv 0)) (pg_name (i := 3) sc_law_spot.nd rfl (by first | exact Or.inl rfl | exact Or.inr rfl)) (pss_cons (ps_set (i := 4) sc_law_spot.nd rfl (by first | exact Or.inl rfl | exact Or.inr rfl) pe_int)
  (pss_cons (ps_for PassesOwn.never rfl (pi_range1 rfl T.b_range (pa_cons (pe_callB call_lenX (by rfl) T.b_len b_len (pa_cons (pe_ix ix_seq (pv 1) pe_int (fun _ _ => rfl)) pa_nil)) pa_nil)) (pg_name (i := 5) sc_law_spot.nd rfl (by first | exact Or.inl rfl | exact Or.inr rfl)) (pss_cons (ps_set (i := 4) sc_law_spot.nd rfl (by first | exact Or.inl rfl | exact Or.inr rfl) (pe_op op_addX (pv 4) (pe_op op_mulX (pe_ix ix_seq (pe_ix ix_seq (pv 3) pe_int (fun _ _ => rfl)) (pv 5) (fun _ _ => rfl)) (pe_ix ix_seq (pe_ix ix_seq (pv 1) pe_int (fun _ _ => rfl)) (pv 5) (fun _ _ => rfl)))))
  pss_nil))
  (pss_cons (ps_if (pt_cmpR op_gtX (pv 4) (pe_op op_mulX (pe_ix ix_seq (pv 3) pe_int (fun _ _ => rfl)) (pe_ix ix_seq (pv 1) pe_int (fun _ _ => rfl))) (nomark _)) (pss_cons (ps_ret pe_bl)
  pss_nil) pss_nil)
  pss_nil))))
  (pss_cons (ps_ret pe_bl)
  pss_nil)))))
theorem ok_law_spot {P : Program} {w : World} {K : PySem.W.Frag} {mg : Str → Option Value} {base : Heap} {c : Cs} (T : Txt K mg c) : Okd P w K mg base CX0 2 "_law_spot" ["_law_rows_here", "_law_spot_here"] (spD (S_law_spot K c)) :=
  okd T.d_law_spot sc_law_spot (by intro Rs R h; first | ((rcases h with ⟨_, _, _, rfl, _⟩ | ⟨_, _, _, rfl, _⟩) <;> rfl) | (rcases h with ⟨_, rfl, _⟩; rfl) | (rcases h with ⟨_, _, rfl, _⟩; rfl) | (rcases h with ⟨_, _, _, rfl, _⟩; rfl) | (rcases h with ⟨_, _, _, _, rfl, _⟩; rfl) | (rcases h with ⟨_, _, _, _, _, rfl, _⟩; rfl) | (rcases h with ⟨_, _, _, _, _, _, rfl, _⟩; rfl) | (rcases h with ⟨_, _, _, _, _, _, _, rfl, _⟩; rfl) | (rcases h with ⟨_, _, _, _, _, _, _, _, rfl, _⟩; rfl)) (fun f cdv A outer s H E hr => ps_law_spot T (ok_law_whole T) f cdv A outer s H E hr) (rd_law_spot )
theorem sc_law_most : FnScope n_law_most ["_law_rows_here", "_law_gain_here", "_law_found"] (defScope s_law_most) := ⟨rfl, rfl, rfl, by decide +kernel, rfl, by decide +kernel, by decide +kernel⟩
theorem ps_law_most {P : Program} {w : World} {K : PySem.W.Frag} {mg : Str → Option Value} {base : Heap} {c : Cs} (T : Txt K mg c) (O_law_summed : Okd P w K mg base CX0 1 "_law_summed" ["_law_rows_here", "_law_weights"] (spD (S_law_summed K c))) (O_law_whole : Okd P w K mg base CX0 1 "_law_whole" ["_law_found"] (spD (S_law_whole K c))) (O_law_spot : Okd P w K mg base CX0 2 "_law_spot" ["_law_rows_here", "_law_spot_here"] (spD (S_law_spot K c))) (O_law_are_weights : Okd P w K mg base CX0 2 "_law_are_weights" ["_law_weights", "_law_many"] (spD (S_law_are_weights K c))) (f : Addr) (cdv : Value) (A : Around) (outer : List Env) (s : Shared) (H : Hp) (E : XK) (hr : Room 2 (A.deeper (envOfC "_law_most" (defScope s_law_most) s.heap.objs.size f cdv))) :
    PSs (cx0 P w K mg base n_law_most "_law_most" s_law_most f cdv A outer s H E) (defBody s_law_most) (t_law_most K c) := by
  unfold t_law_most
  exact (pss_cons (ps_if (PW.pt (pw_or (pt_cmpR (op_neX hr.units) (pe_callB call_lenX (by rfl) T.b_len b_len (pa_cons (pv 2) pa_nil)) pe_int (nomark _)) (pw_or (pt_not (pt_val (pe_callD O_law_spot hr pass0 (pa_cons (pv 0) (pa_cons (pe_ix ix_seq (pv 2) pe_int (fun _ _ => rfl)) pa_nil))))) (pw_or1 (pt_not (pt_val (pe_callD O_law_are_weights hr pass0 (pa_cons (pe_ix ix_seq (pv 2) pe_int (fun _ _ => rfl)) (pa_cons (pe_callB call_lenX (by rfl) T.b_len b_len (pa_cons (pv 0) pa_nil)) pa_nil))))))))) (pss_cons (ps_ret pe_bl)
  pss_nil) pss_nil)
  (pss_cons (ps_if (PW.pt (pw_or (pt_not (pt_val (pe_callD O_law_whole hr pass0 (pa_cons (pe_ix ix_seq (pv 2) pe_int (fun _ _ => rfl)) pa_nil)))) (pw_or1 (pt_cmpR op_ltX (pe_ix ix_seq (pv 2) pe_int (fun _ _ => rfl)) pe_int (nomark _))))) (pss_cons (ps_ret pe_bl)
  pss_nil) pss_nil)
  (pss_cons (ps_set (i := 3) sc_law_most.nd rfl (by first | exact Or.inl rfl | exact Or.inr rfl) (pe_callD O_law_summed hr pass0 (pa_cons (pv 0) (pa_cons (pe_ix ix_seq (pv 2) pe_int (fun _ _ => rfl)) pa_nil))))
  (pss_cons (ps_set (i := 4) sc_law_most.nd rfl (by first | exact Or.inl rfl | exact Or.inr rfl) pe_int)
  (pss_cons (ps_for PassesOwn.never rfl (pi_range1 rfl T.b_range (pa_cons (pe_callB call_lenX (by rfl) T.b_len b_len (pa_cons (pv 1) pa_nil)) pa_nil)) (pg_name (i := 5) sc_law_most.nd rfl (by first | exact Or.inl rfl | exact Or.inr rfl)) (pss_cons (ps_set (i := 4) sc_law_most.nd rfl (by first | exact Or.inl rfl | exact Or.inr rfl) (pe_op op_addX (pv 4) (pe_op op_mulX (pe_ix ix_seq (pv 1) (pv 5) (fun _ _ => rfl)) (pe_ix ix_seq (pe_ix ix_seq (pe_ix ix_seq (pv 2) pe_int (fun _ _ => rfl)) pe_int (fun _ _ => rfl)) (pv 5) (fun _ _ => rfl)))))
  pss_nil))
  (pss_cons (ps_ret (pe_and (pe_cmpR (op_eqX hr.units) (pe_ix ix_seq (pv 3) pe_int (fun _ _ => rfl)) (pe_lc (own := [("_law_number_here", 6)]) (g := (gName 6)) (tt := tYes) rfl sc_law_most.nd (pi_list (pv 1)) (blkOk_by (N := n_law_most) (sc := defScope s_law_most) (by decide +kernel)) (fun _ _ _ _ _ => (pg_name (i := 6) sc_law_most.nd rfl (by first | exact Or.inl rfl | exact Or.inr rfl))) (fun _ _ _ _ _ => pts_nil) (fun _ _ _ _ _ => (pe_op op_mulX (pe_ix ix_seq (pv 2) pe_int (fun _ _ => rfl)) (pv 6)))) (nomark _)) (pe_one (pe_cmpR (op_eqX hr.units) (pe_op op_mulX (pe_ix ix_seq (pv 3) pe_int (fun _ _ => rfl)) (pe_ix ix_seq (pe_ix ix_seq (pv 2) pe_int (fun _ _ => rfl)) pe_int (fun _ _ => rfl))) (pe_op op_mulX (pv 4) (pe_ix ix_seq (pv 2) pe_int (fun _ _ => rfl))) (nomark _)))))
  pss_nil))))))
theorem ok_law_most {P : Program} {w : World} {K : PySem.W.Frag} {mg : Str → Option Value} {base : Heap} {c : Cs} (T : Txt K mg c) : Okd P w K mg base CX0 3 "_law_most" ["_law_rows_here", "_law_gain_here", "_law_found"] (spD (S_law_most K c)) :=
  okd T.d_law_most sc_law_most (by intro Rs R h; first | ((rcases h with ⟨_, _, _, rfl, _⟩ | ⟨_, _, _, rfl, _⟩) <;> rfl) | (rcases h with ⟨_, rfl, _⟩; rfl) | (rcases h with ⟨_, _, rfl, _⟩; rfl) | (rcases h with ⟨_, _, _, rfl, _⟩; rfl) | (rcases h with ⟨_, _, _, _, rfl, _⟩; rfl) | (rcases h with ⟨_, _, _, _, _, rfl, _⟩; rfl) | (rcases h with ⟨_, _, _, _, _, _, rfl, _⟩; rfl) | (rcases h with ⟨_, _, _, _, _, _, _, rfl, _⟩; rfl) | (rcases h with ⟨_, _, _, _, _, _, _, _, rfl, _⟩; rfl)) (fun f cdv A outer s H E hr => ps_law_most T (ok_law_summed T) (ok_law_whole T) (ok_law_spot T) (ok_law_are_weights T) f cdv A outer s H E hr) (rd_law_most )
theorem sc_law_right : FnScope n_law_right ["_law_rows_here", "_law_gain_here", "_law_found"] (defScope s_law_right) := ⟨rfl, rfl, rfl, by decide +kernel, rfl, by decide +kernel, by decide +kernel⟩
theorem ps_law_right {P : Program} {w : World} {K : PySem.W.Frag} {mg : Str → Option Value} {base : Heap} {c : Cs} (T : Txt K mg c) (O_law_most : Okd P w K mg base CX0 3 "_law_most" ["_law_rows_here", "_law_gain_here", "_law_found"] (spD (S_law_most K c))) (O_law_summed : Okd P w K mg base CX0 1 "_law_summed" ["_law_rows_here", "_law_weights"] (spD (S_law_summed K c))) (O_law_are_weights : Okd P w K mg base CX0 2 "_law_are_weights" ["_law_weights", "_law_many"] (spD (S_law_are_weights K c))) (f : Addr) (cdv : Value) (A : Around) (outer : List Env) (s : Shared) (H : Hp) (E : XK) (hr : Room 3 (A.deeper (envOfC "_law_right" (defScope s_law_right) s.heap.objs.size f cdv))) :
    PSs (cx0 P w K mg base n_law_right "_law_right" s_law_right f cdv A outer s H E) (defBody s_law_right) (t_law_right K c) := by
  unfold t_law_right
  exact (pss_cons (ps_if (PW.pt (pw_or (pt_not (pt_val (pe_callB call_isi (by rfl) T.b_isinstance b_isi (pa_cons (pv 2) (pa_cons (pe_bltn (v := .ty "tuple") (by rfl) T.b_tuple b_tuple rfl) pa_nil))))) (pw_or (pt_cmpR op_ltX (pe_callB call_lenX (by rfl) T.b_len b_len (pa_cons (pv 2) pa_nil)) pe_int (nomark _)) (pw_or1 (pt_not (pt_val (pe_callB call_isi (by rfl) T.b_isinstance b_isi (pa_cons (pe_ix ix_seq (pv 2) pe_int (fun _ _ => rfl)) (pa_cons (pe_bltn (v := .ty "str") (by rfl) T.b_str b_str rfl) pa_nil))))))))) (pss_cons (ps_ret pe_bl)
  pss_nil) pss_nil)
  (pss_cons (ps_if (pt_cmpR (op_eqX hr.units) (pe_ix ix_seq (pv 2) pe_int (fun _ _ => rfl)) pe_str (nomark _)) (pss_cons (ps_if (PW.pt (pw_or (pt_cmpR (op_neX hr.units) (pe_callB call_lenX (by rfl) T.b_len b_len (pa_cons (pv 2) pa_nil)) pe_int (nomark _)) (pw_or1 (pt_not (pt_val (pe_callD O_law_are_weights hr pass0 (pa_cons (pe_ix ix_seq (pv 2) pe_int (fun _ _ => rfl)) (pa_cons (pe_callB call_lenX (by rfl) T.b_len b_len (pa_cons (pv 0) pa_nil)) pa_nil)))))))) (pss_cons (ps_ret pe_bl)
  pss_nil) pss_nil)
  (pss_cons (ps_set (i := 3) sc_law_right.nd rfl (by first | exact Or.inl rfl | exact Or.inr rfl) (pe_callD O_law_summed hr pass0 (pa_cons (pv 0) (pa_cons (pe_ix ix_seq (pv 2) pe_int (fun _ _ => rfl)) pa_nil))))
  (pss_cons (ps_ret (pe_and (pe_cmpR (op_eqX hr.units) (pe_ix ix_seq (pv 3) pe_int (fun _ _ => rfl)) (pe_op op_mulX (pe_lst (pa_cons pe_int pa_nil)) (pe_callB call_lenX (by rfl) T.b_len b_len (pa_cons (pv 1) pa_nil))) (nomark _)) (pe_one (pe_cmpR op_ltX (pe_ix ix_seq (pv 3) pe_int (fun _ _ => rfl)) pe_int (nomark _)))))
  pss_nil))) pss_nil)
  (pss_cons (ps_ret (pe_and (pe_cmpR (op_eqX hr.units) (pe_ix ix_seq (pv 2) pe_int (fun _ _ => rfl)) pe_str (nomark _)) (pe_one (pe_callD O_law_most hr pass0 (pa_cons (pv 0) (pa_cons (pv 1) (pa_cons (pv 2) pa_nil)))))))
  pss_nil)))
theorem ok_law_right {P : Program} {w : World} {K : PySem.W.Frag} {mg : Str → Option Value} {base : Heap} {c : Cs} (T : Txt K mg c) : Okd P w K mg base CX0 4 "_law_right" ["_law_rows_here", "_law_gain_here", "_law_found"] (spD (S_law_right K c)) :=
  okd T.d_law_right sc_law_right (by intro Rs R h; first | ((rcases h with ⟨_, _, _, rfl, _⟩ | ⟨_, _, _, rfl, _⟩) <;> rfl) | (rcases h with ⟨_, rfl, _⟩; rfl) | (rcases h with ⟨_, _, rfl, _⟩; rfl) | (rcases h with ⟨_, _, _, rfl, _⟩; rfl) | (rcases h with ⟨_, _, _, _, rfl, _⟩; rfl) | (rcases h with ⟨_, _, _, _, _, rfl, _⟩; rfl) | (rcases h with ⟨_, _, _, _, _, _, rfl, _⟩; rfl) | (rcases h with ⟨_, _, _, _, _, _, _, rfl, _⟩; rfl) | (rcases h with ⟨_, _, _, _, _, _, _, _, rfl, _⟩; rfl)) (fun f cdv A outer s H E hr => ps_law_right T (ok_law_most T) (ok_law_summed T) (ok_law_are_weights T) f cdv A outer s H E hr) (rd_law_right )
theorem sc_law : FnScope n_law ["_law_script"] (defScope s_law) := ⟨rfl, rfl, rfl, by decide +kernel, rfl, by decide +kernel, by decide +kernel⟩
theorem ps_law {P : Program} {w : World} {K : PySem.W.Frag} {mg : Str → Option Value} {base : Heap} {c : Cs} (T : Txt K mg c) (O_law_right : Okd P w K mg base CX0 4 "_law_right" ["_law_rows_here", "_law_gain_here", "_law_found"] (spD (S_law_right K c))) (O_law_facts : Okd P w K mg base CX0 1 "_law_facts" ["_law_rows_here", "_law_box_here"] (spD (S_law_facts K c))) (O_looseN : Okd P w K mg base CX0 6 "loose" ["problem", "box"] (spDH (S_looseN K c))) (O_facts : Okd P w K mg base (L2.CX P w) 3 "facts" ["problem", "box"] (spX (S_facts K c) (SE_facts K c))) (O_Problem : Oki P w K mg base CX0 5 "Problem" c.Problem ["self", "tops", "rows", "gain"] (SP_Problem K c)) (O_law_box : Okd P w K mg base CX0 2 "_law_box" ["_law_script", "_law_tops_here"] (spD (S_law_box K c))) (O_law_gain : Okd P w K mg base CX0 3 "_law_gain" ["_law_script"] (spD (S_law_gain K c))) (O_law_rows : Okd P w K mg base CX0 3 "_law_rows" ["_law_script"] (spD (S_law_rows K c))) (O_law_tops : Okd P w K mg base CX0 2 "_law_tops" ["_law_script"] (spD (S_law_tops K c))) (f : Addr) (cdv : Value) (A : Around) (outer : List Env) (s : Shared) (H : Hp) (E : XK) (hr : Room 6 (A.deeper (envOfC "law" (defScope s_law) s.heap.objs.size f cdv))) :
    PSs (cx0 P w K mg base n_law "law" s_law f cdv A outer s H E) (defBody s_law) (t_law K c) := by
  unfold t_law
  exact (pss_cons (ps_set (i := 1) sc_law.nd rfl (by first | exact Or.inl rfl | exact Or.inr rfl) (pe_callD O_law_tops hr pass0 (pa_cons (pv 0) pa_nil)))
  (pss_cons (ps_set (i := 2) sc_law.nd rfl (by first | exact Or.inl rfl | exact Or.inr rfl) (pe_callD O_law_rows hr pass0 (pa_cons (pv 0) pa_nil)))
  (pss_cons (ps_set (i := 3) sc_law.nd rfl (by first | exact Or.inl rfl | exact Or.inr rfl) (pe_callD O_law_gain hr pass0 (pa_cons (pv 0) pa_nil)))
  (pss_cons (ps_set (i := 4) sc_law.nd rfl (by first | exact Or.inl rfl | exact Or.inr rfl) (pe_callD O_law_box hr pass0 (pa_cons (pv 0) (pa_cons (pv 1) pa_nil))))
  (pss_cons (ps_set (i := 5) sc_law.nd rfl (by first | exact Or.inl rfl | exact Or.inr rfl) (pe_makeD O_Problem hr pass0 (pa_cons (pe_callTy call_listX (by rfl) T.b_list b_list (pa_cons (pv 1) pa_nil)) (pa_cons (pe_callTy call_listX (by rfl) T.b_list b_list (pa_cons (pv 2) pa_nil)) (pa_cons (pe_callTy call_listX (by rfl) T.b_list b_list (pa_cons (pv 3) pa_nil)) pa_nil)))))
  (pss_cons (ps_set (i := 6) sc_law.nd rfl (by first | exact Or.inl rfl | exact Or.inr rfl) (pe_lst pa_nil))
  (pss_cons (ps_set (i := 7) sc_law.nd rfl (by first | exact Or.inl rfl | exact Or.inr rfl) (pe_lst pa_nil))
  (pss_cons (ps_for PassesOwn.never rfl (pi_enum rfl T.b_enumerate (pa_cons (pe_lst (pa_cons (pv 4) (pa_cons (pe_lc (own := [("_law_top", 14)]) (g := (gName 14)) (tt := tYes) rfl sc_law.nd (pi_list (pv 1)) (blkOk_by (N := n_law) (sc := defScope s_law) (by decide +kernel)) (fun _ _ _ _ _ => (pg_name (i := 14) sc_law.nd rfl (by first | exact Or.inl rfl | exact Or.inr rfl))) (fun _ _ _ _ _ => pts_nil) (fun _ _ _ _ _ => (pe_tup (pa_cons pe_int (pa_cons (pv 14) pa_nil))))) (pa_cons (pe_op op_addX (pe_slice sl_X (pv 4) po_none (po_some (pe_un un_neg pe_int))) (pe_lst (pa_cons (pe_tup (pa_cons pe_int (pa_cons (pe_ix ix_seq (pv 1) (pe_un un_neg pe_int) (fun _ _ => rfl)) pa_nil))) pa_nil))) (pa_cons (pv 4) pa_nil))))) pa_nil)) (pg_tup rfl (pgs_cons (pg_name (i := 8) sc_law.nd rfl (by first | exact Or.inl rfl | exact Or.inr rfl)) (pgs_cons (pg_name (i := 9) sc_law.nd rfl (by first | exact Or.inl rfl | exact Or.inr rfl)) pgs_nil))) (pss_cons (ps_if (pt_cmpR (op_eqX hr.units) (pe_op op_modX (pv 8) pe_int) pe_int (nomark _)) (pss_cons (ps_expr (pe_callD O_facts hr passL (pa_cons (pv 5) (pa_cons (pe_callTy call_listX (by rfl) T.b_list b_list (pa_cons (pv 4) pa_nil)) pa_nil))))
  pss_nil) pss_nil)
  (pss_cons (ps_expr (pe_bm0 PySem.F.plainAttrs_list PySem.F.slot_list_clear PySem.F.type_list_clear mt_clear (pv 6)))
  (pss_cons (ps_expr (pe_bm PySem.F.plainAttrs_list PySem.F.slot_list_extend PySem.F.type_list_extend mt_extend (pv 6) (pa_cons (pv 9) pa_nil)))
  (pss_cons (ps_set (i := 10) sc_law.nd rfl (by first | exact Or.inl rfl | exact Or.inr rfl) (pe_callD O_looseN hr pass0 (pa_cons (pv 5) (pa_cons (pv 6) pa_nil))))
  (pss_cons (ps_if (PW.pt (pw_or (pt_not (pt_val (pe_callD O_law_right hr pass0 (pa_cons (pe_callD O_law_facts hr pass0 (pa_cons (pv 2) (pa_cons (pv 9) pa_nil))) (pa_cons (pv 3) (pa_cons (pv 10) pa_nil)))))) (pw_or1 (pt_cmpR (op_neX hr.units) (pv 6) (pv 9) (nomark _))))) (pss_cons (ps_ret pe_bl)
  pss_nil) pss_nil)
  (pss_cons (ps_set (i := 11) sc_law.nd rfl (by first | exact Or.inl rfl | exact Or.inr rfl) (pe_lst (pa_cons (pe_ix ix_seq (pv 10) pe_int (fun _ _ => rfl)) pa_nil)))
  (pss_cons (ps_if (pt_cmpR (op_eqX hr.units) (pe_ix ix_seq (pv 10) pe_int (fun _ _ => rfl)) pe_str (nomark _)) (pss_cons (ps_set (i := 11) sc_law.nd rfl (by first | exact Or.inl rfl | exact Or.inr rfl) (pe_lst (pa_cons (pe_ix ix_seq (pe_ix ix_seq (pv 10) pe_int (fun _ _ => rfl)) pe_int (fun _ _ => rfl)) (pa_cons (pe_ix ix_seq (pv 10) pe_int (fun _ _ => rfl)) pa_nil))))
  pss_nil) pss_nil)
  (pss_cons (ps_for PassesOwn.never rfl (pi_list (pv 11)) (pg_name (i := 12) sc_law.nd rfl (by first | exact Or.inl rfl | exact Or.inr rfl)) (pss_cons (ps_expr (pe_bm PySem.F.plainAttrs_list PySem.F.slot_list_append PySem.F.type_list_append mt_append (pv 12) (pa_cons pe_int pa_nil)))
  (pss_cons (ps_expr (pe_bm PySem.F.plainAttrs_list PySem.F.slot_list_append PySem.F.type_list_append mt_append (pv 7) (pa_cons (pe_tup (pa_cons (pv 12) (pa_cons (pe_callTy call_listX (by rfl) T.b_list b_list (pa_cons (pv 12) pa_nil)) pa_nil))) pa_nil)))
  pss_nil)))
  pss_nil)))))))))
  (pss_cons (ps_if (pt_cmpR (op_neX hr.units) (pe_lc (own := [("_law_pair", 13)]) (g := (gName 13)) (tt := (tTest (tOp (rNeX K) (tOp (rIx K) (tVar 13) (tC (.int 0))) (tOp (rIx K) (tVar 13) (tC (.int 1)))))) rfl sc_law.nd (pi_list (pv 7)) (blkOk_by (N := n_law) (sc := defScope s_law) (by decide +kernel)) (fun _ _ _ _ _ => (pg_name (i := 13) sc_law.nd rfl (by first | exact Or.inl rfl | exact Or.inr rfl))) (fun _ _ _ _ _ => (pts_one (pt_cmpR (op_neX hr.units) (pe_ix ix_seq (pv 13) pe_int (fun _ _ => rfl)) (pe_ix ix_seq (pv 13) pe_int (fun _ _ => rfl)) (nomark _)))) (fun _ _ _ _ _ => (pv 13))) (pe_lst pa_nil) (nomark _)) (pss_cons (ps_ret pe_bl)
  pss_nil) pss_nil)
  (pss_cons (ps_ret (pe_and (pe_cmpR (op_eqX hr.units) (pe_fld (pv 5) rfl) (pv 1) (nomark _)) (pe_and (pe_cmpR (op_eqX hr.units) (pe_fld (pv 5) rfl) (pv 2) (nomark _)) (pe_one (pe_cmpR (op_eqX hr.units) (pe_fld (pv 5) rfl) (pv 3) (nomark _))))))
  pss_nil))))))))))
theorem ok_law {P : Program} {w : World} {K : PySem.W.Frag} {mg : Str → Option Value} {base : Heap} {c : Cs} (T : Txt K mg c) {f : Addr} {fd : FuncData} (F : Fun K "law" "law" s_law f fd) : FnOk P w K mg base CX0 7 f fd ["_law_script"] (spD (S_law K c)) :=
  okf F sc_law (by intro Rs R h; first | ((rcases h with ⟨_, _, _, rfl, _⟩ | ⟨_, _, _, rfl, _⟩) <;> rfl) | (rcases h with ⟨_, rfl, _⟩; rfl) | (rcases h with ⟨_, _, rfl, _⟩; rfl) | (rcases h with ⟨_, _, _, rfl, _⟩; rfl) | (rcases h with ⟨_, _, _, _, rfl, _⟩; rfl) | (rcases h with ⟨_, _, _, _, _, rfl, _⟩; rfl) | (rcases h with ⟨_, _, _, _, _, _, rfl, _⟩; rfl) | (rcases h with ⟨_, _, _, _, _, _, _, rfl, _⟩; rfl) | (rcases h with ⟨_, _, _, _, _, _, _, _, rfl, _⟩; rfl)) (fun f cdv A outer s H E hr => ps_law T (ok_law_right T) (ok_law_facts T) (ok_looseN T) (ok_facts T) (ok_Problem T) (ok_law_box T) (ok_law_gain T) (ok_law_rows T) (ok_law_tops T) f cdv A outer s H E hr) (rd_law (pf_ T))
theorem fin {P : Program} {w : World} {K : PySem.W.Frag} {h : Heap} {mg : Str → Option Value} {fa : Addr} (X : K.In h) (G : h.Ns mainGlobals mg) (hfa : mg "law" = some (.ref fa)) {C_Problem : Addr} {C_Tableau : Addr} {C_BadProblem : Addr} {C_BadBox : Addr} {C_NoTurn : Addr} {C_CutError : Addr}
    (b_abs : PySem.W.nsIn K mainGlobals "abs" = some none)
    (b_bool : PySem.W.nsIn K mainGlobals "bool" = some none)
    (b_enumerate : PySem.W.nsIn K mainGlobals "enumerate" = some none)
    (b_int : PySem.W.nsIn K mainGlobals "int" = some none)
    (b_isinstance : PySem.W.nsIn K mainGlobals "isinstance" = some none)
    (b_len : PySem.W.nsIn K mainGlobals "len" = some none)
    (b_list : PySem.W.nsIn K mainGlobals "list" = some none)
    (b_min : PySem.W.nsIn K mainGlobals "min" = some none)
    (b_range : PySem.W.nsIn K mainGlobals "range" = some none)
    (b_str : PySem.W.nsIn K mainGlobals "str" = some none)
    (b_sum : PySem.W.nsIn K mainGlobals "sum" = some none)
    (b_tuple : PySem.W.nsIn K mainGlobals "tuple" = some none)
    (b_zip : PySem.W.nsIn K mainGlobals "zip" = some none)
    (g_GREATEST : ∃ t, PySem.W.nsIn K mainGlobals "GREATEST" = some (some (.int 50 t)))
    (g_GREATEST_BOUND : ∃ t, PySem.W.nsIn K mainGlobals "GREATEST_BOUND" = some (some (.int 2000 t)))
    (g_MOST_ROWS : ∃ t, PySem.W.nsIn K mainGlobals "MOST_ROWS" = some (some (.int 6 t)))
    (g_MOST_TOP : ∃ t, PySem.W.nsIn K mainGlobals "MOST_TOP" = some (some (.int 20 t)))
    (g_MOST_UNKNOWNS : ∃ t, PySem.W.nsIn K mainGlobals "MOST_UNKNOWNS" = some (some (.int 3 t)))
    (g_Problem : PySem.W.nsIn K mainGlobals "Problem" = some (some (.ref C_Problem)))
    (g_Tableau : PySem.W.nsIn K mainGlobals "Tableau" = some (some (.ref C_Tableau)))
    (g_BadProblem : PySem.W.nsIn K mainGlobals "BadProblem" = some (some (.ref C_BadProblem)))
    (g_BadBox : PySem.W.nsIn K mainGlobals "BadBox" = some (some (.ref C_BadBox)))
    (g_NoTurn : PySem.W.nsIn K mainGlobals "NoTurn" = some (some (.ref C_NoTurn)))
    (g_CutError : PySem.W.nsIn K mainGlobals "CutError" = some (some (.ref C_CutError)))
    (x_BadBox : PySem.W.excIn K C_BadBox [.type "ValueError", .type "Exception", .type "BaseException", .type "object"] "ValueError.__new__" = true)
    (k_BadBox : PySem.W.keepIn K (.ref C_BadBox) = true)
    (bx_BadBox : PySem.W.subIn K (.ref C_BadBox) (.type "BaseException") = some true)
    (tx_BadBox : PySem.W.typeIn K (.ref C_BadBox) = some (.type "type"))
    (x_BadProblem : PySem.W.excIn K C_BadProblem [.type "ValueError", .type "Exception", .type "BaseException", .type "object"] "ValueError.__new__" = true)
    (k_BadProblem : PySem.W.keepIn K (.ref C_BadProblem) = true)
    (bx_BadProblem : PySem.W.subIn K (.ref C_BadProblem) (.type "BaseException") = some true)
    (tx_BadProblem : PySem.W.typeIn K (.ref C_BadProblem) = some (.type "type"))
    (x_NoTurn : PySem.W.excIn K C_NoTurn [.type "ValueError", .type "Exception", .type "BaseException", .type "object"] "ValueError.__new__" = true)
    (k_NoTurn : PySem.W.keepIn K (.ref C_NoTurn) = true)
    (bx_NoTurn : PySem.W.subIn K (.ref C_NoTurn) (.type "BaseException") = some true)
    (tx_NoTurn : PySem.W.typeIn K (.ref C_NoTurn) = some (.type "type"))
    (pg_Problem : PySem.W.plainGet K C_Problem Str.empty = true)
    (hd_Problem : PySem.W.hasDictIn K C_Problem = true)
    (po_Problem : PySem.W.plainOver K C_Problem = true)
    (sa_Problem : PySem.W.findIn K (.ref C_Problem) "__setattr__" = some (some (.builtin "object.__setattr__")))
    (n_Problem_gain : PySem.W.findIn K (.ref C_Problem) "gain" = some none)
    (n_Problem_rows : PySem.W.findIn K (.ref C_Problem) "rows" = some none)
    (n_Problem_tops : PySem.W.findIn K (.ref C_Problem) "tops" = some none)
    (pg_Tableau : PySem.W.plainGet K C_Tableau Str.empty = true)
    (hd_Tableau : PySem.W.hasDictIn K C_Tableau = true)
    (po_Tableau : PySem.W.plainOver K C_Tableau = true)
    (sa_Tableau : PySem.W.findIn K (.ref C_Tableau) "__setattr__" = some (some (.builtin "object.__setattr__")))
    (n_Tableau_beside : PySem.W.findIn K (.ref C_Tableau) "beside" = some none)
    (n_Tableau_lines : PySem.W.findIn K (.ref C_Tableau) "lines" = some none)
    (n_Tableau_lows : PySem.W.findIn K (.ref C_Tableau) "lows" = some none)
    (n_Tableau_many : PySem.W.findIn K (.ref C_Tableau) "many" = some none)
    (n_Tableau_over : PySem.W.findIn K (.ref C_Tableau) "over" = some none)
    (n_Tableau_scale : PySem.W.findIn K (.ref C_Tableau) "scale" = some none)
    (d_between : DefK K "between" s_between)
    (d_are_between : DefK K "are_between" s_are_between)
    (d_is_row : DefK K "is_row" s_is_row)
    (d_need_problem : DefK K "need_problem" s_need_problem)
    (d_Problem_init : DefIK K C_Problem s_Problem_init "Problem.__init__")
    (d_sum_at : DefK K "sum_at" s_sum_at)
    (d_need_box : DefK K "need_box" s_need_box)
    (d_alone : DefK K "alone" s_alone)
    (d_facts : DefK K "facts" s_facts)
    (d_turned_line : DefK K "turned_line" s_turned_line)
    (d_turned : DefK K "turned" s_turned)
    (d_Tableau_init : DefIK K C_Tableau s_Tableau_init "Tableau.__init__")
    (d_Tableau_wrong : DefMK K C_Tableau "wrong" "Tableau.wrong" s_Tableau_wrong)
    (d_Tableau_partner : DefMK K C_Tableau "partner" "Tableau.partner" s_Tableau_partner)
    (d_Tableau_change : DefMK K C_Tableau "change" "Tableau.change" s_Tableau_change)
    (d_Tableau_told_noneN : DefMK K C_Tableau "told_none" "Tableau.told_none" s_Tableau_told_noneN)
    (d_Tableau_told_mostN : DefMK K C_Tableau "told_most" "Tableau.told_most" s_Tableau_told_mostN)
    (d_looseN : DefK K "loose" s_looseN)
    (d_law_cell_at : DefK K "_law_cell_at" s_law_cell_at)
    (d_law_whole : DefK K "_law_whole" s_law_whole)
    (d_law_number : DefK K "_law_number" s_law_number)
    (d_law_bound : DefK K "_law_bound" s_law_bound)
    (d_law_tops : DefK K "_law_tops" s_law_tops)
    (d_law_kind : DefK K "_law_kind" s_law_kind)
    (d_law_gain : DefK K "_law_gain" s_law_gain)
    (d_law_rows : DefK K "_law_rows" s_law_rows)
    (d_law_box : DefK K "_law_box" s_law_box)
    (d_law_facts : DefK K "_law_facts" s_law_facts)
    (d_law_summed : DefK K "_law_summed" s_law_summed)
    (d_law_are_weights : DefK K "_law_are_weights" s_law_are_weights)
    (d_law_spot : DefK K "_law_spot" s_law_spot)
    (d_law_most : DefK K "_law_most" s_law_most)
    (d_law_right : DefK K "_law_right" s_law_right)
    (d_law : DefK K "law" s_law) :
    ∃ fd : FuncData, (∀ (s : Shared) (v : Value), BindsTo s fd ⟨[v], []⟩ [("_law_script", v)]) ∧ ∀ base : Heap, K.In base → base.Ns mainGlobals mg → FnOk P w K mg base CX0 7 fa fd ["_law_script"] (spD (S_law K cs0)) := by
  have T : Txt K mg { Problem := C_Problem, Tableau := C_Tableau, Search := 0, CutError := C_CutError, BadProblem := C_BadProblem, BadPoint := 0, BadBox := C_BadBox, BadWeights := 0, NoTurn := C_NoTurn, BadText := 0 } := { b_abs := PySem.W.mg_none_of X G b_abs, b_bool := PySem.W.mg_none_of X G b_bool, b_enumerate := PySem.W.mg_none_of X G b_enumerate, b_int := PySem.W.mg_none_of X G b_int, b_isinstance := PySem.W.mg_none_of X G b_isinstance, b_len := PySem.W.mg_none_of X G b_len, b_list := PySem.W.mg_none_of X G b_list, b_min := PySem.W.mg_none_of X G b_min, b_range := PySem.W.mg_none_of X G b_range, b_str := PySem.W.mg_none_of X G b_str, b_sum := PySem.W.mg_none_of X G b_sum, b_tuple := PySem.W.mg_none_of X G b_tuple, b_zip := PySem.W.mg_none_of X G b_zip, g_GREATEST := let ⟨t, h⟩ := g_GREATEST; ⟨t, PySem.W.mg_of X G h⟩, g_GREATEST_BOUND := let ⟨t, h⟩ := g_GREATEST_BOUND; ⟨t, PySem.W.mg_of X G h⟩, g_MOST_ROWS := let ⟨t, h⟩ := g_MOST_ROWS; ⟨t, PySem.W.mg_of X G h⟩, g_MOST_TOP := let ⟨t, h⟩ := g_MOST_TOP; ⟨t, PySem.W.mg_of X G h⟩, g_MOST_UNKNOWNS := let ⟨t, h⟩ := g_MOST_UNKNOWNS; ⟨t, PySem.W.mg_of X G h⟩, g_BadProblem := PySem.W.mg_of X G g_BadProblem, g_BadBox := PySem.W.mg_of X G g_BadBox, g_NoTurn := PySem.W.mg_of X G g_NoTurn, g_CutError := PySem.W.mg_of X G g_CutError, x_BadBox := x_BadBox, k_BadBox := k_BadBox, bx_BadBox := bx_BadBox, tx_BadBox := tx_BadBox, x_BadProblem := x_BadProblem, k_BadProblem := k_BadProblem, bx_BadProblem := bx_BadProblem, tx_BadProblem := tx_BadProblem, x_NoTurn := x_NoTurn, k_NoTurn := k_NoTurn, bx_NoTurn := bx_NoTurn, tx_NoTurn := tx_NoTurn, c_Problem := ⟨pg_Problem, hd_Problem, po_Problem, sa_Problem⟩, n_Problem_gain := n_Problem_gain, n_Problem_rows := n_Problem_rows, n_Problem_tops := n_Problem_tops, c_Tableau := ⟨pg_Tableau, hd_Tableau, po_Tableau, sa_Tableau⟩, n_Tableau_beside := n_Tableau_beside, n_Tableau_lines := n_Tableau_lines, n_Tableau_lows := n_Tableau_lows, n_Tableau_many := n_Tableau_many, n_Tableau_over := n_Tableau_over, n_Tableau_scale := n_Tableau_scale, d_between := def_of X G d_between (fun _ _ _ _ _ _ us hl => match us, hl with | [_, _, _], _ => rfl), d_are_between := def_of X G d_are_between (fun _ _ _ _ _ _ us hl => match us, hl with | [_, _, _, _], _ => rfl), d_is_row := def_of X G d_is_row (fun _ _ _ _ _ _ us hl => match us, hl with | [_, _], _ => rfl), d_need_problem := def_of X G d_need_problem (fun _ _ _ _ _ _ us hl => match us, hl with | [_, _, _], _ => rfl), d_Problem_init := defj_of X G g_Problem d_Problem_init (fun _ _ _ _ _ _ us hl => match us, hl with | [_, _, _, _], _ => rfl), d_sum_at := def_of X G d_sum_at (fun _ _ _ _ _ _ us hl => match us, hl with | [_, _], _ => rfl), d_need_box := def_of X G d_need_box (fun _ _ _ _ _ _ us hl => match us, hl with | [_, _], _ => rfl), d_alone := def_of X G d_alone (fun _ _ _ _ _ _ us hl => match us, hl with | [_, _, _], _ => rfl), d_facts := def_of X G d_facts (fun _ _ _ _ _ _ us hl => match us, hl with | [_, _], _ => rfl), d_turned_line := def_of X G d_turned_line (fun _ _ _ _ _ _ us hl => match us, hl with | [_, _, _, _, _], _ => rfl), d_turned := def_of X G d_turned (fun _ _ _ _ _ _ us hl => match us, hl with | [_, _, _, _], _ => rfl), d_Tableau_init := defj_of X G g_Tableau d_Tableau_init (fun _ _ _ _ _ _ us hl => match us, hl with | [_, _, _], _ => rfl), d_Tableau_wrong := defm_of d_Tableau_wrong (fun _ _ _ _ _ _ us hl => match us, hl with | [_], _ => rfl), d_Tableau_partner := defm_of d_Tableau_partner (fun _ _ _ _ _ _ us hl => match us, hl with | [_, _], _ => rfl), d_Tableau_change := defm_of d_Tableau_change (fun _ _ _ _ _ _ us hl => match us, hl with | [_, _, _], _ => rfl), d_Tableau_told_noneN := defm_of d_Tableau_told_noneN (fun _ _ _ _ _ _ us hl => match us, hl with | [_, _], _ => rfl), d_Tableau_told_mostN := defm_of d_Tableau_told_mostN (fun _ _ _ _ _ _ us hl => match us, hl with | [_], _ => rfl), d_looseN := def_of X G d_looseN (fun _ _ _ _ _ _ us hl => match us, hl with | [_, _], _ => rfl), d_law_cell_at := def_of X G d_law_cell_at (fun _ _ _ _ _ _ us hl => match us, hl with | [_, _], _ => rfl), d_law_whole := def_of X G d_law_whole (fun _ _ _ _ _ _ us hl => match us, hl with | [_], _ => rfl), d_law_number := def_of X G d_law_number (fun _ _ _ _ _ _ us hl => match us, hl with | [_, _], _ => rfl), d_law_bound := def_of X G d_law_bound (fun _ _ _ _ _ _ us hl => match us, hl with | [_, _], _ => rfl), d_law_tops := def_of X G d_law_tops (fun _ _ _ _ _ _ us hl => match us, hl with | [_], _ => rfl), d_law_kind := def_of X G d_law_kind (fun _ _ _ _ _ _ us hl => match us, hl with | [_], _ => rfl), d_law_gain := def_of X G d_law_gain (fun _ _ _ _ _ _ us hl => match us, hl with | [_], _ => rfl), d_law_rows := def_of X G d_law_rows (fun _ _ _ _ _ _ us hl => match us, hl with | [_], _ => rfl), d_law_box := def_of X G d_law_box (fun _ _ _ _ _ _ us hl => match us, hl with | [_, _], _ => rfl), d_law_facts := def_of X G d_law_facts (fun _ _ _ _ _ _ us hl => match us, hl with | [_, _], _ => rfl), d_law_summed := def_of X G d_law_summed (fun _ _ _ _ _ _ us hl => match us, hl with | [_, _], _ => rfl), d_law_are_weights := def_of X G d_law_are_weights (fun _ _ _ _ _ _ us hl => match us, hl with | [_, _], _ => rfl), d_law_spot := def_of X G d_law_spot (fun _ _ _ _ _ _ us hl => match us, hl with | [_, _], _ => rfl), d_law_most := def_of X G d_law_most (fun _ _ _ _ _ _ us hl => match us, hl with | [_, _, _], _ => rfl), d_law_right := def_of X G d_law_right (fun _ _ _ _ _ _ us hl => match us, hl with | [_, _, _], _ => rfl), d_law := def_of X G d_law (fun _ _ _ _ _ _ us hl => match us, hl with | [_], _ => rfl) }
  exact fin_of X G hfa d_law (fun _ _ _ _ _ _ _ => rfl) fun base f fd F => ok_law T F
end D
open PySem PySem.W PyProof.Rows
set_option maxRecDepth 100000 in
set_option maxHeartbeats 0 in
theorem PySem.Challenge.cw_wholecut_k06_whole_loosened_holds : PySem.Challenge.rw_wholecut_k06_whole_loosened.Holds := by
  w_on; o_law; k_head; (case hw => w_witness2)
  k_fill
  refine L2.walk_of (l := PySem.Challenge.rw_wholecut_k06_whole_loosened) (n := 63) (k := 7) (x := "_law_script") (CX := fun _ => L2.CX0) (sp := fun w => D.spD (D.S_law _ D.cs0)) rfl (by decide) rfl ⟨rfl, by decide, by decide⟩ (fun w h Y => PySem.W.kIn_of Y) ?F (fun _ _ a ns hl _ hS => D.sp_law_of hl hS) fun _ _ _ _ _ z => z
  case F =>
    intro w mg fa h KX G hmg
    refine' D.fin KX G hmg ?b_abs ?b_bool ?b_enumerate ?b_int ?b_isinstance ?b_len ?b_list ?b_min ?b_range ?b_str ?b_sum ?b_tuple ?b_zip ?g_GREATEST ?g_GREATEST_BOUND ?g_MOST_ROWS ?g_MOST_TOP ?g_MOST_UNKNOWNS ?g_Problem ?g_Tableau ?g_BadProblem ?g_BadBox ?g_NoTurn ?g_CutError ?x_BadBox ?k_BadBox ?bx_BadBox ?tx_BadBox ?x_BadProblem ?k_BadProblem ?bx_BadProblem ?tx_BadProblem ?x_NoTurn ?k_NoTurn ?bx_NoTurn ?tx_NoTurn ?pg_Problem ?hd_Problem ?po_Problem ?sa_Problem ?n_Problem_gain ?n_Problem_rows ?n_Problem_tops ?pg_Tableau ?hd_Tableau ?po_Tableau ?sa_Tableau ?n_Tableau_beside ?n_Tableau_lines ?n_Tableau_lows ?n_Tableau_many ?n_Tableau_over ?n_Tableau_scale ?d_between ?d_are_between ?d_is_row ?d_need_problem ?d_Problem_init ?d_sum_at ?d_need_box ?d_alone ?d_facts ?d_turned_line ?d_turned ?d_Tableau_init ?d_Tableau_wrong ?d_Tableau_partner ?d_Tableau_change ?d_Tableau_told_noneN ?d_Tableau_told_mostN ?d_looseN ?d_law_cell_at ?d_law_whole ?d_law_number ?d_law_bound ?d_law_tops ?d_law_kind ?d_law_gain ?d_law_rows ?d_law_box ?d_law_facts ?d_law_summed ?d_law_are_weights ?d_law_spot ?d_law_most ?d_law_right ?d_law
    (case b_abs => k_is)
    (case b_bool => k_is)
    (case b_enumerate => k_is)
    (case b_int => k_is)
    (case b_isinstance => k_is)
    (case b_len => k_is)
    (case b_list => k_is)
    (case b_min => k_is)
    (case b_range => k_is)
    (case b_str => k_is)
    (case b_sum => k_is)
    (case b_tuple => k_is)
    (case b_zip => k_is)
    (case g_GREATEST => (refine' D.ex_int ?h; (case h => k_is)))
    (case g_GREATEST_BOUND => (refine' D.ex_int ?h; (case h => k_is)))
    (case g_MOST_ROWS => (refine' D.ex_int ?h; (case h => k_is)))
    (case g_MOST_TOP => (refine' D.ex_int ?h; (case h => k_is)))
    (case g_MOST_UNKNOWNS => (refine' D.ex_int ?h; (case h => k_is)))
    (case g_Problem => k_is)
    (case g_Tableau => k_is)
    (case g_BadProblem => k_is)
    (case g_BadBox => k_is)
    (case g_NoTurn => k_is)
    (case g_CutError => k_is)
    (case x_BadBox => k_exc)
    (case k_BadBox => k_is)
    (case bx_BadBox => k_is)
    (case tx_BadBox => k_is)
    (case x_BadProblem => k_exc)
    (case k_BadProblem => k_is)
    (case bx_BadProblem => k_is)
    (case tx_BadProblem => k_is)
    (case x_NoTurn => k_exc)
    (case k_NoTurn => k_is)
    (case bx_NoTurn => k_is)
    (case tx_NoTurn => k_is)
    (case pg_Problem => k_is)
    (case hd_Problem => k_is)
    (case po_Problem => k_is)
    (case sa_Problem => k_is)
    (case n_Problem_gain => k_is)
    (case n_Problem_rows => k_is)
    (case n_Problem_tops => k_is)
    (case pg_Tableau => k_is)
    (case hd_Tableau => k_is)
    (case po_Tableau => k_is)
    (case sa_Tableau => k_is)
    (case n_Tableau_beside => k_is)
    (case n_Tableau_lines => k_is)
    (case n_Tableau_lows => k_is)
    (case n_Tableau_many => k_is)
    (case n_Tableau_over => k_is)
    (case n_Tableau_scale => k_is)
    (case d_between => (refine' D.DefK.mk_ ?a ?l ?c ?k; (case a => k_is); (case l => k_is); (case c => k_is); (case k => k_is)))
    (case d_are_between => (refine' D.DefK.mk_ ?a ?l ?c ?k; (case a => k_is); (case l => k_is); (case c => k_is); (case k => k_is)))
    (case d_is_row => (refine' D.DefK.mk_ ?a ?l ?c ?k; (case a => k_is); (case l => k_is); (case c => k_is); (case k => k_is)))
    (case d_need_problem => (refine' D.DefK.mk_ ?a ?l ?c ?k; (case a => k_is); (case l => k_is); (case c => k_is); (case k => k_is)))
    (case d_Problem_init => (refine' D.DefIK.mk_ ?a ?b ?l ?c ?k ?m ?n; (case a => k_is); (case b => k_is); (case l => k_is); (case c => k_is); (case k => k_is); (case m => k_is); (case n => k_is)))
    (case d_sum_at => (refine' D.DefK.mk_ ?a ?l ?c ?k; (case a => k_is); (case l => k_is); (case c => k_is); (case k => k_is)))
    (case d_need_box => (refine' D.DefK.mk_ ?a ?l ?c ?k; (case a => k_is); (case l => k_is); (case c => k_is); (case k => k_is)))
    (case d_alone => (refine' D.DefK.mk_ ?a ?l ?c ?k; (case a => k_is); (case l => k_is); (case c => k_is); (case k => k_is)))
    (case d_facts => (refine' D.DefK.mk_ ?a ?l ?c ?k; (case a => k_is); (case l => k_is); (case c => k_is); (case k => k_is)))
    (case d_turned_line => (refine' D.DefK.mk_ ?a ?l ?c ?k; (case a => k_is); (case l => k_is); (case c => k_is); (case k => k_is)))
    (case d_turned => (refine' D.DefK.mk_ ?a ?l ?c ?k; (case a => k_is); (case l => k_is); (case c => k_is); (case k => k_is)))
    (case d_Tableau_init => (refine' D.DefIK.mk_ ?a ?b ?l ?c ?k ?m ?n; (case a => k_is); (case b => k_is); (case l => k_is); (case c => k_is); (case k => k_is); (case m => k_is); (case n => k_is)))
    (case d_Tableau_wrong => (refine' D.DefMK.mk_ ?a ?b ?l ?c ?k; (case a => k_is); (case b => k_is); (case l => k_is); (case c => k_is); (case k => k_is)))
    (case d_Tableau_partner => (refine' D.DefMK.mk_ ?a ?b ?l ?c ?k; (case a => k_is); (case b => k_is); (case l => k_is); (case c => k_is); (case k => k_is)))
    (case d_Tableau_change => (refine' D.DefMK.mk_ ?a ?b ?l ?c ?k; (case a => k_is); (case b => k_is); (case l => k_is); (case c => k_is); (case k => k_is)))
    (case d_Tableau_told_noneN => (refine' D.DefMK.mk_ ?a ?b ?l ?c ?k; (case a => k_is); (case b => k_is); (case l => k_is); (case c => k_is); (case k => k_is)))
    (case d_Tableau_told_mostN => (refine' D.DefMK.mk_ ?a ?b ?l ?c ?k; (case a => k_is); (case b => k_is); (case l => k_is); (case c => k_is); (case k => k_is)))
    (case d_looseN => (refine' D.DefK.mk_ ?a ?l ?c ?k; (case a => k_is); (case l => k_is); (case c => k_is); (case k => k_is)))
    (case d_law_cell_at => (refine' D.DefK.mk_ ?a ?l ?c ?k; (case a => k_is); (case l => k_is); (case c => k_is); (case k => k_is)))
    (case d_law_whole => (refine' D.DefK.mk_ ?a ?l ?c ?k; (case a => k_is); (case l => k_is); (case c => k_is); (case k => k_is)))
    (case d_law_number => (refine' D.DefK.mk_ ?a ?l ?c ?k; (case a => k_is); (case l => k_is); (case c => k_is); (case k => k_is)))
    (case d_law_bound => (refine' D.DefK.mk_ ?a ?l ?c ?k; (case a => k_is); (case l => k_is); (case c => k_is); (case k => k_is)))
    (case d_law_tops => (refine' D.DefK.mk_ ?a ?l ?c ?k; (case a => k_is); (case l => k_is); (case c => k_is); (case k => k_is)))
    (case d_law_kind => (refine' D.DefK.mk_ ?a ?l ?c ?k; (case a => k_is); (case l => k_is); (case c => k_is); (case k => k_is)))
    (case d_law_gain => (refine' D.DefK.mk_ ?a ?l ?c ?k; (case a => k_is); (case l => k_is); (case c => k_is); (case k => k_is)))
    (case d_law_rows => (refine' D.DefK.mk_ ?a ?l ?c ?k; (case a => k_is); (case l => k_is); (case c => k_is); (case k => k_is)))
    (case d_law_box => (refine' D.DefK.mk_ ?a ?l ?c ?k; (case a => k_is); (case l => k_is); (case c => k_is); (case k => k_is)))
    (case d_law_facts => (refine' D.DefK.mk_ ?a ?l ?c ?k; (case a => k_is); (case l => k_is); (case c => k_is); (case k => k_is)))
    (case d_law_summed => (refine' D.DefK.mk_ ?a ?l ?c ?k; (case a => k_is); (case l => k_is); (case c => k_is); (case k => k_is)))
    (case d_law_are_weights => (refine' D.DefK.mk_ ?a ?l ?c ?k; (case a => k_is); (case l => k_is); (case c => k_is); (case k => k_is)))
    (case d_law_spot => (refine' D.DefK.mk_ ?a ?l ?c ?k; (case a => k_is); (case l => k_is); (case c => k_is); (case k => k_is)))
    (case d_law_most => (refine' D.DefK.mk_ ?a ?l ?c ?k; (case a => k_is); (case l => k_is); (case c => k_is); (case k => k_is)))
    (case d_law_right => (refine' D.DefK.mk_ ?a ?l ?c ?k; (case a => k_is); (case l => k_is); (case c => k_is); (case k => k_is)))
    (case d_law => (refine' D.DefK.mk_ ?a ?l ?c ?k; (case a => k_is); (case l => k_is); (case c => k_is); (case k => k_is)))
#print axioms PySem.Challenge.cw_wholecut_k06_whole_loosened_holds
