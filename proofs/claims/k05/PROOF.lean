import PyProof.Rows.All
import Wide.All
import OpenK.AllK
import Wide.FinOn
import HandS.ForMost
import HandS.ForExc
import HandS.IsInst
import HandS.Conv
import HandS.Wide
import HandS.TupMul
import HandS.TupAny
import HandS.Zip
import HandS.Style
import HandS.ExcIs
import PySem.Challenge.RW_wholecut_k05_tables_turned
set_option Elab.async false
set_option linter.all false
set_option maxRecDepth 100000
set_option maxHeartbeats 4000000
namespace D
open PySem PySem.Spec PyProof.Rows L2

/-! ### data in a heap -/
mutual
def repD : PyData → V → Hp → Prop
  | .none, v, _ => v = .non
  | .bool b, v, _ => v = .bl b
  | .int i, v, _ => v = .int i
  | .str x, v, _ => v = .str x
  | .list ds, v, H => ∃ p vs, v = .ref p ∧ H p = some (.lst vs) ∧ repL ds vs H
  | .tuple ds, v, H => ∃ p vs, v = .ref p ∧ H p = some (.tup vs) ∧ repL ds vs H
  | .dict _, _, _ => False
def repL : List PyData → List V → Hp → Prop
  | [], vs, _ => vs = []
  | d :: ds, vs, H => ∃ v r, vs = v :: r ∧ repD d v H ∧ repL ds r H
end
mutual
theorem repD_mono {H H' : Hp} (s : Same H H') : ∀ (d : PyData) (v : V), repD d v H → repD d v H'
  | .none, _, h => by simp only [repD] at h ⊢; exact h
  | .bool b, _, h => by simp only [repD] at h ⊢; exact h
  | .int i, _, h => by simp only [repD] at h ⊢; exact h
  | .str x, _, h => by simp only [repD] at h ⊢; exact h
  | .list ds, _, h => by
    simp only [repD] at h ⊢
    obtain ⟨p, vs, e, h1, h2⟩ := h
    exact ⟨p, vs, e, s _ _ h1, repL_mono s ds vs h2⟩
  | .tuple ds, _, h => by
    simp only [repD] at h ⊢
    obtain ⟨p, vs, e, h1, h2⟩ := h
    exact ⟨p, vs, e, s _ _ h1, repL_mono s ds vs h2⟩
  | .dict _, _, h => by simp only [repD] at h
theorem repL_mono {H H' : Hp} (s : Same H H') : ∀ (ds : List PyData) (vs : List V), repL ds vs H → repL ds vs H'
  | [], _, h => by simp only [repL] at h ⊢; exact h
  | d :: ds, _, h => by
    simp only [repL] at h ⊢
    obtain ⟨v, r, e, h1, h2⟩ := h
    exact ⟨v, r, e, repD_mono s d v h1, repL_mono s ds r h2⟩
end
theorem repL_length : ∀ {ds : List PyData} {vs : List V} {H : Hp}, repL ds vs H → vs.length = ds.length
  | [], _, _, h => by simp only [repL] at h; subst h; rfl
  | d :: ds, _, _, h => by
    simp only [repL] at h
    obtain ⟨v, r, e, _, h2⟩ := h
    subst e
    simp [repL_length h2]
theorem repL_get : ∀ {ds : List PyData} {vs : List V} {H : Hp} {i : Nat} {d : PyData}, repL ds vs H → ds[i]? = some d → ∃ v, vs[i]? = some v ∧ repD d v H
  | [], _, _, _, _, _, h => by simp at h
  | a :: ds, _, _, 0, d, h, e => by
    simp only [repL] at h
    obtain ⟨v, r, e1, h1, _⟩ := h
    simp at e
    subst e e1
    exact ⟨v, rfl, h1⟩
  | a :: ds, _, _, i + 1, d, h, e => by
    simp only [repL] at h
    obtain ⟨v, r, e1, _, h2⟩ := h
    subst e1
    simp at e
    obtain ⟨v', h3, h4⟩ := repL_get h2 e
    exact ⟨v', by simpa using h3, h4⟩
theorem repL_append : ∀ {ds es : List PyData} {vs ws : List V} {H : Hp}, repL ds vs H → repL es ws H → repL (ds ++ es) (vs ++ ws) H
  | [], _, _, _, _, h, h' => by simp only [repL] at h; subst h; exact h'
  | d :: ds, es, _, ws, H, h, h' => by
    simp only [repL] at h
    obtain ⟨v, r, e1, h1, h2⟩ := h
    subst e1
    show repL (d :: (ds ++ es)) (v :: (r ++ ws)) H
    simp only [repL]
    exact ⟨v, r ++ ws, rfl, h1, repL_append h2 h'⟩
theorem repL_one {d : PyData} {v : V} {H : Hp} (h : repD d v H) : repL [d] [v] H := by
  simp only [repL]
  exact ⟨v, [], rfl, h, rfl⟩
theorem repL_drop : ∀ {ds : List PyData} {vs : List V} {H : Hp} (n : Nat), repL ds vs H → repL (ds.drop n) (vs.drop n) H
  | _, _, _, 0, h => h
  | [], _, _, n + 1, h => by simp only [repL] at h; subst h; simp [repL]
  | d :: ds, _, _, n + 1, h => by
    simp only [repL] at h
    obtain ⟨v, r, e1, _, h2⟩ := h
    subst e1
    exact repL_drop n h2
theorem repL_take : ∀ {ds : List PyData} {vs : List V} {H : Hp} (n : Nat), repL ds vs H → repL (ds.take n) (vs.take n) H
  | _, _, _, 0, h => by simp [repL]
  | [], _, _, n + 1, h => by simp only [repL] at h; subst h; simp [repL]
  | d :: ds, _, _, n + 1, h => by
    simp only [repL] at h
    obtain ⟨v, r, e1, h1, h2⟩ := h
    subst e1
    show repL (d :: ds.take n) (v :: r.take n) _
    simp only [repL]
    exact ⟨v, _, rfl, h1, repL_take n h2⟩
theorem repL_set : ∀ {ds : List PyData} {vs : List V} {H : Hp} {d : PyData} {v : V} (i : Nat), repL ds vs H → repD d v H → repL (ds.set i d) (vs.set i v) H
  | [], _, _, _, _, i, h, _ => by simp only [repL] at h; subst h; simp [repL]
  | d :: ds, _, H, e, w, 0, h, h' => by
    simp only [repL] at h
    obtain ⟨v, r, e1, h1, h2⟩ := h
    subst e1
    show repL (e :: ds) (w :: r) H
    simp only [repL]
    exact ⟨w, r, rfl, h', h2⟩
  | d :: ds, _, H, e, w, i + 1, h, h' => by
    simp only [repL] at h
    obtain ⟨v, r, e1, h1, h2⟩ := h
    subst e1
    show repL (d :: ds.set i e) (v :: r.set i w) H
    simp only [repL]
    exact ⟨v, _, rfl, h1, repL_set i h2 h'⟩
theorem repL_replicate {d : PyData} {v : V} {H : Hp} (h : repD d v H) : ∀ n : Nat, repL (List.replicate n d) (List.replicate n v) H
  | 0 => by simp [repL]
  | n + 1 => by
    show repL (d :: List.replicate n d) (v :: List.replicate n v) H
    simp only [repL]
    exact ⟨v, _, rfl, h, repL_replicate h n⟩
theorem repL_ints : ∀ {ns : List Int} {vs : List V} {H : Hp}, repL (ns.map PyData.int) vs H → vs = ns.map V.int
  | [], _, _, h => by simpa only [repL, List.map_nil] using h
  | n :: ns, _, _, h => by
    simp only [List.map_cons, repL, repD] at h
    obtain ⟨v, r, e1, e2, h2⟩ := h
    subst e1 e2
    rw [List.map_cons, ← repL_ints h2]
theorem repL_of_ints : ∀ (ns : List Int) (H : Hp), repL (ns.map PyData.int) (ns.map V.int) H
  | [], _ => by simp [repL]
  | n :: ns, H => by
    simp only [List.map_cons, repL, repD]
    exact ⟨_, _, rfl, rfl, repL_of_ints ns H⟩
mutual
theorem repD_Dp {K : PySem.W.Frag} {H : Hp} : ∀ (d : PyData) (v : V), repD d v H → Dp K H v d
  | .none, _, h => by simp only [repD] at h; subst h; exact .non
  | .bool b, _, h => by simp only [repD] at h; subst h; exact .bl b
  | .int i, _, h => by simp only [repD] at h; subst h; exact .int i
  | .str x, _, h => by simp only [repD] at h; subst h; exact .str x
  | .list ds, _, h => by
    simp only [repD] at h
    obtain ⟨p, vs, e, h1, h2⟩ := h
    subst e
    exact .lst (.inl (.inl h1)) (repL_Dp ds vs h2)
  | .tuple ds, _, h => by
    simp only [repD] at h
    obtain ⟨p, vs, e, h1, h2⟩ := h
    subst e
    exact .tup (.inl (.inl h1)) (repL_Dp ds vs h2)
  | .dict _, _, h => by simp only [repD] at h
theorem repL_Dp {K : PySem.W.Frag} {H : Hp} : ∀ (ds : List PyData) (vs : List V), repL ds vs H → DpAll K H vs ds
  | [], _, h => by simp only [repL] at h; subst h; exact .nil
  | d :: ds, _, h => by
    simp only [repL] at h
    obtain ⟨v, r, e, h1, h2⟩ := h
    subst e
    exact .cons (repD_Dp d v h1) (repL_Dp ds r h2)
end

/-! ### persistent properties of values -/
structure RP where
  p : V → Hp → Prop
  mono : ∀ {v : V} {H H' : Hp}, p v H → Same H H' → p v H'
def rpD (d : PyData) : RP := ⟨repD d, fun h s => repD_mono s d _ h⟩
class ToPy (α : Type) where
  py : α → PyData
  dft : α
open ToPy (py)
def rep {α : Type} [ToPy α] (a : α) : RP := rpD (py a)
/-- a tuple of things alike; a tuple of three -/
structure Tup (α : Type) where
  l : List α
structure T3 (α β γ : Type) where
  a : α
  b : β
  c : γ
instance : ToPy Int := ⟨.int, 0⟩
instance : ToPy Bool := ⟨.bool, false⟩
instance : ToPy Str := ⟨.str, ""⟩
instance : ToPy Unit := ⟨fun _ => .none, ()⟩
instance : ToPy PyData := ⟨id, .none⟩
instance {α : Type} [ToPy α] : ToPy (List α) := ⟨fun l => .list (l.map py), []⟩
instance {α : Type} [ToPy α] : ToPy (Tup α) := ⟨fun l => .tuple (l.l.map py), ⟨[]⟩⟩
instance {α : Type} [ToPy α] : ToPy (Option α) := ⟨fun o => match o with | none => .none | some a => py a, none⟩
instance {α β : Type} [ToPy α] [ToPy β] : ToPy (α × β) := ⟨fun x => .tuple [py x.1, py x.2], (ToPy.dft, ToPy.dft)⟩
instance {α β γ : Type} [ToPy α] [ToPy β] [ToPy γ] : ToPy (T3 α β γ) := ⟨fun x => .tuple [py x.a, py x.b, py x.c], ⟨ToPy.dft, ToPy.dft, ToPy.dft⟩⟩
/-- the object at p, in our own hands -/
def own (p : Addr) : RP := ⟨fun v _ => v = .ref p, fun h _ => h⟩
/-- what does not lean on the heap -/
def Flat (R : RP) : Prop := ∀ v H H', R.p v H → R.p v H'
theorem flat_int (i : Int) : Flat (rep i) := fun v H H' h => by
  have h : repD (.int i) v H := h
  show repD (.int i) v H'
  simp only [repD] at h ⊢
  exact h
theorem flat_bool (i : Bool) : Flat (rep i) := fun v H H' h => by
  have h : repD (.bool i) v H := h
  show repD (.bool i) v H'
  simp only [repD] at h ⊢
  exact h
theorem flat_str (i : Str) : Flat (rep i) := fun v H H' h => by
  have h : repD (.str i) v H := h
  show repD (.str i) v H'
  simp only [repD] at h ⊢
  exact h
theorem flat_unit : Flat (rep ()) := fun v H H' h => by
  have h : repD (.none) v H := h
  show repD (.none) v H'
  simp only [repD] at h ⊢
  exact h
def All : List RP → List V → Hp → Prop
  | [], vs, _ => vs = []
  | R :: Rs, vs, H => ∃ v r, vs = v :: r ∧ R.p v H ∧ All Rs r H
theorem All.mono {H H' : Hp} (s : Same H H') : ∀ {Rs : List RP} {vs : List V}, All Rs vs H → All Rs vs H'
  | [], _, h => h
  | R :: Rs, _, ⟨v, r, e, h1, h2⟩ => ⟨v, r, e, R.mono h1 s, All.mono s h2⟩
theorem All.length {H : Hp} : ∀ {Rs : List RP} {vs : List V}, All Rs vs H → vs.length = Rs.length
  | [], _, h => by subst h; rfl
  | R :: Rs, _, ⟨v, r, e, h1, h2⟩ => by subst e; simp [All.length h2]
theorem All.get {H : Hp} : ∀ {Rs : List RP} {vs : List V} {i : Nat} {R : RP}, All Rs vs H → Rs[i]? = some R → ∃ v, vs[i]? = some v ∧ R.p v H
  | [], _, _, _, _, e => by simp at e
  | R :: Rs, _, 0, R', ⟨v, r, e, h1, h2⟩, e' => by
    subst e
    simp at e'
    subst e'
    exact ⟨v, rfl, h1⟩
  | R :: Rs, _, i + 1, R', ⟨v, r, e, h1, h2⟩, e' => by
    subst e
    simp at e'
    obtain ⟨v', h3, h4⟩ := All.get h2 e'
    exact ⟨v', by simpa using h3, h4⟩
/-- what an owned object holds -/
structure OT where
  q : HO → Hp → Prop
  mono : ∀ {o : HO} {H H' : Hp}, q o H → Same H H' → q o H'
def oLD (ds : List PyData) : OT := ⟨fun o f => ∃ vs, o = .lst vs ∧ repL ds vs f, fun ⟨vs, e, h⟩ s => ⟨vs, e, repL_mono s _ _ h⟩⟩
def oL {α : Type} [ToPy α] (xs : List α) : OT := oLD (xs.map py)

/-! ### how heaps go on: f the part that stands for good, h the whole -/
structure Ext (f h f' h' : Hp) : Prop where
  ff : Same f f'
  hh : Same h h'
  fh : Same f' h'
  nf : ∀ a, h a ≠ none → f a = none → f' a = none
theorem Ext.refl {f h : Hp} (s : Same f h) : Ext f h f h := ⟨.refl _, .refl _, s, fun _ _ e => e⟩
theorem Ext.trans {f h f1 h1 f2 h2 : Hp} (a : Ext f h f1 h1) (b : Ext f1 h1 f2 h2) : Ext f h f2 h2 :=
  ⟨a.ff.trans b.ff, a.hh.trans b.hh, b.fh, fun x n e => b.nf x (fun z => n (a.hh.free z)) (a.nf x n e)⟩
theorem same_new {H : Hp} {p : Addr} {o : HO} (hp : H p = none) : Same H (upd H p o) := fun b u e => by
  rw [upd_ne (ne_of_none e hp)]
  exact e
theorem same_upd {f h : Hp} {p : Addr} {o : HO} (s : Same f h) (hp : f p = none) : Same f (upd h p o) := fun b u e => by
  rw [upd_ne (ne_of_none e hp)]
  exact s b u e
theorem same_both {f h : Hp} {p : Addr} {o : HO} (s : Same f h) : Same (upd f p o) (upd h p o) := fun b u e => by
  by_cases hb : b = p
  · subst hb
    rw [upd_same] at e ⊢
    exact e
  · rw [upd_ne hb] at e ⊢
    exact s b u e
theorem Ext.new {f h : Hp} {p : Addr} {o : HO} (s : Same f h) (hp : h p = none) : Ext f h (upd f p o) (upd h p o) :=
  ⟨same_new (s.free hp), same_new hp, same_both s, fun a n e => by
    rw [upd_ne (fun z => n (by rw [z]; exact hp))]
    exact e⟩
theorem Ext.newH {f h : Hp} {p : Addr} {o : HO} (s : Same f h) (hp : h p = none) : Ext f h f (upd h p o) :=
  ⟨.refl _, same_new hp, s.trans (same_new hp), fun _ _ e => e⟩
/-- what was made new may stand for good from now on -/
theorem Ext.frz {f h f' h' : Hp} {p : Addr} {o : HO} (e : Ext f h f' h') (hp : h p = none) (ho : h' p = some o) (hf : f' p = none) : Ext f h (upd f' p o) h' :=
  ⟨e.ff.trans (same_new hf), e.hh, fun b u q => by
    by_cases hb : b = p
    · subst hb
      rw [upd_same] at q
      cases q
      exact ho
    · rw [upd_ne hb] at q
      exact e.fh b u q, fun a n z => by
    rw [upd_ne (fun y => n (by rw [y]; exact hp))]
    exact e.nf a n z⟩

/-! ### contexts: what each slot holds -/
abbrev Ctx := List (Option RP)
def Ok (Γ : Ctx) (σ : L2.St) (f : Hp) : Prop := σ.length = Γ.length ∧ ∀ (i : Nat) (R : RP), Γ[i]? = some (some R) → ∃ v, σ[i]? = some (some v) ∧ R.p v f
theorem Ok.mono {Γ : Ctx} {σ : L2.St} {f f' : Hp} (h : Ok Γ σ f) (s : Same f f') : Ok Γ σ f' := ⟨h.1, fun i R e => by
  obtain ⟨v, h1, h2⟩ := h.2 i R e
  exact ⟨v, h1, R.mono h2 s⟩⟩
theorem Ok.set {Γ : Ctx} {σ : L2.St} {f : Hp} {R : RP} {v : V} (i : Nat) (h : Ok Γ σ f) (hv : R.p v f) : Ok (Γ.set i (some R)) (σ.set i (some v)) f := by
  refine ⟨by simp [h.1], fun j R' e => ?_⟩
  by_cases hj : i = j
  · subst hj
    by_cases hl : i < Γ.length
    · rw [List.getElem?_set_self hl] at e
      cases e
      exact ⟨v, List.getElem?_set_self (by rw [h.1]; exact hl), hv⟩
    · rw [List.getElem?_eq_none (by simpa using Nat.le_of_not_lt hl)] at e
      cases e
  · rw [List.getElem?_set_ne hj] at e
    obtain ⟨u, h1, h2⟩ := h.2 j R' e
    exact ⟨u, by rw [List.getElem?_set_ne hj]; exact h1, h2⟩
theorem Ok.setn {Γ : Ctx} {σ : L2.St} {f : Hp} {s : Option V} (i : Nat) (h : Ok Γ σ f) : Ok (Γ.set i none) (σ.set i s) f := by
  refine ⟨by simp [h.1], fun j R' e => ?_⟩
  by_cases hj : i = j
  · subst hj
    by_cases hl : i < Γ.length
    · rw [List.getElem?_set_self hl] at e
      cases e
    · rw [List.getElem?_eq_none (by simpa using Nat.le_of_not_lt hl)] at e
      cases e
  · rw [List.getElem?_set_ne hj] at e
    obtain ⟨u, h1, h2⟩ := h.2 j R' e
    exact ⟨u, by rw [List.getElem?_set_ne hj]; exact h1, h2⟩

/-! ### what readings come to -/
def EvD (Γ : Ctx) (te : TE) (R : RP) : Prop := ∀ σ f h, Same f h → Ok Γ σ f → ∀ Q : VK, (∀ v f' h', Ext f h f' h' → R.p v f' → Q v h') → te σ h Q
def EvT (Γ : Ctx) (tt : TT) (b : Bool) : Prop := ∀ σ f h, Same f h → Ok Γ σ f → ∀ Q : Bool → Hp → Prop, (∀ f' h', Ext f h f' h' → Q b h') → tt σ h Q
def EvA (Γ : Ctx) (ta : TA) (Rs : List RP) : Prop := ∀ σ f h, Same f h → Ok Γ σ f → ∀ Q : List V → Hp → Prop, (∀ vs f' h', Ext f h f' h' → All Rs vs f' → Q vs h') → ta σ h Q
def EvP (Γ : Ctx) (to : TO) (o : Option Int) : Prop := ∀ σ f h, Same f h → Ok Γ σ f → ∀ Q : Option Int → Hp → Prop, (∀ f' h', Ext f h f' h' → Q o h') → to σ h Q
/-- a new object -/
def EvN (Γ : Ctx) (te : TE) (T : OT) : Prop := ∀ σ f h, Same f h → Ok Γ σ f → ∀ Q : VK, (∀ p o f' h', Ext f h f' h' → h p = none → f' p = none → h' p = some o → T.q o f' → Q (.ref p) h') → te σ h Q
def R2D (r : R2) (Ra Rb R : RP) : Prop := ∀ x y f h, Same f h → Ra.p x f → Rb.p y f → ∀ Q : VK, (∀ v f' h', Ext f h f' h' → R.p v f' → Q v h') → r x y h Q
def R2N (r : R2) (Ra Rb : RP) (T : OT) : Prop := ∀ x y f h, Same f h → Ra.p x f → Rb.p y f → ∀ Q : VK, (∀ p o f' h', Ext f h f' h' → h p = none → f' p = none → h' p = some o → T.q o f' → Q (.ref p) h') → r x y h Q
def R1D (r : V → Hp → VK → Prop) (Ra R : RP) : Prop := ∀ x f h, Same f h → Ra.p x f → ∀ Q : VK, (∀ v f' h', Ext f h f' h' → R.p v f' → Q v h') → r x h Q
def RcD (r : List V → Hp → VK → Prop) (Rs : List RP) (R : RP) : Prop := ∀ vs f h, Same f h → All Rs vs f → ∀ Q : VK, (∀ v f' h', Ext f h f' h' → R.p v f' → Q v h') → r vs h Q
def RcN (r : List V → Hp → VK → Prop) (Rs : List RP) (T : OT) : Prop := ∀ vs f h, Same f h → All Rs vs f → ∀ Q : VK, (∀ p o f' h', Ext f h f' h' → h p = none → f' p = none → h' p = some o → T.q o f' → Q (.ref p) h') → r vs h Q

section
variable {Γ : Ctx} {te ta tb tc : TE} {tt tu : TT} {R Ra Rb Rc R' : RP} {T : OT} {r : R2}
/-- a new list stands for good -/
theorem EvN.evD {ds : List PyData} (h : EvN Γ te (oLD ds)) : EvD Γ te (rpD (.list ds)) := fun σ f hp s ok Q q =>
  h σ f hp s ok Q fun p o f' h' e n nf ho ht => by
    obtain ⟨vs, rfl, hr⟩ := ht
    refine q (.ref p) (upd f' p (.lst vs)) h' (e.frz n ho nf) ?_
    show repD (.list ds) _ _
    simp only [repD]
    exact ⟨p, vs, rfl, upd_same, repL_mono (same_new nf) _ _ hr⟩
theorem ev_new {α : Type} {_ : ToPy α} {xs : List α} (h : EvN Γ te (oL xs)) : EvD Γ te (rep xs) := EvN.evD h
theorem ev_var {i : Nat} (h : Γ[i]? = some (some R)) : EvD Γ (tVar i) R := fun σ f hp s ok Q q => by
  obtain ⟨v, h1, h2⟩ := ok.2 i R h
  exact ⟨v, h1, q v f hp (.refl s) h2⟩
theorem ev_c {v : V} (h : ∀ H, R.p v H) : EvD Γ (tC v) R := fun σ f hp s ok Q q => q v f hp (.refl s) (h f)
theorem ev_int {i : Int} : EvD Γ (tC (.int i)) (rep i) := ev_c fun H => by show repD (.int i) _ H; simp [repD]
theorem ev_bl {i : Bool} : EvD Γ (tC (.bl i)) (rep i) := ev_c fun H => by show repD (.bool i) _ H; simp [repD]
theorem ev_str {i : Str} : EvD Γ (tC (.str i)) (rep i) := ev_c fun H => by show repD (.str i) _ H; simp [repD]
theorem ev_non : EvD Γ (tC .non) (rep ()) := ev_c fun H => by show repD .none _ H; simp [repD]
theorem ev_op (ha : EvD Γ ta Ra) (hb : EvD Γ tb Rb) (hr : R2D r Ra Rb R) : EvD Γ (tOp r ta tb) R := fun σ f hp s ok Q q =>
  ha σ f hp s ok _ fun x f1 h1 e1 rx => hb σ f1 h1 e1.fh (ok.mono e1.ff) _ fun y f2 h2 e2 ry =>
    hr x y f2 h2 e2.fh (Ra.mono rx e2.ff) ry Q fun v f3 h3 e3 rv => q v f3 h3 ((e1.trans e2).trans e3) rv
theorem ev_opN (ha : EvD Γ ta Ra) (hb : EvD Γ tb Rb) (hr : R2N r Ra Rb T) : EvN Γ (tOp r ta tb) T := fun σ f hp s ok Q q =>
  ha σ f hp s ok _ fun x f1 h1 e1 rx => hb σ f1 h1 e1.fh (ok.mono e1.ff) _ fun y f2 h2 e2 ry =>
    hr x y f2 h2 e2.fh (Ra.mono rx e2.ff) ry Q fun p o f3 h3 e3 n nf ho ht => q p o f3 h3 ((e1.trans e2).trans e3) ((e1.trans e2).hh.free n) nf ho ht
theorem ev_un {r : V → Hp → VK → Prop} (ha : EvD Γ ta Ra) (hr : R1D r Ra R) : EvD Γ (tUn r ta) R := fun σ f hp s ok Q q =>
  ha σ f hp s ok _ fun x f1 h1 e1 rx => hr x f1 h1 e1.fh rx Q fun v f3 h3 e3 rv => q v f3 h3 (e1.trans e3) rv
theorem ev_cast (h : EvD Γ te R) (e : R = R') : EvD Γ te R' := e ▸ h
theorem ev_eq {α : Type} {_ : ToPy α} {a b : α} (h : EvD Γ te (rep a)) (e : a = b) : EvD Γ te (rep b) := e ▸ h
theorem et_eq {a b : Bool} (h : EvT Γ tt a) (e : a = b) : EvT Γ tt b := e ▸ h
theorem rep_bool {b : Bool} {v : V} {f : Hp} (h : (rep b).p v f) : v = .bl b := by
  have h : repD (.bool b) v f := h
  simpa only [repD] using h
theorem rep_int {b : Int} {v : V} {f : Hp} (h : (rep b).p v f) : v = .int b := by
  have h : repD (.int b) v f := h
  simpa only [repD] using h
theorem rep_str {b : Str} {v : V} {f : Hp} (h : (rep b).p v f) : v = .str b := by
  have h : repD (.str b) v f := h
  simpa only [repD] using h
theorem rep_unit {v : V} {f : Hp} (h : (rep ()).p v f) : v = .non := by
  have h : repD .none v f := h
  simpa only [repD] using h
theorem rep_of_int (b : Int) (f : Hp) : (rep b).p (.int b) f := by show repD (.int b) _ f; simp [repD]
theorem rep_of_bool (b : Bool) (f : Hp) : (rep b).p (.bl b) f := by show repD (.bool b) _ f; simp [repD]
theorem rep_of_str (b : Str) (f : Hp) : (rep b).p (.str b) f := by show repD (.str b) _ f; simp [repD]
theorem rep_of_unit (f : Hp) : (rep ()).p .non f := by show repD .none _ f; simp [repD]
theorem rep_list {α : Type} {_ : ToPy α} {xs : List α} {v : V} {f : Hp} (h : (rep xs).p v f) : ∃ p vs, v = .ref p ∧ f p = some (.lst vs) ∧ repL (xs.map py) vs f := by
  have h : repD (.list (xs.map py)) v f := h
  simpa only [repD] using h
theorem rep_tup {α : Type} {_ : ToPy α} {xs : List α} {v : V} {f : Hp} (h : (rep (Tup.mk xs)).p v f) : ∃ p vs, v = .ref p ∧ f p = some (.tup vs) ∧ repL (xs.map py) vs f := by
  have h : repD (.tuple (xs.map py)) v f := h
  simpa only [repD] using h
/-! tests -/
theorem et_val {b : Bool} (h : EvD Γ te (rep b)) : EvT Γ (tB te) b := fun σ f hp s ok Q q => h σ f hp s ok _ fun v f' h' e rv => ⟨b, rep_bool rv, q f' h' e⟩
theorem et_test {b : Bool} (h : EvD Γ te (rep b)) : EvT Γ (tTest te) b := fun σ f hp s ok Q q => h σ f hp s ok _ fun v f' h' e rv => ⟨b, rep_bool rv, q f' h' e⟩
theorem et_not {b : Bool} (h : EvT Γ tt b) : EvT Γ (tNot tt) (!b) := fun σ f hp s ok Q q => h σ f hp s ok _ fun f' h' e => q f' h' e
theorem et_and {a b : Bool} (h1 : EvT Γ tt a) (h2 : a = true → EvT Γ tu b) : EvT Γ (tAnd tt tu) (a && b) := fun σ f hp s ok Q q => h1 σ f hp s ok _ fun f' h' e => by
  cases a with
  | true => exact iteT (h2 rfl σ f' h' e.fh (ok.mono e.ff) _ fun f2 h2 e2 => q f2 h2 (e.trans e2))
  | false => exact iteF (q f' h' e)
theorem et_or {a b : Bool} (h1 : EvT Γ tt a) (h2 : a = false → EvT Γ tu b) : EvT Γ (tOr tt tu) (a || b) := fun σ f hp s ok Q q => h1 σ f hp s ok _ fun f' h' e => by
  cases a with
  | true => exact iteT (q f' h' e)
  | false => exact iteF (h2 rfl σ f' h' e.fh (ok.mono e.ff) _ fun f2 h2 e2 => q f2 h2 (e.trans e2))
theorem ev_and {a b : Bool} (h1 : EvD Γ ta (rep a)) (h2 : a = true → EvD Γ tb (rep b)) : EvD Γ (tAndV ta tb) (rep (a && b)) := fun σ f hp s ok Q q => h1 σ f hp s ok _ fun v f' h' e rv => by
  refine ⟨a, rep_bool rv, ?_⟩
  cases a with
  | true => exact iteT (h2 rfl σ f' h' e.fh (ok.mono e.ff) _ fun v2 f2 h2 e2 r2 => q v2 f2 h2 (e.trans e2) r2)
  | false => exact iteF (q _ f' h' e (rep_of_bool _ _))
theorem ev_or {a b : Bool} (h1 : EvD Γ ta (rep a)) (h2 : a = false → EvD Γ tb (rep b)) : EvD Γ (tOrV ta tb) (rep (a || b)) := fun σ f hp s ok Q q => h1 σ f hp s ok _ fun v f' h' e rv => by
  refine ⟨a, rep_bool rv, ?_⟩
  cases a with
  | true => exact iteT (q _ f' h' e (rep_of_bool _ _))
  | false => exact iteF (h2 rfl σ f' h' e.fh (ok.mono e.ff) _ fun v2 f2 h2 e2 r2 => q v2 f2 h2 (e.trans e2) r2)
theorem ev_not {a : Bool} (h1 : EvD Γ ta (rep a)) : EvD Γ (tNotV ta) (rep (!a)) := fun σ f hp s ok Q q => h1 σ f hp s ok _ fun v f' h' e rv =>
  ⟨a, rep_bool rv, q _ f' h' e (rep_of_bool _ _)⟩
theorem ev_if {b : Bool} (h : EvT Γ tt b) (h1 : b = true → EvD Γ ta R) (h2 : b = false → EvD Γ tb R) : EvD Γ (tIf tt ta tb) R := fun σ f hp s ok Q q => h σ f hp s ok _ fun f' h' e => by
  cases b with
  | true => exact iteT (h1 rfl σ f' h' e.fh (ok.mono e.ff) _ fun v2 f2 h2 e2 r2 => q v2 f2 h2 (e.trans e2) r2)
  | false => exact iteF (h2 rfl σ f' h' e.fh (ok.mono e.ff) _ fun v2 f2 h2 e2 r2 => q v2 f2 h2 (e.trans e2) r2)
/-- a < b < c -/
theorem ev_chain {r r' : R2} {a b : Bool} (h1 : EvD Γ ta Ra) (h2 : EvD Γ tb Rb) (h3 : EvD Γ tc Rc) (hr : R2D r Ra Rb (rep a)) (hr' : a = true → R2D r' Rb Rc (rep b)) : EvD Γ (tChain r r' ta tb tc) (rep (a && b)) := fun σ f hp s ok Q q =>
  h1 σ f hp s ok _ fun x f1 hp1 e1 rx => h2 σ f1 hp1 e1.fh (ok.mono e1.ff) _ fun y f2 hp2 e2 ry =>
    hr x y f2 hp2 e2.fh (Ra.mono rx e2.ff) ry _ fun z f3 hp3 e3 rz => by
      refine ⟨a, rep_bool rz, ?_⟩
      cases a with
      | true =>
        refine iteT (h3 σ f3 hp3 e3.fh (ok.mono ((e1.trans e2).trans e3).ff) _ fun w f4 hp4 e4 rw_ => ?_)
        exact hr' rfl y w f4 hp4 e4.fh (Rb.mono ry (e3.trans e4).ff) rw_ Q fun v f5 hp5 e5 rv => q v f5 hp5 ((((e1.trans e2).trans e3).trans e4).trans e5) rv
      | false => exact iteF (q _ f3 hp3 ((e1.trans e2).trans e3) (rep_of_bool _ _))
/-! arguments -/
theorem ea_nil : EvA Γ tNil [] := fun σ f hp s ok Q q => q [] f hp (.refl s) rfl
theorem ea_cons {tr : TA} {Rs : List RP} (h : EvD Γ te R) (hr : EvA Γ tr Rs) : EvA Γ (tCons te tr) (R :: Rs) := fun σ f hp s ok Q q =>
  h σ f hp s ok _ fun x f1 h1 e1 rx => hr σ f1 h1 e1.fh (ok.mono e1.ff) _ fun vs f2 h2 e2 rs => q (x :: vs) f2 h2 (e1.trans e2) ⟨x, vs, rfl, R.mono rx e2.ff, rs⟩
theorem ep_none : EvP Γ tNoPart none := fun σ f hp s ok Q q => q f hp (.refl s)
theorem ep_some {i : Int} (h : EvD Γ te (rep i)) : EvP Γ (tPart te) (some i) := fun σ f hp s ok Q q => h σ f hp s ok _ fun v f1 h1 e1 rv => ⟨i, rep_int rv, q f1 h1 e1⟩
theorem ev_cb {r : List V → Hp → VK → Prop} {t : TA} {Rs : List RP} (ha : EvA Γ t Rs) (hr : RcD r Rs R) : EvD Γ (tCB r t) R := fun σ f hp s ok Q q =>
  ha σ f hp s ok _ fun vs f1 h1 e1 rs => hr vs f1 h1 e1.fh rs Q fun v f2 h2 e2 rv => q v f2 h2 (e1.trans e2) rv
theorem ev_cbN {r : List V → Hp → VK → Prop} {t : TA} {Rs : List RP} (ha : EvA Γ t Rs) (hr : RcN r Rs T) : EvN Γ (tCB r t) T := fun σ f hp s ok Q q =>
  ha σ f hp s ok _ fun vs f1 h1 e1 rs => hr vs f1 h1 e1.fh rs Q fun p o f2 h2 e2 n nf ho ht => q p o f2 h2 (e1.trans e2) (e1.hh.free n) nf ho ht
end
end D

set_option Elab.async false
set_option linter.all false
set_option maxRecDepth 100000
set_option maxHeartbeats 4000000
namespace D
open PySem PySem.Spec PyProof.Rows L2
open ToPy (py)

/-! ### operators whose kinds are told by the values: one rule for each sign -/
def rOr (r r' : R2) : R2 := fun x y H Q => r x y H Q ∨ r' x y H Q
def rAddI : R2 := rI0 fun i j => .int (i + j)
def rSubI : R2 := rI0 fun i j => .int (i - j)
def rMulI : R2 := rOr (rI CMul fun i j => .int (i * j)) (rI CMulW fun i j => .int (i * j))
def rModI : R2 := rI (fun _ j => 0 < j) fun i j => .int (i % j)
def rDivI : R2 := rOr (rI CDiv fun i j => .int (i / j)) (rI CDivW fun i j => .int (i / j))
def rPowI : R2 := rI CPow fun i j => .int (i ^ j.toNat)
def rAddS : R2 := fun x y H Q => ∃ i j, x = .str i ∧ y = .str j ∧ i.length + j.length ≤ sizeLine ∧ Q (.str (i ++ j)) H
def rAddX (K : PySem.W.Frag) : R2 := rOr rAddI (rOr rCat (rOr rAddS (rCatA K)))
def rMulX (K : PySem.W.Frag) : R2 := rOr rMulI (rOr rRep (rRepT K))
def rEqX (K : PySem.W.Frag) : R2 := rOr rEq (rEqD K)
def rNeX (K : PySem.W.Frag) : R2 := rOr rNe (rNeD K)
def rLtI : R2 := rI0 fun i j => .bl (decide (i < j))
def rLeI : R2 := rI0 fun i j => .bl (decide (i ≤ j))
def rGtI : R2 := rI0 fun i j => .bl (decide (j < i))
def rGeI : R2 := rI0 fun i j => .bl (decide (j ≤ i))
def rInSg : R2 := fun x y H Q => ∃ (c : Nat) (z : Str), x = .str ⟨#[c]⟩ ∧ y = .str z ∧ Q (.bl (decide (c ∈ z.cps.toList))) H
def rNinSg : R2 := fun x y H Q => ∃ (c : Nat) (z : Str), x = .str ⟨#[c]⟩ ∧ y = .str z ∧ Q (.bl (!decide (c ∈ z.cps.toList))) H
def rInX (K : PySem.W.Frag) : R2 := rOr (rIn K false) rInSg
def rNinX (K : PySem.W.Frag) : R2 := rOr (rIn K true) rNinSg
def rIsNo : R2 := fun x y H Q => y = .non ∧ Q (.bl (decide (x = .non))) H
def rNotNo : R2 := fun x y H Q => y = .non ∧ Q (.bl (!decide (x = .non))) H
section
variable {X : Cx}
theorem or2 {f : Value → Value → Sem Value} {r r' : R2} (h : OpR X f r) (h' : OpR X f r') : OpR X f (rOr r r') := h.or h'
theorem op_addX : OpR X (binaryOp .Add) (rAddX X.K) := or2 op_add (or2 op_cat (or2 op_add_str op_catA))
theorem op_subX : OpR X (binaryOp .Sub) rSubI := op_sub
theorem op_mulX : OpR X (binaryOp .Mult) (rMulX X.K) := or2 (or2 op_mul op_mulW) (or2 op_rep op_repT)
theorem op_modX : OpR X (binaryOp .Mod) rModI := op_mod
theorem op_divX : OpR X (binaryOp .FloorDiv) rDivI := or2 op_fdiv op_fdivW
theorem op_powX : OpR X (binaryOp .Pow) rPowI := op_pow
theorem op_eqX (hu : X.A.units + 64 < cLine) : OpR X (compareOp .Eq) (rEqX X.K) := or2 op_eq (op_eqD hu)
theorem op_neX (hu : X.A.units + 64 < cLine) : OpR X (compareOp .NotEq) (rNeX X.K) := or2 op_ne (op_neD hu)
theorem op_ltX : OpR X (compareOp .Lt) rLtI := op_lt
theorem op_leX : OpR X (compareOp .LtE) rLeI := op_le
theorem op_gtX : OpR X (compareOp .Gt) rGtI := op_gt
theorem op_geX : OpR X (compareOp .GtE) rGeI := op_ge
theorem op_inX : OpR X (compareOp .In) (rInX X.K) := or2 op_in_seq op_in_sign
theorem op_ninX : OpR X (compareOp .NotIn) (rNinX X.K) := or2 op_notIn_seq op_notIn_sign
theorem op_isNo : OpR X (compareOp .Is) rIsNo := op_isN
theorem op_notNo : OpR X (compareOp .IsNot) rNotNo := op_notN
def rLenX (K : PySem.W.Frag) : List V → Hp → VK → Prop := fun xs H Q => (∃ p ys, xs = [.ref p] ∧ (SqL K H p ys ∨ SqT K H p ys) ∧ Q (.int ys.length) H) ∨ (∃ z, xs = [.str z] ∧ z.length ≤ sizeLine ∧ Q (.int z.length) H)
theorem call_lenX : CallR X (.builtin "len") (rLenX X.K) := call_len_seq.or call_len_str
def rListX (K : PySem.W.Frag) : List V → Hp → VK → Prop := fun xs H Q => ∃ p ys, xs = [.ref p] ∧ (SqL K H p ys ∨ SqT K H p ys) ∧ ∀ l, H l = none → Q (.ref l) (upd H l (.lst ys))
theorem call_listX : CallR X (.type "list") (rListX X.K) := call_list_of
def rTupX (K : PySem.W.Frag) : List V → Hp → VK → Prop := fun xs H Q => ∃ p ys, xs = [.ref p] ∧ ((SqL K H p ys ∧ ∀ l, H l = none → Q (.ref l) (upd H l (.tup ys))) ∨ (SqT K H p ys ∧ Q (.ref p) H))
theorem call_tupX : CallR X (.type "tuple") (rTupX X.K) := call_tuple_of
def rIntX : List V → Hp → VK → Prop := fun xs H Q => ((∃ i, xs = [.int i] ∧ Q (.int i) H) ∨ ∃ k, xs = [.bl k] ∧ Q (.int (if k then 1 else 0)) H) ∨ (∃ a n, xs = [.str a] ∧ PySem.intText? a = some n ∧ a.length ≤ 640 ∧ Q (.int n) H)
theorem call_intX : CallR X (.type "int") rIntX := call_int1.or call_int_str
def rStrX : List V → Hp → VK → Prop := fun xs H Q => ∃ i, xs = [.int i] ∧ i.natAbs.log2 < 1920 ∧ Q (.str (toString i)) H
theorem call_strX : CallR X (.type "str") rStrX := call_str_int
def rAbsX : List V → Hp → VK → Prop := fun xs H Q => ∃ i, xs = [.int i] ∧ Q (.int (if i < 0 then -i else i)) H
theorem call_absX : CallR X (.builtin "abs") rAbsX := call_abs
def rMin2X : List V → Hp → VK → Prop := fun xs H Q => ∃ i j, xs = [.int i, .int j] ∧ Q (.int (if j < i then j else i)) H
theorem call_min2X (hc : X.calm = true) : CallR X (.builtin "min") rMin2X := call_min2 hc
def rMax2X : List V → Hp → VK → Prop := fun xs H Q => ∃ i j, xs = [.int i, .int j] ∧ Q (.int (if j > i then j else i)) H
theorem call_max2X (hc : X.calm = true) : CallR X (.builtin "max") rMax2X := call_max2 hc
def rSlX (K : PySem.W.Frag) : V → Option Int → Option Int → Hp → VK → Prop := fun x lo hi H Q => (rSlL K x lo hi H Q ∨ rSlA K x lo hi H Q) ∨ rSlS x lo hi H Q
theorem sl_X : SlR X (rSlX X.K) := (sl_list.or sl_tupA).or sl_str
end
theorem b_len : bootBuiltins "len" = some (.builtin "len") := by decide +kernel
theorem b_isi : bootBuiltins "isinstance" = some (.builtin "isinstance") := by decide +kernel
theorem b_sum : bootBuiltins "sum" = some (.builtin "sum") := by decide +kernel
theorem b_abs : bootBuiltins "abs" = some (.builtin "abs") := by decide +kernel
theorem b_min : bootBuiltins "min" = some (.builtin "min") := by decide +kernel
theorem b_max : bootBuiltins "max" = some (.builtin "max") := by decide +kernel
theorem b_list : bootBuiltins "list" = some (.type "list") := by decide +kernel
theorem b_tuple : bootBuiltins "tuple" = some (.type "tuple") := by decide +kernel
theorem b_int : bootBuiltins "int" = some (.type "int") := by decide +kernel
theorem b_str : bootBuiltins "str" = some (.type "str") := by decide +kernel
theorem b_bool : bootBuiltins "bool" = some (.type "bool") := by decide +kernel
theorem b_VE : bootBuiltins "ValueError" = some (.type "ValueError") := by decide +kernel

section
variable {K : PySem.W.Frag} {Ra Rb R : RP} {T : OT} {r r' : R2}
theorem s_l (h : R2D r Ra Rb R) : R2D (rOr r r') Ra Rb R := fun x y f hp s rx ry Q q => .inl (h x y f hp s rx ry Q q)
theorem s_r (h : R2D r' Ra Rb R) : R2D (rOr r r') Ra Rb R := fun x y f hp s rx ry Q q => .inr (h x y f hp s rx ry Q q)
theorem s_lN (h : R2N r Ra Rb T) : R2N (rOr r r') Ra Rb T := fun x y f hp s rx ry Q q => .inl (h x y f hp s rx ry Q q)
theorem s_rN (h : R2N r' Ra Rb T) : R2N (rOr r r') Ra Rb T := fun x y f hp s rx ry Q q => .inr (h x y f hp s rx ry Q q)
theorem s_I0 {g : Int → Int → Int} {i j : Int} : R2D (rI0 fun i j => .int (g i j)) (rep i) (rep j) (rep (g i j)) := fun x y f hp s rx ry Q q =>
  ⟨i, j, rep_int rx, rep_int ry, q _ f hp (.refl s) (rep_of_int _ _)⟩
theorem s_B0 {g : Int → Int → Bool} {i j : Int} : R2D (rI0 fun i j => .bl (g i j)) (rep i) (rep j) (rep (g i j)) := fun x y f hp s rx ry Q q =>
  ⟨i, j, rep_int rx, rep_int ry, q _ f hp (.refl s) (rep_of_bool _ _)⟩
theorem s_I {C : Int → Int → Prop} {g : Int → Int → Int} {i j : Int} (hc : C i j) : R2D (rI C fun i j => .int (g i j)) (rep i) (rep j) (rep (g i j)) := fun x y f hp s rx ry Q q =>
  ⟨i, j, rep_int rx, rep_int ry, hc, q _ f hp (.refl s) (rep_of_int _ _)⟩
theorem s_add {i j : Int} : R2D (rAddX K) (rep i) (rep j) (rep (i + j)) := s_l s_I0
theorem s_sub {i j : Int} : R2D rSubI (rep i) (rep j) (rep (i - j)) := s_I0
theorem s_mul {i j : Int} (h : CMul i j) : R2D (rMulX K) (rep i) (rep j) (rep (i * j)) := s_l (s_l (s_I h))
theorem s_mulW {i j : Int} (h : CMulW i j) : R2D (rMulX K) (rep i) (rep j) (rep (i * j)) := s_l (s_r (s_I h))
theorem s_mod {i j : Int} (h : 0 < j) : R2D rModI (rep i) (rep j) (rep (i % j)) := s_I (C := fun _ j => 0 < j) h
theorem s_div {i j : Int} (h : CDiv i j) : R2D rDivI (rep i) (rep j) (rep (i / j)) := s_l (s_I h)
theorem s_divW {i j : Int} (h : CDivW i j) : R2D rDivI (rep i) (rep j) (rep (i / j)) := s_r (s_I h)
theorem s_pow {i j : Int} (h : CPow i j) : R2D rPowI (rep i) (rep j) (rep (i ^ j.toNat)) := s_I h
theorem s_lt {i j : Int} : R2D rLtI (rep i) (rep j) (rep (decide (i < j))) := s_B0
theorem s_le {i j : Int} : R2D rLeI (rep i) (rep j) (rep (decide (i ≤ j))) := s_B0
theorem s_gt {i j : Int} : R2D rGtI (rep i) (rep j) (rep (decide (j < i))) := s_B0
theorem s_ge {i j : Int} : R2D rGeI (rep i) (rep j) (rep (decide (j ≤ i))) := s_B0
theorem s_eqI {i j : Int} : R2D (rEqX K) (rep i) (rep j) (rep (decide (i = j))) := fun x y f hp s rx ry Q q => by
  cases rep_int rx
  cases rep_int ry
  refine .inl ⟨rfl, q _ f hp (.refl s) ?_⟩
  have e : decide (V.int i = V.int j) = decide (i = j) := by simp
  rw [e]
  exact rep_of_bool _ _
theorem s_neI {i j : Int} : R2D (rNeX K) (rep i) (rep j) (rep (!decide (i = j))) := fun x y f hp s rx ry Q q => by
  cases rep_int rx
  cases rep_int ry
  refine .inl ⟨rfl, q _ f hp (.refl s) ?_⟩
  have e : decide (V.int i = V.int j) = decide (i = j) := by simp
  rw [e]
  exact rep_of_bool _ _
theorem s_eqS {i j : Str} : R2D (rEqX K) (rep i) (rep j) (rep (decide (i = j))) := fun x y f hp s rx ry Q q => by
  cases rep_str rx
  cases rep_str ry
  refine .inl ⟨rfl, q _ f hp (.refl s) ?_⟩
  have e : decide (V.str i = V.str j) = decide (i = j) := by simp
  rw [e]
  exact rep_of_bool _ _
theorem s_neS {i j : Str} : R2D (rNeX K) (rep i) (rep j) (rep (!decide (i = j))) := fun x y f hp s rx ry Q q => by
  cases rep_str rx
  cases rep_str ry
  refine .inl ⟨rfl, q _ f hp (.refl s) ?_⟩
  have e : decide (V.str i = V.str j) = decide (i = j) := by simp
  rw [e]
  exact rep_of_bool _ _
theorem s_neB {i j : Bool} : R2D (rNeX K) (rep i) (rep j) (rep (!decide (i = j))) := fun x y f hp s rx ry Q q => by
  cases rep_bool rx
  cases rep_bool ry
  refine .inl ⟨rfl, q _ f hp (.refl s) ?_⟩
  have e : decide (V.bl i = V.bl j) = decide (i = j) := by simp
  rw [e]
  exact rep_of_bool _ _
/-- == of data -/
theorem s_eqD {d e : PyData} (hd : SeqAt.shaped d = true) (he : SeqAt.shaped e = true) : R2D (rEqX K) (rpD d) (rpD e) (rep (PyData.eqv d e)) := fun x y f hp s rx ry Q q =>
  .inr ⟨d, e, repD_Dp d x (repD_mono s d x rx), repD_Dp e y (repD_mono s e y ry), hd, he, q _ f hp (.refl s) (rep_of_bool _ _)⟩
theorem s_neD {d e : PyData} (hd : SeqAt.shaped d = true) (he : SeqAt.shaped e = true) : R2D (rNeX K) (rpD d) (rpD e) (rep (!PyData.eqv d e)) := fun x y f hp s rx ry Q q =>
  .inr ⟨d, e, repD_Dp d x (repD_mono s d x rx), repD_Dp e y (repD_mono s e y ry), hd, he, q _ f hp (.refl s) (rep_of_bool _ _)⟩
theorem s_isNo (h : ∀ v f, Ra.p v f → v ≠ .non) : R2D rIsNo Ra (rep ()) (rep false) := fun x y f hp s rx ry Q q => by
  cases rep_unit ry
  refine ⟨rfl, q _ f hp (.refl s) ?_⟩
  rw [decide_eq_false (h x f rx)]
  exact rep_of_bool _ _
theorem s_isYes : R2D rIsNo (rep ()) (rep ()) (rep true) := fun x y f hp s rx ry Q q => by
  cases rep_unit rx
  cases rep_unit ry
  exact ⟨rfl, q _ f hp (.refl s) (rep_of_bool _ _)⟩
theorem s_notYes (h : ∀ v f, Ra.p v f → v ≠ .non) : R2D rNotNo Ra (rep ()) (rep true) := fun x y f hp s rx ry Q q => by
  cases rep_unit ry
  refine ⟨rfl, q _ f hp (.refl s) ?_⟩
  rw [decide_eq_false (h x f rx)]
  exact rep_of_bool _ _
theorem s_notNo : R2D rNotNo (rep ()) (rep ()) (rep false) := fun x y f hp s rx ry Q q => by
  cases rep_unit rx
  cases rep_unit ry
  exact ⟨rfl, q _ f hp (.refl s) (rep_of_bool _ _)⟩
theorem s_neg {i : Int} : R1D (rU fun i => .int (-i)) (rep i) (rep (-i)) := fun x f hp s rx Q q => ⟨i, rep_int rx, q _ f hp (.refl s) (rep_of_int _ _)⟩
/-! lists -/
theorem SqL.of1 {H : Hp} {p : Addr} {vs : List V} (h : H p = some (.lst vs)) : SqL K H p vs := .inl (.inl h)
theorem SqT.of1 {H : Hp} {p : Addr} {vs : List V} (h : H p = some (.tup vs)) : SqT K H p vs := .inl (.inl h)
/-- the place that an index names, from nought -/
theorem s_ixD {ds : List PyData} {d : PyData} {i : Int} (h : atI ds i = some d) : R2D (rIx K) (rpD (.list ds)) (rep i) (rpD d) := fun x y f hp s rx ry Q q => by
  have rx : repD (.list ds) x f := rx
  simp only [repD] at rx
  obtain ⟨p, vs, rfl, h1, h2⟩ := rx
  cases rep_int ry
  obtain ⟨j, hj, hg⟩ := Option.bind_eq_some_iff.mp h
  obtain ⟨v, hv, rv⟩ := repL_get h2 hg
  refine .inl ⟨p, vs, i, v, rfl, rfl, SqL.of1 (s _ _ h1), ?_, q v f hp (.refl s) rv⟩
  unfold atI
  rw [repL_length h2, hj]
  exact hv
theorem s_ixTD {ds : List PyData} {d : PyData} {i : Int} (h : atI ds i = some d) : R2D (rIx K) (rpD (.tuple ds)) (rep i) (rpD d) := fun x y f hp s rx ry Q q => by
  have rx : repD (.tuple ds) x f := rx
  simp only [repD] at rx
  obtain ⟨p, vs, rfl, h1, h2⟩ := rx
  cases rep_int ry
  obtain ⟨j, hj, hg⟩ := Option.bind_eq_some_iff.mp h
  obtain ⟨v, hv, rv⟩ := repL_get h2 hg
  refine .inr (.inl ⟨p, vs, i, v, rfl, rfl, SqT.of1 (s _ _ h1), ?_, q v f hp (.refl s) rv⟩)
  unfold atI
  rw [repL_length h2, hj]
  exact hv
theorem atI_map {α β : Type} (g : α → β) (xs : List α) (i : Int) : atI (xs.map g) i = (atI xs i).map g := by
  unfold atI
  rw [List.length_map]
  cases ixN xs.length i with
  | none => rfl
  | some j => simp
/-- the item at k, from nought -/
def ix {α : Type} [ToPy α] (xs : List α) (k : Int) : α := xs.getD k.toNat ToPy.dft
theorem atI_ix {α : Type} [ToPy α] {xs : List α} {k : Int} (h0 : 0 ≤ k) (h1 : k < (xs.length : Int)) : atI xs k = some (ix xs k) := by
  unfold atI ixN ix
  have e : k.toNat < xs.length := by omega
  rw [if_pos h0, if_pos h1]
  show xs[k.toNat]? = _
  rw [List.getD_eq_getElem?_getD, List.getElem?_eq_getElem e]
  rfl
theorem s_ix {α : Type} {_ : ToPy α} {xs : List α} {i : Int} (h0 : 0 ≤ i) (h1 : i < (xs.length : Int)) : R2D (rIx K) (rep xs) (rep i) (rep (ix xs i)) :=
  s_ixD (by rw [atI_map, atI_ix h0 h1]; rfl)
theorem s_ixT {α : Type} {_ : ToPy α} {xs : List α} {i : Int} (h0 : 0 ≤ i) (h1 : i < (xs.length : Int)) : R2D (rIx K) (rep (Tup.mk xs)) (rep i) (rep (ix xs i)) :=
  s_ixTD (by rw [atI_map, atI_ix h0 h1]; rfl)
/-- xs[-1] -/
def last {α : Type} [ToPy α] (xs : List α) : α := xs.getD (xs.length - 1) ToPy.dft
theorem atI_neg1 {α : Type} [ToPy α] {xs : List α} (h : 0 < xs.length) : atI xs (-1) = some (last xs) := by
  unfold atI ixN last
  rw [if_neg (by decide), if_pos (by omega)]
  show xs[((-1 : Int) + xs.length).toNat]? = _
  have e : ((-1 : Int) + xs.length).toNat = xs.length - 1 := by omega
  rw [e, List.getD_eq_getElem?_getD, List.getElem?_eq_getElem (by omega)]
  rfl
theorem s_last {α : Type} {_ : ToPy α} {xs : List α} (h : 0 < xs.length) : R2D (rIx K) (rep xs) (rep (-1 : Int)) (rep (last xs)) :=
  s_ixD (by rw [atI_map, atI_neg1 h]; rfl)
theorem s_fst {α β : Type} {_ : ToPy α} {_ : ToPy β} {x : α × β} : R2D (rIx K) (rep x) (rep (0 : Int)) (rep x.1) := s_ixTD rfl
theorem s_snd {α β : Type} {_ : ToPy α} {_ : ToPy β} {x : α × β} : R2D (rIx K) (rep x) (rep (1 : Int)) (rep x.2) := s_ixTD rfl
theorem s_t0 {α β γ : Type} {_ : ToPy α} {_ : ToPy β} {_ : ToPy γ} {x : T3 α β γ} : R2D (rIx K) (rep x) (rep (0 : Int)) (rep x.a) := s_ixTD rfl
theorem s_t1 {α β γ : Type} {_ : ToPy α} {_ : ToPy β} {_ : ToPy γ} {x : T3 α β γ} : R2D (rIx K) (rep x) (rep (1 : Int)) (rep x.b) := s_ixTD rfl
theorem s_t2 {α β γ : Type} {_ : ToPy α} {_ : ToPy β} {_ : ToPy γ} {x : T3 α β γ} : R2D (rIx K) (rep x) (rep (2 : Int)) (rep x.c) := s_ixTD rfl
/-- the script -/
def scr (K : PySem.W.Frag) (ns : List Int) : RP := ⟨fun v H => ∃ a, v = .ref a ∧ SqL K H a (ns.map V.int), fun ⟨a, e, h⟩ s => ⟨a, e, s.seq h⟩⟩
theorem s_ixS {ns : List Int} {i : Int} (h0 : 0 ≤ i) (h1 : i < (ns.length : Int)) : R2D (rIx K) (scr K ns) (rep i) (rep (ix ns i)) := fun x y f hp s rx ry Q q => by
  obtain ⟨a, rfl, h⟩ := rx
  cases rep_int ry
  exact .inl ⟨a, _, i, .int (ix ns i), rfl, rfl, s.seq h, by rw [atI_map, atI_ix h0 h1]; rfl, q _ f hp (.refl s) (rep_of_int _ _)⟩
theorem s_catN {ds es : List PyData} (hl : ds.length + es.length ≤ 1000000) : R2N (rAddX K) (rpD (.list ds)) (rpD (.list es)) (oLD (ds ++ es)) := fun x y f hp s rx ry Q q => by
  have rx : repD (.list ds) x f := rx
  have ry : repD (.list es) y f := ry
  simp only [repD] at rx ry
  obtain ⟨p, vs, rfl, h1, h2⟩ := rx
  obtain ⟨p', vs', rfl, h1', h2'⟩ := ry
  refine .inr (.inl ⟨p, p', vs, vs', rfl, rfl, s _ _ h1, s _ _ h1', ?_, fun n hn => q n (.lst (vs ++ vs')) f _ (.newH s hn) hn (s.free hn) upd_same ⟨_, rfl, repL_append h2 h2'⟩⟩)
  rw [repL_length h2, repL_length h2']
  exact Nat.le_trans hl (by decide)
theorem s_cat {α : Type} {_ : ToPy α} {xs ys : List α} (hl : xs.length + ys.length ≤ 1000000) : R2N (rAddX K) (rep xs) (rep ys) (oL (xs ++ ys)) := by
  have h := s_catN (K := K) (ds := xs.map py) (es := ys.map py) (by simpa using hl)
  rw [← List.map_append] at h
  exact h
theorem rep1 {v : V} : ∀ n : Nat, (List.replicate n [v]).flatten = List.replicate n v
  | 0 => rfl
  | n + 1 => by rw [List.replicate_succ, List.flatten_cons, rep1 n]; rfl
theorem s_repN {d : PyData} {k : Int} (h0 : 0 ≤ k) (hk : k ≤ 100000) : R2N (rMulX K) (rpD (.list [d])) (rep k) (oLD (List.replicate k.toNat d)) := fun x y f hp s rx ry Q q => by
  have rx : repD (.list [d]) x f := rx
  simp only [repD] at rx
  obtain ⟨p, vs, rfl, h1, h2⟩ := rx
  cases rep_int ry
  simp only [repL] at h2
  obtain ⟨v, r, e1, hd, e2⟩ := h2
  subst e2 e1
  refine .inr (.inl ⟨p, k, [v], rfl, rfl, s _ _ h1, by omega, by omega, ?_, fun n hn => ?_⟩)
  · have : [v].length * k.toNat ≤ 100000 := by show 1 * k.toNat ≤ 100000; omega
    exact Nat.le_trans this (by decide)
  · exact q n _ f _ (.newH s hn) hn (s.free hn) upd_same ⟨_, rfl, by rw [rep1]; exact repL_replicate hd _⟩
theorem s_rep {α : Type} {_ : ToPy α} {a : α} {k : Int} (h0 : 0 ≤ k) (hk : k ≤ 100000) : R2N (rMulX K) (rep [a]) (rep k) (oL (List.replicate k.toNat a)) := by
  have h := s_repN (K := K) (d := py a) (k := k) h0 hk
  have e : (List.replicate k.toNat a).map py = List.replicate k.toNat (py a) := by simp
  unfold oL
  rw [e]
  exact h
end
end D

set_option Elab.async false
set_option linter.all false
set_option maxRecDepth 100000
set_option maxHeartbeats 4000000
namespace D
open PySem PySem.Spec PyProof.Rows L2
open ToPy (py)
section
variable {K : PySem.W.Frag} {Γ : Ctx} {te ta tb tc : TE} {tt tu : TT} {R Ra Rb Rc R' : RP} {T : OT} {r r' : R2}
theorem All.one {R : RP} {vs : List V} {H : Hp} (h : All [R] vs H) : ∃ v, vs = [v] ∧ R.p v H := by
  obtain ⟨v, r, e, h1, h2⟩ := h
  cases h2
  exact ⟨v, e, h1⟩
theorem All.two {R S : RP} {vs : List V} {H : Hp} (h : All [R, S] vs H) : ∃ v u, vs = [v, u] ∧ R.p v H ∧ S.p u H := by
  obtain ⟨v, r, e, h1, h2⟩ := h
  obtain ⟨u, rfl, h3⟩ := All.one h2
  exact ⟨v, u, e, h1, h3⟩
theorem All.three {R S T : RP} {vs : List V} {H : Hp} (h : All [R, S, T] vs H) : ∃ v u z, vs = [v, u, z] ∧ R.p v H ∧ S.p u H ∧ T.p z H := by
  obtain ⟨v, r, e, h1, h2⟩ := h
  obtain ⟨u, z, rfl, h3, h4⟩ := All.two h2
  exact ⟨v, u, z, e, h1, h3, h4⟩
theorem All.repL {ds : List PyData} : ∀ {vs : List V} {H : Hp}, All (ds.map rpD) vs H → repL ds vs H := by
  induction ds with
  | nil => intro vs H h; simp only [D.repL]; exact h
  | cons d ds ih =>
    intro vs H h
    obtain ⟨v, r, e, h1, h2⟩ := h
    simp only [D.repL]
    exact ⟨v, r, e, h1, ih h2⟩
/-! ### displays -/
theorem en_lst {t : TA} {ds : List PyData} (h : EvA Γ t (ds.map rpD)) (hl : ds.length ≤ 1000000 := by simp) : EvN Γ (tLst t) (oLD ds) := fun σ f hp s ok Q q =>
  h σ f hp s ok _ fun vs f' h' e rs => ⟨by rw [repL_length (All.repL rs)]; exact Nat.le_trans hl (by decide), fun p hn => q p (.lst vs) f' _ ⟨e.ff, e.hh.trans (same_new hn), e.fh.trans (same_new hn), e.nf⟩ (e.hh.free hn) (e.fh.free hn) upd_same ⟨vs, rfl, All.repL rs⟩⟩
theorem ev_tupD {t : TA} {ds : List PyData} (h : EvA Γ t (ds.map rpD)) (hl : ds.length ≤ 1000000 := by simp) : EvD Γ (tTup t) (rpD (.tuple ds)) := fun σ f hp s ok Q q =>
  h σ f hp s ok _ fun vs f' h' e rs => ⟨by rw [repL_length (All.repL rs)]; exact Nat.le_trans hl (by decide), fun p hn => q (.ref p) _ _ (e.trans (Ext.new e.fh hn)) (by
    show repD (.tuple ds) _ _
    simp only [repD]
    exact ⟨p, vs, rfl, upd_same, repL_mono (same_new (e.fh.free hn)) _ _ (All.repL rs)⟩)⟩
theorem en_lst0 {α : Type} {_ : ToPy α} : EvN Γ (tLst tNil) (oL ([] : List α)) := en_lst (ds := []) ea_nil
theorem en_lst1 {α : Type} {_ : ToPy α} {a : α} {t : TE} (h : EvD Γ t (rep a)) : EvN Γ (tLst (tCons t tNil)) (oL [a]) := en_lst (ds := [py a]) (ea_cons h ea_nil)
theorem en_lst2 {α : Type} {_ : ToPy α} {a b : α} {t u : TE} (h : EvD Γ t (rep a)) (h2 : EvD Γ u (rep b)) : EvN Γ (tLst (tCons t (tCons u tNil))) (oL [a, b]) := en_lst (ds := [py a, py b]) (ea_cons h (ea_cons h2 ea_nil))
theorem en_lst3 {α : Type} {_ : ToPy α} {a b c : α} {t u w : TE} (h : EvD Γ t (rep a)) (h2 : EvD Γ u (rep b)) (h3 : EvD Γ w (rep c)) : EvN Γ (tLst (tCons t (tCons u (tCons w tNil)))) (oL [a, b, c]) := en_lst (ds := [py a, py b, py c]) (ea_cons h (ea_cons h2 (ea_cons h3 ea_nil)))
theorem en_lst4 {α : Type} {_ : ToPy α} {a b c d : α} {t u w z : TE} (h : EvD Γ t (rep a)) (h2 : EvD Γ u (rep b)) (h3 : EvD Γ w (rep c)) (h4 : EvD Γ z (rep d)) : EvN Γ (tLst (tCons t (tCons u (tCons w (tCons z tNil))))) (oL [a, b, c, d]) := en_lst (ds := [py a, py b, py c, py d]) (ea_cons h (ea_cons h2 (ea_cons h3 (ea_cons h4 ea_nil))))
theorem ev_pair {α β : Type} {_ : ToPy α} {_ : ToPy β} {a : α} {b : β} {t u : TE} (h : EvD Γ t (rep a)) (h2 : EvD Γ u (rep b)) : EvD Γ (tTup (tCons t (tCons u tNil))) (rep (a, b)) := ev_tupD (ds := [py a, py b]) (ea_cons h (ea_cons h2 ea_nil))
theorem ev_t3 {α β γ : Type} {_ : ToPy α} {_ : ToPy β} {_ : ToPy γ} {a : α} {b : β} {c : γ} {t u w : TE} (h : EvD Γ t (rep a)) (h2 : EvD Γ u (rep b)) (h3 : EvD Γ w (rep c)) : EvD Γ (tTup (tCons t (tCons u (tCons w tNil)))) (rep (T3.mk a b c)) := ev_tupD (ds := [py a, py b, py c]) (ea_cons h (ea_cons h2 (ea_cons h3 ea_nil)))
/-! ### calls of built-ins -/
theorem c_lenL {ds : List PyData} : RcD (rLenX K) [rpD (.list ds)] (rep (ds.length : Int)) := fun vs f hp s rs Q q => by
  obtain ⟨v, rfl, rv⟩ := rs.one
  have rv : repD (.list ds) v f := rv
  simp only [repD] at rv
  obtain ⟨p, us, rfl, h1, h2⟩ := rv
  exact .inl ⟨p, us, rfl, .inl (SqL.of1 (s _ _ h1)), q _ f hp (.refl s) (by rw [repL_length h2]; exact rep_of_int _ _)⟩
theorem c_lenT {ds : List PyData} : RcD (rLenX K) [rpD (.tuple ds)] (rep (ds.length : Int)) := fun vs f hp s rs Q q => by
  obtain ⟨v, rfl, rv⟩ := rs.one
  have rv : repD (.tuple ds) v f := rv
  simp only [repD] at rv
  obtain ⟨p, us, rfl, h1, h2⟩ := rv
  exact .inl ⟨p, us, rfl, .inr (SqT.of1 (s _ _ h1)), q _ f hp (.refl s) (by rw [repL_length h2]; exact rep_of_int _ _)⟩
theorem c_len {α : Type} {_ : ToPy α} {xs : List α} : RcD (rLenX K) [rep xs] (rep (xs.length : Int)) := by
  have h := c_lenL (K := K) (ds := xs.map py)
  rw [List.length_map] at h
  exact h
theorem c_lenTup {α : Type} {_ : ToPy α} {xs : List α} : RcD (rLenX K) [rep (Tup.mk xs)] (rep (xs.length : Int)) := by
  have h := c_lenT (K := K) (ds := xs.map py)
  rw [List.length_map] at h
  exact h
theorem c_lenScr {ns : List Int} : RcD (rLenX K) [scr K ns] (rep (ns.length : Int)) := fun vs f hp s rs Q q => by
  obtain ⟨v, rfl, a, rfl, h⟩ := rs.one
  exact .inl ⟨a, _, rfl, .inl (s.seq h), q _ f hp (.refl s) (by rw [List.length_map]; exact rep_of_int _ _)⟩
theorem c_lenS {x : Str} (hl : x.length ≤ 1000000) : RcD (rLenX K) [rep x] (rep (x.length : Int)) := fun vs f hp s rs Q q => by
  obtain ⟨v, rfl, rv⟩ := rs.one
  cases rep_str rv
  exact .inr ⟨x, rfl, Nat.le_trans hl (by decide), q _ f hp (.refl s) (rep_of_int _ _)⟩
theorem c_listN {ds : List PyData} : RcN (rListX K) [rpD (.list ds)] (oLD ds) := fun vs f hp s rs Q q => by
  obtain ⟨v, rfl, rv⟩ := rs.one
  have rv : repD (.list ds) v f := rv
  simp only [repD] at rv
  obtain ⟨p, us, rfl, h1, h2⟩ := rv
  exact ⟨p, us, rfl, .inl (SqL.of1 (s _ _ h1)), fun n hn => q n _ f _ (.newH s hn) hn (s.free hn) upd_same ⟨us, rfl, h2⟩⟩
theorem c_list {α : Type} {_ : ToPy α} {xs : List α} : RcN (rListX K) [rep xs] (oL xs) := c_listN
theorem c_listTN {ds : List PyData} : RcN (rListX K) [rpD (.tuple ds)] (oLD ds) := fun vs f hp s rs Q q => by
  obtain ⟨v, rfl, rv⟩ := rs.one
  have rv : repD (.tuple ds) v f := rv
  simp only [repD] at rv
  obtain ⟨p, us, rfl, h1, h2⟩ := rv
  exact ⟨p, us, rfl, .inr (SqT.of1 (s _ _ h1)), fun n hn => q n _ f _ (.newH s hn) hn (s.free hn) upd_same ⟨us, rfl, h2⟩⟩
theorem c_listT {α : Type} {_ : ToPy α} {xs : List α} : RcN (rListX K) [rep (Tup.mk xs)] (oL xs) := c_listTN
theorem c_tupD {ds : List PyData} : RcD (rTupX K) [rpD (.list ds)] (rpD (.tuple ds)) := fun vs f hp s rs Q q => by
  obtain ⟨v, rfl, rv⟩ := rs.one
  have rv : repD (.list ds) v f := rv
  simp only [repD] at rv
  obtain ⟨p, us, rfl, h1, h2⟩ := rv
  refine ⟨p, us, rfl, .inl ⟨SqL.of1 (s _ _ h1), fun n hn => q (.ref n) _ _ (.new s hn) ?_⟩⟩
  show repD (.tuple ds) _ _
  simp only [repD]
  exact ⟨n, us, rfl, upd_same, repL_mono (same_new (s.free hn)) _ _ h2⟩
theorem c_tup {α : Type} {_ : ToPy α} {xs : List α} : RcD (rTupX K) [rep xs] (rep (Tup.mk xs)) := c_tupD
theorem c_abs {i : Int} : RcD rAbsX [rep i] (rep (if i < 0 then -i else i)) := fun vs f hp s rs Q q => by
  obtain ⟨v, rfl, rv⟩ := rs.one
  cases rep_int rv
  exact ⟨i, rfl, q _ f hp (.refl s) (rep_of_int _ _)⟩
theorem c_min2 {i j : Int} : RcD rMin2X [rep i, rep j] (rep (if j < i then j else i)) := fun vs f hp s rs Q q => by
  obtain ⟨v, u, rfl, rv, ru⟩ := rs.two
  cases rep_int rv
  cases rep_int ru
  exact ⟨i, j, rfl, q _ f hp (.refl s) (rep_of_int _ _)⟩
theorem c_max2 {i j : Int} : RcD rMax2X [rep i, rep j] (rep (if j > i then j else i)) := fun vs f hp s rs Q q => by
  obtain ⟨v, u, rfl, rv, ru⟩ := rs.two
  cases rep_int rv
  cases rep_int ru
  exact ⟨i, j, rfl, q _ f hp (.refl s) (rep_of_int _ _)⟩
theorem c_intB {b : Bool} : RcD rIntX [rep b] (rep (if b = true then 1 else 0 : Int)) := fun vs f hp s rs Q q => by
  obtain ⟨v, rfl, rv⟩ := rs.one
  cases rep_bool rv
  exact .inl (.inr ⟨b, rfl, q _ f hp (.refl s) (rep_of_int _ _)⟩)
theorem c_intS {x : Str} {n : Int} (h : PySem.intText? x = some n) (hl : x.length ≤ 640) : RcD rIntX [rep x] (rep n) := fun vs f hp s rs Q q => by
  obtain ⟨v, rfl, rv⟩ := rs.one
  cases rep_str rv
  exact .inr ⟨x, n, rfl, h, hl, q _ f hp (.refl s) (rep_of_int _ _)⟩
theorem c_str {i : Int} (h : i.natAbs.log2 < 1920) : RcD rStrX [rep i] (rep (toString i : Str)) := fun vs f hp s rs Q q => by
  obtain ⟨v, rfl, rv⟩ := rs.one
  cases rep_int rv
  exact ⟨i, rfl, h, q _ f hp (.refl s) (rep_of_str _ _)⟩
theorem c_sum {ns : List Int} : RcD (rSum K) [rep ns] (rep ns.sum) := fun vs f hp s rs Q q => by
  obtain ⟨v, rfl, rv⟩ := rs.one
  obtain ⟨p, us, rfl, h1, h2⟩ := rep_list rv
  have e := repL_ints h2
  subst e
  exact ⟨p, ns, rfl, SqL.of1 (s _ _ h1), q _ f hp (.refl s) (rep_of_int _ _)⟩
/-- the least of some numbers, not none -/
def least : List Int → Int
  | [] => 0
  | a :: l => l.foldl (fun x y => if y < x then y else x) a
def greatest : List Int → Int
  | [] => 0
  | a :: l => l.foldl (fun x y => if x < y then y else x) a
theorem fold_least : ∀ (l : List Int) (a : Int), (l.foldl (fun x y => if y < x then y else x) a = a ∨ l.foldl (fun x y => if y < x then y else x) a ∈ l) ∧ l.foldl (fun x y => if y < x then y else x) a ≤ a ∧ ∀ y ∈ l, l.foldl (fun x y => if y < x then y else x) a ≤ y
  | [], a => by simp
  | b :: l, a => by
    rw [List.foldl_cons]
    obtain ⟨h1, h2, h3⟩ := fold_least l (if b < a then b else a)
    refine ⟨?_, ?_, ?_⟩
    · rcases h1 with h1 | h1
      · rw [h1]
        split
        · right; simp
        · left; rfl
      · right; simp [h1]
    · refine Int.le_trans h2 ?_
      split <;> omega
    · intro y hy
      rcases List.mem_cons.mp hy with rfl | hy
      · refine Int.le_trans h2 ?_
        split <;> omega
      · exact h3 y hy
theorem fold_greatest : ∀ (l : List Int) (a : Int), (l.foldl (fun x y => if x < y then y else x) a = a ∨ l.foldl (fun x y => if x < y then y else x) a ∈ l) ∧ a ≤ l.foldl (fun x y => if x < y then y else x) a ∧ ∀ y ∈ l, y ≤ l.foldl (fun x y => if x < y then y else x) a
  | [], a => by simp
  | b :: l, a => by
    rw [List.foldl_cons]
    obtain ⟨h1, h2, h3⟩ := fold_greatest l (if a < b then b else a)
    refine ⟨?_, ?_, ?_⟩
    · rcases h1 with h1 | h1
      · rw [h1]
        split
        · right; simp
        · left; rfl
      · right; simp [h1]
    · refine Int.le_trans ?_ h2
      split <;> omega
    · intro y hy
      rcases List.mem_cons.mp hy with rfl | hy
      · refine Int.le_trans ?_ h2
        split <;> omega
      · exact h3 y hy
theorem least_mem {l : List Int} (h : 0 < l.length) : least l ∈ l ∧ ∀ y ∈ l, least l ≤ y := by
  cases l with
  | nil => simp at h
  | cons a l =>
    obtain ⟨h1, h2, h3⟩ := fold_least l a
    refine ⟨?_, ?_⟩
    · show l.foldl _ a ∈ a :: l
      rcases h1 with h1 | h1
      · rw [h1]; simp
      · simp [h1]
    · intro y hy
      rcases List.mem_cons.mp hy with rfl | hy
      · exact h2
      · exact h3 y hy
theorem greatest_mem {l : List Int} (h : 0 < l.length) : greatest l ∈ l ∧ ∀ y ∈ l, y ≤ greatest l := by
  cases l with
  | nil => simp at h
  | cons a l =>
    obtain ⟨h1, h2, h3⟩ := fold_greatest l a
    refine ⟨?_, ?_⟩
    · show l.foldl _ a ∈ a :: l
      rcases h1 with h1 | h1
      · rw [h1]; simp
      · simp [h1]
    · intro y hy
      rcases List.mem_cons.mp hy with rfl | hy
      · exact h2
      · exact h3 y hy
theorem c_min {ns : List Int} (h : 0 < ns.length) : RcD (rMin K) [rep ns] (rep (least ns)) := fun vs f hp s rs Q q => by
  obtain ⟨v, rfl, rv⟩ := rs.one
  obtain ⟨p, us, rfl, h1, h2⟩ := rep_list rv
  have e := repL_ints h2
  subst e
  refine ⟨p, ns, rfl, SqL.of1 (s _ _ h1), h, fun m hm hle => ?_⟩
  have l := least_mem h
  have e : m = least ns := Int.le_antisymm (hle _ l.1) (l.2 _ hm)
  rw [e]
  exact q _ f hp (.refl s) (rep_of_int _ _)
theorem c_max {ns : List Int} (h : 0 < ns.length) : RcD (rMax K) [rep ns] (rep (greatest ns)) := fun vs f hp s rs Q q => by
  obtain ⟨v, rfl, rv⟩ := rs.one
  obtain ⟨p, us, rfl, h1, h2⟩ := rep_list rv
  have e := repL_ints h2
  subst e
  refine ⟨p, ns, rfl, SqL.of1 (s _ _ h1), h, fun m hm hle => ?_⟩
  have l := greatest_mem h
  have e : m = greatest ns := Int.le_antisymm (l.2 _ hm) (hle _ l.1)
  rw [e]
  exact q _ f hp (.refl s) (rep_of_int _ _)
/-! ### isinstance -/
def tyName : PyData → String
  | .none => "NoneType" | .bool _ => "bool" | .int _ => "int" | .str _ => "str" | .list _ => "list" | .tuple _ => "tuple" | .dict _ => "dict"
/-- isinstance(x, T) of data -/
def isiN (a T : String) : Bool := a == T || (T == "int" && a == "bool")
def isi (d : PyData) (T : String) : Bool := isiN (tyName d) T
/-! ### the slices -/
def tSlX (K : PySem.W.Frag) (te : TE) (tl th : TO) : TE := tSl (rSlX K) te tl th
theorem en_sl {ds : List PyData} {tl th : TO} {lo hi : Option Int} (h : EvD Γ te (rpD (.list ds))) (h1 : EvP Γ tl lo) (h2 : EvP Γ th hi) :
    EvN Γ (tSl (rSlX K) te tl th) (oLD ((ds.drop (HT.sIx ds.length 0 lo)).take (HT.sIx ds.length ds.length hi - HT.sIx ds.length 0 lo))) := fun σ f hp s ok Q q =>
  h σ f hp s ok _ fun v f1 hp1 e1 rv => h1 σ f1 hp1 e1.fh (ok.mono e1.ff) _ fun f2 hp2 e2 => h2 σ f2 hp2 e2.fh (ok.mono (e1.trans e2).ff) _ fun f3 hp3 e3 => by
    have rv := RP.mono (rpD (.list ds)) rv (e2.trans e3).ff
    have rv : repD (.list ds) v f3 := rv
    simp only [repD] at rv
    obtain ⟨p, us, rfl, g1, g2⟩ := rv
    have E := (e1.trans e2).trans e3
    refine .inl (.inl ⟨p, us, rfl, SqL.of1 (E.fh _ _ g1), fun n hn => q n _ f3 _ (E.trans (.newH E.fh hn)) (E.hh.free hn) (E.fh.free hn) upd_same ⟨_, rfl, ?_⟩⟩)
    unfold cutV
    rw [repL_length g2]
    exact repL_take _ (repL_drop _ g2)
def cut {α : Type} (xs : List α) (lo hi : Option Int) : List α := (xs.drop (HT.sIx xs.length 0 lo)).take (HT.sIx xs.length xs.length hi - HT.sIx xs.length 0 lo)
theorem en_cut {α : Type} {_ : ToPy α} {xs : List α} {tl th : TO} {lo hi : Option Int} (h : EvD Γ te (rep xs)) (h1 : EvP Γ tl lo) (h2 : EvP Γ th hi) : EvN Γ (tSl (rSlX K) te tl th) (oL (cut xs lo hi)) := by
  have z := en_sl (K := K) (ds := xs.map py) h h1 h2
  have e : (cut xs lo hi).map py = (((xs.map py).drop (HT.sIx (xs.map (py : α → PyData)).length 0 lo)).take (HT.sIx (xs.map (py : α → PyData)).length (xs.map (py : α → PyData)).length hi - HT.sIx (xs.map (py : α → PyData)).length 0 lo)) := by
    unfold cut
    rw [List.map_take, List.map_drop, List.length_map]
  unfold oL
  rw [e]
  exact z
end
end D

set_option Elab.async false
set_option linter.all false
set_option maxRecDepth 100000
set_option maxHeartbeats 4000000
namespace D
open PySem PySem.Spec PyProof.Rows L2
open ToPy (py)

/-! ### states: a base (the part that stands, the whole heap, what of it may change), slots, our own objects -/
structure Base where
  f : Hp
  h : Hp
  m : List Addr
abbrev Own := List (Addr × OT)
structure Sta (B : Base) (Γ : Ctx) (O : Own) (σ : L2.St) (f h : Hp) : Prop where
  ff : Same B.f f
  fh : Same f h
  hh : ∀ a o, B.h a = some o → a ∉ B.m → h a = some o
  th : ∀ a, B.h a ≠ none → h a ≠ none
  nf : ∀ a, B.h a ≠ none → B.f a = none → f a = none
  ok : Ok Γ σ f
  ow : ∀ p T, (p, T) ∈ O → f p = none ∧ (B.h p = none ∨ p ∈ B.m) ∧ ∃ o, h p = some o ∧ T.q o f
  nd : (O.map (·.1)).Nodup
structure Post where
  nx : L2.St → Hp → Hp → Prop
  rt : V → Hp → Hp → Prop
  bk : L2.St → Hp → Hp → Prop
  ct : L2.St → Hp → Hp → Prop
structure PostOk (L : Hp) (P : Post) (D : Ends) : Prop where
  nx : ∀ σ f h, Same L f → P.nx σ f h → D.nx σ h
  rt : ∀ v f h, Same L f → P.rt v f h → D.rt v h
  bk : ∀ σ f h, Same L f → P.bk σ f h → D.bk σ h
  ct : ∀ σ f h, Same L f → P.ct σ f h → D.ct σ h
def BDe (B : Base) (Γ : Ctx) (O : Own) (t : TS) (P : Post) : Prop := ∀ L σ f h, Sta B Γ O σ f h → Same L f → ∀ D : Ends, PostOk L P D → t D σ h
def EvS (B : Base) (Γ : Ctx) (O : Own) (te : TE) (R : RP) : Prop := ∀ σ f h, Sta B Γ O σ f h → ∀ Q : VK, (∀ v f' h', Ext f h f' h' → R.p v f' → Q v h') → te σ h Q
def EvTS (B : Base) (Γ : Ctx) (O : Own) (tt : TT) (b : Bool) : Prop := ∀ σ f h, Sta B Γ O σ f h → ∀ Q : Bool → Hp → Prop, (∀ f' h', Ext f h f' h' → Q b h') → tt σ h Q
def EvNS (B : Base) (Γ : Ctx) (O : Own) (te : TE) (T : OT) : Prop := ∀ σ f h, Sta B Γ O σ f h → ∀ Q : VK, (∀ p o f' h', Ext f h f' h' → h p = none → f' p = none → h' p = some o → T.q o f' → Q (.ref p) h') → te σ h Q
/-- the heap that stands, with our own objects -/
def lent (O : Own) (f h : Hp) : Hp := fun a => if a ∈ O.map (·.1) then h a else f a
/-- one thing lent: as R it is known, as R' the expression may see it -/
def Lend (O : Own) (R R' : RP) : Prop := ∀ v f h, Same f (lent O f h) → (∀ p T, (p, T) ∈ O → ∃ o, h p = some o ∧ T.q o f) → R.p v f → R'.p v (lent O f h)
inductive LendC (O : Own) : Ctx → Ctx → Prop where
  | nil : LendC O [] []
  | no {G G' : Ctx} (h : LendC O G G') : LendC O (none :: G) (none :: G')
  | skip {G G' : Ctx} {R : RP} (h : LendC O G G') : LendC O (some R :: G) (none :: G')
  | one {G G' : Ctx} {R R' : RP} (l : Lend O R R') (h : LendC O G G') : LendC O (some R :: G) (some R' :: G')
section
variable {B : Base} {Γ Γ' : Ctx} {O O' : Own} {σ : L2.St} {f h f' h' : Hp} {te ta : TE} {tt : TT} {R R' : RP} {T T' : OT} {t u t1 t2 : TS} {P : Post} {b : Bool} {i j : Nat} {K : PySem.W.Frag}
theorem Sta.ext (s : Sta B Γ O σ f h) (e : Ext f h f' h') : Sta B Γ O σ f' h' where
  ff := s.ff.trans e.ff
  fh := e.fh
  hh := fun a o q n => e.hh _ _ (s.hh a o q n)
  th := fun a n z => s.th a n (e.hh.free z)
  nf := fun a n z => e.nf a (s.th a n) (s.nf a n z)
  ok := s.ok.mono e.ff
  ow := fun p T hp => by
    obtain ⟨h1, h2, o, h3, h4⟩ := s.ow p T hp
    exact ⟨e.nf p (by rw [h3]; exact fun z => nomatch z) h1, h2, o, e.hh _ _ h3, T.mono h4 e.ff⟩
  nd := s.nd
theorem Sta.toExt (s : Sta B Γ O σ f h) (hm : B.m = []) : Ext B.f B.h f h := ⟨s.ff, fun a o e => s.hh a o e (by rw [hm]; simp), s.fh, s.nf⟩
theorem EvD.s (x : EvD Γ te R) : EvS B Γ O te R := fun σ f h s Q q => x σ f h s.fh s.ok Q q
theorem EvT.s (x : EvT Γ tt b) : EvTS B Γ O tt b := fun σ f h s Q q => x σ f h s.fh s.ok Q q
theorem EvN.s (x : EvN Γ te T) : EvNS B Γ O te T := fun σ f h s Q q => x σ f h s.fh s.ok Q q
theorem PostOk.seq {L : Hp} {D : Ends} (p : PostOk L P D) (k : ∀ σ f h, Same L f → Sta B Γ' O' σ f h → u D σ h) : PostOk L { P with nx := fun σ f h => Sta B Γ' O' σ f h } { D with nx := u D } :=
  ⟨k, p.rt, p.bk, p.ct⟩
theorem bd_next (k : ∀ σ f h, Sta B Γ O σ f h → P.nx σ f h) : BDe B Γ O tNext P := fun L σ f h s l D p => p.nx σ f h l (k σ f h s)
theorem bd_cont (k : ∀ σ f h, Sta B Γ O σ f h → P.ct σ f h) : BDe B Γ O (tSeq tCont u) P := fun L σ f h s l D p => p.ct σ f h l (k σ f h s)
theorem bd_seq (h1 : BDe B Γ O t { P with nx := fun σ f h => Sta B Γ' O' σ f h }) (h2 : BDe B Γ' O' u P) : BDe B Γ O (tSeq t u) P := fun L σ f h s l D p =>
  h1 L σ f h s l _ (p.seq fun σ' f' h' l' s' => h2 L σ' f' h' s' l' D p)
theorem Sta.set (s : Sta B Γ O σ f h) {v : V} (hv : R.p v f) : Sta B (Γ.set i (some R)) O (σ.set i (some v)) f h := { s with ok := s.ok.set i hv }
theorem Sta.setn (s : Sta B Γ O σ f h) {v : Option V} : Sta B (Γ.set i none) O (σ.set i v) f h := { s with ok := s.ok.setn i }
/-- x = e -/
theorem bd_set (he : EvS B Γ O te R) (hr : BDe B (Γ.set i (some R)) O u P) : BDe B Γ O (tSeq (tAsg te (gName i)) u) P := fun L σ f h s l D p =>
  he σ f h s _ fun v f1 h1 e rv => hr L _ f1 h1 ((s.ext e).set rv) (l.trans e.ff) D p
/-- x = e, its value by a letter -/
theorem bd_let {α : Type} {_ : ToPy α} {a : α} (he : EvS B Γ O te (rep a)) (hr : ∀ x : α, x = a → BDe B (Γ.set i (some (rep x))) O u P) : BDe B Γ O (tSeq (tAsg te (gName i)) u) P := bd_set he (hr a rfl)
/-- x = e, a new object of our own -/
theorem bd_own (he : EvNS B Γ O te T) (hr : ∀ p, BDe B (Γ.set i (some (own p))) ((p, T) :: O) u P) : BDe B Γ O (tSeq (tAsg te (gName i)) u) P := fun L σ f h s l D q =>
  he σ f h s _ fun p o f1 h1 e n nf ho ht => by
    have s1 := s.ext e
    refine hr p L _ f1 h1 { s1 with ok := s1.ok.set i (R := own p) rfl, ow := ?_, nd := ?_ } (l.trans e.ff) D q
    · intro p' T' hm
      rcases List.mem_cons.mp hm with z | z
      · cases z
        refine ⟨nf, .inl ?_, o, ho, ht⟩
        cases hb : B.h p with
        | none => rfl
        | some o' => exact absurd n (s.th p (by rw [hb]; exact fun z => nomatch z))
      · exact s1.ow p' T' z
    · rw [List.map_cons, List.nodup_cons]
      refine ⟨fun z => ?_, s1.nd⟩
      obtain ⟨⟨p', T'⟩, z1, z2⟩ := List.mem_map.mp z
      obtain ⟨_, _, o', h3, _⟩ := s.ow p' T' z1
      cases z2
      rw [n] at h3
      cases h3
theorem bd_drop (he : EvS B Γ O te R) (hr : BDe B Γ O u P) : BDe B Γ O (tSeq (tDrop te) u) P := fun L σ f h s l D p =>
  he σ f h s _ fun v f1 h1 e rv => hr L _ f1 h1 (s.ext e) (l.trans e.ff) D p
theorem bd_ret (he : EvS B Γ O te R) (hm : B.m = []) (hP : ∀ v f h, Ext B.f B.h f h → R.p v f → P.rt v f h) : BDe B Γ O (tSeq (tRet te) u) P := fun L σ f h s l D p =>
  he σ f h s _ fun v f1 h1 e rv => p.rt v f1 h1 (l.trans e.ff) (hP v f1 h1 ((s.ext e).toExt hm) rv)
theorem bd_retN (hm : B.m = []) (hP : ∀ f h, Ext B.f B.h f h → P.rt .non f h) : BDe B Γ O (tSeq tRetN u) P := fun L σ f h s l D p => p.rt .non f h l (hP f h (s.toExt hm))
theorem bd_if (hc : EvTS B Γ O tt b) (h1 : b = true → BDe B Γ O t1 { P with nx := fun σ f h => Sta B Γ' O' σ f h }) (h2 : b = false → BDe B Γ O t2 { P with nx := fun σ f h => Sta B Γ' O' σ f h }) (hr : BDe B Γ' O' u P) :
    BDe B Γ O (tSeq (tIfS tt t1 t2) u) P := fun L σ f h s l D p => hc σ f h s _ fun f1 hp1 e => by
  have s1 := s.ext e
  have l1 := l.trans e.ff
  have p1 : PostOk L { P with nx := fun σ f h => Sta B Γ' O' σ f h } { D with nx := u D } := p.seq fun σ' f' h' l' s' => hr L σ' f' h' s' l' D p
  cases b with
  | true => exact iteT (h1 rfl L σ f1 hp1 s1 l1 _ p1)
  | false => exact iteF (h2 rfl L σ f1 hp1 s1 l1 _ p1)
/-- if c: a way that does not fall through -/
theorem bd_ifr (hc : EvTS B Γ O tt b) (h1 : b = true → BDe B Γ O t1 { P with nx := fun _ _ _ => False }) (hr : b = false → BDe B Γ O u P) : BDe B Γ O (tSeq (tIfS tt t1 tNext) u) P := fun L σ f h s l D p =>
  hc σ f h s _ fun f1 hp1 e => by
    have s1 := s.ext e
    have l1 := l.trans e.ff
    cases b with
    | true => exact iteT (h1 rfl L σ f1 hp1 s1 l1 _ ⟨fun _ _ _ _ z => z.elim, p.rt, p.bk, p.ct⟩)
    | false => exact iteF (hr rfl L σ f1 hp1 s1 l1 D p)
/-- both ways go on alone -/
theorem bd_if2 (hc : EvTS B Γ O tt b) (h1 : b = true → BDe B Γ O (tSeq t1 u) P) (h2 : b = false → BDe B Γ O (tSeq t2 u) P) : BDe B Γ O (tSeq (tIfS tt t1 t2) u) P := fun L σ f h s l D p =>
  hc σ f h s _ fun f1 hp1 e => by
    have s1 := s.ext e
    have l1 := l.trans e.ff
    cases b with
    | true => exact iteT (h1 rfl L σ f1 hp1 s1 l1 D p)
    | false => exact iteF (h2 rfl L σ f1 hp1 s1 l1 D p)
/-- if c: x = e, both ways in one -/
theorem bd_ifset {α : Type} [ToPy α] {a c : α} (hc : EvTS B Γ O tt b) (h1 : b = true → EvS B Γ O te (rep a)) (h2 : Γ[i]? = some (some (rep c))) (hr : BDe B (Γ.set i (some (rep (if b = true then a else c)))) O u P) :
    BDe B Γ O (tSeq (tIfS tt (tSeq (tAsg te (gName i)) tNext) tNext) u) P := fun L σ f h s l D p => hc σ f h s _ fun f1 hp1 e => by
  have s1 := s.ext e
  have l1 := l.trans e.ff
  cases b with
  | true => exact iteT (h1 rfl σ f1 hp1 s1 _ fun v f2 h2 e2 rv => hr L _ f2 h2 ((s1.ext e2).set rv) (l1.trans e2.ff) D p)
  | false =>
    refine iteF (hr L σ f1 hp1 ?_ l1 D p)
    have e : Γ.set i (some (rep (if false = true then a else c))) = Γ := by
      apply List.ext_getElem?
      intro n
      by_cases hn : i = n
      · subst hn
        rw [h2, List.getElem?_set_self (List.getElem?_eq_some_iff.mp h2).1]
        simp
      · rw [List.getElem?_set_ne hn]
    rw [e]
    exact s1
theorem bd_weak (w : ∀ σ f h, Sta B Γ O σ f h → Sta B Γ' O' σ f h) (k : BDe B Γ' O' t P) : BDe B Γ O t P := fun L σ f h s l D p => k L σ f h (w σ f h s) l D p
theorem sta_forget (hl : Γ'.length = Γ.length) (w : ∀ (i : Nat) (R : RP), Γ'[i]? = some (some R) → Γ[i]? = some (some R)) : ∀ σ f h, Sta B Γ O σ f h → Sta B Γ' O σ f h := fun σ f h s =>
  { s with ok := ⟨by rw [s.ok.1, hl], fun i R e => s.ok.2 i R (w i R e)⟩ }
/-! ### our own objects -/
theorem Sta.get (s : Sta B Γ O σ f h) {p : Addr} (hi : O[i]? = some (p, T)) : ∃ o, h p = some o ∧ T.q o f := (s.ow p T (List.mem_of_getElem? hi)).2.2
theorem nodup_at {O : Own} (nd : (O.map (·.1)).Nodup) {i j : Nat} {p : Addr} {T T' : OT} (h1 : O[i]? = some (p, T)) (h2 : O[j]? = some (p, T')) : i = j := by
  have e1 : (O.map (·.1))[i]? = some p := by rw [List.getElem?_map, h1]; rfl
  have e2 : (O.map (·.1))[j]? = some p := by rw [List.getElem?_map, h2]; rfl
  obtain ⟨l1, g1⟩ := List.getElem?_eq_some_iff.mp e1
  obtain ⟨l2, g2⟩ := List.getElem?_eq_some_iff.mp e2
  exact (List.getElem_inj nd).mp (g1.trans g2.symm)
theorem Sta.put (s : Sta B Γ O σ f h) {p : Addr} {o : HO} (hi : O[i]? = some (p, T)) (hq : T'.q o f) : Sta B Γ (O.set i (p, T')) σ f (upd h p o) := by
  obtain ⟨h1, h2, o1, h3, _⟩ := s.ow p T (List.mem_of_getElem? hi)
  refine { s with fh := same_upd s.fh h1, hh := ?_, th := ?_, ow := ?_, nd := ?_ }
  · intro a o' e n
    by_cases hp : a = p
    · subst hp
      rcases h2 with h2 | h2
      · rw [h2] at e; cases e
      · exact absurd h2 n
    · rw [upd_ne hp]
      exact s.hh a o' e n
  · intro a n
    by_cases hp : a = p
    · subst hp
      rw [upd_same]
      exact fun z => nomatch z
    · rw [upd_ne hp]
      exact s.th a n
  · intro p' U hm
    obtain ⟨j, hj⟩ := List.getElem?_of_mem hm
    by_cases hij : i = j
    · subst hij
      rw [List.getElem?_set_self (List.getElem?_eq_some_iff.mp hi).1] at hj
      cases hj
      exact ⟨h1, h2, o, upd_same, hq⟩
    · rw [List.getElem?_set_ne hij] at hj
      obtain ⟨g1, g2, o2, g3, g4⟩ := s.ow p' U (List.mem_of_getElem? hj)
      have ne : p' ≠ p := fun z => hij (nodup_at s.nd hi (z ▸ hj))
      exact ⟨g1, g2, o2, by rw [upd_ne ne]; exact g3, g4⟩
  · have e : (O.set i (p, T')).map (·.1) = O.map (·.1) := by
      rw [List.map_set]
      apply List.ext_getElem?
      intro n
      by_cases hn : i = n
      · subst hn
        rw [List.getElem?_set_self (by simpa using (List.getElem?_eq_some_iff.mp hi).1), List.getElem?_map, hi]
        rfl
      · rw [List.getElem?_set_ne hn]
    rw [e]
    exact s.nd
/-- an object of our own stands for good from now on -/
theorem Sta.freeze (s : Sta B Γ O σ f h) {p : Addr} {o : HO} (hi : O[i]? = some (p, T)) (ho : h p = some o) (hm : B.m = []) : Sta B Γ (O.eraseIdx i) σ (upd f p o) h ∧ Same f (upd f p o) := by
  obtain ⟨h1, h2, o1, h3, h4⟩ := s.ow p T (List.mem_of_getElem? hi)
  have hb : B.h p = none := by
    rcases h2 with h2 | h2
    · exact h2
    · rw [hm] at h2; cases h2
  have k := same_new (o := o) h1
  refine ⟨{ s with ff := s.ff.trans k, fh := ?_, nf := ?_, ok := s.ok.mono k, ow := ?_, nd := ?_ }, k⟩
  · intro a u e
    by_cases hp : a = p
    · subst hp
      rw [upd_same] at e
      cases e
      exact ho
    · rw [upd_ne hp] at e
      exact s.fh a u e
  · intro a n z
    rw [upd_ne (fun y => n (by rw [y]; exact hb))]
    exact s.nf a n z
  · intro p' U hm'
    obtain ⟨j, hj⟩ := List.getElem?_of_mem hm'
    have hj' : O[if j < i then j else j + 1]? = some (p', U) := by
      rw [List.getElem?_eraseIdx] at hj
      split at hj
      · rename_i c; rw [if_pos c]; exact hj
      · rename_i c; rw [if_neg c]; exact hj
    obtain ⟨g1, g2, o2, g3, g4⟩ := s.ow p' U (List.mem_of_getElem? hj')
    have ne : p' ≠ p := fun z => by
      have := nodup_at s.nd hi (z ▸ hj')
      split at this <;> omega
    exact ⟨by rw [upd_ne ne]; exact g1, g2, o2, g3, U.mono g4 k⟩
  · rw [List.eraseIdx_eq_take_drop_succ, List.map_append]
    have nd := s.nd
    rw [← List.take_append_drop i O, List.map_append] at nd
    rw [List.nodup_append] at nd ⊢
    obtain ⟨n1, n2, n3⟩ := nd
    have sub : (List.map (·.1) (O.drop (i + 1))).Sublist (List.map (·.1) (O.drop i)) := by
      refine List.Sublist.map _ ?_
      have : O.drop (i + 1) = (O.drop i).drop 1 := by rw [List.drop_drop]
      rw [this]
      exact List.drop_sublist 1 _
    exact ⟨n1, n2.sublist sub, fun a ha b hb => n3 a ha b (sub.subset hb)⟩
theorem bd_frz {α : Type} {_ : ToPy α} {xs : List α} {p : Addr} (j : Nat) (i : Nat) (hi : Γ[i]? = some (some (own p))) (hj : O[j]? = some (p, oL xs)) (hm : B.m = []) (k : BDe B (Γ.set i (some (rep xs))) (O.eraseIdx j) u P) : BDe B Γ O u P := fun L σ f h s l D q => by
  obtain ⟨o, ho, vs, rfl, hr⟩ := s.get hj
  obtain ⟨s1, k1⟩ := s.freeze hj ho hm
  obtain ⟨v, hv, rv⟩ := s.ok.2 i _ hi
  cases rv
  have z : (rep xs).p (.ref p) (upd f p (.lst vs)) := by
    show repD (.list (xs.map py)) _ _
    simp only [repD]
    exact ⟨p, vs, rfl, upd_same, repL_mono k1 _ _ hr⟩
  refine k L σ _ h ?_ (l.trans k1) D q
  have s2 := s1.set (i := i) z
  have e : σ.set i (some (.ref p)) = σ := by
    apply List.ext_getElem?
    intro n
    by_cases hn : i = n
    · subst hn
      rw [List.getElem?_set_self (List.getElem?_eq_some_iff.mp hv).1, hv]
    · rw [List.getElem?_set_ne hn]
  rw [e] at s2
  exact s2
/-! ### lending our own objects to an expression that leaves nothing of them behind -/
theorem lent_f {f h : Hp} (s : Sta B Γ O σ f h) : Same f (lent O f h) := fun a o e => by
  unfold lent
  split
  · exact s.fh a o e
  · exact e
theorem lent_h {f h : Hp} (s : Sta B Γ O σ f h) : Same (lent O f h) h := fun a o e => by
  unfold lent at e
  split at e
  · exact e
  · exact s.fh a o e
theorem lent_at {p : Addr} {f h : Hp} (hi : O[i]? = some (p, T)) : lent O f h p = h p := by
  unfold lent
  rw [if_pos (List.mem_map.mpr ⟨_, List.mem_of_getElem? hi, rfl⟩)]
theorem lend_same : Lend O R R := fun v f h s _ hv => R.mono hv s
theorem lend_list {α : Type} {_ : ToPy α} {xs : List α} {p : Addr} (j : Nat) (hj : O[j]? = some (p, oL xs)) : Lend O (own p) (rep xs) := fun v f h s w hv => by
  cases hv
  obtain ⟨o, ho, vs, rfl, hr⟩ := w p _ (List.mem_of_getElem? hj)
  show repD (.list (xs.map py)) _ _
  simp only [repD]
  exact ⟨p, vs, rfl, by rw [lent_at hj]; exact ho, repL_mono s _ _ hr⟩
theorem LendC.ok (c : LendC O Γ Γ') : ∀ {σ : L2.St} {f h : Hp}, Same f (lent O f h) → (∀ p T, (p, T) ∈ O → ∃ o, h p = some o ∧ T.q o f) → Ok Γ σ f → Ok Γ' σ (lent O f h) := by
  induction c with
  | nil => intro σ f h s w ok; exact ⟨ok.1, fun i R e => by simp at e⟩
  | @no Γ Γ' c ih =>
    intro σ f h s w ok
    cases σ with
    | nil => have := ok.1; simp at this
    | cons x σ =>
      have ok' : Ok Γ σ f := ⟨by have := ok.1; simpa using this, fun i R e => by have := ok.2 (i + 1) R (by simpa using e); simpa using this⟩
      have r := ih s w ok'
      refine ⟨by simp [r.1], fun i R e => ?_⟩
      cases i with
      | zero => simp at e
      | succ i => simpa using r.2 i R (by simpa using e)
  | @skip Γ Γ' Q c ih =>
    intro σ f h s w ok
    cases σ with
    | nil => have := ok.1; simp at this
    | cons x σ =>
      have ok' : Ok Γ σ f := ⟨by have := ok.1; simpa using this, fun i R e => by have := ok.2 (i + 1) R (by simpa using e); simpa using this⟩
      have r := ih s w ok'
      refine ⟨by simp [r.1], fun i R e => ?_⟩
      cases i with
      | zero => simp at e
      | succ i => simpa using r.2 i R (by simpa using e)
  | @one Γ Γ' Q Q' l c ih =>
    intro σ f h s w ok
    cases σ with
    | nil => have := ok.1; simp at this
    | cons x σ =>
      have ok' : Ok Γ σ f := ⟨by have := ok.1; simpa using this, fun i R e => by have := ok.2 (i + 1) R (by simpa using e); simpa using this⟩
      have r := ih s w ok'
      refine ⟨by simp [r.1], fun i R e => ?_⟩
      cases i with
      | zero =>
        simp at e
        subst e
        obtain ⟨v, h1, h2⟩ := ok.2 0 Q rfl
        exact ⟨v, h1, l v f h s w h2⟩
      | succ i => simpa using r.2 i R (by simpa using e)
theorem ev_lend (c : LendC O Γ Γ') (x : EvD Γ' te R) (fl : Flat R) : EvS B Γ O te R := fun σ f h s Q q =>
  x σ (lent O f h) h (lent_h s) (c.ok (lent_f s) (fun p T m => (s.ow p T m).2.2) s.ok) Q fun v f' h' e rv =>
    q v f h' ⟨.refl _, e.hh, s.fh.trans e.hh, fun _ _ z => z⟩ (fl v f' f rv)
theorem et_lend (c : LendC O Γ Γ') (x : EvT Γ' tt b) : EvTS B Γ O tt b := fun σ f h s Q q =>
  x σ (lent O f h) h (lent_h s) (c.ok (lent_f s) (fun p T m => (s.ow p T m).2.2) s.ok) Q fun f' h' e =>
    q f h' ⟨.refl _, e.hh, s.fh.trans e.hh, fun _ _ z => z⟩
/-! ### changes of our own objects -/
/-- xs.append(e) -/
theorem bd_app {α : Type} {_ : ToPy α} {xs : List α} {a : α} {p : Addr} {to : TE} (j : Nat) (ho : EvD Γ to (own p)) (hj : O[j]? = some (p, oL xs)) (he : EvS B Γ O te (rep a)) (hz : xs.length < 1000000) (k : BDe B Γ (O.set j (p, oL (xs ++ [a]))) u P) :
    BDe B Γ O (tSeq (tDrop (tBM K "list" rAppend to (tCons te tNil))) u) P := fun L σ f h s l D q =>
  ho σ f h s.fh s.ok _ fun v f1 h1 e1 rv => by
    cases rv
    have s1 := s.ext e1
    obtain ⟨o, hp, vs, rfl, hr⟩ := s1.get hj
    refine ⟨.inl ⟨rfl, vs, SqL.of1 hp⟩, he σ f1 h1 s1 _ fun y f2 h2 e2 ry => ?_⟩
    have s2 := s1.ext e2
    have hp2 : h2 p = some (.lst vs) := e2.hh _ _ hp
    refine ⟨p, vs, y, rfl, rfl, hp2, ?_, ?_⟩
    · rw [repL_length hr, List.length_map]
      exact Nat.lt_trans hz (by decide)
    · refine k L σ f2 _ (s2.put hj ?_) ((l.trans e1.ff).trans e2.ff) D q
      refine ⟨_, rfl, ?_⟩
      rw [List.map_append]
      exact repL_append (repL_mono e2.ff _ _ hr) (repL_one ry)
/-- xs[i] = e -/
theorem bd_setI {α : Type} {_ : ToPy α} {xs : List α} {a : α} {z : Int} {p : Addr} {to ti : TE} (j : Nat) (he : EvS B Γ O te (rep a)) (ho : EvD Γ to (own p)) (hi : EvS B Γ O ti (rep z)) (hj : O[j]? = some (p, oL xs)) (h0 : 0 ≤ z) (h1 : z < (xs.length : Int))
    (k : BDe B Γ (O.set j (p, oL (xs.set z.toNat a))) u P) : BDe B Γ O (tSeq (tAsg te (gSub to ti rSetL)) u) P := fun L σ f h s l D q =>
  he σ f h s _ fun y f1 hp1 e1 ry => ho σ f1 hp1 e1.fh (s.ext e1).ok _ fun v f2 hp2 e2 rv => hi σ f2 hp2 ((s.ext e1).ext e2) _ fun w f3 hp3 e3 rw_ => by
    cases rv
    cases rep_int rw_
    have s3 := ((s.ext e1).ext e2).ext e3
    obtain ⟨o, hp, vs, rfl, hr⟩ := s3.get hj
    refine ⟨p, vs, z, z.toNat, rfl, rfl, hp, ?_, ?_⟩
    · unfold ixN
      rw [if_pos h0, if_pos]
      rw [repL_length hr, List.length_map]
      exact h1
    · refine k L σ f3 _ (s3.put hj ?_) (((l.trans e1.ff).trans e2.ff).trans e3.ff) D q
      refine ⟨_, rfl, ?_⟩
      rw [List.map_set]
      exact repL_set _ hr ((rpD (py a)).mono ry (e2.trans e3).ff)
end
end D

set_option Elab.async false
set_option linter.all false
set_option maxRecDepth 100000
set_option maxHeartbeats 4000000
namespace D
open PySem PySem.Spec PyProof.Rows L2
open ToPy (py)

/-! ### what a for walks: n items, the i-th as item i tells -/
structure ItOk (J : It) (f0 : Hp) (n : Nat) (item : Nat → RP) : Prop where
  go : ∀ i f h, i < n → Same f0 f → Same f h → J.go i h
  yld : ∀ i f h x h', i < n → Same f0 f → Same f h → J.yld i h x h' → ∃ f', Ext f h f' h' ∧ (item i).p x f'
  stop : ∀ f h, Same f0 f → Same f h → J.stop n h
def WiD (Γ : Ctx) (wi : TI) (n : Nat) (item : Nat → RP) : Prop := ∀ σ f h, Same f h → Ok Γ σ f → ∀ Rk : It → Hp → Prop, (∀ J f' h', Ext f h f' h' → ItOk J f' n item → Rk J h') → wi σ h Rk
def WiS (B : Base) (Γ : Ctx) (O : Own) (wi : TI) (n : Nat) (item : Nat → RP) : Prop := ∀ σ f h, Sta B Γ O σ f h → ∀ Rk : It → Hp → Prop, (∀ J f' h', Ext f h f' h' → ItOk J f' n item → Rk J h') → wi σ h Rk
/-- a target: what the slots hold behind it -/
def TgD (g : TG) (R : RP) (Γ Γ' : Ctx) : Prop := ∀ σ f h, Same f h → Ok Γ σ f → ∀ v, R.p v f → ∀ Q : L2.St → Hp → Prop, (∀ σ', Ok Γ' σ' f → Q σ' h) → g v σ h Q
section
variable {B : Base} {Γ Γ' : Ctx} {O O' : Own} {σ : L2.St} {te ta tl : TE} {tt : TT} {R R' : RP} {T T' : OT} {t u t1 t2 tb : TS} {P : Post} {b : Bool} {i j n : Nat} {K : PySem.W.Frag} {wi : TI} {item : Nat → RP} {g : TG}
theorem WiD.s (x : WiD Γ wi n item) : WiS B Γ O wi n item := fun σ f h s Q q => x σ f h s.fh s.ok Q q
theorem tg_name {j : Nat} : TgD (gName j) R Γ (Γ.set j (some R)) := fun σ f h s ok v rv Q q => q _ (ok.set j rv)
theorem tg_pair {α β : Type} {_ : ToPy α} {_ : ToPy β} {a : α} {c : β} {i j : Nat} : TgD (gTup K 2 (gCons (gName i) (gCons (gName j) gNil))) (rep (a, c)) Γ ((Γ.set i (some (rep a))).set j (some (rep c))) := fun σ f h s ok v rv Q q => by
  have rv : repD (.tuple [py a, py c]) v f := rv
  simp only [repD, repL] at rv
  obtain ⟨p, vs, rfl, h1, x, r, rfl, hx, y, r2, rfl, hy, rfl⟩ := rv
  exact ⟨p, _, rfl, SqT.of1 (s _ _ h1), rfl, x, [y], rfl, y, [], rfl, rfl, q _ ((ok.set i (R := rep a) hx).set j (R := rep c) hy)⟩
theorem tg_t3 {α β γ : Type} {_ : ToPy α} {_ : ToPy β} {_ : ToPy γ} {a : α} {c : β} {d : γ} {i j k : Nat} :
    TgD (gTup K 3 (gCons (gName i) (gCons (gName j) (gCons (gName k) gNil)))) (rep (T3.mk a c d)) Γ (((Γ.set i (some (rep a))).set j (some (rep c))).set k (some (rep d))) := fun σ f h s ok v rv Q q => by
  have rv : repD (.tuple [py a, py c, py d]) v f := rv
  simp only [repD, repL] at rv
  obtain ⟨p, vs, rfl, h1, x, r, rfl, hx, y, r2, rfl, hy, z, r3, rfl, hz, rfl⟩ := rv
  exact ⟨p, _, rfl, SqT.of1 (s _ _ h1), rfl, x, [y, z], rfl, y, [z], rfl, z, [], rfl, rfl, q _ (((ok.set i (R := rep a) hx).set j (R := rep c) hy).set k (R := rep d) hz)⟩
/-- for .. in ..: the word by the turn: slots G, our own W, a fact F -/
theorem bd_for (hw : WiS B Γ O wi n item) (G : Nat → Ctx) (W : Nat → Own) (F : Nat → Prop) (h0 : ∀ σ f h, Sta B Γ O σ f h → Sta B (G 0) (W 0) σ f h) (f0 : F 0) {G' : Nat → Ctx}
    (ht : ∀ i, i < n → TgD g (item i) (G i) (G' i))
    (hb : ∀ i, i < n → F i → BDe B (G' i) (W i) tb { P with nx := fun σ f h => F (i + 1) ∧ Sta B (G (i + 1)) (W (i + 1)) σ f h, ct := fun σ f h => F (i + 1) ∧ Sta B (G (i + 1)) (W (i + 1)) σ f h, bk := fun _ _ _ => False })
    (hn : F n → BDe B (G n) (W n) u P) : BDe B Γ O (tSeq (tFor wi g tb) u) P := fun L σ f h s l D p =>
  hw σ f h s _ fun J f1 h1 e J1 => by
    have s1 := s.ext e
    refine ⟨fun i m σ' h' => ∃ f', m = n - i ∧ i ≤ n ∧ F i ∧ Same f1 f' ∧ Sta B (G i) (W i) σ' f' h', ⟨n, f1, by simp, Nat.zero_le _, f0, .refl _, h0 _ _ _ s1⟩, ?_⟩
    rintro i m σ' h' ⟨f', rfl, hi, fi, k1, s'⟩
    by_cases hlt : i < n
    · refine .inr ⟨J1.go i f' h' hlt k1 s'.fh, fun σ2 h2 => ∃ f2, F (i + 1) ∧ Same f1 f2 ∧ Sta B (G (i + 1)) (W (i + 1)) σ2 f2 h2, fun σ2 h2 ⟨f2, a, c, d⟩ => ⟨n - (i + 1), by omega, f2, rfl, hlt, a, c, d⟩, fun x h2 y => ?_⟩
      obtain ⟨f2, e2, rx⟩ := J1.yld i f' h' x h2 hlt k1 s'.fh y
      have s2 := s'.ext e2
      refine ht i hlt σ' f2 h2 s2.fh s2.ok x rx _ fun σ3 ok3 => ?_
      have s3 : Sta B (G' i) (W i) σ3 f2 h2 := { s2 with ok := ok3 }
      have k2 := k1.trans e2.ff
      refine hb i hlt fi f1 σ3 f2 h2 s3 k2 _ ⟨fun σ4 f4 h4 l4 z => ⟨f4, z.1, l4, z.2⟩, fun v f4 h4 l4 z => p.rt v f4 h4 ((l.trans e.ff).trans l4) z, fun σ4 f4 h4 l4 z => z.elim, fun σ4 f4 h4 l4 z => ⟨f4, z.1, l4, z.2⟩⟩
    · have e3 : i = n := by omega
      subst e3
      exact .inl ⟨J1.stop f' h' k1 s'.fh, hn fi L σ' f' h' s' ((l.trans e.ff).trans k1) D p⟩
/-- while ..: at most n turns -/
theorem bd_while (n : Nat) (G : Nat → Ctx) (W : Nat → Own) (F : Nat → Prop) (h0 : ∀ σ f h, Sta B Γ O σ f h → Sta B (G 0) (W 0) σ f h) (f0 : F 0) (c : Nat → Bool) (hc : ∀ i, i ≤ n → F i → EvTS B (G i) (W i) tt (c i))
    (hb : ∀ i, i ≤ n → F i → c i = true → BDe B (G i) (W i) tb { P with nx := fun σ f h => i < n ∧ F (i + 1) ∧ Sta B (G (i + 1)) (W (i + 1)) σ f h, ct := fun σ f h => i < n ∧ F (i + 1) ∧ Sta B (G (i + 1)) (W (i + 1)) σ f h, bk := fun _ _ _ => False })
    (hn : ∀ i, i ≤ n → F i → c i = false → BDe B (G i) (W i) u P) : BDe B Γ O (tSeq (tWhile tt tb) u) P := fun L σ f h s l D p => by
  refine ⟨fun m σ' h' => ∃ i f', m = n - i ∧ i ≤ n ∧ F i ∧ Same f f' ∧ Sta B (G i) (W i) σ' f' h', ⟨n, 0, f, by simp, Nat.zero_le _, f0, .refl _, h0 _ _ _ s⟩, ?_⟩
  rintro m σ' h' ⟨i, f', rfl, hi, fi, k1, s'⟩
  refine hc i hi fi σ' f' h' s' _ fun f2 h2 e => ?_
  have s2 := s'.ext e
  have k2 := k1.trans e.ff
  cases hci : c i with
  | true =>
    refine iteT ⟨fun σ2 h2 => ∃ f2, i < n ∧ F (i + 1) ∧ Same f f2 ∧ Sta B (G (i + 1)) (W (i + 1)) σ2 f2 h2, fun σ2 h2 ⟨f2, a, b, c, d⟩ => ⟨n - (i + 1), by omega, i + 1, f2, rfl, a, b, c, d⟩, ?_⟩
    exact hb i hi fi hci f σ' f2 h2 s2 k2 _ ⟨fun σ4 f4 h4 l4 z => ⟨f4, z.1, z.2.1, l4, z.2.2⟩, fun v f4 h4 l4 z => p.rt v f4 h4 (l.trans l4) z, fun σ4 f4 h4 l4 z => z.elim, fun σ4 f4 h4 l4 z => ⟨f4, z.1, z.2.1, l4, z.2.2⟩⟩
  | false => exact iteF (hn i hi fi hci L σ' f2 h2 s2 (l.trans k2) D p)
/-! the things walked -/
theorem wi_list {ds : List PyData} (h : EvD Γ tl (rpD (.list ds))) {it : Nat → RP} (hi : ∀ i d, ds[i]? = some d → it i = rpD d) : WiD Γ (iList K tl) ds.length it := fun σ f hp s ok Rk q =>
  h σ f hp s ok _ fun v f1 h1 e rv => by
    have rv : repD (.list ds) v f1 := rv
    simp only [repD] at rv
    obtain ⟨p, vs, rfl, g1, g2⟩ := rv
    refine ⟨p, rfl, ⟨vs, SqL.of1 (e.fh _ _ g1)⟩, q _ f1 h1 e ⟨fun i f h hi s0 s1 => ?_, fun i f h x h' hlt s0 s1 y => ?_, fun f h s0 s1 => ⟨vs, SqL.of1 (s1 _ _ (s0 _ _ g1)), by rw [repL_length g2]; exact Nat.le_refl _⟩⟩⟩
    · have hv : i < vs.length := by rw [repL_length g2]; exact hi
      exact ⟨vs, vs[i], SqL.of1 (s1 _ _ (s0 _ _ g1)), by simp [hv]⟩
    · obtain ⟨rfl, y⟩ := y
      have y := y vs (SqL.of1 (s1 _ _ (s0 _ _ g1)))
      have hd : ds[i]? = some ds[i] := by simp [hlt]
      obtain ⟨v, h3, h4⟩ := repL_get g2 hd
      rw [y] at h3
      cases h3
      exact ⟨f, .refl s1, by rw [hi i _ hd]; exact repD_mono s0 _ _ h4⟩
theorem wi_tup {ds : List PyData} (h : EvD Γ tl (rpD (.tuple ds))) {it : Nat → RP} (hi : ∀ i d, ds[i]? = some d → it i = rpD d) : WiD Γ (iTup K tl) ds.length it := fun σ f hp s ok Rk q =>
  h σ f hp s ok _ fun v f1 h1 e rv => by
    have rv : repD (.tuple ds) v f1 := rv
    simp only [repD] at rv
    obtain ⟨p, vs, rfl, g1, g2⟩ := rv
    refine ⟨p, rfl, ⟨vs, SqT.of1 (e.fh _ _ g1)⟩, q _ f1 h1 e ⟨fun i f h hi s0 s1 => ?_, fun i f h x h' hlt s0 s1 y => ?_, fun f h s0 s1 => ⟨vs, SqT.of1 (s1 _ _ (s0 _ _ g1)), by rw [repL_length g2]; exact Nat.le_refl _⟩⟩⟩
    · have hv : i < vs.length := by rw [repL_length g2]; exact hi
      exact ⟨vs, vs[i], SqT.of1 (s1 _ _ (s0 _ _ g1)), by simp [hv]⟩
    · obtain ⟨rfl, y⟩ := y
      have y := y vs (SqT.of1 (s1 _ _ (s0 _ _ g1)))
      have hd : ds[i]? = some ds[i] := by simp [hlt]
      obtain ⟨v, h3, h4⟩ := repL_get g2 hd
      rw [y] at h3
      cases h3
      exact ⟨f, .refl s1, by rw [hi i _ hd]; exact repD_mono s0 _ _ h4⟩
/-- the item at i (a nat) -/
def at_ {α : Type} [ToPy α] (xs : List α) (i : Nat) : α := xs.getD i ToPy.dft
theorem at_some {α : Type} [ToPy α] {xs : List α} {i : Nat} (h : i < xs.length) : xs[i]? = some (at_ xs i) := by
  unfold at_
  rw [List.getD_eq_getElem?_getD, List.getElem?_eq_getElem h]
  rfl
theorem map_at {α : Type} {_ : ToPy α} {xs : List α} {i : Nat} {d : PyData} (h : (xs.map py)[i]? = some d) : rep (at_ xs i) = rpD d := by
  rw [List.getElem?_map] at h
  unfold at_
  rw [List.getD_eq_getElem?_getD]
  cases e : xs[i]? with
  | none => rw [e] at h; cases h
  | some a => rw [e] at h; cases h; rfl
theorem wi_L {α : Type} {_ : ToPy α} {xs : List α} (h : EvD Γ tl (rep xs)) : WiD Γ (iList K tl) xs.length (fun i => rep (at_ xs i)) := by
  have z := wi_list (K := K) (ds := xs.map py) h (it := fun i => rep (at_ xs i)) fun i d e => map_at e
  rw [List.length_map] at z
  exact z
theorem wi_T {α : Type} {_ : ToPy α} {xs : List α} (h : EvD Γ tl (rep (Tup.mk xs))) : WiD Γ (iTup K tl) xs.length (fun i => rep (at_ xs i)) := by
  have z := wi_tup (K := K) (ds := xs.map py) h (it := fun i => rep (at_ xs i)) fun i d e => map_at e
  rw [List.length_map] at z
  exact z
theorem wi_range {ta : TE} {z : Int} (h : EvD Γ ta (rep z)) (h0 : -(2 ^ 62) ≤ z) (h1 : z < 2 ^ 62) : WiD Γ (iRng1 (tCons ta tNil)) z.toNat (fun i => rep (i : Int)) := fun σ f hp s ok Rk q =>
  h σ f hp s ok _ fun v f1 hp1 e rv => by
    cases rep_int rv
    refine ⟨z, rfl, h0, h1, q _ f1 hp1 e ⟨fun i f h hi s0 s1 => hi, fun i f h x h' hlt s0 s1 y => ?_, fun f h s0 s1 => Nat.le_refl _⟩⟩
    obtain ⟨rfl, rfl⟩ := y
    exact ⟨f, .refl s1, by rw [Int.zero_add]; exact rep_of_int _ _⟩
theorem wi_zip {α β : Type} {_ : ToPy α} {_ : ToPy β} {xs : List α} {ys : List β} {ta tc : TE} (h : EvD Γ ta (rep xs)) (h2 : EvD Γ tc (rep ys)) (hl : xs.length = ys.length) :
    WiD Γ (iZip K (tCons ta (tCons tc tNil))) xs.length (fun i => rep (at_ xs i, at_ ys i)) := fun σ f hp s ok Rk q =>
  h σ f hp s ok _ fun v f1 hp1 e1 rv => h2 σ f1 hp1 e1.fh (ok.mono e1.ff) _ fun w f2 hp2 e2 rw_ => by
    have rv := (rep xs).mono rv e2.ff
    obtain ⟨p, vs, rfl, g1, g2⟩ := rep_list rv
    obtain ⟨p', vs', rfl, g1', g2'⟩ := rep_list rw_
    have l1 : vs.length = xs.length := by rw [repL_length g2, List.length_map]
    have l2 : vs'.length = ys.length := by rw [repL_length g2', List.length_map]
    have E := e1.trans e2
    refine ⟨p, p', vs, vs', rfl, SqL.of1 (E.fh _ _ g1), SqL.of1 (E.fh _ _ g1'), q _ f2 hp2 E ⟨fun i f h hi s0 s1 => ?_, fun i f h x h' hlt s0 s1 y => ?_, fun f h s0 s1 => ?_⟩⟩
    · have a1 : i < vs.length := by omega
      have a2 : i < vs'.length := by omega
      exact ⟨vs, vs', vs[i], vs'[i], SqL.of1 (s1 _ _ (s0 _ _ g1)), SqL.of1 (s1 _ _ (s0 _ _ g1')), by simp [a1], by simp [a2]⟩
    · obtain ⟨T, x1, y1, rfl, hT, rfl, hx1, hx2⟩ := y
      have q1 := hx1 vs (SqL.of1 (s1 _ _ (s0 _ _ g1)))
      have q2 := hx2 vs' (SqL.of1 (s1 _ _ (s0 _ _ g1')))
      refine ⟨_, .new s1 hT, ?_⟩
      have b1 : (xs.map py)[i]? = some (py (at_ xs i)) := by rw [List.getElem?_map, at_some hlt]; rfl
      have b2 : (ys.map py)[i]? = some (py (at_ ys i)) := by rw [List.getElem?_map, at_some (by omega)]; rfl
      obtain ⟨c1, c2, c3⟩ := repL_get g2 b1
      obtain ⟨d1, d2, d3⟩ := repL_get g2' b2
      have z1 : x1 = c1 := Option.some.inj (q1.symm.trans c2)
      have z2 : y1 = d1 := Option.some.inj (q2.symm.trans d2)
      subst z1
      subst z2
      show repD (.tuple [py (at_ xs i), py (at_ ys i)]) _ _
      simp only [repD, repL]
      have k := s0.trans (same_new (o := HO.tup [x1, y1]) (s1.free hT))
      exact ⟨T, _, rfl, upd_same, x1, [y1], rfl, repD_mono k _ _ c3, y1, [], rfl, repD_mono k _ _ d3, rfl⟩
    · exact ⟨vs, vs', SqL.of1 (s1 _ _ (s0 _ _ g1)), SqL.of1 (s1 _ _ (s0 _ _ g1')), .inl (by omega)⟩
/-! ### comprehensions -/
/-- the slots that a comprehension's own names take are forgotten -/
def wipeC (Γ : Ctx) : List Nat → Ctx
  | [] => Γ
  | v :: vs => (wipeC Γ vs).set v none
theorem Ok.wipe {f : Hp} (ok : Ok Γ σ f) : ∀ vs : List Nat, Ok (wipeC Γ vs) (wipe σ vs) f
  | [] => ok
  | v :: vs => by
    unfold wipeC L2.wipe
    exact (Ok.wipe ok vs).setn v
/-- a target that stores into the comprehension's own slots alone -/
def TgL (g : TG) (vs : List Nat) (R : RP) (Γ Γ' : Ctx) : Prop := ∀ σ f h, Same f h → Ok Γ σ f → ∀ v, R.p v f → ∀ Q : L2.St → Hp → Prop, (∀ σ', wipe σ' vs = wipe σ vs → Ok Γ' σ' f → Q σ' h) → g v σ h Q
theorem wipe_wipe_set {σ : L2.St} {j : Nat} {x : Option V} : ∀ {vs : List Nat}, j ∈ vs → wipe (σ.set j x) vs = wipe σ vs
  | [], h => by cases h
  | v :: vs, h => by
    unfold L2.wipe
    by_cases e : j ∈ vs
    · rw [wipe_wipe_set e]
    · have e1 : j = v := by
        rcases List.mem_cons.mp h with z | z
        · exact z
        · exact absurd z e
      subst e1
      have key : ∀ (us : List Nat) (τ : L2.St), (wipe (τ.set j x) us).set j none = (wipe τ us).set j none := by
        intro us
        induction us with
        | nil => intro τ; show (τ.set j x).set j none = τ.set j none; rw [List.set_set]
        | cons u us ih =>
          intro τ
          unfold L2.wipe
          by_cases hu : u = j
          · subst hu
            rw [List.set_set, List.set_set]
            exact ih τ
          · rw [List.set_comm _ _ hu, ih τ, List.set_comm _ _ (Ne.symm hu)]
      exact key vs σ
theorem wipe_idem {σ : L2.St} : ∀ (us vs : List Nat), (∀ u ∈ us, u ∈ vs) → wipe (wipe σ us) vs = wipe σ vs
  | [], vs, _ => rfl
  | u :: us, vs, h => by
    show wipe ((wipe σ us).set u none) vs = wipe σ vs
    rw [wipe_wipe_set (h u (by simp)), wipe_idem us vs fun z hz => h z (List.mem_cons_of_mem _ hz)]
theorem tl_name {j : Nat} {vs : List Nat} (hj : j ∈ vs) : TgL (gName j) vs R Γ (Γ.set j (some R)) := fun σ f h s ok v rv Q q => q _ (wipe_wipe_set hj) (ok.set j rv)
theorem tl_pair {α β : Type} {_ : ToPy α} {_ : ToPy β} {a : α} {c : β} {i j : Nat} {vs : List Nat} (hi : i ∈ vs) (hj : j ∈ vs) : TgL (gTup K 2 (gCons (gName i) (gCons (gName j) gNil))) vs (rep (a, c)) Γ ((Γ.set i (some (rep a))).set j (some (rep c))) := fun σ f h s ok v rv Q q => by
  have rv : repD (.tuple [py a, py c]) v f := rv
  simp only [repD, repL] at rv
  obtain ⟨p, us, rfl, h1, x, r, rfl, hx, y, r2, rfl, hy, rfl⟩ := rv
  exact ⟨p, _, rfl, SqT.of1 (s _ _ h1), rfl, x, [y], rfl, y, [], rfl, rfl, q _ (by rw [wipe_wipe_set hj, wipe_wipe_set hi]) ((ok.set i (R := rep a) hx).set j (R := rep c) hy)⟩
/-- [e for .. in .. if ..]: item by item kept or not -/
theorem en_lcD {vs : List Nat} {keep : Nat → Bool} {val : Nat → PyData} {te : TE} (hw : WiD Γ wi n item) {G' : Nat → Ctx} (ht : ∀ i, i < n → TgL g vs (item i) (wipeC Γ vs) (G' i)) (hc : ∀ i, i < n → EvT (G' i) tt (keep i))
    (he : ∀ i, i < n → keep i = true → EvD (G' i) te (rpD (val i))) (hz : n ≤ 100000) : EvN Γ (tLc wi g tt te vs) (oLD (((List.range n).filter keep).map val)) := fun σ f h s ok Q q =>
  hw σ f h s ok _ fun J f1 h1 e J1 D hD => by
    refine ⟨fun i m h' => m = n - i ∧ i ≤ n ∧ ∃ f', Same f1 f' ∧ Ext f h f' h' ∧ f' D = none ∧ ∃ us, h' D = some (.lst us) ∧ repL (((List.range i).filter keep).map val) us f', ⟨n, by simp, Nat.zero_le _, f1, .refl _, ?_, e.fh.free hD, [], upd_same, by simp [repL]⟩, ?_⟩
    · exact ⟨e.ff, e.hh.trans (same_new hD), e.fh.trans (same_new hD), e.nf⟩
    rintro i m h' ⟨rfl, hi, f', k1, E, hf, us, hu, hr⟩
    by_cases hlt : i < n
    · refine .inr ⟨J1.go i f' h' hlt k1 E.fh, fun h2 => ∃ f2, Same f1 f2 ∧ Ext f h f2 h2 ∧ f2 D = none ∧ ∃ us, h2 D = some (.lst us) ∧ repL (((List.range (i + 1)).filter keep).map val) us f2, fun h2 ⟨f2, a, b, c⟩ => ⟨n - (i + 1), by omega, rfl, hlt, f2, a, b, c⟩, fun x h2 y => ?_⟩
      obtain ⟨f2, e2, rx⟩ := J1.yld i f' h' x h2 hlt k1 E.fh y
      have ok2 : Ok (wipeC Γ vs) (wipe σ vs) f2 := (ok.mono (E.trans e2).ff).wipe vs
      refine ht i hlt _ f2 h2 e2.fh ok2 x rx _ fun σ3 hw3 ok3 => ⟨by rw [hw3]; exact wipe_idem vs vs fun _ z => z, ?_⟩
      refine hc i hlt σ3 f2 h2 e2.fh ok3 _ fun f3 h3 e3 => ?_
      have fD2 : f2 D = none := e2.nf D (by rw [hu]; exact fun z => nomatch z) hf
      have hu2 : h2 D = some (.lst us) := e2.hh _ _ hu
      have fD3 : f3 D = none := e3.nf D (by rw [hu2]; exact fun z => nomatch z) fD2
      have hu3 : h3 D = some (.lst us) := e3.hh _ _ hu2
      have k3 := (k1.trans e2.ff).trans e3.ff
      have E3 := (E.trans e2).trans e3
      cases hk : keep i with
      | true =>
        refine iteT (he i hlt hk σ3 f3 h3 e3.fh (ok3.mono e3.ff) _ fun v f4 h4 e4 rv => ⟨us, e4.hh _ _ hu3, ?_, f4, k3.trans e4.ff, ?_, e4.nf D (by rw [hu3]; exact fun z => nomatch z) fD3, _, upd_same, ?_⟩)
        · rw [repL_length hr, List.length_map]
          have := List.length_filter_le keep (List.range i)
          rw [List.length_range] at this
          exact Nat.lt_of_le_of_lt (Nat.le_trans this (Nat.le_trans (Nat.le_of_lt hlt) hz)) (by decide)
        · have E4 := E3.trans e4
          have f4D : f4 D = none := e4.nf D (by rw [hu3]; exact fun z => nomatch z) fD3
          have hD0 : h D = none := e.hh.free hD
          have kk : Same h (upd h4 D (.lst (us ++ [v]))) := same_upd E4.hh hD0
          exact ⟨E4.ff, kk, same_upd E4.fh f4D, E4.nf⟩
        · rw [List.range_succ, List.filter_append, List.map_append]
          have z : ([i].filter keep).map val = [val i] := by simp [hk]
          rw [z]
          exact repL_append (repL_mono ((e2.ff.trans e3.ff).trans e4.ff) _ _ hr) (repL_one rv)
      | false =>
        refine iteF ⟨f3, k3, E3, fD3, us, hu3, ?_⟩
        rw [List.range_succ, List.filter_append, List.map_append]
        have z : ([i].filter keep).map val = [] := by simp [hk]
        rw [z, List.append_nil]
        exact repL_mono (e2.ff.trans e3.ff) _ _ hr
    · have e3 : i = n := by omega
      subst e3
      exact .inl ⟨J1.stop f' h' k1 E.fh, q D _ f' h' E (e.hh.free hD) hf hu ⟨us, rfl, hr⟩⟩
theorem et_yes : EvT Γ tYes true := fun σ f h s ok Q q => q f h (.refl s)
theorem range_true (n : Nat) : (List.range n).filter (fun _ => true) = List.range n := by simp
/-- [e for .. in ..] -/
theorem en_lc {α : Type} {_ : ToPy α} {vs : List Nat} {val : Nat → α} {te : TE} (hw : WiD Γ wi n item) {G' : Nat → Ctx} (ht : ∀ i, i < n → TgL g vs (item i) (wipeC Γ vs) (G' i))
    (he : ∀ i, i < n → EvD (G' i) te (rep (val i))) (hz : n ≤ 100000) : EvN Γ (tLc wi g tYes te vs) (oL ((List.range n).map val)) := by
  have z := en_lcD (keep := fun _ => true) (val := fun i => py (val i)) hw ht (fun i _ => et_yes) (fun i hi _ => he i hi) hz
  rw [range_true] at z
  unfold oL
  rw [List.map_map]
  exact z
theorem en_lcIf {α : Type} {_ : ToPy α} {vs : List Nat} {val : Nat → α} {keep : Nat → Bool} {te : TE} (hw : WiD Γ wi n item) {G' : Nat → Ctx} (ht : ∀ i, i < n → TgL g vs (item i) (wipeC Γ vs) (G' i)) (hc : ∀ i, i < n → EvT (G' i) tt (keep i))
    (he : ∀ i, i < n → keep i = true → EvD (G' i) te (rep (val i))) (hz : n ≤ 100000) : EvN Γ (tLc wi g tt te vs) (oL (((List.range n).filter keep).map val)) := by
  have z := en_lcD (keep := keep) (val := fun i => py (val i)) hw ht hc (fun i hi h => he i hi h) hz
  unfold oL
  rw [List.map_map]
  exact z
end
end D

set_option Elab.async false
set_option linter.all false
set_option maxRecDepth 100000
set_option maxHeartbeats 4000000
namespace D
open PySem PySem.Spec PyProof.Rows L2
open ToPy (py)

/-! ### promises -/
abbrev Spec := List RP → RP → Prop
/-- a def that hands back what S tells and leaves all that stood -/
def spD (S : Spec) : Sp := fun vs H Q _ => ∃ Rs R f, S Rs R ∧ Same f H ∧ All Rs vs f ∧ ∀ v f' H', Ext f H f' H' → R.p v f' → Q v H'
/-- .. or raises an error of the class at C where SE tells so -/
def spX (S : Spec) (SE : List RP → Addr → Prop) : Sp := fun vs H Q E => ∃ Rs f, Same f H ∧ All Rs vs f ∧ ((∃ R, S Rs R ∧ ∀ v f' H', Ext f H f' H' → R.p v f' → Q v H') ∨ (∃ C, SE Rs C ∧ ∀ f' H', Ext f H f' H' → E (.ref C) none H'))
/-- a def by its name -/
def Okd (P : Program) (w : World) (K : PySem.W.Frag) (mg : Str → Option Value) (base : Heap) (CX : CXT) (k : Nat) (x : Str) (ps : List Str) (sp : Sp) : Prop :=
  ∃ f fd, mg x = some (.ref f) ∧ PySem.W.keepIn K (.ref f) = true ∧ Binds K fd ps [] ∧ FnOk P w K mg base CX k f fd ps sp
/-- a def of the text, by its name, as the top leaves it -/
def Def (K : PySem.W.Frag) (mg : Str → Option Value) (x : Str) (st : Stmt) (ps : List Str) : Prop := ∃ f fd, Fun K x x st f fd ∧ mg x = some (.ref f) ∧ Binds K fd ps []
/-- a method -/
def Okm (P : Program) (w : World) (K : PySem.W.Frag) (mg : Str → Option Value) (base : Heap) (CX : CXT) (k : Nat) (C : Addr) (m : Str) (ps : List Str) (sp : Sp) : Prop :=
  ∃ f fd, Meth K C m f ∧ Binds K fd ps [] ∧ FnOk P w K mg base CX k f fd ps sp
def DefM (K : PySem.W.Frag) (C : Addr) (m q : Str) (st : Stmt) (ps : List Str) : Prop := ∃ f fd, Fun K m q st f fd ∧ Meth K C m f ∧ Binds K fd ps []
/-- a class, made by its __init__ -/
def Oki (P : Program) (w : World) (K : PySem.W.Frag) (mg : Str → Option Value) (base : Heap) (CX : CXT) (k : Nat) (x : Str) (C : Addr) (ps : List Str) (sp : Sp) : Prop :=
  mg x = some (.ref C) ∧ ∃ f fd, Mk K C f ∧ Binds K fd ps [] ∧ FnOk P w K mg base CX k f fd ps sp
section
variable {X : Cx} {CX : CXT} {k j : Nat} {x m : Str} {ps : List Str} {sp : Sp} {p pos apos : Pos} {e o : Expr} {es : List Expr} {t : TA} {ta : TE} {E : XK} {C : Addr}
theorem pe_callD (F : Okd X.prog X.w X.K X.mg X.base CX k x ps sp) (hr : Room j X.A) (hx : Passes CX X E) (ha : PA X (e :: es) t) (hk : k ≤ j := by decide) (hg : Gl X x := by rfl) (hdb : (x == ("__debug__" : Str)) = false := by decide)
    (he : starEach (e :: es) X.env = (false, eval e X.env) :: starEach es X.env := by rfl) (hpl : (backTo pos (starEach es X.env)).any (·.1) = false := by rfl) :
    PE X (.Call (.Name x p) (e :: es) [] pos) (tCall sp [] E t) := by
  obtain ⟨f, fd, h1, h2, h3, h4⟩ := F
  exact pe_call h4 (hr.mono hk) hg h1 h2 h3 .nil hx ha hdb he hpl
theorem pe_makeD (F : Oki X.prog X.w X.K X.mg X.base CX k x C ps sp) (hr : Room j X.A) (hx : Passes CX X E) (ha : PA X (e :: es) t) (hk : k + 1 ≤ j := by decide) (hg : Gl X x := by rfl) (hdb : (x == ("__debug__" : Str)) = false := by decide)
    (he : starEach (e :: es) X.env = (false, eval e X.env) :: starEach es X.env := by rfl) (hpl : (backTo pos (starEach es X.env)).any (·.1) = false := by rfl) :
    PE X (.Call (.Name x p) (e :: es) [] pos) (tMake C sp [] E t) := by
  obtain ⟨h1, f, fd, h2, h3, h4⟩ := F
  exact pe_make h2 h4 (hr.mono hk) hg h1 h3 .nil hx ha hdb he hpl
theorem pe_methD {pl : Sem Bool} (he : PE X o ta) (c : Cls X.K C) (F : Okm X.prog X.w X.K X.mg X.base CX k C m ps sp) (hr : Room j X.A) (hx : Passes CX X E) (ha : PA X (e :: es) t) (hk : k ≤ j := by decide)
    (hst : starEach (e :: es) X.env = (false, eval e X.env) :: starEach es X.env := by rfl) (hpl : (backTo pos (starEach es X.env)).any (·.1) = false := by rfl)
    (ht : eval (.Call (.Attribute o m apos) (e :: es) [] pos) X.env = (do
      let ov ← eval o X.env
      standAt apos.atName
      let (f, first) ← holding [ov] (getMethod ov m pl)
      callWith pos f first (backTo pos (starEach (e :: es) X.env)) (backToKw pos (keywordEach [] X.env))) := by rfl) :
    PE X (.Call (.Attribute o m apos) (e :: es) [] pos) (tMeth C m sp [] E ta t) := by
  obtain ⟨f, fd, h1, h3, h4⟩ := F
  exact pe_meth he c h1 h4 (hr.mono hk) h3 .nil hx ha hst hpl ht
theorem pe_methD0 {pl : Sem Bool} (he : PE X o ta) (c : Cls X.K C) (F : Okm X.prog X.w X.K X.mg X.base CX k C m ps sp) (hr : Room j X.A) (hx : Passes CX X E) (hk : k ≤ j := by decide)
    (ht : eval (.Call (.Attribute o m apos) [] [] pos) X.env = (do
      let ov ← eval o X.env
      standAt apos.atName
      let (f, first) ← holding [ov] (getMethod ov m pl)
      callWith pos f first (backTo pos (starEach [] X.env)) (backToKw pos (keywordEach [] X.env))) := by rfl) :
    PE X (.Call (.Attribute o m apos) [] [] pos) (tMeth C m sp [] E ta tNil) := by
  obtain ⟨f, fd, h1, h3, h4⟩ := F
  exact pe_meth0 he c h1 h4 (hr.mono hk) h3 .nil hx ht
end
/-! ### instances that stand -/
def RepF : List (Str × RP) → List (Str × V) → Hp → Prop
  | [], fvs, _ => fvs = []
  | (n, R) :: fs, fvs, H => ∃ v r, fvs = (n, v) :: r ∧ R.p v H ∧ RepF fs r H
theorem RepF.mono {H H' : Hp} (s : Same H H') : ∀ {fs : List (Str × RP)} {fvs : List (Str × V)}, RepF fs fvs H → RepF fs fvs H'
  | [], _, h => h
  | (n, R) :: fs, _, ⟨v, r, e, h1, h2⟩ => ⟨v, r, e, R.mono h1 s, RepF.mono s h2⟩
theorem RepF.get {H : Hp} {n : Str} {R : RP} : ∀ {fs : List (Str × RP)} {fvs : List (Str × V)}, RepF fs fvs H → fs.lookup n = some R → ∃ v, fvs.lookup n = some v ∧ R.p v H
  | [], _, _, h => by simp at h
  | (n', R') :: fs, _, ⟨v, r, e, h1, h2⟩, h => by
    subst e
    by_cases c : n = n'
    · subst c
      simp at h
      subst h
      exact ⟨v, by simp, h1⟩
    · have c' : (n == n') = false := by simpa using c
      rw [List.lookup_cons, c'] at h
      obtain ⟨v', h3, h4⟩ := RepF.get h2 h
      exact ⟨v', by rw [List.lookup_cons, c']; exact h3, h4⟩
theorem RepF.none {H : Hp} {n : Str} : ∀ {fs : List (Str × RP)} {fvs : List (Str × V)}, RepF fs fvs H → fs.lookup n = Option.none → fvs.lookup n = Option.none
  | [], _, h, _ => by cases h; rfl
  | (n', R') :: fs, _, ⟨v, r, e, h1, h2⟩, h => by
    subst e
    by_cases c : n = n'
    · subst c
      simp at h
    · have c' : (n == n') = false := by simpa using c
      rw [List.lookup_cons, c'] at h ⊢
      exact RepF.none h2 h
def insR (C : Addr) (fs : List (Str × RP)) : RP := ⟨fun v H => ∃ a dx fvs, v = .ref a ∧ H a = some (.ins C dx fvs) ∧ RepF fs fvs H, fun ⟨a, dx, fvs, e, h1, h2⟩ s => ⟨a, dx, fvs, e, s _ _ h1, h2.mono s⟩⟩
def insO (C : Addr) (fs : List (Str × RP)) : OT := ⟨fun o f => ∃ dx fvs, o = .ins C dx fvs ∧ RepF fs fvs f, fun ⟨dx, fvs, e, h2⟩ s => ⟨dx, fvs, e, h2.mono s⟩⟩
section
variable {Γ : Ctx} {te ta tb tc : TE} {t : TA} {R Ra Rb Rc R' : RP} {Rs : List RP} {T : OT} {K : PySem.W.Frag} {C : Addr} {n m : Str} {fs : List (Str × RP)} {E : XK} {S : Spec}
theorem ev_fld (h : EvD Γ ta (insR C fs)) (hc : Cls K C) (hn : NoAttr K C n) (hl : fs.lookup n = some R) : EvD Γ (tFld K ta n) R := fun σ f hp s ok Q q =>
  h σ f hp s ok _ fun v f1 h1 e ⟨a, dx, fvs, ev, g1, g2⟩ => by
    obtain ⟨v', l, rv⟩ := g2.get hl
    exact ⟨a, C, dx, fvs, v', ev, e.fh _ _ g1, hc, hn, l, q v' f1 h1 e rv⟩
theorem ev_call (ha : EvA Γ t Rs) (hS : S Rs R) : EvD Γ (tCall (spD S) [] E t) R := fun σ f hp s ok Q q =>
  ha σ f hp s ok _ fun vs f1 h1 e rs => by
    rw [List.append_nil]
    exact ⟨Rs, R, f1, hS, e.fh, rs, fun v f' H' e2 rv => q v f' H' (e.trans e2) rv⟩
theorem ev_callX {SE : List RP → Addr → Prop} (ha : EvA Γ t Rs) (hS : S Rs R) : EvD Γ (tCall (spX S SE) [] E t) R := fun σ f hp s ok Q q =>
  ha σ f hp s ok _ fun vs f1 h1 e rs => by
    rw [List.append_nil]
    exact ⟨Rs, f1, e.fh, rs, .inl ⟨R, hS, fun v f' H' e2 rv => q v f' H' (e.trans e2) rv⟩⟩
theorem ev_meth (h : EvD Γ ta (insR C fs)) (hl : fs.lookup m = none) (ha : EvA Γ t Rs) (hS : S (insR C fs :: Rs) R) : EvD Γ (tMeth C m (spD S) [] E ta t) R := fun σ f hp s ok Q q =>
  h σ f hp s ok _ fun v f1 h1 e rv => by
    obtain ⟨a, dx, fvs, ev, g1, g2⟩ := id rv
    subst ev
    refine ⟨a, dx, fvs, rfl, e.fh _ _ g1, g2.none hl, ha σ f1 h1 e.fh (ok.mono e.ff) _ fun vs f2 h2 e2 rs => ?_⟩
    rw [List.append_nil]
    exact ⟨insR C fs :: Rs, R, f2, hS, e2.fh, ⟨_, vs, rfl, RP.mono (insR C fs) rv e2.ff, rs⟩, fun v f' H' e3 rv => q v f' H' ((e.trans e2).trans e3) rv⟩
end
/-! ### a def's body -/
def startC (N : List Str) (Rs : List RP) : Ctx := Rs.map some ++ List.replicate (N.length - Rs.length) none
theorem ok_start {N : List Str} {Rs : List RP} {vs : List V} {f : Hp} (a : All Rs vs f) : Ok (startC N Rs) (L2.start N vs) f := by
  have hl := a.length
  refine ⟨by unfold startC L2.start; simp [hl], fun i R e => ?_⟩
  unfold startC at e
  by_cases hi : i < Rs.length
  · rw [List.getElem?_append_left (by simpa using hi), List.getElem?_map] at e
    cases e1 : Rs[i]? with
    | none => rw [e1] at e; cases e
    | some R' =>
      rw [e1] at e
      cases e
      obtain ⟨v, h1, h2⟩ := a.get e1
      refine ⟨v, ?_, h2⟩
      unfold L2.start
      rw [List.getElem?_append_left (by simpa [hl] using hi), List.getElem?_map, h1]
      rfl
  · rw [List.getElem?_append_right (by simpa using Nat.le_of_not_lt hi), List.getElem?_replicate] at e
    split at e <;> cases e
/-- what a body is to reach: the heap goes on from the entry, R is handed back -/
def fnP (B : Base) (R : RP) : Post := ⟨fun _ f h => Ext B.f B.h f h ∧ R.p .non f, fun v f h => Ext B.f B.h f h ∧ R.p v f, fun _ _ _ => False, fun _ _ _ => False⟩
section
variable {P : Program} {w : World} {K : PySem.W.Frag} {mg : Str → Option Value} {base : Heap} {x q : Str} {st : Stmt} {N ps : List Str} {k : Nat} {S : Spec} {C : Addr} {m : Str} {t : TS}
/-- the context of a def's body -/
abbrev cx0 (P : Program) (w : World) (K : PySem.W.Frag) (mg : Str → Option Value) (base : Heap) (N : List Str) (q : Str) (st : Stmt) (f : Addr) (cdv : Value) (A : Around) (outer : List Env) (s : Shared) (H : Hp) (E : XK) : Cx := (cxOf CX0 P w K mg base N q (defScope st) f cdv A outer s H E).nox
theorem run_spD {t : TS} (ev : ∀ Rs R, S Rs R → ∀ B : Base, B.m = [] → BDe B (startC N Rs) [] t (fnP B R)) {vs : List V} {H : Hp} {Q : VK} {E : XK} (h : spD S vs H Q E) : t { nx := fun _ H' => Q .non H', rt := Q } (L2.start N vs) H := by
  obtain ⟨Rs, R, f, hS, s, a, k⟩ := h
  refine ev Rs R hS ⟨f, H, []⟩ rfl f (L2.start N vs) f H ?_ (.refl _) _ ⟨fun σ f' h' _ z => k .non f' h' z.1 z.2, fun v f' h' _ z => k v f' h' z.1 z.2, fun _ _ _ _ z => z.elim, fun _ _ _ _ z => z.elim⟩
  exact { ff := .refl _, fh := s, hh := fun a o e _ => e, th := fun _ n => n, nf := fun _ _ e => e, ok := ok_start a, ow := fun _ _ z => (nomatch z), nd := List.nodup_nil }
theorem okd (F : Def K mg x st ps) (sc : FnScope N ps (defScope st)) (hlen : ∀ Rs R, S Rs R → Rs.length = ps.length)
    (hps : ∀ (f : Addr) (cdv : Value) (A : Around) (outer : List Env) (s : Shared) (H : Hp) (E : XK), Room k (A.deeper (envOfC x (defScope st) s.heap.objs.size f cdv)) → PSs (cx0 P w K mg base N x st f cdv A outer s H E) (defBody st) t)
    (ev : ∀ Rs R, S Rs R → ∀ B : Base, B.m = [] → BDe B (startC N Rs) [] t (fnP B R)) : Okd P w K mg base CX0 (k + 1) x ps (spD S) := by
  obtain ⟨f, fd, hF, hm, hb⟩ := F
  refine ⟨f, fd, hm, hF.kp, hb, hF.ok sc (fun vs H Q E h => ?_) fun cdv A outer s H vs Q E hr h => ⟨t, hps f cdv A outer s H E hr, run_spD ev h⟩⟩
  obtain ⟨Rs, R, f, hS, _, a, _⟩ := h
  rw [a.length, hlen Rs R hS]
theorem okm (F : DefM K C m q st ps) (sc : FnScope N ps (defScope st)) (hlen : ∀ Rs R, S Rs R → Rs.length = ps.length)
    (hps : ∀ (f : Addr) (cdv : Value) (A : Around) (outer : List Env) (s : Shared) (H : Hp) (E : XK), Room k (A.deeper (envOfC q (defScope st) s.heap.objs.size f cdv)) → PSs (cx0 P w K mg base N q st f cdv A outer s H E) (defBody st) t)
    (ev : ∀ Rs R, S Rs R → ∀ B : Base, B.m = [] → BDe B (startC N Rs) [] t (fnP B R)) : Okm P w K mg base CX0 (k + 1) C m ps (spD S) := by
  obtain ⟨f, fd, hF, hm, hb⟩ := F
  refine ⟨f, fd, hm, hb, hF.ok sc (fun vs H Q E h => ?_) fun cdv A outer s H vs Q E hr h => ⟨t, hps f cdv A outer s H E hr, run_spD ev h⟩⟩
  obtain ⟨Rs, R, f, hS, _, a, _⟩ := h
  rw [a.length, hlen Rs R hS]
end
end D

set_option Elab.async false
set_option linter.all false
set_option maxRecDepth 100000
set_option maxHeartbeats 4000000
namespace D
open PySem PySem.Spec PyProof.Rows L2
open ToPy (py)
def Wd (x : Int) : Prop := x.natAbs < 2 ^ 1000
theorem wd_mul {a b : Int} (ha : Wd a) (hb : Wd b) : CMulW a b := wide_mul ha hb (by decide) (by decide) (by decide)
theorem wd_div {a b : Int} (h0 : 0 < b) (hb : Wd b) : CDivW a b := wide_div h0 hb (by decide) (by decide)
def rNegI : V → Hp → VK → Prop := rU fun i => .int (-i)
section
variable {K : PySem.W.Frag} {Γ : Ctx} {te ta tb tc : TE} {tt tu : TT} {R Ra Rb Rc R' : RP} {T : OT} {r r' : R2} {B : Base} {O : Own} {P : Post} {i : Nat}
theorem R2N.d {ds : List PyData} (h : R2N r Ra Rb (oLD ds)) : R2D r Ra Rb (rpD (.list ds)) := fun x y f hp s rx ry Q q =>
  h x y f hp s rx ry Q fun p o f' h' e n nf ho ht => by
    obtain ⟨vs, rfl, hr⟩ := ht
    refine q (.ref p) (upd f' p (.lst vs)) h' (e.frz n ho nf) ?_
    show repD (.list ds) _ _
    simp only [repD]
    exact ⟨p, vs, rfl, upd_same, repL_mono (same_new nf) _ _ hr⟩
theorem R2N.dL {α : Type} {_ : ToPy α} {xs : List α} (h : R2N r Ra Rb (oL xs)) : R2D r Ra Rb (rep xs) := R2N.d h
theorem RcN.d {r : List V → Hp → VK → Prop} {Rs : List RP} {ds : List PyData} (h : RcN r Rs (oLD ds)) : RcD r Rs (rpD (.list ds)) := fun vs f hp s rs Q q =>
  h vs f hp s rs Q fun p o f' h' e n nf ho ht => by
    obtain ⟨vs, rfl, hr⟩ := ht
    refine q (.ref p) (upd f' p (.lst vs)) h' (e.frz n ho nf) ?_
    show repD (.list ds) _ _
    simp only [repD]
    exact ⟨p, vs, rfl, upd_same, repL_mono (same_new nf) _ _ hr⟩
theorem RcN.dL {α : Type} {_ : ToPy α} {r : List V → Hp → VK → Prop} {Rs : List RP} {xs : List α} (h : RcN r Rs (oL xs)) : RcD r Rs (rep xs) := RcN.d h
theorem s_catL {α : Type} {_ : ToPy α} {xs ys : List α} (hl : xs.length + ys.length ≤ 1000000) : R2D (rAddX K) (rep xs) (rep ys) (rep (xs ++ ys)) := (s_cat hl).dL
theorem s_repL {α : Type} {_ : ToPy α} {a : α} {k : Int} (h0 : 0 ≤ k) (hk : k ≤ 100000) : R2D (rMulX K) (rep [a]) (rep k) (rep (List.replicate k.toNat a)) := (s_rep h0 hk).dL
theorem c_listD {α : Type} {_ : ToPy α} {xs : List α} : RcD (rListX K) [rep xs] (rep xs) := c_list.dL
theorem c_listTD {α : Type} {_ : ToPy α} {xs : List α} : RcD (rListX K) [rep (Tup.mk xs)] (rep xs) := c_listT.dL
theorem s_negI {i : Int} : R1D rNegI (rep i) (rep (-i)) := s_neg
theorem cmul_l {i j : Int} (h : -(2 ^ 64) < i ∧ i < 2 ^ 64) : CMul i j := .inl h
theorem cmul_r {i j : Int} (h : -(2 ^ 64) < j ∧ j < 2 ^ 64) : CMul i j := .inr h
/-- what a body's end asks where R is handed back -/
theorem bd_retR {nx bk ct : L2.St → Hp → Hp → Prop} (hm : B.m = []) (he : EvS B Γ O te R) {u : TS} : BDe B Γ O (tSeq (tRet te) u) ⟨nx, (fnP B R).rt, bk, ct⟩ := bd_ret he hm fun v f h e r => ⟨e, r⟩
theorem bd_retE {nx bk ct : L2.St → Hp → Hp → Prop} {α : Type} {_ : ToPy α} {a b : α} (hm : B.m = []) (he : EvS B Γ O te (rep a)) (e : a = b) {u : TS} : BDe B Γ O (tSeq (tRet te) u) ⟨nx, (fnP B (rep b)).rt, bk, ct⟩ := bd_retR hm (e ▸ he)
theorem bd_endN (hm : B.m = []) : BDe B Γ O tNext (fnP B (rep ())) := bd_next fun σ f h s => ⟨s.toExt hm, rep_of_unit _⟩
/-- the end of a way that others join -/
theorem bd_join {rt : V → Hp → Hp → Prop} {bk ct : L2.St → Hp → Hp → Prop} : BDe B Γ O tNext ⟨fun σ f h => Sta B Γ O σ f h, rt, bk, ct⟩ := bd_next fun σ f h s => s
theorem bd_joinW {rt : V → Hp → Hp → Prop} {bk ct : L2.St → Hp → Hp → Prop} {Γ' : Ctx} {O' : Own} (w : ∀ σ f h, Sta B Γ O σ f h → Sta B Γ' O' σ f h) : BDe B Γ O tNext ⟨fun σ f h => Sta B Γ' O' σ f h, rt, bk, ct⟩ := bd_next fun σ f h s => w σ f h s
/-- the end of a turn -/
theorem bd_turn {rt : V → Hp → Hp → Prop} {bk ct : L2.St → Hp → Hp → Prop} {Γ' : Ctx} {O' : Own} {F : Prop} (hF : F) (w : ∀ σ f h, Sta B Γ O σ f h → Sta B Γ' O' σ f h) : BDe B Γ O tNext ⟨fun σ f h => F ∧ Sta B Γ' O' σ f h, rt, bk, ct⟩ := bd_next fun σ f h s => ⟨hF, w σ f h s⟩
theorem sta_set_none {Γ : Ctx} {O : Own} {i : Nat} {R : RP} : ∀ σ f h, Sta B (Γ.set i (some R)) O σ f h → Sta B (Γ.set i none) O σ f h :=
  sta_forget (by simp) fun j R' e => by
    by_cases hj : i = j
    · subst hj
      by_cases hl : i < Γ.length
      · rw [List.getElem?_set_self hl] at e; cases e
      · rw [List.getElem?_eq_none (by simpa using Nat.le_of_not_lt hl)] at e; cases e
    · rw [List.getElem?_set_ne hj] at e ⊢
      exact e
theorem ev_lst0 {α : Type} {_ : ToPy α} : EvD Γ (tLst tNil) (rep ([] : List α)) := ev_new en_lst0
theorem ev_lst1 {α : Type} {_ : ToPy α} {a : α} {t : TE} (h : EvD Γ t (rep a)) : EvD Γ (tLst (tCons t tNil)) (rep [a]) := ev_new (en_lst1 h)
theorem ev_lst2 {α : Type} {_ : ToPy α} {a b : α} {t u : TE} (h : EvD Γ t (rep a)) (h2 : EvD Γ u (rep b)) : EvD Γ (tLst (tCons t (tCons u tNil))) (rep [a, b]) := ev_new (en_lst2 h h2)
theorem ev_lst3 {α : Type} {_ : ToPy α} {a b c : α} {t u w : TE} (h : EvD Γ t (rep a)) (h2 : EvD Γ u (rep b)) (h3 : EvD Γ w (rep c)) : EvD Γ (tLst (tCons t (tCons u (tCons w tNil)))) (rep [a, b, c]) := ev_new (en_lst3 h h2 h3)
theorem ev_lst4 {α : Type} {_ : ToPy α} {a b c d : α} {t u w z : TE} (h : EvD Γ t (rep a)) (h2 : EvD Γ u (rep b)) (h3 : EvD Γ w (rep c)) (h4 : EvD Γ z (rep d)) : EvD Γ (tLst (tCons t (tCons u (tCons w (tCons z tNil))))) (rep [a, b, c, d]) := ev_new (en_lst4 h h2 h3 h4)
theorem ev_cut {α : Type} {_ : ToPy α} {xs : List α} {tl th : TO} {lo hi : Option Int} (h : EvD Γ te (rep xs)) (h1 : EvP Γ tl lo) (h2 : EvP Γ th hi) : EvD Γ (tSl (rSlX K) te tl th) (rep (cut xs lo hi)) := ev_new (en_cut h h1 h2)
theorem ev_lc {α : Type} {_ : ToPy α} {wi : TI} {g : TG} {n : Nat} {item : Nat → RP} {vs : List Nat} {val : Nat → α} {te : TE} (hw : WiD Γ wi n item) {G' : Nat → Ctx} (ht : ∀ i, i < n → TgL g vs (item i) (wipeC Γ vs) (G' i))
    (he : ∀ i, i < n → EvD (G' i) te (rep (val i))) (hz : n ≤ 100000) : EvD Γ (tLc wi g tYes te vs) (rep ((List.range n).map val)) := ev_new (en_lc hw ht he hz)
theorem ev_lcIf {α : Type} {_ : ToPy α} {wi : TI} {g : TG} {n : Nat} {item : Nat → RP} {vs : List Nat} {val : Nat → α} {keep : Nat → Bool} {te : TE} (hw : WiD Γ wi n item) {G' : Nat → Ctx} (ht : ∀ i, i < n → TgL g vs (item i) (wipeC Γ vs) (G' i)) (hc : ∀ i, i < n → EvT (G' i) tt (keep i))
    (he : ∀ i, i < n → keep i = true → EvD (G' i) te (rep (val i))) (hz : n ≤ 100000) : EvD Γ (tLc wi g tt te vs) (rep (((List.range n).filter keep).map val)) := ev_new (en_lcIf hw ht hc he hz)
end
end D

set_option Elab.async false
set_option linter.all false
set_option maxRecDepth 100000
set_option maxHeartbeats 4000000
namespace D
open PySem PySem.Spec PyProof.Rows L2
open ToPy (py)
/-- what is forgotten of the slots -/
inductive Fg : Ctx → Ctx → Prop where
  | nil : Fg [] []
  | same {G G' : Ctx} {x : Option RP} (h : Fg G G') : Fg (x :: G) (x :: G')
  | drop {G G' : Ctx} {x : Option RP} (h : Fg G G') : Fg (x :: G) (none :: G')
  | eq {G G' : Ctx} {R R' : RP} (e : R = R') (h : Fg G G') : Fg (some R :: G) (some R' :: G')
theorem Fg.to {G G' : Ctx} (h : Fg G G') : G'.length = G.length ∧ ∀ (i : Nat) (R : RP), G'[i]? = some (some R) → G[i]? = some (some R) := by
  induction h with
  | nil => exact ⟨rfl, fun _ _ e => e⟩
  | same h ih =>
    refine ⟨by simp [ih.1], fun i R e => ?_⟩
    cases i with
    | zero => exact e
    | succ i => exact ih.2 i R (by simpa using e)
  | drop h ih =>
    refine ⟨by simp [ih.1], fun i R e => ?_⟩
    cases i with
    | zero => simp at e
    | succ i => exact ih.2 i R (by simpa using e)
  | eq q h ih =>
    refine ⟨by simp [ih.1], fun i R e => ?_⟩
    cases i with
    | zero => rw [q]; exact e
    | succ i => exact ih.2 i R (by simpa using e)
theorem Fg.sta {B : Base} {G G' : Ctx} {O O' : Own} (h : Fg G G') (e : O = O') : ∀ σ f hp, Sta B G O σ f hp → Sta B G' O' σ f hp := fun σ f hp s => e ▸ sta_forget h.to.1 h.to.2 σ f hp s
theorem bd_turnE {B : Base} {Γ Γ' : Ctx} {O O' : Own} {rt : V → Hp → Hp → Prop} {bk ct : L2.St → Hp → Hp → Prop} {F : Prop} (hF : F) (ho : O = O') (g : Fg Γ Γ') : BDe B Γ O tNext ⟨fun σ f h => F ∧ Sta B Γ' O' σ f h, rt, bk, ct⟩ := bd_turn hF (g.sta ho)
theorem bd_joinE {B : Base} {Γ Γ' : Ctx} {O O' : Own} {rt : V → Hp → Hp → Prop} {bk ct : L2.St → Hp → Hp → Prop} (ho : O = O') (g : Fg Γ Γ') : BDe B Γ O tNext ⟨fun σ f h => Sta B Γ' O' σ f h, rt, bk, ct⟩ := bd_joinW (g.sta ho)
theorem bd_nil (α : Type) [ToPy α] {B : Base} {Γ : Ctx} {O : Own} {i : Nat} {u : TS} {P : Post} (hr : ∀ p, BDe B (Γ.set i (some (own p))) ((p, oL ([] : List α)) :: O) u P) : BDe B Γ O (tSeq (tAsg (tLst tNil) (gName i)) u) P := bd_own (en_lst0 (α := α)).s hr
theorem bd_forE {B : Base} {Γ : Ctx} {O : Own} {wi : TI} {n : Nat} {item : Nat → RP} {g : TG} {tb u : TS} {P : Post} (G : Nat → Ctx) (W : Nat → Own) (F : Nat → Prop) (hw : WiS B Γ O wi n item) (fg : Fg Γ (G 0)) (ho : O = W 0) (f0 : F 0) {G' : Nat → Ctx}
    (ht : ∀ i, i < n → TgD g (item i) (G i) (G' i))
    (hb : ∀ i, i < n → F i → BDe B (G' i) (W i) tb ⟨fun σ f h => F (i + 1) ∧ Sta B (G (i + 1)) (W (i + 1)) σ f h, P.rt, fun _ _ _ => False, fun σ f h => F (i + 1) ∧ Sta B (G (i + 1)) (W (i + 1)) σ f h⟩)
    (hn : F n → BDe B (G n) (W n) u P) : BDe B Γ O (tSeq (tFor wi g tb) u) P := bd_for hw G W F (fg.sta ho) f0 ht hb hn
/-! ### isinstance of data -/
def tyR (n : String) : RP := ⟨fun v _ => v = .ty n, fun h _ => h⟩
theorem ev_ty {Γ : Ctx} {n : String} : EvD Γ (tC (.ty n)) (tyR n) := ev_c fun _ => rfl
def NoDict : PyData → Prop
  | .dict _ => False
  | _ => True
theorem kit_int (d : PyData) : kitB (tyName d) "int" = some (isi d "int") := by cases d <;> (simp only [isi, tyName]; decide +kernel)
theorem kit_bool (d : PyData) : kitB (tyName d) "bool" = some (isi d "bool") := by cases d <;> (simp only [isi, tyName]; decide +kernel)
theorem kit_str (d : PyData) : kitB (tyName d) "str" = some (isi d "str") := by cases d <;> (simp only [isi, tyName]; decide +kernel)
theorem kit_list (d : PyData) : kitB (tyName d) "list" = some (isi d "list") := by cases d <;> (simp only [isi, tyName]; decide +kernel)
theorem kit_tuple (d : PyData) : kitB (tyName d) "tuple" = some (isi d "tuple") := by cases d <;> (simp only [isi, tyName]; decide +kernel)
theorem ty_of {K : PySem.W.Frag} {H : Hp} : ∀ (d : PyData) (v : V), repD d v H → TyX K H v (.type (tyName d))
  | .none, _, h => by simp only [repD] at h; subst h; exact .base .non
  | .bool b, _, h => by simp only [repD] at h; subst h; exact .base (.bl b)
  | .int i, _, h => by simp only [repD] at h; subst h; exact .base (.int i)
  | .str x, _, h => by simp only [repD] at h; subst h; exact .base (.str x)
  | .list ds, _, h => by
    simp only [repD] at h
    obtain ⟨p, vs, e, h1, h2⟩ := h
    subst e
    exact .base (.lst h1)
  | .tuple ds, _, h => by
    simp only [repD] at h
    obtain ⟨p, vs, e, h1, h2⟩ := h
    subst e
    exact .base (.tup h1)
  | .dict _, _, h => by simp only [repD] at h
theorem c_isi {K : PySem.W.Frag} {d : PyData} {n : String} (h : kitB (tyName d) n = some (isi d n)) : RcD (rIsi K) [rpD d, tyR n] (rep (isi d n)) := fun vs f hp s rs Q q => by
  obtain ⟨v, u, rfl, rv, ru⟩ := rs.two
  cases ru
  exact ⟨v, .ty n, .type (tyName d), .type n, isi d n, rfl, .ty n, ty_of d v (repD_mono s d v rv), kit_ty h, q _ f hp (.refl s) (rep_of_bool _ _)⟩
theorem c_isInt {K : PySem.W.Frag} {d : PyData} : RcD (rIsi K) [rpD d, tyR "int"] (rep (isi d "int")) := c_isi (kit_int d)
theorem c_isBool {K : PySem.W.Frag} {d : PyData} : RcD (rIsi K) [rpD d, tyR "bool"] (rep (isi d "bool")) := c_isi (kit_bool d)
theorem c_isStr {K : PySem.W.Frag} {d : PyData} : RcD (rIsi K) [rpD d, tyR "str"] (rep (isi d "str")) := c_isi (kit_str d)
theorem c_isList {K : PySem.W.Frag} {d : PyData} : RcD (rIsi K) [rpD d, tyR "list"] (rep (isi d "list")) := c_isi (kit_list d)
theorem c_isTup {K : PySem.W.Frag} {d : PyData} : RcD (rIsi K) [rpD d, tyR "tuple"] (rep (isi d "tuple")) := c_isi (kit_tuple d)
section
variable {K : PySem.W.Frag} {α β γ : Type} [ToPy α] [ToPy β] [ToPy γ]
theorem c_lI {xs : List α} : RcD (rIsi K) [rep xs, tyR "list"] (rep true) := c_isList (d := .list (xs.map py))
theorem c_tI {xs : List α} : RcD (rIsi K) [rep (Tup.mk xs), tyR "tuple"] (rep true) := c_isTup (d := .tuple (xs.map py))
theorem c_pI {x : α × β} : RcD (rIsi K) [rep x, tyR "tuple"] (rep true) := c_isTup (d := .tuple [py x.1, py x.2])
theorem c_t3I {x : T3 α β γ} : RcD (rIsi K) [rep x, tyR "tuple"] (rep true) := c_isTup (d := .tuple [py x.a, py x.b, py x.c])
theorem c_lenP {x : α × β} : RcD (rLenX K) [rep x] (rep (2 : Int)) := c_lenT (ds := [py x.1, py x.2])
theorem c_len3 {x : T3 α β γ} : RcD (rLenX K) [rep x] (rep (3 : Int)) := c_lenT (ds := [py x.a, py x.b, py x.c])
theorem c_sI {x : Str} : RcD (rIsi K) [rep x, tyR "str"] (rep true) := c_isStr (d := .str x)
theorem c_iI {x : Int} : RcD (rIsi K) [rep x, tyR "int"] (rep true) := c_isInt (d := .int x)
theorem c_iB {x : Int} : RcD (rIsi K) [rep x, tyR "bool"] (rep false) := c_isBool (d := .int x)
end
section
variable {B : Base} {Γ Γ' : Ctx} {O O' : Own} {te ta : TE} {t t1 t2 u : TS} {P : Post}
theorem bd_assoc (h : BDe B Γ O (tSeq t1 (tSeq t2 u)) P) : BDe B Γ O (tSeq (tSeq t1 t2) u) P := h
theorem bd_skip (h : BDe B Γ O u P) : BDe B Γ O (tSeq tNext u) P := h
theorem map_snoc {α : Type} {g : Nat → α} {a : α} {n : Nat} (e : a = g n) : (List.range n).map g ++ [a] = (List.range (n + 1)).map g := by
  rw [List.range_succ, List.map_append, e]
  rfl
/-- an item more of a list that is a map over the turns -/
theorem bd_appR {K : PySem.W.Frag} {α : Type} {_ : ToPy α} {g : Nat → α} {n : Nat} {a : α} {p : Addr} {to : TE} (j : Nat) (ho : EvD Γ to (own p)) (hj : O[j]? = some (p, oL ((List.range n).map g))) (he : EvS B Γ O te (rep a)) (e : a = g n) (hz : n < 1000000)
    (k : BDe B Γ (O.set j (p, oL ((List.range (n + 1)).map g))) u P) : BDe B Γ O (tSeq (tDrop (tBM K "list" rAppend to (tCons te tNil))) u) P := by
  refine bd_app j ho hj he (by simpa using hz) ?_
  rw [map_snoc e]
  exact k
end
/-- where the classes of the text stand -/
structure Cs where
  Problem : Addr
  Tableau : Addr
  Search : Addr
  CutError : Addr
  BadProblem : Addr
  BadPoint : Addr
  BadBox : Addr
  BadWeights : Addr
  NoTurn : Addr
  BadText : Addr
def tRaiseC (E : XK) (C : Addr) : TS := fun _ σ H => E (.ref C) none H
def tCallE (sp : Sp) (E : XK) (t : TA) : TE := fun σ H Q => t σ H fun vs H1 => sp vs H1 Q E
/-- an expression that raises -/
def EvX (Γ : Ctx) (te : TE) (E : XK) (C : Addr) : Prop := ∀ σ f h, Same f h → Ok Γ σ f → (∀ f' h', Ext f h f' h' → E (.ref C) none h') → ∀ Q, te σ h Q
/-- nothing is reached -/
def noP : Post := ⟨fun _ _ _ => False, fun _ _ _ => False, fun _ _ _ => False, fun _ _ _ => False⟩
def Raises (B : Base) (E : XK) (C : Addr) : Prop := ∀ f h, Ext B.f B.h f h → E (.ref C) none h
section
variable {B : Base} {Γ Γ' : Ctx} {O O' : Own} {te ta : TE} {t : TA} {tt : TT} {R : RP} {Rs : List RP} {u t1 t2 : TS} {P : Post} {i : Nat} {E : XK} {C : Addr} {S : Spec} {SE : List RP → Addr → Prop} {b : Bool}
theorem bd_raise (hm : B.m = []) (hE : Raises B E C) : BDe B Γ O (tSeq (tRaiseC E C) u) P := fun L σ f h s l D p => hE f h (s.toExt hm)
theorem ev_callE (ha : EvA Γ t Rs) (hS : S Rs R) : EvD Γ (tCallE (spX S SE) E t) R := fun σ f hp s ok Q q =>
  ha σ f hp s ok _ fun vs f1 h1 e rs => ⟨Rs, f1, e.fh, rs, .inl ⟨R, hS, fun v f' H' e2 rv => q v f' H' (e.trans e2) rv⟩⟩
theorem ex_callE (ha : EvA Γ t Rs) (hS : SE Rs C) : EvX Γ (tCallE (spX S SE) E t) E C := fun σ f hp s ok q Q =>
  ha σ f hp s ok _ fun vs f1 h1 e rs => ⟨Rs, f1, e.fh, rs, .inr ⟨C, hS, fun f' H' e2 => q f' H' (e.trans e2)⟩⟩
theorem bd_dropX (hm : B.m = []) (hE : Raises B E C) (he : EvX Γ te E C) : BDe B Γ O (tSeq (tDrop te) u) P := fun L σ f h s l D p =>
  he σ f h s.fh s.ok (fun f' h' e => hE f' h' ((s.toExt hm).trans e)) _
theorem bd_setX (hm : B.m = []) (hE : Raises B E C) (he : EvX Γ te E C) : BDe B Γ O (tSeq (tAsg te (gName i)) u) P := fun L σ f h s l D p =>
  he σ f h s.fh s.ok (fun f' h' e => hE f' h' ((s.toExt hm).trans e)) _
theorem bd_retX (hm : B.m = []) (hE : Raises B E C) (he : EvX Γ te E C) : BDe B Γ O (tSeq (tRet te) u) P := fun L σ f h s l D p =>
  he σ f h s.fh s.ok (fun f' h' e => hE f' h' ((s.toExt hm).trans e)) _
end
section
variable {X : Cx} {k j : Nat} {x : Str} {ps : List Str} {sp : Sp} {p pos : Pos} {e : Expr} {es : List Expr} {t : TA} {E : XK}
theorem pe_globI {i : Int} {pos : Pos} (hm : ∃ t, X.mg x = some (.int i t)) (hg : Gl X x := by rfl) (hd : (x == ("__debug__" : Str)) = false := by decide) : PE X (.Name x pos) (tC (.int i)) := by
  obtain ⟨t, h⟩ := hm
  exact pe_glob hg h ⟨t, rfl⟩ hd
theorem pe_globS {i : Str} {pos : Pos} (hm : ∃ t, X.mg x = some (.str i t)) (hg : Gl X x := by rfl) (hd : (x == ("__debug__" : Str)) = false := by decide) : PE X (.Name x pos) (tC (.str i)) := by
  obtain ⟨t, h⟩ := hm
  exact pe_glob hg h ⟨t, rfl⟩ hd
theorem pe_callE (F : Okd X.prog X.w X.K X.mg X.base (L2.CX X.prog X.w) k x ps sp) (hr : Room j X.A) (tk : Takes X (fun cls d _ H => E cls d H)) (ha : PA X (e :: es) t) (hk : k ≤ j := by decide) (hg : Gl X x := by rfl) (hdb : (x == ("__debug__" : Str)) = false := by decide)
    (he : starEach (e :: es) X.env = (false, eval e X.env) :: starEach es X.env := by rfl) (hpl : (backTo pos (starEach es X.env)).any (·.1) = false := by rfl) :
    PE X (.Call (.Name x p) (e :: es) [] pos) (tCallE sp E t) := by
  obtain ⟨f, fd, h1, h2, h3, h4⟩ := F
  exact pe_callS (E := WE (fun cls d _ H => E cls d H)) h4 (hr.mono hk) hg h1 h2 h3 (fun σ => passAt tk σ) ha hdb he hpl
end
section
variable {P : Program} {w : World} {K : PySem.W.Frag} {mg : Str → Option Value} {base : Heap} {x q : Str} {st : Stmt} {N ps : List Str} {k : Nat} {S : Spec} {SE : List RP → Addr → Prop} {t : XK → TS}
abbrev cxX (P : Program) (w : World) (K : PySem.W.Frag) (mg : Str → Option Value) (base : Heap) (N : List Str) (q : Str) (st : Stmt) (f : Addr) (cdv : Value) (A : Around) (outer : List Env) (s : Shared) (H : Hp) (E : XK) : Cx := cxOf (L2.CX P w) P w K mg base N q (defScope st) f cdv A outer s H E
theorem okdX (F : Def K mg x st ps) (sc : FnScope N ps (defScope st)) (hlen : ∀ Rs R, S Rs R → Rs.length = ps.length) (hlenE : ∀ Rs C, SE Rs C → Rs.length = ps.length)
    (hps : ∀ (f : Addr) (cdv : Value) (A : Around) (outer : List Env) (s : Shared) (H : Hp) (E : XK), Room k (A.deeper (envOfC x (defScope st) s.heap.objs.size f cdv)) → PSs (cxX P w K mg base N x st f cdv A outer s H E) (defBody st) (t E))
    (ev : ∀ Rs R, S Rs R → ∀ (B : Base) (E : XK), B.m = [] → BDe B (startC N Rs) [] (t E) (fnP B R))
    (evE : ∀ Rs C, SE Rs C → ∀ (B : Base) (E : XK), B.m = [] → D.Raises B E C → BDe B (startC N Rs) [] (t E) noP) : Okd P w K mg base (L2.CX P w) (k + 1) x ps (spX S SE) := by
  obtain ⟨f, fd, hF, hm, hb⟩ := F
  refine ⟨f, fd, hm, hF.kp, hb, hF.okX sc (fun vs H Q E h => ?_) fun cdv A outer s H vs Q E hr h => ⟨t E, hps f cdv A outer s H E hr, ?_⟩⟩
  · obtain ⟨Rs, f, _, a, ⟨R, hS, _⟩ | ⟨C, hS, _⟩⟩ := h
    · rw [a.length, hlen Rs R hS]
    · rw [a.length, hlenE Rs C hS]
  · obtain ⟨Rs, f, s0, a, ⟨R, hS, k⟩ | ⟨C, hS, k⟩⟩ := h
    · refine ev Rs R hS ⟨f, H, []⟩ E rfl f (L2.start N vs) f H ?_ (.refl _) _ ⟨fun σ f' h' _ z => k .non f' h' z.1 z.2, fun v f' h' _ z => k v f' h' z.1 z.2, fun _ _ _ _ z => z.elim, fun _ _ _ _ z => z.elim⟩
      exact { ff := .refl _, fh := s0, hh := fun a o e _ => e, th := fun _ n => n, nf := fun _ _ e => e, ok := ok_start a, ow := fun _ _ z => (nomatch z), nd := List.nodup_nil }
    · refine evE Rs C hS ⟨f, H, []⟩ E rfl (fun f' h' e => k f' h' e) f (L2.start N vs) f H ?_ (.refl _) _ ⟨fun σ f' h' _ z => z.elim, fun v f' h' _ z => z.elim, fun _ _ _ _ z => z.elim, fun _ _ _ _ z => z.elim⟩
      exact { ff := .refl _, fh := s0, hh := fun a o e _ => e, th := fun _ n => n, nf := fun _ _ e => e, ok := ok_start a, ow := fun _ _ z => (nomatch z), nd := List.nodup_nil }
end
end D

set_option Elab.async false
set_option linter.all false
set_option maxRecDepth 100000
set_option maxHeartbeats 4000000
namespace D
open PySem PySem.Spec PyProof.Rows L2
open ToPy (py)
/-! ### try: f(..) except C as e: .. -/
def tUnder (cls : Value) (d : Option Addr) (C : Addr) (t : TS) : TS := fun D σ H => (cls = .ref C ∧ d = none) ∧ t D σ H
theorem pss_under {X : Cx} {ss : List Stmt} {cls : Value} {d : Option Addr} {C : Addr} {t : TS} (h : cls = .ref C → d = none → PSs X ss t) : PSs X ss (tUnder cls d C t) :=
  ⟨fun pins s σ H D I z => (h z.1.1 z.1.2).run pins s σ H D I z.2⟩
/-- the try's reading -/
def tTry (K : PySem.W.Frag) (C : Addr) (i : Nat) (tb : WX → TS) (ts : Addr → TS) : TS := fun D σ H => tb (wAs K (.ref C) i (fun a cls d => tUnder cls d C (ts a)) (fun _ _ _ _ => False) D) D σ H
theorem ps_tryD {X : Cx} {x n : Str} {C : Addr} {i : Nat} {body suite : List Stmt} {b₀ : Stmt} {np pos pos' : Pos} {tb : WX → TS} {ts : Addr → TS} (gC : X.mg x = some (.ref C)) (ec : ExcC X.K C)
    (hb : ∀ (W : WX) (pn : List (Addr × Obj)) (xe : Value → Shared → Prop), Takes (X.tr pn xe) W → PSs (X.tr pn xe) body (tb W))
    (hsu : ∀ (a : Addr) (oe : Obj) (pn : List (Addr × Obj)), Zc (.ref C) none oe → (∃ vs, oe.data = .fields vs) → PSs (X.suite a ((a, oe) :: pn)) (b₀ :: suite) (ts a))
    (hs : X.stack = X.env :: X.outer := by rfl) (hf : X.env.frame = some X.env.locals := by rfl) (hN : X.N.Nodup) (hi : X.N[i]? = some n := by rfl) (hln : X.env.kindOf n = some .local := by rfl) (gx : Gl X x := by rfl) (dx : (x == ("__debug__" : Str)) = false := by decide) :
    PS X (.Try body [.ExceptHandler (some (.Name x np)) (some n) (b₀ :: suite) pos'] [] [] pos) (tTry X.K C i tb ts) :=
  ps_try_as hs hf hN hi hln ⟨gx, dx, .inl gC⟩ takes0 (fun W pn xe tk _ => hb W pn xe tk) fun a oe cls d pn hz hv => pss_under fun e1 e2 => by
    subst e1 e2
    exact hsu a oe pn hz hv
section
variable {X : Cx} {k j : Nat} {x : Str} {ps : List Str} {sp : Sp} {p pos : Pos} {e : Expr} {es : List Expr} {t : TA} {W : WX}
theorem pe_callW (F : Okd X.prog X.w X.K X.mg X.base (L2.CX X.prog X.w) k x ps sp) (hr : Room j X.A) (tk : Takes X W) (ha : PA X (e :: es) t) (hk : k ≤ j := by decide) (hg : Gl X x := by rfl) (hdb : (x == ("__debug__" : Str)) = false := by decide)
    (he : starEach (e :: es) X.env = (false, eval e X.env) :: starEach es X.env := by rfl) (hpl : (backTo pos (starEach es X.env)).any (·.1) = false := by rfl) :
    PE X (.Call (.Name x p) (e :: es) [] pos) (tCallS sp (WE W) t) := by
  obtain ⟨f, fd, h1, h2, h3, h4⟩ := F
  exact pe_callS h4 (hr.mono hk) hg h1 h2 h3 (fun σ => passAt tk σ) ha hdb he hpl
/-- isinstance(e, T) of the exception at hand -/
theorem pe_isEC {i : Nat} {a C T : Addr} {oe : Obj} {pn : List (Addr × Obj)} {n x : Str} {p0 p1 p2 : Pos} (ec : ExcC X.K C) (hz : Zc (.ref C) none oe) (hf : ∃ vs, oe.data = .fields vs) (hv : PE (X.suite a ((a, oe) :: pn)) (.Name n p1) (tVar i)) (gT : X.mg x = some (.ref T)) (bi : X.mg "isinstance" = none)
    (gi : Gl X "isinstance" := by rfl) (gx : Gl X x := by rfl) (dx : (x == ("__debug__" : Str)) = false := by decide)
    (he : starEach ([.Name n p1, .Name x p2] : List Expr) X.env = (false, eval (.Name n p1) X.env) :: starEach [.Name x p2] X.env := by rfl) (he2 : starEach ([.Name x p2] : List Expr) X.env = (false, eval (.Name x p2) X.env) :: starEach [] X.env := by rfl) (hpl : (backTo pos (starEach ([.Name x p2] : List Expr) X.env)).any (·.1) = false := by rfl) :
    PE (X.suite a ((a, oe) :: pn)) (.Call (.Name "isinstance" p0) [.Name n p1, .Name x p2] [] pos) (tCB (rIsE X.K C a) (tCons (tVar i) (tCons (tC (.ref T)) tNil))) :=
  pe_callB (X := X.suite a ((a, oe) :: pn)) (call_isE ec hz hf) gi bi b_isi (pa_cons hv (pa_cons (pe_glob (X := X.suite a ((a, oe) :: pn)) gx gT rfl dx) pa_nil he2) he) (by decide) (by decide) he hpl
theorem pe_isET {i : Nat} {a C : Addr} {T : String} {oe : Obj} {pn : List (Addr × Obj)} {n x : Str} {p0 p1 p2 : Pos} (ec : ExcC X.K C) (hz : Zc (.ref C) none oe) (hf : ∃ vs, oe.data = .fields vs) (hv : PE (X.suite a ((a, oe) :: pn)) (.Name n p1) (tVar i)) (bT : X.mg x = none) (bx : bootBuiltins x = some (.type T)) (bi : X.mg "isinstance" = none)
    (gi : Gl X "isinstance" := by rfl) (gx : Gl X x := by rfl) (nx : x ≠ "__name__" := by decide) (dx : (x == ("__debug__" : Str)) = false := by decide)
    (he : starEach ([.Name n p1, .Name x p2] : List Expr) X.env = (false, eval (.Name n p1) X.env) :: starEach [.Name x p2] X.env := by rfl) (he2 : starEach ([.Name x p2] : List Expr) X.env = (false, eval (.Name x p2) X.env) :: starEach [] X.env := by rfl) (hpl : (backTo pos (starEach ([.Name x p2] : List Expr) X.env)).any (·.1) = false := by rfl) :
    PE (X.suite a ((a, oe) :: pn)) (.Call (.Name "isinstance" p0) [.Name n p1, .Name x p2] [] pos) (tCB (rIsE X.K C a) (tCons (tVar i) (tCons (tC (.ty T)) tNil))) :=
  pe_callB (X := X.suite a ((a, oe) :: pn)) (call_isE ec hz hf) gi bi b_isi (pa_cons hv (pa_cons (pe_bltn (X := X.suite a ((a, oe) :: pn)) gx bT bx rfl nx dx) pa_nil he2) he) (by decide) (by decide) he hpl
end
/-- a body that raises C -/
def TBe (B : Base) (Γ : Ctx) (O : Own) (tb : WX → TS) (C : Addr) : Prop := ∀ L σ f h, Sta B Γ O σ f h → Same L f → ∀ (D : Ends) (W : WX), (∀ f' h', Sta B Γ O σ f' h' → Same L f' → W (.ref C) none σ h') → tb W D σ h
section
variable {B : Base} {Γ : Ctx} {O : Own} {tb t1 t2 : WX → TS} {C : Addr} {t : TA} {Rs : List RP} {S : Spec} {SE : List RP → Addr → Prop} {tt : TT} {b : Bool} {P : Post} {u : TS} {K : PySem.W.Frag} {i : Nat} {ts : Addr → TS}
theorem tbe_drop (ha : EvA Γ t Rs) (hS : SE Rs C) : TBe B Γ O (fun W => tSeq (tDrop (tCallS (spX S SE) (WE W) t)) tNext) C := fun L σ f h s l D W hW =>
  ha σ f h s.fh s.ok _ fun vs f1 h1 e rs => ⟨Rs, f1, e.fh, rs, .inr ⟨C, hS, fun f' H' e2 => hW f' H' (s.ext (e.trans e2)) (l.trans (e.trans e2).ff)⟩⟩
theorem tbe_if (hc : EvT Γ tt b) (h1 : b = true → TBe B Γ O t1 C) (h2 : b = false → TBe B Γ O t2 C) : TBe B Γ O (fun W => tSeq (tIfS tt (t1 W) (t2 W)) tNext) C := fun L σ f h s l D W hW =>
  hc σ f h s.fh s.ok _ fun f1 hp1 e => by
    cases b with
    | true => exact iteT (h1 rfl L σ f1 hp1 (s.ext e) (l.trans e.ff) _ W hW)
    | false => exact iteF (h2 rfl L σ f1 hp1 (s.ext e) (l.trans e.ff) _ W hW)
theorem bd_try (hb : TBe B Γ O tb C) (he : PySem.W.exmOne K (.ref C) (.ref C) = some true) (hs : ∀ a, BDe B (Γ.set i (some (own a))) O (ts a) ⟨fun _ _ _ => False, P.rt, fun _ _ _ => False, fun _ _ _ => False⟩) : BDe B Γ O (tSeq (tTry K C i tb ts) u) P := fun L σ f h s l D p =>
  hb L σ f h s l _ _ fun f' h' s' l' => ⟨true, he, fun _ a _ => ⟨⟨rfl, rfl⟩, hs a L _ f' h' { s' with ok := s'.ok.set i rfl } l' _ ⟨fun _ _ _ _ z => z.elim, p.rt, fun _ _ _ _ z => z.elim, fun _ _ _ _ z => z.elim⟩⟩, fun z => nomatch z⟩
theorem c_isE {a C T : Addr} {b : Bool} (h : PySem.W.kitOne K (.ref C) (.ref T) = some b) : RcD (rIsE K C a) [own a, own T] (rep b) := fun vs f hp s rs Q q => by
  obtain ⟨v, u, rfl, rv, ru⟩ := rs.two
  cases rv
  cases ru
  exact ⟨.ref T, .ref T, b, rfl, fun u r => r, h, q _ f hp (.refl s) (rep_of_bool _ _)⟩
theorem c_isET {a C : Addr} {n : String} {b : Bool} (h : PySem.W.kitOne K (.ref C) (.type n) = some b) : RcD (rIsE K C a) [own a, tyR n] (rep b) := fun vs f hp s rs Q q => by
  obtain ⟨v, u, rfl, rv, ru⟩ := rs.two
  cases rv
  cases ru
  exact ⟨.ty n, .type n, b, rfl, fun u r => r, h, q _ f hp (.refl s) (rep_of_bool _ _)⟩
theorem ev_isE {a C T : Addr} {b : Bool} (hv : Γ[i]? = some (some (own a))) (h : PySem.W.kitOne K (.ref C) (.ref T) = some b) : EvD Γ (tCB (rIsE K C a) (tCons (tVar i) (tCons (tC (.ref T)) tNil))) (rep b) := ev_cb (ea_cons (ev_var hv) (ea_cons (ev_c fun _ => rfl) ea_nil)) (c_isE h)
theorem ev_isET {a C : Addr} {n : String} {b : Bool} (hv : Γ[i]? = some (some (own a))) (h : PySem.W.kitOne K (.ref C) (.type n) = some b) : EvD Γ (tCB (rIsE K C a) (tCons (tVar i) (tCons (tC (.ty n)) tNil))) (rep b) := ev_cb (ea_cons (ev_var hv) (ea_cons (ev_c fun _ => rfl) ea_nil)) (c_isET h)
theorem ev_cls {T : Addr} : EvD Γ (tC (.ref T)) (own T) := ev_c fun _ => rfl
end
end D

set_option Elab.async false
set_option linter.all false
set_option maxRecDepth 100000
set_option maxHeartbeats 4000000
namespace D
open PySem PySem.Spec PyProof.Rows L2
open ToPy (py)
/-! ### data that may be compared: its shape -/
structure Shd (d : PyData) (n : Nat) : Prop where
  lay : d.canLay0 = true
  dep : d.depth ≤ n
theorem Shd.ok {d : PyData} {n : Nat} (h : Shd d n) (hn : n ≤ 64 := by decide) : SeqAt.shaped d = true := by
  unfold SeqAt.shaped
  rw [h.lay, decide_eq_true (Nat.le_trans h.dep hn)]
  rfl
theorem shd_int (i : Int) : Shd (.int i) 0 := ⟨by simp only [PyData.canLay0], by simp only [PyData.depth]; exact Nat.le_refl _⟩
theorem shd_bool (i : Bool) : Shd (.bool i) 0 := ⟨by simp only [PyData.canLay0], by simp only [PyData.depth]; exact Nat.le_refl _⟩
theorem shd_none : Shd .none 0 := ⟨by simp only [PyData.canLay0], by simp only [PyData.depth]; exact Nat.le_refl _⟩
theorem shd_str {x : Str} (h : PyData.strOk x = true) : Shd (.str x) 0 := ⟨by simp only [PyData.canLay0]; exact h, by simp only [PyData.depth]; exact Nat.le_refl _⟩
theorem lay_all : ∀ {ds : List PyData}, (∀ d ∈ ds, d.canLay0 = true) → PyData.canLayAll0 ds = true
  | [], _ => by simp only [PyData.canLayAll0]
  | d :: ds, h => by
    simp only [PyData.canLayAll0, Bool.and_eq_true]
    exact ⟨h d (by simp), lay_all fun e he => h e (List.mem_cons_of_mem _ he)⟩
theorem dep_all {n : Nat} : ∀ {ds : List PyData}, (∀ d ∈ ds, d.depth ≤ n) → PyData.depthAll ds ≤ n
  | [], _ => by simp only [PyData.depthAll]; omega
  | d :: ds, h => by
    simp only [PyData.depthAll]
    exact Nat.max_le.mpr ⟨h d (by simp), dep_all fun e he => h e (List.mem_cons_of_mem _ he)⟩
theorem shd_list {ds : List PyData} {n : Nat} (h : ∀ d ∈ ds, Shd d n) : Shd (.list ds) (n + 1) :=
  ⟨by simp only [PyData.canLay0]; exact lay_all fun d hd => (h d hd).lay, by simp only [PyData.depth]; exact Nat.succ_le_succ (dep_all fun d hd => (h d hd).dep)⟩
theorem shd_tup {ds : List PyData} {n : Nat} (h : ∀ d ∈ ds, Shd d n) : Shd (.tuple ds) (n + 1) :=
  ⟨by simp only [PyData.canLay0]; exact lay_all fun d hd => (h d hd).lay, by simp only [PyData.depth]; exact Nat.succ_le_succ (dep_all fun d hd => (h d hd).dep)⟩
theorem Shd.mono {d : PyData} {m n : Nat} (h : Shd d m) (k : m ≤ n) : Shd d n := ⟨h.lay, Nat.le_trans h.dep k⟩
theorem shL {α : Type} [ToPy α] {xs : List α} {n : Nat} (h : ∀ x ∈ xs, Shd (py x) n) : Shd (py xs) (n + 1) := shd_list (ds := xs.map py) fun d hd => by
  obtain ⟨x, hx, rfl⟩ := List.mem_map.mp hd
  exact h x hx
theorem sh_ints (xs : List Int) : Shd (py xs) 1 := shL fun x _ => shd_int x
theorem sh_ints2 (xs : List (List Int)) : Shd (py xs) 2 := shL fun x _ => sh_ints x
section
variable {K : PySem.W.Frag} {α : Type} [ToPy α] {n : Nat}
theorem s_eqSame {a : α} (h : Shd (py a) n) (hn : n ≤ 64 := by decide) : R2D (rEqX K) (rep a) (rep a) (rep true) := by
  have z := s_eqD (K := K) (h.ok hn) (h.ok hn)
  rw [SeqAt.eqv_refl _ h.lay] at z
  exact z
theorem s_neSame {a : α} (h : Shd (py a) n) (hn : n ≤ 64 := by decide) : R2D (rNeX K) (rep a) (rep a) (rep false) := by
  have z := s_neD (K := K) (h.ok hn) (h.ok hn)
  rw [SeqAt.eqv_refl _ h.lay] at z
  exact z
theorem s_eqA {β : Type} [ToPy β] {a : α} {b : β} {m : Nat} (h : Shd (py a) n) (h' : Shd (py b) m) (hn : n ≤ 64 := by decide) (hm : m ≤ 64 := by decide) : R2D (rEqX K) (rep a) (rep b) (rep (PyData.eqv (py a) (py b))) := s_eqD (h.ok hn) (h'.ok hm)
theorem s_neA {β : Type} [ToPy β] {a : α} {b : β} {m : Nat} (h : Shd (py a) n) (h' : Shd (py b) m) (hn : n ≤ 64 := by decide) (hm : m ≤ 64 := by decide) : R2D (rNeX K) (rep a) (rep b) (rep (!PyData.eqv (py a) (py b))) := s_neD (h.ok hn) (h'.ok hm)
end
/-! ### the cells of the script -/
def cellAt (ns : List Int) (k : Int) : Int := (((if 0 < ns.length then ix ns (k % ns.length) else 0) + 17 * k) * 48271) % 1000003
def S_law_cell_at (K : PySem.W.Frag) (c : Cs) : Spec := fun Rs R => ∃ (ns : List Int) (k : Int), Rs = [scr K ns, rep k] ∧ 0 ≤ k ∧ k < 1000 ∧ R = rep (cellAt ns k)
theorem spec_cell {K : PySem.W.Frag} {c : Cs} {ns : List Int} {k : Int} (h0 : 0 ≤ k) (h1 : k < 1000) : S_law_cell_at K c [scr K ns, rep k] (rep (cellAt ns k)) := ⟨ns, k, rfl, h0, h1, rfl⟩
theorem cell_pos (ns : List Int) (k : Int) : 0 ≤ cellAt ns k := Int.emod_nonneg _ (by decide)
theorem cell_lt (ns : List Int) (k : Int) : cellAt ns k < 1000003 := Int.emod_lt_of_pos _ (by decide)
/-! ### what the top leaves, and the law's end -/
def DefK (K : PySem.W.Frag) (x : Str) (st : Stmt) : Prop := ∃ (f : Addr) (oc : Value) (od : Option Addr) (kV doc pm : Value) (an : Option Addr) (cdv ct : Value) (osl : Array (Option Value)),
  PySem.W.nsIn K mainGlobals x = some (some (.ref f)) ∧ K.lookup f = some ⟨oc, od, .func (PySem.W.fnOf x x (defArgs st) (defBody st) (defScope st) .none kV doc pm an cdv ct), osl⟩ ∧ PySem.W.codeIn K cdv x = true ∧ PySem.W.keepIn K (.ref f) = true
def DefMK (K : PySem.W.Frag) (C : Addr) (m q : Str) (st : Stmt) : Prop := ∃ (f : Addr) (oc : Value) (od : Option Addr) (kV doc pm : Value) (an : Option Addr) (cdv ct : Value) (osl : Array (Option Value)),
  PySem.W.findIn K (.ref C) m = some (some (.ref f)) ∧ PySem.W.isFn K (.ref f) = true ∧ K.lookup f = some ⟨oc, od, .func (PySem.W.fnOf m q (defArgs st) (defBody st) (defScope st) .none kV doc pm an cdv ct), osl⟩ ∧ PySem.W.codeIn K cdv q = true ∧ PySem.W.keepIn K (.ref f) = true
def DefIK (K : PySem.W.Frag) (C : Addr) (st : Stmt) (q : Str) : Prop := ∃ (f : Addr) (oc : Value) (od : Option Addr) (kV doc pm : Value) (an : Option Addr) (cdv ct : Value) (osl : Array (Option Value)),
  PySem.W.findIn K (.ref C) "__init__" = some (some (.ref f)) ∧ PySem.W.isFn K (.ref f) = true ∧ K.lookup f = some ⟨oc, od, .func (PySem.W.fnOf "__init__" q (defArgs st) (defBody st) (defScope st) .none kV doc pm an cdv ct), osl⟩ ∧ PySem.W.codeIn K cdv q = true ∧ PySem.W.keepIn K (.ref f) = true ∧
    PySem.W.makesIn K C = true ∧ PySem.W.keepIn K (.ref C) = true
theorem DefK.mk_ {K : PySem.W.Frag} {x : Str} {st : Stmt} {f : Addr} {oc : Value} {od : Option Addr} {kV doc pm : Value} {an : Option Addr} {cdv ct : Value} {osl : Array (Option Value)} (a : PySem.W.nsIn K mainGlobals x = some (some (.ref f)))
    (l : K.lookup f = some ⟨oc, od, .func (PySem.W.fnOf x x (defArgs st) (defBody st) (defScope st) .none kV doc pm an cdv ct), osl⟩) (c : PySem.W.codeIn K cdv x = true) (k : PySem.W.keepIn K (.ref f) = true) : DefK K x st := ⟨f, oc, od, kV, doc, pm, an, cdv, ct, osl, a, l, c, k⟩
theorem DefMK.mk_ {K : PySem.W.Frag} {C : Addr} {m q : Str} {st : Stmt} {f : Addr} {oc : Value} {od : Option Addr} {kV doc pm : Value} {an : Option Addr} {cdv ct : Value} {osl : Array (Option Value)} (a : PySem.W.findIn K (.ref C) m = some (some (.ref f))) (b : PySem.W.isFn K (.ref f) = true)
    (l : K.lookup f = some ⟨oc, od, .func (PySem.W.fnOf m q (defArgs st) (defBody st) (defScope st) .none kV doc pm an cdv ct), osl⟩) (c : PySem.W.codeIn K cdv q = true) (k : PySem.W.keepIn K (.ref f) = true) : DefMK K C m q st := ⟨f, oc, od, kV, doc, pm, an, cdv, ct, osl, a, b, l, c, k⟩
theorem DefIK.mk_ {K : PySem.W.Frag} {C : Addr} {q : Str} {st : Stmt} {f : Addr} {oc : Value} {od : Option Addr} {kV doc pm : Value} {an : Option Addr} {cdv ct : Value} {osl : Array (Option Value)} (a : PySem.W.findIn K (.ref C) "__init__" = some (some (.ref f))) (b : PySem.W.isFn K (.ref f) = true)
    (l : K.lookup f = some ⟨oc, od, .func (PySem.W.fnOf "__init__" q (defArgs st) (defBody st) (defScope st) .none kV doc pm an cdv ct), osl⟩) (c : PySem.W.codeIn K cdv q = true) (k : PySem.W.keepIn K (.ref f) = true) (m1 : PySem.W.makesIn K C = true) (m2 : PySem.W.keepIn K (.ref C) = true) : DefIK K C st q := ⟨f, oc, od, kV, doc, pm, an, cdv, ct, osl, a, b, l, c, k, m1, m2⟩
theorem ex_int {K : PySem.W.Frag} {x : Str} {i : Int} {t : Tok} (h : PySem.W.nsIn K mainGlobals x = some (some (.int i t))) : ∃ t, PySem.W.nsIn K mainGlobals x = some (some (.int i t)) := ⟨t, h⟩
theorem ex_str {K : PySem.W.Frag} {x : Str} {i : Str} {t : Tok} (h : PySem.W.nsIn K mainGlobals x = some (some (.str i t))) : ∃ t, PySem.W.nsIn K mainGlobals x = some (some (.str i t)) := ⟨t, h⟩
/-- a class and its __init__ -/
def DefI (K : PySem.W.Frag) (mg : Str → Option Value) (x : Str) (C : Addr) (st : Stmt) (ps : List Str) : Prop := mg x = some (.ref C) ∧ ∃ (f : Addr) (fd : FuncData) (q : Str), Fun K "__init__" q st f fd ∧ Mk K C f ∧ Binds K fd ps []
section
variable {K : PySem.W.Frag} {mg : Str → Option Value} {h : Heap} {x m q : Str} {st : Stmt} {ps : List Str} {C : Addr}
theorem def_of (X : K.In h) (G : h.Ns mainGlobals mg) (d : DefK K x st)
    (hb : ∀ (kV doc pm : Value) (an : Option Addr) (cdv ct : Value) (us : List Value), us.length = ps.length → bindArgs (PySem.W.fnOf x x (defArgs st) (defBody st) (defScope st) .none kV doc pm an cdv ct) ⟨us, []⟩ = pure (ps.zip us)) : Def K mg x st ps := by
  obtain ⟨f, oc, od, kV, doc, pm, an, cdv, ct, osl, a, l, c, k⟩ := d
  have F := fun_mk (st := st) l c k
  exact ⟨f, _, F, PySem.W.mg_of X G a, F.binds hb⟩
theorem defm_of (d : DefMK K C m q st)
    (hb : ∀ (kV doc pm : Value) (an : Option Addr) (cdv ct : Value) (us : List Value), us.length = ps.length → bindArgs (PySem.W.fnOf m q (defArgs st) (defBody st) (defScope st) .none kV doc pm an cdv ct) ⟨us, []⟩ = pure (ps.zip us)) : DefM K C m q st ps := by
  obtain ⟨f, oc, od, kV, doc, pm, an, cdv, ct, osl, a, b, l, c, k⟩ := d
  have F := fun_mk (st := st) l c k
  exact ⟨f, _, F, ⟨a, b, k⟩, F.binds hb⟩
theorem defi_of (X : K.In h) (G : h.Ns mainGlobals mg) (g : PySem.W.nsIn K mainGlobals x = some (some (.ref C))) (d : DefIK K C st q)
    (hb : ∀ (kV doc pm : Value) (an : Option Addr) (cdv ct : Value) (us : List Value), us.length = ps.length → bindArgs (PySem.W.fnOf "__init__" q (defArgs st) (defBody st) (defScope st) .none kV doc pm an cdv ct) ⟨us, []⟩ = pure (ps.zip us)) : DefI K mg x C st ps := by
  obtain ⟨f, oc, od, kV, doc, pm, an, cdv, ct, osl, a, b, l, c, k, m1, m2⟩ := d
  have F := fun_mk (st := st) l c k
  exact ⟨PySem.W.mg_of X G g, f, _, q, F, ⟨m1, a, b, m2⟩, F.binds hb⟩
def cs0 : Cs := ⟨0, 0, 0, 0, 0, 0, 0, 0, 0, 0⟩
def S_law (K : PySem.W.Frag) (c : Cs) : Spec := fun Rs R => ∃ ns : List Int, Rs = [scr K ns] ∧ ns.length ≤ 63 ∧ R = rep true
theorem sp_law_of {H : Hp} {a : Addr} {ns : List Int} (hl : ns.length ≤ 63) (hS : SqL K H a (ns.map V.int)) : spD (S_law K cs0) [.ref a] H (fun v _ => v = .bl true) (fun _ _ _ => False) :=
  ⟨[scr K ns], rep true, H, ⟨ns, rfl, hl, rfl⟩, .refl _, ⟨.ref a, [], rfl, ⟨a, rfl, hS⟩, rfl⟩, fun v f' H' e rv => rep_bool rv⟩
theorem okf {P : Program} {w : World} {base : Heap} {S : Spec} {f : Addr} {fd : FuncData} {N : List Str} {k : Nat} {t : TS} (F : Fun K x x st f fd) (sc : FnScope N ps (defScope st)) (hlen : ∀ Rs R, S Rs R → Rs.length = ps.length)
    (hps : ∀ (f : Addr) (cdv : Value) (A : Around) (outer : List Env) (s : Shared) (H : Hp) (E : XK), Room k (A.deeper (envOfC x (defScope st) s.heap.objs.size f cdv)) → PSs (cx0 P w K mg base N x st f cdv A outer s H E) (defBody st) t)
    (ev : ∀ Rs R, S Rs R → ∀ B : Base, B.m = [] → BDe B (startC N Rs) [] t (fnP B R)) : FnOk P w K mg base CX0 (k + 1) f fd ps (spD S) := by
  refine F.ok sc (fun vs H Q E h => ?_) fun cdv A outer s H vs Q E hr h => ⟨t, hps f cdv A outer s H E hr, run_spD ev h⟩
  obtain ⟨Rs, R, f, hS, _, a, _⟩ := h
  rw [a.length, hlen Rs R hS]
theorem fin_of {P : Program} {w : World} {fa : Addr} {k : Nat} {sp : Sp} (X : K.In h) (G : h.Ns mainGlobals mg) (hfa : mg "law" = some (.ref fa)) (d : DefK K "law" st)
    (hb : ∀ (kV doc pm : Value) (an : Option Addr) (cdv ct : Value) (v : Value), bindArgs (PySem.W.fnOf "law" "law" (defArgs st) (defBody st) (defScope st) .none kV doc pm an cdv ct) ⟨[v], []⟩ = pure [(("_law_script" : Str), v)])
    (ok : ∀ (base : Heap) (f : Addr) (fd : FuncData), Fun K "law" "law" st f fd → FnOk P w K mg base CX0 k f fd ["_law_script"] sp) :
    ∃ fd : FuncData, (∀ (s : Shared) (v : Value), BindsTo s fd ⟨[v], []⟩ [("_law_script", v)]) ∧ ∀ base : Heap, K.In base → base.Ns mainGlobals mg → FnOk P w K mg base CX0 k fa fd ["_law_script"] sp := by
  obtain ⟨f, oc, od, kV, doc, pm, an, cdv, ct, osl, a, l, c, kk⟩ := d
  have e := hfa.symm.trans (PySem.W.mg_of X G a)
  cases e
  have F := fun_mk (st := st) l c kk
  exact ⟨_, fun s v => .of_eq (hb kV doc pm an cdv ct v), fun base _ _ => ok base _ _ F⟩
end
end D

set_option Elab.async false
set_option linter.all false
set_option maxRecDepth 100000
set_option maxHeartbeats 4000000
namespace D
open PySem PySem.Spec PyProof.Rows L2
open ToPy (py)
local macro_rules | `(tactic| walk_at "side") => `(tactic| first | assumption | omega | (refine Int.emod_nonneg _ ?_; omega) | (refine Int.emod_lt_of_pos _ ?_; omega) | (simp at *; omega) | (simp; done) | decide | skip)
local macro_rules | `(tactic| walk_at "d") => `(tactic| first
  | with_reducible exact ev_int | with_reducible exact ev_str | with_reducible exact ev_bl | with_reducible exact ev_non
  | exact ev_var rfl
  | with_reducible exact ev_ty
  | with_reducible exact ev_cls
  | ((with_reducible apply ev_op) <;> walk_at "d")
  | ((with_reducible apply ev_un) <;> walk_at "d")
  | ((with_reducible apply ev_call) <;> walk_at "d")
  | ((with_reducible apply ev_callX) <;> walk_at "d")
  | ((with_reducible apply ev_cb) <;> walk_at "d")
  | with_reducible exact ea_nil
  | ((with_reducible apply ea_cons) <;> walk_at "d")
  | with_reducible exact s_add
  | with_reducible exact s_sub
  | with_reducible exact s_lt
  | with_reducible exact s_le
  | with_reducible exact s_gt
  | with_reducible exact s_ge
  | with_reducible exact s_eqI
  | with_reducible exact s_neI
  | with_reducible exact s_eqS
  | with_reducible exact s_neS
  | with_reducible exact s_neB
  | exact s_eqSame (sh_ints2 _) | exact s_neSame (sh_ints2 _) | exact s_eqSame (sh_ints _) | exact s_neSame (sh_ints _)
  | ((with_reducible apply s_mod) <;> walk_at "side")
  | walk_at "div" | walk_at "mul"
  | ((with_reducible apply s_catL) <;> walk_at "side")
  | ((with_reducible apply s_repL) <;> walk_at "side")
  | with_reducible exact s_fst
  | with_reducible exact s_snd
  | with_reducible exact s_t0
  | with_reducible exact s_t1
  | with_reducible exact s_t2
  | ((with_reducible apply s_last) <;> walk_at "side")
  | ((with_reducible apply s_ixS) <;> walk_at "side")
  | ((with_reducible apply s_ix) <;> walk_at "side")
  | ((with_reducible apply s_ixT) <;> walk_at "side")
  | with_reducible exact s_negI
  | with_reducible exact c_len
  | with_reducible exact c_lI
  | with_reducible exact c_tI
  | with_reducible exact c_pI
  | with_reducible exact c_t3I
  | with_reducible exact c_sI
  | with_reducible exact c_iI
  | with_reducible exact c_iB
  | with_reducible exact c_lenP
  | with_reducible exact c_len3
  | with_reducible exact c_isInt
  | with_reducible exact c_isBool
  | with_reducible exact c_isStr
  | with_reducible exact c_isList
  | with_reducible exact c_isTup
  | with_reducible exact c_lenTup
  | with_reducible exact c_lenScr
  | with_reducible exact c_listD
  | with_reducible exact c_listTD
  | with_reducible exact c_tup
  | with_reducible exact c_abs
  | with_reducible exact c_min2
  | with_reducible exact c_max2
  | with_reducible exact c_intB
  | with_reducible exact c_sum
  | ((with_reducible apply c_min) <;> walk_at "side")
  | ((with_reducible apply c_max) <;> walk_at "side")
  | ((with_reducible apply et_val) <;> walk_at "d")
  | ((with_reducible apply et_test) <;> walk_at "d")
  | ((with_reducible apply et_not) <;> walk_at "d")
  | ((with_reducible apply et_and) <;> (try with_reducible intro _) <;> walk_at "d")
  | ((with_reducible apply et_or) <;> (try with_reducible intro _) <;> walk_at "d")
  | ((with_reducible apply ev_and) <;> (try with_reducible intro _) <;> walk_at "d")
  | ((with_reducible apply ev_or) <;> (try with_reducible intro _) <;> walk_at "d")
  | ((with_reducible apply ev_chain) <;> (try with_reducible intro _) <;> walk_at "d")
  | ((with_reducible apply ev_not) <;> walk_at "d")
  | ((with_reducible apply ev_pair) <;> walk_at "d")
  | ((with_reducible apply ev_t3) <;> walk_at "d")
  | ((with_reducible apply ev_lst1) <;> walk_at "d")
  | ((with_reducible apply ev_lst2) <;> walk_at "d")
  | ((with_reducible apply ev_lst3) <;> walk_at "d")
  | ((with_reducible apply ev_lst4) <;> walk_at "d")
  | ((with_reducible apply ev_cut) <;> walk_at "d")
  | ((with_reducible apply ep_some) <;> walk_at "d")
  | ((with_reducible apply EvD.s) <;> walk_at "d")
  | ((with_reducible apply EvT.s) <;> walk_at "d")
  | ((with_reducible apply EvN.s) <;> walk_at "d")
  | ((with_reducible apply en_lst1) <;> walk_at "d")
  | ((with_reducible apply en_lst2) <;> walk_at "d")
  | ((with_reducible apply en_lst3) <;> walk_at "d")
  | ((with_reducible apply en_lst4) <;> walk_at "d")
  | ((with_reducible apply en_cut) <;> walk_at "d")
  | with_reducible exact ev_lst0
  | with_reducible exact ep_none
  | with_reducible exact en_lst0
  | ((with_reducible apply wi_L) <;> walk_at "d")
  | ((with_reducible apply wi_T) <;> walk_at "d")
  | ((with_reducible apply wi_zip) <;> walk_at "d")
  | ((with_reducible apply WiD.s) <;> walk_at "d")
  | ((with_reducible apply wi_range) <;> walk_at "side")
  | exact spec_cell (by omega) (by omega)
  | skip)
local macro_rules | `(tactic| walk_at "div") => `(tactic| first
  | exact s_div ⟨by omega, by omega⟩
  | exact s_divW (wd_div (by first | assumption | omega) (by assumption))
  | with_reducible apply s_div)
local macro_rules | `(tactic| walk_at "mul") => `(tactic| first
  | exact s_mul (Or.inl ⟨by omega, by omega⟩) | exact s_mul (Or.inr ⟨by omega, by omega⟩)
  | exact s_mulW (wd_mul (by assumption) (by assumption))
  | with_reducible apply s_mulW)
local macro_rules | `(tactic| walk_at "fg") => `(tactic| repeat (first | exact Fg.nil | apply Fg.same | apply Fg.drop | (refine Fg.eq ?_ ?_; rotate_left)))
local macro_rules | `(tactic| walk_at "end") => `(tactic| exact bd_turnE trivial rfl (by walk_at "fg"))
local macro_rules | `(tactic| walk_at "range") => `(tactic| (apply WiD.s; apply wi_range; (walk_at "d"); omega; omega))
local macro_rules | `(tactic| walk_at "app") => `(tactic| (refine' bd_appR 0 ?_ rfl ?_ ?_ ?_ ?_; (walk_at "d"); (walk_at "d"); rotate_right))
/-! ### readings of the program's tables -/
def turnLine (table : List (List Int)) (scale row column at' : Int) : List Int :=
  if at' = row then (ix table row).set column.toNat scale
  else ((List.range (ix table at').length).map fun i => (at_ (ix table at') i * ix (ix table row) column - ix (ix table at') column * at_ (ix table row) i) / scale).set column.toNat (0 - ix (ix table at') column)
/-- a table of so many rows and columns, its numbers not great -/
structure Rect (table : List (List Int)) (h w : Nat) : Prop where
  len : table.length = h
  wid : ∀ l ∈ table, l.length = w
  wd : ∀ l ∈ table, ∀ x ∈ l, Wd x
theorem ix_mem {α : Type} [ToPy α] {xs : List α} {k : Int} (h0 : 0 ≤ k) (h1 : k < (xs.length : Int)) : ix xs k ∈ xs := by
  unfold ix
  rw [List.getD_eq_getElem?_getD, List.getElem?_eq_getElem (by omega : k.toNat < xs.length)]
  exact List.getElem_mem _
theorem at_mem {α : Type} [ToPy α] {xs : List α} {k : Nat} (h1 : k < xs.length) : at_ xs k ∈ xs := by
  unfold at_
  rw [List.getD_eq_getElem?_getD, List.getElem?_eq_getElem h1]
  exact List.getElem_mem _
def S_turned_line (K : PySem.W.Frag) (c : Cs) : Spec := fun Rs R => ∃ (table : List (List Int)) (scale row column at' : Int) (h w : Nat), Rs = [rep table, rep scale, rep row, rep column, rep at'] ∧ Rect table h w ∧ h ≤ 100 ∧ w ≤ 100 ∧ 0 ≤ row ∧ row < h ∧ 0 ≤ column ∧ column < w ∧ 0 ≤ at' ∧ at' < h ∧ 0 < scale ∧ Wd scale ∧
  R = rep (turnLine table scale row column at')
def n_turned_line : List Str := ["table", "scale", "row", "column", "at", "pivot", "head", "line", "one", "other"]
def t_turned_line (K : PySem.W.Frag) (c : Cs) : TS := (tSeq (tAsg (tOp (rIx K) (tOp (rIx K) (tVar 0) (tVar 2)) (tVar 3)) (gName 5))
  (tSeq (tIfS (tTest (tOp (rEqX K) (tVar 4) (tVar 2))) (tSeq (tAsg (tCB (rListX K) (tCons (tOp (rIx K) (tVar 0) (tVar 2)) tNil)) (gName 7))
  (tSeq (tAsg (tVar 1) (gSub (tVar 7) (tVar 3) rSetL))
  (tSeq (tRet (tVar 7))
  tNext))) tNext)
  (tSeq (tAsg (tOp (rIx K) (tOp (rIx K) (tVar 0) (tVar 4)) (tVar 3)) (gName 6))
  (tSeq (tAsg (tLc (iZip K (tCons (tOp (rIx K) (tVar 0) (tVar 4)) (tCons (tOp (rIx K) (tVar 0) (tVar 2)) tNil))) (gTup K 2 (gCons (gName 8) (gCons (gName 9) gNil))) tYes (tOp rDivI (tOp rSubI (tOp (rMulX K) (tVar 8) (tVar 5)) (tOp (rMulX K) (tVar 6) (tVar 9))) (tVar 1)) [8, 9]) (gName 7))
  (tSeq (tAsg (tOp rSubI (tC (.int 0)) (tVar 6)) (gSub (tVar 7) (tVar 3) rSetL))
  (tSeq (tRet (tVar 7))
  tNext))))))
theorem rd_turned_line {K : PySem.W.Frag} {c : Cs} : ∀ Rs R, S_turned_line K c Rs R → ∀ B : Base, B.m = [] → BDe B (startC n_turned_line Rs) [] (t_turned_line K c) (fnP B R) := by
  rintro _ _ ⟨table, scale, row, column, at', h, w, rfl, hT, hh, hw, r0, r1, c0, c1, a0, a1, s0, s1, rfl⟩ B hm
  have lT := hT.len
  have m1 : ix table row ∈ table := ix_mem r0 (by omega)
  have m2 : ix table at' ∈ table := ix_mem a0 (by omega)
  have l1 := hT.wid _ m1
  have l2 := hT.wid _ m2
  have p1 : Wd (ix (ix table row) column) := hT.wd _ m1 _ (ix_mem c0 (by omega))
  have p2 : Wd (ix (ix table at') column) := hT.wd _ m2 _ (ix_mem c0 (by omega))
  apply bd_set
  · walk_at "d"
  apply bd_ifr
  · walk_at "d"
  · intro e
    simp at e
    apply bd_own
    · apply EvN.s
      apply ev_cbN
      · walk_at "d"
      · exact c_list
    intro p
    apply bd_setI (α := Int) 0
    · walk_at "d"
    · walk_at "d"
    · walk_at "d"
    · rfl
    · assumption
    · omega
    refine bd_frz 0 7 rfl rfl hm ?_
    apply bd_retE hm
    · walk_at "d"
    · simp [turnLine, e]
  · intro e
    simp at e
    apply bd_set
    · walk_at "d"
    apply bd_own
    · apply EvN.s
      apply en_lc (α := Int)
      · walk_at "d"
        omega
      · intro i hi
        exact tl_pair (by simp) (by simp)
      · intro i hi
        have q1 : Wd (at_ (ix table at') i) := hT.wd _ m2 _ (at_mem hi)
        have q2 : Wd (at_ (ix table row) i) := hT.wd _ m1 _ (at_mem (by omega))
        walk_at "d"
      · omega
    intro p
    apply bd_setI (α := Int) 0
    · walk_at "d"
    · walk_at "d"
    · walk_at "d"
    · rfl
    · assumption
    · simp; omega
    refine bd_frz 0 7 rfl rfl hm ?_
    apply bd_retE hm
    · walk_at "d"
    · simp [turnLine, e]

/-! ### turned -/
def turnF (table : List (List Int)) (scale row column : Int) : List (List Int) × Int :=
  ((List.range table.length).map fun (i : Nat) => if ix (ix table row) column < 0 then (turnLine table scale row column (i : Int)).map fun x => 0 - x else turnLine table scale row column (i : Int),
   if ix (ix table row) column < 0 then -(ix (ix table row) column) else ix (ix table row) column)
def P_turned (table : List (List Int)) (scale row column : Int) : Prop := ∃ h w : Nat, Rect table h w ∧ h ≤ 100 ∧ w ≤ 100 ∧ 0 ≤ row ∧ row < h ∧ 0 ≤ column ∧ column < w ∧ 0 < scale ∧ Wd scale
def S_turned (K : PySem.W.Frag) (c : Cs) : Spec := fun Rs R => ∃ (table : List (List Int)) (scale row column : Int), Rs = [rep table, rep scale, rep row, rep column] ∧ P_turned table scale row column ∧ ix (ix table row) column ≠ 0 ∧ R = rep (turnF table scale row column)
def SE_turned (K : PySem.W.Frag) (c : Cs) : List RP → Addr → Prop := fun Rs C => ∃ (table : List (List Int)) (scale row column : Int), Rs = [rep table, rep scale, rep row, rep column] ∧ P_turned table scale row column ∧ ix (ix table row) column = 0 ∧ C = c.NoTurn
def n_turned : List Str := ["table", "scale", "row", "column", "pivot", "found", "at", "line", "number"]
def t_turned (K : PySem.W.Frag) (c : Cs) (E : XK) : TS := (tSeq (tAsg (tOp (rIx K) (tOp (rIx K) (tVar 0) (tVar 2)) (tVar 3)) (gName 4))
  (tSeq (tIfS (tTest (tOp (rEqX K) (tVar 4) (tC (.int 0)))) (tSeq (tRaiseC E c.NoTurn)
  tNext) tNext)
  (tSeq (tAsg (tLst tNil) (gName 5))
  (tSeq (tFor (iRng1 (tCons (tCB (rLenX K) (tCons (tVar 0) tNil)) tNil)) (gName 6) (tSeq (tAsg (tCall (spD (S_turned_line K c)) [] E0 (tCons (tVar 0) (tCons (tVar 1) (tCons (tVar 2) (tCons (tVar 3) (tCons (tVar 6) tNil)))))) (gName 7))
  (tSeq (tIfS (tTest (tOp rLtI (tVar 4) (tC (.int 0)))) (tSeq (tAsg (tLc (iList K (tVar 7)) (gName 8) tYes (tOp rSubI (tC (.int 0)) (tVar 8)) [8]) (gName 7))
  tNext) tNext)
  (tSeq (tDrop (tBM K "list" rAppend (tVar 5) (tCons (tVar 7) tNil)))
  tNext))))
  (tSeq (tRet (tTup (tCons (tVar 5) (tCons (tCB rAbsX (tCons (tVar 4) tNil)) tNil))))
  tNext)))))
theorem turnLine_len {table : List (List Int)} {scale row column at' : Int} {h w : Nat} (hT : Rect table h w) (r0 : 0 ≤ row) (r1 : row < h) (a0 : 0 ≤ at') (a1 : at' < h) : (turnLine table scale row column at').length = w := by
  have lT := hT.len
  have l1 := hT.wid _ (ix_mem r0 (by omega))
  have l2 := hT.wid _ (ix_mem a0 (by omega))
  unfold turnLine
  split <;> simp [l1, l2]
theorem map_range_len {α β : Type} [ToPy α] (xs : List α) (g : α → β) : (List.range xs.length).map (fun i => g (at_ xs i)) = xs.map g := by
  apply List.ext_getElem?
  intro i
  by_cases hi : i < xs.length
  · rw [List.getElem?_map, List.getElem?_map, List.getElem?_range hi]
    simp [at_some hi]
  · rw [List.getElem?_eq_none (by simpa using hi), List.getElem?_eq_none (by simpa using hi)]
theorem rd_turned {K : PySem.W.Frag} {c : Cs} : ∀ Rs R, S_turned K c Rs R → ∀ (B : Base) (E : XK), B.m = [] → BDe B (startC n_turned Rs) [] (t_turned K c E) (fnP B R) := by
  rintro _ _ ⟨table, scale, row, column, rfl, ⟨h, w, hT, hh, hw, r0, r1, c0, c1, s0, s1⟩, hp, rfl⟩ B E hm
  have lT := hT.len
  have m1 : ix table row ∈ table := ix_mem r0 (by omega)
  have l1 := hT.wid _ m1
  unfold turnF
  generalize hpv : ix (ix table row) column = pv at hp
  apply bd_set (R := rep pv)
  · rw [← hpv]
    walk_at "d"
  apply bd_ifr
  · walk_at "d"
  · intro e
    simp at e
    exact absurd e hp
  · intro _
    refine bd_nil (List Int) fun p => ?_
    apply bd_forE (fun i => [some (rep table), some (rep scale), some (rep row), some (rep column), some (rep pv), some (own p), none, none, none])
      (fun i => [(p, oL ((List.range i).map fun (i : Nat) => if pv < 0 then (turnLine table scale row column (i : Int)).map fun x => 0 - x else turnLine table scale row column (i : Int)))]) (fun _ => True)
    · apply WiD.s
      apply wi_range
      · walk_at "d"
      · omega
      · omega
    · walk_at "fg"
    · rfl
    · trivial
    · intro i hi
      exact tg_name
    · intro i hi _
      apply bd_let
      · apply EvD.s
        apply ev_call
        · walk_at "d"
        · exact ⟨table, scale, row, column, (i : Int), h, w, rfl, hT, hh, hw, r0, r1, c0, c1, by omega, by omega, s0, s1, rfl⟩
      intro line hl
      have ll : line.length = w := by rw [hl]; exact turnLine_len hT r0 r1 (by omega) (by omega)
      apply bd_ifset (a := line.map fun x => 0 - x) (c := line)
      · walk_at "d"
      · intro hneg
        apply EvD.s
        refine ev_eq (ev_lc (α := Int) (val := fun i => 0 - at_ line i) (wi_L (ev_var rfl)) (fun i hi => tl_name (by simp)) (fun i hi => ?_) (by omega)) (map_range_len line fun x => 0 - x)
        walk_at "d"
      · rfl
      apply bd_app 0
      · walk_at "d"
      · rfl
      · walk_at "d"
      · simp
        omega
      refine bd_turnE trivial ?_ (by walk_at "fg")
      rw [List.range_succ, List.map_append, hl]
      simp
    · intro _
      refine bd_frz 0 5 rfl rfl hm ?_
      apply bd_retE hm
      · walk_at "d"
      · have e : Int.toNat (table.length : Int) = table.length := by omega
        rw [e]
theorem rd_turnedX {K : PySem.W.Frag} {c : Cs} : ∀ Rs C, SE_turned K c Rs C → ∀ (B : Base) (E : XK), B.m = [] → Raises B E C → BDe B (startC n_turned Rs) [] (t_turned K c E) noP := by
  rintro _ _ ⟨table, scale, row, column, rfl, ⟨h, w, hT, hh, hw, r0, r1, c0, c1, s0, s1⟩, hp, rfl⟩ B E hm hE
  have lT := hT.len
  have m1 : ix table row ∈ table := ix_mem r0 (by omega)
  have l1 := hT.wid _ m1
  apply bd_set
  · walk_at "d"
  apply bd_ifr
  · walk_at "d"
  · intro _
    exact bd_raise hm hE
  · intro e
    simp [hp] at e
end D

set_option Elab.async false
set_option linter.all false
set_option maxRecDepth 100000
set_option maxHeartbeats 4000000
namespace D
open PySem PySem.Spec PyProof.Rows L2
open ToPy (py)
local macro_rules | `(tactic| walk_at "side") => `(tactic| first | assumption | omega | (refine Int.emod_nonneg _ ?_; omega) | (refine Int.emod_lt_of_pos _ ?_; omega) | (simp at *; omega) | (simp; done) | decide | skip)
local macro_rules | `(tactic| walk_at "d") => `(tactic| first
  | with_reducible exact ev_int | with_reducible exact ev_str | with_reducible exact ev_bl | with_reducible exact ev_non
  | exact ev_var rfl
  | with_reducible exact ev_ty
  | with_reducible exact ev_cls
  | ((with_reducible apply ev_op) <;> walk_at "d")
  | ((with_reducible apply ev_un) <;> walk_at "d")
  | ((with_reducible apply ev_call) <;> walk_at "d")
  | ((with_reducible apply ev_callX) <;> walk_at "d")
  | ((with_reducible apply ev_cb) <;> walk_at "d")
  | with_reducible exact ea_nil
  | ((with_reducible apply ea_cons) <;> walk_at "d")
  | with_reducible exact s_add
  | with_reducible exact s_sub
  | with_reducible exact s_lt
  | with_reducible exact s_le
  | with_reducible exact s_gt
  | with_reducible exact s_ge
  | with_reducible exact s_eqI
  | with_reducible exact s_neI
  | with_reducible exact s_eqS
  | with_reducible exact s_neS
  | with_reducible exact s_neB
  | exact s_eqSame (sh_ints2 _) | exact s_neSame (sh_ints2 _) | exact s_eqSame (sh_ints _) | exact s_neSame (sh_ints _)
  | ((with_reducible apply s_mod) <;> walk_at "side")
  | walk_at "div" | walk_at "mul"
  | ((with_reducible apply s_catL) <;> walk_at "side")
  | ((with_reducible apply s_repL) <;> walk_at "side")
  | with_reducible exact s_fst
  | with_reducible exact s_snd
  | with_reducible exact s_t0
  | with_reducible exact s_t1
  | with_reducible exact s_t2
  | ((with_reducible apply s_last) <;> walk_at "side")
  | ((with_reducible apply s_ixS) <;> walk_at "side")
  | ((with_reducible apply s_ix) <;> walk_at "side")
  | ((with_reducible apply s_ixT) <;> walk_at "side")
  | with_reducible exact s_negI
  | with_reducible exact c_len
  | with_reducible exact c_lI
  | with_reducible exact c_tI
  | with_reducible exact c_pI
  | with_reducible exact c_t3I
  | with_reducible exact c_sI
  | with_reducible exact c_iI
  | with_reducible exact c_iB
  | with_reducible exact c_lenP
  | with_reducible exact c_len3
  | with_reducible exact c_isInt
  | with_reducible exact c_isBool
  | with_reducible exact c_isStr
  | with_reducible exact c_isList
  | with_reducible exact c_isTup
  | with_reducible exact c_lenTup
  | with_reducible exact c_lenScr
  | with_reducible exact c_listD
  | with_reducible exact c_listTD
  | with_reducible exact c_tup
  | with_reducible exact c_abs
  | with_reducible exact c_min2
  | with_reducible exact c_max2
  | with_reducible exact c_intB
  | with_reducible exact c_sum
  | ((with_reducible apply c_min) <;> walk_at "side")
  | ((with_reducible apply c_max) <;> walk_at "side")
  | ((with_reducible apply et_val) <;> walk_at "d")
  | ((with_reducible apply et_test) <;> walk_at "d")
  | ((with_reducible apply et_not) <;> walk_at "d")
  | ((with_reducible apply et_and) <;> (try with_reducible intro _) <;> walk_at "d")
  | ((with_reducible apply et_or) <;> (try with_reducible intro _) <;> walk_at "d")
  | ((with_reducible apply ev_and) <;> (try with_reducible intro _) <;> walk_at "d")
  | ((with_reducible apply ev_or) <;> (try with_reducible intro _) <;> walk_at "d")
  | ((with_reducible apply ev_chain) <;> (try with_reducible intro _) <;> walk_at "d")
  | ((with_reducible apply ev_not) <;> walk_at "d")
  | ((with_reducible apply ev_pair) <;> walk_at "d")
  | ((with_reducible apply ev_t3) <;> walk_at "d")
  | ((with_reducible apply ev_lst1) <;> walk_at "d")
  | ((with_reducible apply ev_lst2) <;> walk_at "d")
  | ((with_reducible apply ev_lst3) <;> walk_at "d")
  | ((with_reducible apply ev_lst4) <;> walk_at "d")
  | ((with_reducible apply ev_cut) <;> walk_at "d")
  | ((with_reducible apply ep_some) <;> walk_at "d")
  | ((with_reducible apply EvD.s) <;> walk_at "d")
  | ((with_reducible apply EvT.s) <;> walk_at "d")
  | ((with_reducible apply EvN.s) <;> walk_at "d")
  | ((with_reducible apply en_lst1) <;> walk_at "d")
  | ((with_reducible apply en_lst2) <;> walk_at "d")
  | ((with_reducible apply en_lst3) <;> walk_at "d")
  | ((with_reducible apply en_lst4) <;> walk_at "d")
  | ((with_reducible apply en_cut) <;> walk_at "d")
  | with_reducible exact ev_lst0
  | with_reducible exact ep_none
  | with_reducible exact en_lst0
  | ((with_reducible apply wi_L) <;> walk_at "d")
  | ((with_reducible apply wi_T) <;> walk_at "d")
  | ((with_reducible apply wi_zip) <;> walk_at "d")
  | ((with_reducible apply WiD.s) <;> walk_at "d")
  | ((with_reducible apply wi_range) <;> walk_at "side")
  | exact spec_cell (by omega) (by omega)
  | skip)
local macro_rules | `(tactic| walk_at "div") => `(tactic| first
  | exact s_div ⟨by omega, by omega⟩
  | exact s_divW (wd_div (by first | assumption | omega) (by assumption))
  | with_reducible apply s_div)
local macro_rules | `(tactic| walk_at "mul") => `(tactic| first
  | exact s_mul (Or.inl ⟨by omega, by omega⟩) | exact s_mul (Or.inr ⟨by omega, by omega⟩)
  | exact s_mulW (wd_mul (by assumption) (by assumption))
  | with_reducible apply s_mulW)
local macro_rules | `(tactic| walk_at "fg") => `(tactic| repeat (first | exact Fg.nil | apply Fg.same | apply Fg.drop | (refine Fg.eq ?_ ?_; rotate_left)))
local macro_rules | `(tactic| walk_at "end") => `(tactic| exact bd_turnE trivial rfl (by walk_at "fg"))
local macro_rules | `(tactic| walk_at "range") => `(tactic| (apply WiD.s; apply wi_range; (walk_at "d"); omega; omega))
local macro_rules | `(tactic| walk_at "app") => `(tactic| (refine' bd_appR 0 ?_ rfl ?_ ?_ ?_ ?_; (walk_at "d"); (walk_at "d"); rotate_right))
/-! ### k05: the law's own -/
def S_law_whole (K : PySem.W.Frag) (c : Cs) : Spec := fun Rs R => ∃ d : PyData, Rs = [rpD d] ∧ R = rep (isi d "int" && !isi d "bool")
def fracN (a b : Int) : Int × Int := if b < 0 then (0 - a, 0 - b) else (a, b)
def S_law_fraction (K : PySem.W.Frag) (c : Cs) : Spec := fun Rs R => ∃ a b : Int, Rs = [rep a, rep b] ∧ R = rep (fracN a b)
def fallen (one two three pivot : Int × Int) : Int × Int := fracN (one.1 * (two.2 * three.2 * pivot.1) - two.1 * three.1 * pivot.2 * one.2) (one.2 * (two.2 * three.2 * pivot.1))
/-- numbers of fractions that are not great -/
def Wf (n : Nat) (x : Int × Int) : Prop := x.1.natAbs < 2 ^ n ∧ x.2.natAbs < 2 ^ n
def S_law_fallen (K : PySem.W.Frag) (c : Cs) : Spec := fun Rs R => ∃ one two three pivot : Int × Int, Rs = [rep one, rep two, rep three, rep pivot] ∧ Wf 200 one ∧ Wf 200 two ∧ Wf 200 three ∧ Wf 200 pivot ∧ R = rep (fallen one two three pivot)
def n_law_cell_at : List Str := ["_law_script", "_law_k", "_law_cell"]
def t_law_cell_at (K : PySem.W.Frag) (c : Cs) : TS := (tSeq (tAsg (tC (.int 0)) (gName 2))
  (tSeq (tIfS (tTest (tOp rGtI (tCB (rLenX K) (tCons (tVar 0) tNil)) (tC (.int 0)))) (tSeq (tAsg (tOp (rIx K) (tVar 0) (tOp rModI (tVar 1) (tCB (rLenX K) (tCons (tVar 0) tNil)))) (gName 2))
  tNext) tNext)
  (tSeq (tRet (tOp rModI (tOp (rMulX K) (tOp (rAddX K) (tVar 2) (tOp (rMulX K) (tC (.int 17)) (tVar 1))) (tC (.int 48271))) (tC (.int 1000003))))
  tNext)))
def n_law_whole : List Str := ["_law_found"]
def t_law_whole (K : PySem.W.Frag) (c : Cs) : TS := (tSeq (tRet (tAndV (tCB (rIsi K) (tCons (tVar 0) (tCons (tC (.ty "int")) tNil))) (tNotV (tCB (rIsi K) (tCons (tVar 0) (tCons (tC (.ty "bool")) tNil))))))
  tNext)
def n_law_fraction : List Str := ["_law_above", "_law_below"]
def t_law_fraction (K : PySem.W.Frag) (c : Cs) : TS := (tSeq (tIfS (tTest (tOp rLtI (tVar 1) (tC (.int 0)))) (tSeq (tRet (tTup (tCons (tOp rSubI (tC (.int 0)) (tVar 0)) (tCons (tOp rSubI (tC (.int 0)) (tVar 1)) tNil))))
  tNext) tNext)
  (tSeq (tRet (tTup (tCons (tVar 0) (tCons (tVar 1) tNil))))
  tNext))
def n_law_fallen : List Str := ["_law_one", "_law_two", "_law_three", "_law_pivot", "_law_less", "_law_below"]
def t_law_fallen (K : PySem.W.Frag) (c : Cs) : TS := (tSeq (tAsg (tOp (rMulX K) (tOp (rMulX K) (tOp (rMulX K) (tOp (rIx K) (tVar 1) (tC (.int 0))) (tOp (rIx K) (tVar 2) (tC (.int 0)))) (tOp (rIx K) (tVar 3) (tC (.int 1)))) (tOp (rIx K) (tVar 0) (tC (.int 1)))) (gName 4))
  (tSeq (tAsg (tOp (rMulX K) (tOp (rMulX K) (tOp (rIx K) (tVar 1) (tC (.int 1))) (tOp (rIx K) (tVar 2) (tC (.int 1)))) (tOp (rIx K) (tVar 3) (tC (.int 0)))) (gName 5))
  (tSeq (tRet (tCall (spD (S_law_fraction K c)) [] E0 (tCons (tOp rSubI (tOp (rMulX K) (tOp (rIx K) (tVar 0) (tC (.int 0))) (tVar 5)) (tVar 4)) (tCons (tOp (rMulX K) (tOp (rIx K) (tVar 0) (tC (.int 1))) (tVar 5)) tNil))))
  tNext)))
theorem rd_law_cell_at {K : PySem.W.Frag} {c : Cs} : ∀ Rs R, S_law_cell_at K c Rs R → ∀ B : Base, B.m = [] → BDe B (startC n_law_cell_at Rs) [] (t_law_cell_at K c) (fnP B R) := by
  rintro _ _ ⟨ns, k, rfl, h0, h1, rfl⟩ B hm
  apply bd_set
  · walk_at "d"
  apply bd_ifset (a := ix ns (k % ns.length)) (c := (0:Int))
  · walk_at "d"
  · intro h
    simp at h
    walk_at "d"
  · rfl
  apply bd_retE hm
  · walk_at "d"
  simp [cellAt]
theorem rd_law_whole {K : PySem.W.Frag} {c : Cs} : ∀ Rs R, S_law_whole K c Rs R → ∀ B : Base, B.m = [] → BDe B (startC n_law_whole Rs) [] (t_law_whole K c) (fnP B R) := by
  rintro _ _ ⟨d, rfl, rfl⟩ B hm
  apply bd_retE hm
  · walk_at "d"
  rfl
theorem rd_law_fraction {K : PySem.W.Frag} {c : Cs} : ∀ Rs R, S_law_fraction K c Rs R → ∀ B : Base, B.m = [] → BDe B (startC n_law_fraction Rs) [] (t_law_fraction K c) (fnP B R) := by
  rintro _ _ ⟨a, b, rfl, rfl⟩ B hm
  apply bd_ifr
  · walk_at "d"
  · intro h
    apply bd_retE hm
    · walk_at "d"
    simp at h
    simp [fracN, h]
  · intro h
    apply bd_retE hm
    · walk_at "d"
    simp at h
    simp [fracN, Int.not_lt.mpr h]
theorem mulw {a b : Int} {m n : Nat} (ha : a.natAbs < 2 ^ m) (hb : b.natAbs < 2 ^ n) (h0 : 0 < m := by decide) (h1 : 0 < n := by decide) (h : m + n ≤ 1000000 := by decide) : CMulW a b := wide_mul ha hb h0 h1 h
theorem rd_law_fallen {K : PySem.W.Frag} {c : Cs} : ∀ Rs R, S_law_fallen K c Rs R → ∀ B : Base, B.m = [] → BDe B (startC n_law_fallen Rs) [] (t_law_fallen K c) (fnP B R) := by
  rintro _ _ ⟨one, two, three, pivot, rfl, h1, h2, h3, h4, rfl⟩ B hm
  apply bd_set
  · walk_at "d"
    · exact mulw h2.1 h3.1
    · exact mulw (wide_lt h2.1 h3.1) h4.2
    · exact mulw (wide_lt (wide_lt h2.1 h3.1) h4.2) h1.2
  apply bd_set
  · walk_at "d"
    · exact mulw h2.2 h3.2
    · exact mulw (wide_lt h2.2 h3.2) h4.1
  apply bd_retR hm
  walk_at "d"
  · exact mulw h1.1 (wide_lt (wide_lt h2.2 h3.2) h4.1)
  · exact mulw h1.2 (wide_lt (wide_lt h2.2 h3.2) h4.1)
  · exact ⟨_, _, rfl, rfl⟩
end D

set_option Elab.async false
set_option linter.all false
set_option maxRecDepth 100000
set_option maxHeartbeats 4000000
namespace D
open PySem PySem.Spec PyProof.Rows L2
open ToPy (py)
local macro_rules | `(tactic| walk_at "side") => `(tactic| first | assumption | omega | (refine Int.emod_nonneg _ ?_; omega) | (refine Int.emod_lt_of_pos _ ?_; omega) | (simp at *; omega) | (simp; done) | decide | skip)
local macro_rules | `(tactic| walk_at "d") => `(tactic| first
  | with_reducible exact ev_int | with_reducible exact ev_str | with_reducible exact ev_bl | with_reducible exact ev_non
  | exact ev_var rfl
  | with_reducible exact ev_ty
  | with_reducible exact ev_cls
  | ((with_reducible apply ev_op) <;> walk_at "d")
  | ((with_reducible apply ev_un) <;> walk_at "d")
  | ((with_reducible apply ev_call) <;> walk_at "d")
  | ((with_reducible apply ev_callX) <;> walk_at "d")
  | ((with_reducible apply ev_cb) <;> walk_at "d")
  | with_reducible exact ea_nil
  | ((with_reducible apply ea_cons) <;> walk_at "d")
  | with_reducible exact s_add
  | with_reducible exact s_sub
  | with_reducible exact s_lt
  | with_reducible exact s_le
  | with_reducible exact s_gt
  | with_reducible exact s_ge
  | with_reducible exact s_eqI
  | with_reducible exact s_neI
  | with_reducible exact s_eqS
  | with_reducible exact s_neS
  | with_reducible exact s_neB
  | exact s_eqSame (sh_ints2 _) | exact s_neSame (sh_ints2 _) | exact s_eqSame (sh_ints _) | exact s_neSame (sh_ints _)
  | ((with_reducible apply s_mod) <;> walk_at "side")
  | walk_at "div" | walk_at "mul"
  | ((with_reducible apply s_catL) <;> walk_at "side")
  | ((with_reducible apply s_repL) <;> walk_at "side")
  | with_reducible exact s_fst
  | with_reducible exact s_snd
  | with_reducible exact s_t0
  | with_reducible exact s_t1
  | with_reducible exact s_t2
  | ((with_reducible apply s_last) <;> walk_at "side")
  | ((with_reducible apply s_ixS) <;> walk_at "side")
  | ((with_reducible apply s_ix) <;> walk_at "side")
  | ((with_reducible apply s_ixT) <;> walk_at "side")
  | with_reducible exact s_negI
  | with_reducible exact c_len
  | with_reducible exact c_lI
  | with_reducible exact c_tI
  | with_reducible exact c_pI
  | with_reducible exact c_t3I
  | with_reducible exact c_sI
  | with_reducible exact c_iI
  | with_reducible exact c_iB
  | with_reducible exact c_lenP
  | with_reducible exact c_len3
  | with_reducible exact c_isInt
  | with_reducible exact c_isBool
  | with_reducible exact c_isStr
  | with_reducible exact c_isList
  | with_reducible exact c_isTup
  | with_reducible exact c_lenTup
  | with_reducible exact c_lenScr
  | with_reducible exact c_listD
  | with_reducible exact c_listTD
  | with_reducible exact c_tup
  | with_reducible exact c_abs
  | with_reducible exact c_min2
  | with_reducible exact c_max2
  | with_reducible exact c_intB
  | with_reducible exact c_sum
  | ((with_reducible apply c_min) <;> walk_at "side")
  | ((with_reducible apply c_max) <;> walk_at "side")
  | ((with_reducible apply et_val) <;> walk_at "d")
  | ((with_reducible apply et_test) <;> walk_at "d")
  | ((with_reducible apply et_not) <;> walk_at "d")
  | ((with_reducible apply et_and) <;> (try with_reducible intro _) <;> walk_at "d")
  | ((with_reducible apply et_or) <;> (try with_reducible intro _) <;> walk_at "d")
  | ((with_reducible apply ev_and) <;> (try with_reducible intro _) <;> walk_at "d")
  | ((with_reducible apply ev_or) <;> (try with_reducible intro _) <;> walk_at "d")
  | ((with_reducible apply ev_chain) <;> (try with_reducible intro _) <;> walk_at "d")
  | ((with_reducible apply ev_not) <;> walk_at "d")
  | ((with_reducible apply ev_pair) <;> walk_at "d")
  | ((with_reducible apply ev_t3) <;> walk_at "d")
  | ((with_reducible apply ev_lst1) <;> walk_at "d")
  | ((with_reducible apply ev_lst2) <;> walk_at "d")
  | ((with_reducible apply ev_lst3) <;> walk_at "d")
  | ((with_reducible apply ev_lst4) <;> walk_at "d")
  | ((with_reducible apply ev_cut) <;> walk_at "d")
  | ((with_reducible apply ep_some) <;> walk_at "d")
  | ((with_reducible apply EvD.s) <;> walk_at "d")
  | ((with_reducible apply EvT.s) <;> walk_at "d")
  | ((with_reducible apply EvN.s) <;> walk_at "d")
  | ((with_reducible apply en_lst1) <;> walk_at "d")
  | ((with_reducible apply en_lst2) <;> walk_at "d")
  | ((with_reducible apply en_lst3) <;> walk_at "d")
  | ((with_reducible apply en_lst4) <;> walk_at "d")
  | ((with_reducible apply en_cut) <;> walk_at "d")
  | with_reducible exact ev_lst0
  | with_reducible exact ep_none
  | with_reducible exact en_lst0
  | ((with_reducible apply wi_L) <;> walk_at "d")
  | ((with_reducible apply wi_T) <;> walk_at "d")
  | ((with_reducible apply wi_zip) <;> walk_at "d")
  | ((with_reducible apply WiD.s) <;> walk_at "d")
  | ((with_reducible apply wi_range) <;> walk_at "side")
  | exact spec_cell (by omega) (by omega)
  | skip)
local macro_rules | `(tactic| walk_at "div") => `(tactic| first
  | exact s_div ⟨by omega, by omega⟩
  | exact s_divW (wd_div (by first | assumption | omega) (by assumption))
  | with_reducible apply s_div)
local macro_rules | `(tactic| walk_at "mul") => `(tactic| first
  | exact s_mul (Or.inl ⟨by omega, by omega⟩) | exact s_mul (Or.inr ⟨by omega, by omega⟩)
  | exact s_mulW (wd_mul (by assumption) (by assumption))
  | with_reducible apply s_mulW)
local macro_rules | `(tactic| walk_at "fg") => `(tactic| repeat (first | exact Fg.nil | apply Fg.same | apply Fg.drop | (refine Fg.eq ?_ ?_; rotate_left)))
local macro_rules | `(tactic| walk_at "end") => `(tactic| exact bd_turnE trivial rfl (by walk_at "fg"))
local macro_rules | `(tactic| walk_at "range") => `(tactic| (apply WiD.s; apply wi_range; (walk_at "d"); omega; omega))
local macro_rules | `(tactic| walk_at "app") => `(tactic| (refine' bd_appR 0 ?_ rfl ?_ ?_ ?_ ?_; (walk_at "d"); (walk_at "d"); rotate_right))
/-- a number of the turned table of fractions -/
def turnE (due : List (List (Int × Int))) (row column i j : Int) : Int × Int :=
  if i = row ∧ j = column then fracN (ix (ix due row) column).2 (ix (ix due row) column).1
  else if i = row then fracN ((ix (ix due i) j).1 * (ix (ix due row) column).2) ((ix (ix due i) j).2 * (ix (ix due row) column).1)
  else if j = column then fracN (0 - (ix (ix due i) j).1 * (ix (ix due row) column).2) ((ix (ix due i) j).2 * (ix (ix due row) column).1)
  else fallen (ix (ix due i) j) (ix (ix due i) column) (ix (ix due row) j) (ix (ix due row) column)
def turnD (due : List (List (Int × Int))) (row column : Int) (w : Nat) : List (List (Int × Int)) :=
  (List.range due.length).map fun (i : Nat) => (List.range w).map fun (j : Nat) => turnE due row column (i : Int) (j : Int)
structure RectF (n : Nat) (due : List (List (Int × Int))) (h w : Nat) : Prop where
  len : due.length = h
  wid : ∀ l ∈ due, l.length = w
  wd : ∀ l ∈ due, ∀ x ∈ l, Wf n x
theorem RectF.at_ {n : Nat} {due : List (List (Int × Int))} {h w : Nat} (R : RectF n due h w) {i j : Int} (i0 : 0 ≤ i) (i1 : i < h) (j0 : 0 ≤ j) (j1 : j < w) : (ix due i).length = w ∧ Wf n (ix (ix due i) j) := by
  have l := R.len
  have m := ix_mem i0 (by omega : i < (due.length : Int))
  have l1 := R.wid _ m
  exact ⟨l1, R.wd _ m _ (ix_mem j0 (by omega))⟩
def S_law_turned (K : PySem.W.Frag) (c : Cs) : Spec := fun Rs R => ∃ (due : List (List (Int × Int))) (row column : Int) (h w : Nat), Rs = [rep due, rep row, rep column] ∧ RectF 200 due h w ∧ h ≤ 100 ∧ w ≤ 100 ∧ 0 ≤ row ∧ row < h ∧ 0 ≤ column ∧ column < w ∧ R = rep (turnD due row column w)
def n_law_turned : List Str := ["_law_table", "_law_row", "_law_column", "_law_pivot", "_law_found", "_law_at", "_law_line", "_law_place", "_law_one"]
def t_law_turned (K : PySem.W.Frag) (c : Cs) : TS := (tSeq (tAsg (tOp (rIx K) (tOp (rIx K) (tVar 0) (tVar 1)) (tVar 2)) (gName 3))
  (tSeq (tAsg (tLst tNil) (gName 4))
  (tSeq (tFor (iRng1 (tCons (tCB (rLenX K) (tCons (tVar 0) tNil)) tNil)) (gName 5) (tSeq (tAsg (tLst tNil) (gName 6))
  (tSeq (tFor (iRng1 (tCons (tCB (rLenX K) (tCons (tOp (rIx K) (tVar 0) (tC (.int 0))) tNil)) tNil)) (gName 7) (tSeq (tAsg (tOp (rIx K) (tOp (rIx K) (tVar 0) (tVar 5)) (tVar 7)) (gName 8))
  (tSeq (tIfS (tAnd (tTest (tOp (rEqX K) (tVar 5) (tVar 1))) (tTest (tOp (rEqX K) (tVar 7) (tVar 2)))) (tSeq (tDrop (tBM K "list" rAppend (tVar 6) (tCons (tCall (spD (S_law_fraction K c)) [] E0 (tCons (tOp (rIx K) (tVar 3) (tC (.int 1))) (tCons (tOp (rIx K) (tVar 3) (tC (.int 0))) tNil))) tNil)))
  tNext) (tSeq (tIfS (tTest (tOp (rEqX K) (tVar 5) (tVar 1))) (tSeq (tDrop (tBM K "list" rAppend (tVar 6) (tCons (tCall (spD (S_law_fraction K c)) [] E0 (tCons (tOp (rMulX K) (tOp (rIx K) (tVar 8) (tC (.int 0))) (tOp (rIx K) (tVar 3) (tC (.int 1)))) (tCons (tOp (rMulX K) (tOp (rIx K) (tVar 8) (tC (.int 1))) (tOp (rIx K) (tVar 3) (tC (.int 0)))) tNil))) tNil)))
  tNext) (tSeq (tIfS (tTest (tOp (rEqX K) (tVar 7) (tVar 2))) (tSeq (tDrop (tBM K "list" rAppend (tVar 6) (tCons (tCall (spD (S_law_fraction K c)) [] E0 (tCons (tOp rSubI (tC (.int 0)) (tOp (rMulX K) (tOp (rIx K) (tVar 8) (tC (.int 0))) (tOp (rIx K) (tVar 3) (tC (.int 1))))) (tCons (tOp (rMulX K) (tOp (rIx K) (tVar 8) (tC (.int 1))) (tOp (rIx K) (tVar 3) (tC (.int 0)))) tNil))) tNil)))
  tNext) (tSeq (tDrop (tBM K "list" rAppend (tVar 6) (tCons (tCall (spD (S_law_fallen K c)) [] E0 (tCons (tVar 8) (tCons (tOp (rIx K) (tOp (rIx K) (tVar 0) (tVar 5)) (tVar 2)) (tCons (tOp (rIx K) (tOp (rIx K) (tVar 0) (tVar 1)) (tVar 7)) (tCons (tVar 3) tNil))))) tNil)))
  tNext))
  tNext))
  tNext))
  tNext)))
  (tSeq (tDrop (tBM K "list" rAppend (tVar 4) (tCons (tVar 6) tNil)))
  tNext))))
  (tSeq (tRet (tVar 4))
  tNext))))
theorem rd_law_turned {K : PySem.W.Frag} {c : Cs} : ∀ Rs R, S_law_turned K c Rs R → ∀ B : Base, B.m = [] → BDe B (startC n_law_turned Rs) [] (t_law_turned K c) (fnP B R) := by
  rintro _ _ ⟨due, row, column, h, w, rfl, hD, hh, hw, r0, r1, c0, c1, rfl⟩ B hm
  have lD := hD.len
  obtain ⟨l1, wp⟩ := hD.at_ r0 r1 c0 c1
  have l0 := (hD.at_ (by omega : (0 : Int) ≤ 0) (by omega) c0 c1).1
  apply bd_let
  · walk_at "d"
  intro pv hpv
  rw [← hpv] at wp
  refine bd_nil (List (Int × Int)) fun p => ?_
  apply bd_forE (fun i => [some (rep due), some (rep row), some (rep column), some (rep pv), some (own p), none, none, none, none])
    (fun i => [(p, oL ((List.range i).map fun (i : Nat) => (List.range w).map fun (j : Nat) => turnE due row column (i : Int) (j : Int)))]) (fun _ => True)
  · walk_at "range"
  · walk_at "fg"
  · rfl
  · trivial
  · intro i hi
    exact tg_name
  · intro i hi _
    refine bd_nil (Int × Int) fun p' => ?_
    apply bd_forE (fun j => [some (rep due), some (rep row), some (rep column), some (rep pv), some (own p), some (rep (i : Int)), some (own p'), none, none])
      (fun j => [(p', oL ((List.range j).map fun (j : Nat) => turnE due row column (i : Int) (j : Int))), (p, oL ((List.range i).map fun (i : Nat) => (List.range w).map fun (j : Nat) => turnE due row column (i : Int) (j : Int)))]) (fun _ => True)
    · walk_at "range"
    · walk_at "fg"
    · rfl
    · trivial
    · intro j hj
      exact tg_name
    · intro j hj _
      obtain ⟨li, wo⟩ := hD.at_ (by omega : (0 : Int) ≤ (i : Int)) (by omega) (by omega : (0 : Int) ≤ (j : Int)) (by omega)
      apply bd_let
      · walk_at "d"
      intro one hone
      rw [← hone] at wo
      apply bd_if2
      · walk_at "d"
      · intro hb
        simp at hb
        apply bd_assoc
        apply bd_appR 0
        · walk_at "d"
        · rfl
        · walk_at "d"
          exact ⟨_, _, rfl, rfl⟩
        · simp [turnE, hb, hpv]
        · omega
        walk_at "end"
      · intro hb
        simp at hb
        apply bd_assoc
        apply bd_if2
        · walk_at "d"
        · intro hb2
          simp at hb2
          apply bd_assoc
          apply bd_appR 0
          · walk_at "d"
          · rfl
          · walk_at "d"
            · exact mulw wo.1 wp.2
            · exact mulw wo.2 wp.1
            · exact ⟨_, _, rfl, rfl⟩
          · simp [turnE, hb2, hb hb2, hpv, hone]
          · omega
          walk_at "end"
        · intro hb2
          simp at hb2
          apply bd_assoc
          apply bd_if2
          · walk_at "d"
          · intro hb3
            simp at hb3
            apply bd_assoc
            apply bd_appR 0
            · walk_at "d"
            · rfl
            · walk_at "d"
              · exact mulw wo.1 wp.2
              · exact mulw wo.2 wp.1
              · exact ⟨_, _, rfl, rfl⟩
            · simp [turnE, hb2, hb3, hpv, hone]
            · omega
            walk_at "end"
          · intro hb3
            simp at hb3
            obtain ⟨_, w2⟩ := hD.at_ (by omega : (0 : Int) ≤ (i : Int)) (by omega) c0 c1
            obtain ⟨_, w3⟩ := hD.at_ r0 r1 (by omega : (0 : Int) ≤ (j : Int)) (by omega)
            apply bd_assoc
            apply bd_appR 0
            · walk_at "d"
            · rfl
            · walk_at "d"
              exact ⟨_, _, _, _, rfl, wo, w2, w3, wp, rfl⟩
            · simp [turnE, hb2, hb3, hpv, hone]
            · omega
            walk_at "end"
    · intro _
      refine bd_frz 0 6 rfl rfl hm ?_
      apply bd_appR 0
      · walk_at "d"
      · rfl
      · walk_at "d"
      · have e : Int.toNat ((ix due 0).length : Int) = w := by omega
        rw [e]
      · omega
      walk_at "end"
  · intro _
    refine bd_frz 0 4 rfl rfl hm ?_
    apply bd_retE hm
    · walk_at "d"
    · have e : Int.toNat (due.length : Int) = due.length := by omega
      rw [e]
      rfl
end D

set_option Elab.async false
set_option linter.all false
set_option maxRecDepth 100000
set_option maxHeartbeats 4000000
namespace D
open PySem PySem.Spec PyProof.Rows L2
open ToPy (py)
local macro_rules | `(tactic| walk_at "side") => `(tactic| first | assumption | omega | (refine Int.emod_nonneg _ ?_; omega) | (refine Int.emod_lt_of_pos _ ?_; omega) | (simp at *; omega) | (simp; done) | decide | skip)
local macro_rules | `(tactic| walk_at "d") => `(tactic| first
  | with_reducible exact ev_int | with_reducible exact ev_str | with_reducible exact ev_bl | with_reducible exact ev_non
  | exact ev_var rfl
  | with_reducible exact ev_ty
  | with_reducible exact ev_cls
  | ((with_reducible apply ev_op) <;> walk_at "d")
  | ((with_reducible apply ev_un) <;> walk_at "d")
  | ((with_reducible apply ev_call) <;> walk_at "d")
  | ((with_reducible apply ev_callX) <;> walk_at "d")
  | ((with_reducible apply ev_cb) <;> walk_at "d")
  | with_reducible exact ea_nil
  | ((with_reducible apply ea_cons) <;> walk_at "d")
  | with_reducible exact s_add
  | with_reducible exact s_sub
  | with_reducible exact s_lt
  | with_reducible exact s_le
  | with_reducible exact s_gt
  | with_reducible exact s_ge
  | with_reducible exact s_eqI
  | with_reducible exact s_neI
  | with_reducible exact s_eqS
  | with_reducible exact s_neS
  | with_reducible exact s_neB
  | exact s_eqSame (sh_ints2 _) | exact s_neSame (sh_ints2 _) | exact s_eqSame (sh_ints _) | exact s_neSame (sh_ints _)
  | ((with_reducible apply s_mod) <;> walk_at "side")
  | walk_at "div" | walk_at "mul"
  | ((with_reducible apply s_catL) <;> walk_at "side")
  | ((with_reducible apply s_repL) <;> walk_at "side")
  | with_reducible exact s_fst
  | with_reducible exact s_snd
  | with_reducible exact s_t0
  | with_reducible exact s_t1
  | with_reducible exact s_t2
  | ((with_reducible apply s_last) <;> walk_at "side")
  | ((with_reducible apply s_ixS) <;> walk_at "side")
  | ((with_reducible apply s_ix) <;> walk_at "side")
  | ((with_reducible apply s_ixT) <;> walk_at "side")
  | with_reducible exact s_negI
  | with_reducible exact c_len
  | with_reducible exact c_lI
  | with_reducible exact c_tI
  | with_reducible exact c_pI
  | with_reducible exact c_t3I
  | with_reducible exact c_sI
  | with_reducible exact c_iI
  | with_reducible exact c_iB
  | with_reducible exact c_lenP
  | with_reducible exact c_len3
  | with_reducible exact c_isInt
  | with_reducible exact c_isBool
  | with_reducible exact c_isStr
  | with_reducible exact c_isList
  | with_reducible exact c_isTup
  | with_reducible exact c_lenTup
  | with_reducible exact c_lenScr
  | with_reducible exact c_listD
  | with_reducible exact c_listTD
  | with_reducible exact c_tup
  | with_reducible exact c_abs
  | with_reducible exact c_min2
  | with_reducible exact c_max2
  | with_reducible exact c_intB
  | with_reducible exact c_sum
  | ((with_reducible apply c_min) <;> walk_at "side")
  | ((with_reducible apply c_max) <;> walk_at "side")
  | ((with_reducible apply et_val) <;> walk_at "d")
  | ((with_reducible apply et_test) <;> walk_at "d")
  | ((with_reducible apply et_not) <;> walk_at "d")
  | ((with_reducible apply et_and) <;> (try with_reducible intro _) <;> walk_at "d")
  | ((with_reducible apply et_or) <;> (try with_reducible intro _) <;> walk_at "d")
  | ((with_reducible apply ev_and) <;> (try with_reducible intro _) <;> walk_at "d")
  | ((with_reducible apply ev_or) <;> (try with_reducible intro _) <;> walk_at "d")
  | ((with_reducible apply ev_chain) <;> (try with_reducible intro _) <;> walk_at "d")
  | ((with_reducible apply ev_not) <;> walk_at "d")
  | ((with_reducible apply ev_pair) <;> walk_at "d")
  | ((with_reducible apply ev_t3) <;> walk_at "d")
  | ((with_reducible apply ev_lst1) <;> walk_at "d")
  | ((with_reducible apply ev_lst2) <;> walk_at "d")
  | ((with_reducible apply ev_lst3) <;> walk_at "d")
  | ((with_reducible apply ev_lst4) <;> walk_at "d")
  | ((with_reducible apply ev_cut) <;> walk_at "d")
  | ((with_reducible apply ep_some) <;> walk_at "d")
  | ((with_reducible apply EvD.s) <;> walk_at "d")
  | ((with_reducible apply EvT.s) <;> walk_at "d")
  | ((with_reducible apply EvN.s) <;> walk_at "d")
  | ((with_reducible apply en_lst1) <;> walk_at "d")
  | ((with_reducible apply en_lst2) <;> walk_at "d")
  | ((with_reducible apply en_lst3) <;> walk_at "d")
  | ((with_reducible apply en_lst4) <;> walk_at "d")
  | ((with_reducible apply en_cut) <;> walk_at "d")
  | with_reducible exact ev_lst0
  | with_reducible exact ep_none
  | with_reducible exact en_lst0
  | ((with_reducible apply wi_L) <;> walk_at "d")
  | ((with_reducible apply wi_T) <;> walk_at "d")
  | ((with_reducible apply wi_zip) <;> walk_at "d")
  | ((with_reducible apply WiD.s) <;> walk_at "d")
  | ((with_reducible apply wi_range) <;> walk_at "side")
  | exact spec_cell (by omega) (by omega)
  | skip)
local macro_rules | `(tactic| walk_at "div") => `(tactic| first
  | exact s_div ⟨by omega, by omega⟩
  | exact s_divW (wd_div (by first | assumption | omega) (by assumption))
  | with_reducible apply s_div)
local macro_rules | `(tactic| walk_at "mul") => `(tactic| first
  | exact s_mul (Or.inl ⟨by omega, by omega⟩) | exact s_mul (Or.inr ⟨by omega, by omega⟩)
  | exact s_mulW (wd_mul (by assumption) (by assumption))
  | with_reducible apply s_mulW)
local macro_rules | `(tactic| walk_at "fg") => `(tactic| repeat (first | exact Fg.nil | apply Fg.same | apply Fg.drop | (refine Fg.eq ?_ ?_; rotate_left)))
local macro_rules | `(tactic| walk_at "end") => `(tactic| exact bd_turnE trivial rfl (by walk_at "fg"))
local macro_rules | `(tactic| walk_at "range") => `(tactic| (apply WiD.s; apply wi_range; (walk_at "d"); omega; omega))
local macro_rules | `(tactic| walk_at "app") => `(tactic| (refine' bd_appR 0 ?_ rfl ?_ ?_ ?_ ?_; (walk_at "d"); (walk_at "d"); rotate_right))
structure Alike (table : List (List Int)) (scale : Int) (due : List (List (Int × Int))) (h w : Nat) : Prop where
  rT : Rect table h w
  rD : RectF 900 due h w
  s1 : 1 ≤ scale
  ws : Wd scale
  eq : ∀ i j : Nat, i < h → j < w → at_ (at_ table i) j * (at_ (at_ due i) j).2 = (at_ (at_ due i) j).1 * scale
def S_law_alike (K : PySem.W.Frag) (c : Cs) : Spec := fun Rs R => ∃ (table : List (List Int)) (scale : Int) (due : List (List (Int × Int))) (h w : Nat), Rs = [rep table, rep scale, rep due] ∧ Alike table scale due h w ∧ h ≤ 100 ∧ w ≤ 100 ∧ R = rep true
theorem ix_nat {α : Type} [ToPy α] (xs : List α) (i : Nat) : ix xs (i : Int) = at_ xs i := by simp [ix, at_]
theorem whole_int (i : Int) : (isi (.int i) "int" && !isi (.int i) "bool") = true := rfl
def n_law_alike : List Str := ["_law_table", "_law_scale", "_law_due", "_law_at", "_law_place", "_law_number"]
def t_law_alike (K : PySem.W.Frag) (c : Cs) : TS := (tSeq (tIfS (tOr (tNot (tB (tCB (rIsi K) (tCons (tVar 0) (tCons (tC (.ty "list")) tNil))))) (tOr (tTest (tOp (rNeX K) (tCB (rLenX K) (tCons (tVar 0) tNil)) (tCB (rLenX K) (tCons (tVar 2) tNil)))) (tOr (tNot (tB (tCall (spD (S_law_whole K c)) [] E0 (tCons (tVar 1) tNil)))) (tTest (tOp rLtI (tVar 1) (tC (.int 1))))))) (tSeq (tRet (tC (.bl false)))
  tNext) tNext)
  (tSeq (tFor (iRng1 (tCons (tCB (rLenX K) (tCons (tVar 2) tNil)) tNil)) (gName 3) (tSeq (tIfS (tOr (tNot (tB (tCB (rIsi K) (tCons (tOp (rIx K) (tVar 0) (tVar 3)) (tCons (tC (.ty "list")) tNil))))) (tTest (tOp (rNeX K) (tCB (rLenX K) (tCons (tOp (rIx K) (tVar 0) (tVar 3)) tNil)) (tCB (rLenX K) (tCons (tOp (rIx K) (tVar 2) (tVar 3)) tNil))))) (tSeq (tRet (tC (.bl false)))
  tNext) tNext)
  (tSeq (tFor (iRng1 (tCons (tCB (rLenX K) (tCons (tOp (rIx K) (tVar 2) (tVar 3)) tNil)) tNil)) (gName 4) (tSeq (tAsg (tOp (rIx K) (tOp (rIx K) (tVar 0) (tVar 3)) (tVar 4)) (gName 5))
  (tSeq (tIfS (tOr (tNot (tB (tCall (spD (S_law_whole K c)) [] E0 (tCons (tVar 5) tNil)))) (tTest (tOp (rNeX K) (tOp (rMulX K) (tVar 5) (tOp (rIx K) (tOp (rIx K) (tOp (rIx K) (tVar 2) (tVar 3)) (tVar 4)) (tC (.int 1)))) (tOp (rMulX K) (tOp (rIx K) (tOp (rIx K) (tOp (rIx K) (tVar 2) (tVar 3)) (tVar 4)) (tC (.int 0))) (tVar 1))))) (tSeq (tRet (tC (.bl false)))
  tNext) tNext)
  tNext)))
  tNext)))
  (tSeq (tRet (tC (.bl true)))
  tNext)))
theorem rd_law_alike {K : PySem.W.Frag} {c : Cs} : ∀ Rs R, S_law_alike K c Rs R → ∀ B : Base, B.m = [] → BDe B (startC n_law_alike Rs) [] (t_law_alike K c) (fnP B R) := by
  rintro _ _ ⟨table, scale, due, h, w, rfl, hA, hh, hw, rfl⟩ B hm
  have lT := hA.rT.len
  have lD := hA.rD.len
  have hs := hA.s1
  have hws := hA.ws
  apply bd_ifr
  · walk_at "d"
    exact ⟨.int scale, rfl, rfl⟩
  · intro hb
    rw [whole_int] at hb
    simp at hb
    omega
  intro _
  apply bd_forE (fun i => [some (rep table), some (rep scale), some (rep due), none, none, none]) (fun i => []) (fun _ => True)
  · walk_at "range"
  · walk_at "fg"
  · rfl
  · trivial
  · intro i hi
    exact tg_name
  · intro i hi _
    have m1 : at_ table i ∈ table := at_mem (by omega)
    have m2 : at_ due i ∈ due := at_mem (by omega)
    have l1 := hA.rT.wid _ m1
    have l2 := hA.rD.wid _ m2
    apply bd_ifr
    · walk_at "d"
    · intro hb
      rw [ix_nat, ix_nat, l1, l2] at hb
      simp at hb
    intro _
    apply bd_forE (fun j => [some (rep table), some (rep scale), some (rep due), some (rep (i : Int)), none, none]) (fun i => []) (fun _ => True)
    · rw [← ix_nat] at l2
      walk_at "range"
    · walk_at "fg"
    · rfl
    · trivial
    · intro j hj
      exact tg_name
    · intro j hj _
      rw [ix_nat] at hj
      apply bd_let
      · rw [← ix_nat] at l1
        walk_at "d"
      intro number hn
      rw [ix_nat, ix_nat] at hn
      have wn : Wd number := by rw [hn]; exact hA.rT.wd _ m1 _ (at_mem (by omega))
      have wf := hA.rD.wd _ m2 _ (at_mem (by omega) : at_ (at_ due i) j ∈ at_ due i)
      have he := hA.eq i j (by omega) (by omega)
      apply bd_ifr
      · have l2' := l2
        rw [← ix_nat] at l2'
        walk_at "d"
        · exact ⟨.int number, rfl, rfl⟩
        · rw [ix_nat, ix_nat]
          exact mulw wn wf.2
        · rw [ix_nat, ix_nat]
          exact mulw wf.1 hws
      · intro hb
        rw [whole_int, ix_nat, ix_nat, hn] at hb
        simp [he] at hb
      intro _
      walk_at "end"
    intro _
    walk_at "end"
  intro _
  apply bd_retE hm
  · walk_at "d"
  rfl
end D


set_option Elab.async false
set_option linter.all false
set_option maxRecDepth 100000
set_option maxHeartbeats 4000000
namespace D
open PySem PySem.Spec PyProof.Rows L2
open ToPy (py)
local macro_rules | `(tactic| walk_at "side") => `(tactic| first | assumption | omega | (refine Int.emod_nonneg _ ?_; omega) | (refine Int.emod_lt_of_pos _ ?_; omega) | (simp at *; omega) | (simp; done) | decide | skip)
local macro_rules | `(tactic| walk_at "d") => `(tactic| first
  | with_reducible exact ev_int | with_reducible exact ev_str | with_reducible exact ev_bl | with_reducible exact ev_non
  | exact ev_var rfl
  | with_reducible exact ev_ty
  | with_reducible exact ev_cls
  | ((with_reducible apply ev_op) <;> walk_at "d")
  | ((with_reducible apply ev_un) <;> walk_at "d")
  | ((with_reducible apply ev_call) <;> walk_at "d")
  | ((with_reducible apply ev_callX) <;> walk_at "d")
  | ((with_reducible apply ev_cb) <;> walk_at "d")
  | with_reducible exact ea_nil
  | ((with_reducible apply ea_cons) <;> walk_at "d")
  | with_reducible exact s_add
  | with_reducible exact s_sub
  | with_reducible exact s_lt
  | with_reducible exact s_le
  | with_reducible exact s_gt
  | with_reducible exact s_ge
  | with_reducible exact s_eqI
  | with_reducible exact s_neI
  | with_reducible exact s_eqS
  | with_reducible exact s_neS
  | with_reducible exact s_neB
  | exact s_eqSame (sh_ints2 _) | exact s_neSame (sh_ints2 _) | exact s_eqSame (sh_ints _) | exact s_neSame (sh_ints _)
  | ((with_reducible apply s_mod) <;> walk_at "side")
  | walk_at "div" | walk_at "mul"
  | ((with_reducible apply s_catL) <;> walk_at "side")
  | ((with_reducible apply s_repL) <;> walk_at "side")
  | with_reducible exact s_fst
  | with_reducible exact s_snd
  | with_reducible exact s_t0
  | with_reducible exact s_t1
  | with_reducible exact s_t2
  | ((with_reducible apply s_last) <;> walk_at "side")
  | ((with_reducible apply s_ixS) <;> walk_at "side")
  | ((with_reducible apply s_ix) <;> walk_at "side")
  | ((with_reducible apply s_ixT) <;> walk_at "side")
  | with_reducible exact s_negI
  | with_reducible exact c_len
  | with_reducible exact c_lI
  | with_reducible exact c_tI
  | with_reducible exact c_pI
  | with_reducible exact c_t3I
  | with_reducible exact c_sI
  | with_reducible exact c_iI
  | with_reducible exact c_iB
  | with_reducible exact c_lenP
  | with_reducible exact c_len3
  | with_reducible exact c_isInt
  | with_reducible exact c_isBool
  | with_reducible exact c_isStr
  | with_reducible exact c_isList
  | with_reducible exact c_isTup
  | with_reducible exact c_lenTup
  | with_reducible exact c_lenScr
  | with_reducible exact c_listD
  | with_reducible exact c_listTD
  | with_reducible exact c_tup
  | with_reducible exact c_abs
  | with_reducible exact c_min2
  | with_reducible exact c_max2
  | with_reducible exact c_intB
  | with_reducible exact c_sum
  | ((with_reducible apply c_min) <;> walk_at "side")
  | ((with_reducible apply c_max) <;> walk_at "side")
  | ((with_reducible apply et_val) <;> walk_at "d")
  | ((with_reducible apply et_test) <;> walk_at "d")
  | ((with_reducible apply et_not) <;> walk_at "d")
  | ((with_reducible apply et_and) <;> (try with_reducible intro _) <;> walk_at "d")
  | ((with_reducible apply et_or) <;> (try with_reducible intro _) <;> walk_at "d")
  | ((with_reducible apply ev_and) <;> (try with_reducible intro _) <;> walk_at "d")
  | ((with_reducible apply ev_or) <;> (try with_reducible intro _) <;> walk_at "d")
  | ((with_reducible apply ev_chain) <;> (try with_reducible intro _) <;> walk_at "d")
  | ((with_reducible apply ev_not) <;> walk_at "d")
  | ((with_reducible apply ev_pair) <;> walk_at "d")
  | ((with_reducible apply ev_t3) <;> walk_at "d")
  | ((with_reducible apply ev_lst1) <;> walk_at "d")
  | ((with_reducible apply ev_lst2) <;> walk_at "d")
  | ((with_reducible apply ev_lst3) <;> walk_at "d")
  | ((with_reducible apply ev_lst4) <;> walk_at "d")
  | ((with_reducible apply ev_cut) <;> walk_at "d")
  | ((with_reducible apply ep_some) <;> walk_at "d")
  | ((with_reducible apply EvD.s) <;> walk_at "d")
  | ((with_reducible apply EvT.s) <;> walk_at "d")
  | ((with_reducible apply EvN.s) <;> walk_at "d")
  | ((with_reducible apply en_lst1) <;> walk_at "d")
  | ((with_reducible apply en_lst2) <;> walk_at "d")
  | ((with_reducible apply en_lst3) <;> walk_at "d")
  | ((with_reducible apply en_lst4) <;> walk_at "d")
  | ((with_reducible apply en_cut) <;> walk_at "d")
  | with_reducible exact ev_lst0
  | with_reducible exact ep_none
  | with_reducible exact en_lst0
  | ((with_reducible apply wi_L) <;> walk_at "d")
  | ((with_reducible apply wi_T) <;> walk_at "d")
  | ((with_reducible apply wi_zip) <;> walk_at "d")
  | ((with_reducible apply WiD.s) <;> walk_at "d")
  | ((with_reducible apply wi_range) <;> walk_at "side")
  | exact spec_cell (by omega) (by omega)
  | skip)
local macro_rules | `(tactic| walk_at "div") => `(tactic| first
  | exact s_div ⟨by omega, by omega⟩
  | exact s_divW (wd_div (by first | assumption | omega) (by assumption))
  | with_reducible apply s_div)
local macro_rules | `(tactic| walk_at "mul") => `(tactic| first
  | exact s_mul (Or.inl ⟨by omega, by omega⟩) | exact s_mul (Or.inr ⟨by omega, by omega⟩)
  | exact s_mulW (wd_mul (by assumption) (by assumption))
  | with_reducible apply s_mulW)
local macro_rules | `(tactic| walk_at "fg") => `(tactic| repeat (first | exact Fg.nil | apply Fg.same | apply Fg.drop | (refine Fg.eq ?_ ?_; rotate_left)))
local macro_rules | `(tactic| walk_at "end") => `(tactic| exact bd_turnE trivial rfl (by walk_at "fg"))
local macro_rules | `(tactic| walk_at "range") => `(tactic| (apply WiD.s; apply wi_range; (walk_at "d"); omega; omega))
local macro_rules | `(tactic| walk_at "app") => `(tactic| (refine' bd_appR 0 ?_ rfl ?_ ?_ ?_ ?_; (walk_at "d"); (walk_at "d"); rotate_right))
/-- what the classes of errors say of one another -/
structure KE (K : PySem.W.Frag) (C : Addr) (no : List Addr) (base : Addr) : Prop where
  ex : PySem.W.exmOne K (.ref C) (.ref C) = some true
  no : ∀ a ∈ no, PySem.W.kitOne K (.ref C) (.ref a) = some false
  cut : PySem.W.kitOne K (.ref C) (.ref base) = some true
  ve : PySem.W.kitOne K (.ref C) (.type "ValueError") = some true
def S_law_refused (K : PySem.W.Frag) (c : Cs) : Spec := fun Rs R => ∃ (table : List (List Int)) (scale row column : Int), Rs = [rep table, rep scale, rep row, rep column] ∧ P_turned table scale row column ∧ ix (ix table row) column = 0 ∧ R = rep true
def n_law_refused : List Str := ["_law_table", "_law_scale", "_law_row", "_law_column", "e"]
def t_law_refused (K : PySem.W.Frag) (c : Cs) : TS := (tSeq (tTry K c.NoTurn 4 (fun W => (tSeq (tDrop (tCallS (spX (S_turned K c) (SE_turned K c)) (WE W) (tCons (tVar 0) (tCons (tVar 1) (tCons (tVar 2) (tCons (tVar 3) tNil))))))
  tNext)) (fun a => (tSeq (tIfS (tOr (tB (tCB (rIsE K c.NoTurn a) (tCons (tVar 4) (tCons (tC (.ref c.BadPoint)) tNil)))) (tOr (tB (tCB (rIsE K c.NoTurn a) (tCons (tVar 4) (tCons (tC (.ref c.BadBox)) tNil)))) (tB (tCB (rIsE K c.NoTurn a) (tCons (tVar 4) (tCons (tC (.ref c.BadWeights)) tNil)))))) (tSeq (tRet (tC (.bl false)))
  tNext) tNext)
  (tSeq (tIfS (tOr (tB (tCB (rIsE K c.NoTurn a) (tCons (tVar 4) (tCons (tC (.ref c.BadProblem)) tNil)))) (tB (tCB (rIsE K c.NoTurn a) (tCons (tVar 4) (tCons (tC (.ref c.BadText)) tNil))))) (tSeq (tRet (tC (.bl false)))
  tNext) tNext)
  (tSeq (tRet (tAndV (tCB (rIsE K c.NoTurn a) (tCons (tVar 4) (tCons (tC (.ref c.CutError)) tNil))) (tCB (rIsE K c.NoTurn a) (tCons (tVar 4) (tCons (tC (.ty "ValueError")) tNil)))))
  tNext)))))
  (tSeq (tRet (tC (.bl false)))
  tNext))
theorem rd_law_refused {K : PySem.W.Frag} {c : Cs} (ke : KE K c.NoTurn [c.BadProblem, c.BadPoint, c.BadBox, c.BadWeights, c.BadText] c.CutError) : ∀ Rs R, S_law_refused K c Rs R → ∀ B : Base, B.m = [] → BDe B (startC n_law_refused Rs) [] (t_law_refused K c) (fnP B R) := by
  rintro _ _ ⟨table, scale, row, column, rfl, hP, hz, rfl⟩ B hm
  apply bd_try
  · apply tbe_drop
    · walk_at "d"
    · exact ⟨table, scale, row, column, rfl, hP, hz, rfl⟩
  · exact ke.ex
  intro a
  apply bd_ifr (b := false)
  · exact EvT.s (et_eq (a := false || (false || false)) (et_or (et_val (ev_isE rfl (ke.no _ (by simp)))) fun _ => et_or (et_val (ev_isE rfl (ke.no _ (by simp)))) fun _ => et_val (ev_isE rfl (ke.no _ (by simp)))) rfl)
  · intro h
    cases h
  intro _
  apply bd_ifr (b := false)
  · exact EvT.s (et_eq (a := false || false) (et_or (et_val (ev_isE rfl (ke.no _ (by simp)))) fun _ => et_val (ev_isE rfl (ke.no _ (by simp)))) rfl)
  · intro h
    cases h
  intro _
  exact bd_retR hm (EvD.s (ev_eq (a := true && true) (ev_and (ev_isE rfl ke.cut) fun _ => ev_isET rfl ke.ve) rfl))
end D

set_option Elab.async false
set_option linter.all false
set_option maxRecDepth 100000
set_option maxHeartbeats 4000000
namespace D
open PySem PySem.Spec PyProof.Rows L2
open ToPy (py)
/-! ### the tables' mathematics: a pivot's numbers are whole -/
def d2 (a b c d : Int) : Int := a * d - b * c
def d3 (a b c d e f g h i : Int) : Int := a * (e * i - f * h) - b * (d * i - f * g) + c * (d * h - e * g)
abbrev Mx := Nat → Nat → Int
def m2 (x : Mx) (i k j l : Nat) : Int := x i j * x k l - x i l * x k j
def m3 (x : Mx) (i k m j l n : Nat) : Int := d3 (x i j) (x i l) (x i n) (x k j) (x k l) (x k n) (x m j) (x m l) (x m n)
/-- d parts the minors of two, of three (its square) -/
def C2 (x : Mx) (d : Int) (h w : Nat) : Prop := ∀ i k j l, i < h → k < h → j < w → l < w → i ≠ k → j ≠ l → ∃ e, m2 x i k j l = d * e
def C3 (x : Mx) (d : Int) (h w : Nat) : Prop := ∀ i k m j l n, i < h → k < h → m < h → j < w → l < w → n < w → i ≠ k → i ≠ m → k ≠ m → j ≠ l → j ≠ n → l ≠ n → ∃ e, m3 x i k m j l n = d * d * e
/-- y is x turned about its number at r, c, over that number (its sign left) -/
structure Turn (x y : Mx) (d : Int) (h w r c : Nat) : Prop where
  rc : y r c = d
  row : ∀ j, j < w → j ≠ c → y r j = x r j
  col : ∀ i, i < h → i ≠ r → y i c = - x i c
  els : ∀ i j, i < h → j < w → i ≠ r → j ≠ c → d * y i j = x i j * x r c - x i c * x r j
theorem c2_swap {x : Mx} {i k j l : Nat} {p : Int} (h : ∃ e, m2 x i k j l = p * e) : ∃ e, m2 x k i j l = p * e := by
  obtain ⟨e, h⟩ := h
  refine ⟨-e, ?_⟩
  unfold m2 at *
  grind
theorem c2_swap2 {x : Mx} {i k j l : Nat} {p : Int} (h : ∃ e, m2 x i k j l = p * e) : ∃ e, m2 x i k l j = p * e := by
  obtain ⟨e, h⟩ := h
  refine ⟨-e, ?_⟩
  unfold m2 at *
  grind
theorem cancel {d a b : Int} (hd : d ≠ 0) (h : d * a = d * b) : a = b := Int.eq_of_mul_eq_mul_left hd h
theorem turn_c2 {x y : Mx} {d : Int} {r c h w : Nat} (T : Turn x y d h w r c) (hd : d ≠ 0) (hr : r < h) (hc : c < w) (h2 : C2 x d h w) (h3 : C3 x d h w) : C2 y (x r c) h w := by
  -- rows other than r, columns other than c
  have A : ∀ i k j l, i < h → k < h → j < w → l < w → i ≠ k → j ≠ l → i ≠ r → k ≠ r → j ≠ c → l ≠ c → ∃ e, m2 y i k j l = x r c * e := by
    intro i k j l hi hk hj hl ik jl ir kr jc lc
    obtain ⟨e, he⟩ := h3 i k r j l c hi hk hr hj hl hc ik ir kr jl jc lc
    refine ⟨e, ?_⟩
    have e1 := T.els i j hi hj ir jc
    have e2 := T.els i l hi hl ir lc
    have e3 := T.els k j hk hj kr jc
    have e4 := T.els k l hk hl kr lc
    apply cancel (Int.mul_ne_zero hd hd)
    have : d * d * m2 y i k j l = x r c * m3 x i k r j l c := by
      have : d * d * m2 y i k j l = (d * y i j) * (d * y k l) - (d * y i l) * (d * y k j) := by unfold m2; grind
      rw [this, e1, e2, e3, e4]
      unfold m3 d3
      grind
    rw [this, he]
    grind
  have Br : ∀ k j l, k < h → j < w → l < w → k ≠ r → j ≠ l → j ≠ c → l ≠ c → ∃ e, m2 y r k j l = x r c * e := by
    intro k j l hk hj hl kr jl jc lc
    obtain ⟨e, he⟩ := h2 r k j l hr hk hj hl (Ne.symm kr) jl
    refine ⟨e, ?_⟩
    have e1 := T.row j hj jc
    have e2 := T.row l hl lc
    have e3 := T.els k j hk hj kr jc
    have e4 := T.els k l hk hl kr lc
    apply cancel hd
    have : d * m2 y r k j l = x r c * m2 x r k j l := by
      have : d * m2 y r k j l = y r j * (d * y k l) - y r l * (d * y k j) := by unfold m2; grind
      rw [this, e1, e2, e3, e4]
      unfold m2
      grind
    rw [this, he]
    grind
  have Bc : ∀ i k l, i < h → k < h → l < w → i ≠ k → i ≠ r → k ≠ r → l ≠ c → ∃ e, m2 y i k c l = x r c * e := by
    intro i k l hi hk hl ik ir kr lc
    obtain ⟨e, he⟩ := h2 i k c l hi hk hc hl ik (Ne.symm lc)
    refine ⟨-e, ?_⟩
    have e1 := T.col i hi ir
    have e2 := T.col k hk kr
    have e3 := T.els i l hi hl ir lc
    have e4 := T.els k l hk hl kr lc
    apply cancel hd
    have : d * m2 y i k c l = - (x r c * m2 x i k c l) := by
      have : d * m2 y i k c l = y i c * (d * y k l) - (d * y i l) * y k c := by unfold m2; grind
      rw [this, e1, e2, e3, e4]
      unfold m2
      grind
    rw [this, he]
    grind
  have Brc : ∀ k l, k < h → l < w → k ≠ r → l ≠ c → ∃ e, m2 y r k c l = x r c * e := by
    intro k l hk hl kr lc
    refine ⟨x k l, ?_⟩
    have e1 := T.rc
    have e2 := T.row l hl lc
    have e3 := T.col k hk kr
    have e4 := T.els k l hk hl kr lc
    have : m2 y r k c l = (d * y k l) - y r l * y k c := by unfold m2; rw [e1]
    rw [this, e4, e2, e3]
    grind
  intro i k j l hi hk hj hl ik jl
  by_cases ir : i = r
  · subst ir
    have kr := Ne.symm ik
    by_cases jc : j = c
    · subst jc
      exact Brc k l hk hl kr (Ne.symm jl)
    · by_cases lc : l = c
      · subst lc
        exact c2_swap2 (Brc k j hk hj kr jc)
      · exact Br k j l hk hj hl kr jl jc lc
  · by_cases kr : k = r
    · subst kr
      by_cases jc : j = c
      · subst jc
        exact c2_swap (Brc i l hi hl ir (Ne.symm jl))
      · by_cases lc : l = c
        · subst lc
          exact c2_swap (c2_swap2 (Brc i j hi hj ir jc))
        · exact c2_swap (Br i j l hi hj hl ir jl jc lc)
    · by_cases jc : j = c
      · subst jc
        exact Bc i k l hi hk hl ik ir kr (Ne.symm jl)
      · by_cases lc : l = c
        · subst lc
          exact c2_swap2 (Bc i k j hi hk hj ik ir kr jc)
        · exact A i k j l hi hk hj hl ik jl ir kr jc lc
/-- the minors of three behind the first turn -/
theorem turn_c3 {x y : Mx} {r c h w : Nat} (T : Turn x y 1 h w r c) (hr : r < h) (hc : c < w) : C3 y (x r c) h w := by
  have els : ∀ i j, i < h → j < w → i ≠ r → j ≠ c → y i j = x i j * x r c - x i c * x r j := fun i j hi hj a b => by
    have := T.els i j hi hj a b
    rwa [Int.one_mul] at this
  have row := T.row
  have col := T.col
  have rc := T.rc
  intro i k m j l n hi hk hm hj hl hn ik im km jl jn ln
  unfold m3
  by_cases ir : i = r
  · subst ir
    have kr : k ≠ i := by omega
    have mr : m ≠ i := by omega
    by_cases jc : j = c
    · subst jc
      have lc : l ≠ j := by omega
      have nc : n ≠ j := by omega
      refine ⟨(d2 (x k l) (x k n) (x m l) (x m n)), ?_⟩
      rw [rc, row l hl lc, row n hn nc, col k hk kr, els k l hk hl kr lc, els k n hk hn kr nc, col m hm mr, els m l hm hl mr lc, els m n hm hn mr nc]
      unfold d3 d2
      grind
    ·
      by_cases lc : l = c
      · subst lc
        have nc : n ≠ l := by omega
        refine ⟨-(d2 (x k j) (x k n) (x m j) (x m n)), ?_⟩
        rw [row j hj jc, rc, row n hn nc, els k j hk hj kr jc, col k hk kr, els k n hk hn kr nc, els m j hm hj mr jc, col m hm mr, els m n hm hn mr nc]
        unfold d3 d2
        grind
      ·
        by_cases nc : n = c
        · subst nc
          refine ⟨(d2 (x k j) (x k l) (x m j) (x m l)), ?_⟩
          rw [row j hj jc, row l hl lc, rc, els k j hk hj kr jc, els k l hk hl kr lc, col k hk kr, els m j hm hj mr jc, els m l hm hl mr lc, col m hm mr]
          unfold d3 d2
          grind
        ·
          refine ⟨d3 (x i j) (x i l) (x i n) (x k j) (x k l) (x k n) (x m j) (x m l) (x m n), ?_⟩
          rw [row j hj jc, row l hl lc, row n hn nc, els k j hk hj kr jc, els k l hk hl kr lc, els k n hk hn kr nc, els m j hm hj mr jc, els m l hm hl mr lc, els m n hm hn mr nc]
          unfold d3
          grind
  ·
    by_cases kr : k = r
    · subst kr
      have mr : m ≠ k := by omega
      by_cases jc : j = c
      · subst jc
        have lc : l ≠ j := by omega
        have nc : n ≠ j := by omega
        refine ⟨-(d2 (x i l) (x i n) (x m l) (x m n)), ?_⟩
        rw [col i hi ir, els i l hi hl ir lc, els i n hi hn ir nc, rc, row l hl lc, row n hn nc, col m hm mr, els m l hm hl mr lc, els m n hm hn mr nc]
        unfold d3 d2
        grind
      ·
        by_cases lc : l = c
        · subst lc
          have nc : n ≠ l := by omega
          refine ⟨(d2 (x i j) (x i n) (x m j) (x m n)), ?_⟩
          rw [els i j hi hj ir jc, col i hi ir, els i n hi hn ir nc, row j hj jc, rc, row n hn nc, els m j hm hj mr jc, col m hm mr, els m n hm hn mr nc]
          unfold d3 d2
          grind
        ·
          by_cases nc : n = c
          · subst nc
            refine ⟨-(d2 (x i j) (x i l) (x m j) (x m l)), ?_⟩
            rw [els i j hi hj ir jc, els i l hi hl ir lc, col i hi ir, row j hj jc, row l hl lc, rc, els m j hm hj mr jc, els m l hm hl mr lc, col m hm mr]
            unfold d3 d2
            grind
          ·
            refine ⟨d3 (x i j) (x i l) (x i n) (x k j) (x k l) (x k n) (x m j) (x m l) (x m n), ?_⟩
            rw [els i j hi hj ir jc, els i l hi hl ir lc, els i n hi hn ir nc, row j hj jc, row l hl lc, row n hn nc, els m j hm hj mr jc, els m l hm hl mr lc, els m n hm hn mr nc]
            unfold d3
            grind
    ·
      by_cases mr : m = r
      · subst mr
        by_cases jc : j = c
        · subst jc
          have lc : l ≠ j := by omega
          have nc : n ≠ j := by omega
          refine ⟨(d2 (x i l) (x i n) (x k l) (x k n)), ?_⟩
          rw [col i hi ir, els i l hi hl ir lc, els i n hi hn ir nc, col k hk kr, els k l hk hl kr lc, els k n hk hn kr nc, rc, row l hl lc, row n hn nc]
          unfold d3 d2
          grind
        ·
          by_cases lc : l = c
          · subst lc
            have nc : n ≠ l := by omega
            refine ⟨-(d2 (x i j) (x i n) (x k j) (x k n)), ?_⟩
            rw [els i j hi hj ir jc, col i hi ir, els i n hi hn ir nc, els k j hk hj kr jc, col k hk kr, els k n hk hn kr nc, row j hj jc, rc, row n hn nc]
            unfold d3 d2
            grind
          ·
            by_cases nc : n = c
            · subst nc
              refine ⟨(d2 (x i j) (x i l) (x k j) (x k l)), ?_⟩
              rw [els i j hi hj ir jc, els i l hi hl ir lc, col i hi ir, els k j hk hj kr jc, els k l hk hl kr lc, col k hk kr, row j hj jc, row l hl lc, rc]
              unfold d3 d2
              grind
            ·
              refine ⟨d3 (x i j) (x i l) (x i n) (x k j) (x k l) (x k n) (x m j) (x m l) (x m n), ?_⟩
              rw [els i j hi hj ir jc, els i l hi hl ir lc, els i n hi hn ir nc, els k j hk hj kr jc, els k l hk hl kr lc, els k n hk hn kr nc, row j hj jc, row l hl lc, row n hn nc]
              unfold d3
              grind
      ·
        by_cases jc : j = c
        · subst jc
          have lc : l ≠ j := by omega
          have nc : n ≠ j := by omega
          refine ⟨-(d3 (x i j) (x i l) (x i n) (x k j) (x k l) (x k n) (x m j) (x m l) (x m n)), ?_⟩
          rw [col i hi ir, els i l hi hl ir lc, els i n hi hn ir nc, col k hk kr, els k l hk hl kr lc, els k n hk hn kr nc, col m hm mr, els m l hm hl mr lc, els m n hm hn mr nc]
          unfold d3
          grind
        ·
          by_cases lc : l = c
          · subst lc
            have nc : n ≠ l := by omega
            refine ⟨-(d3 (x i j) (x i l) (x i n) (x k j) (x k l) (x k n) (x m j) (x m l) (x m n)), ?_⟩
            rw [els i j hi hj ir jc, col i hi ir, els i n hi hn ir nc, els k j hk hj kr jc, col k hk kr, els k n hk hn kr nc, els m j hm hj mr jc, col m hm mr, els m n hm hn mr nc]
            unfold d3
            grind
          ·
            by_cases nc : n = c
            · subst nc
              refine ⟨-(d3 (x i j) (x i l) (x i n) (x k j) (x k l) (x k n) (x m j) (x m l) (x m n)), ?_⟩
              rw [els i j hi hj ir jc, els i l hi hl ir lc, col i hi ir, els k j hk hj kr jc, els k l hk hl kr lc, col k hk kr, els m j hm hj mr jc, els m l hm hl mr lc, col m hm mr]
              unfold d3
              grind
            ·
              refine ⟨x r c * d3 (x i j) (x i l) (x i n) (x k j) (x k l) (x k n) (x m j) (x m l) (x m n) - x r j * d3 (x i c) (x i l) (x i n) (x k c) (x k l) (x k n) (x m c) (x m l) (x m n) - x r l * d3 (x i j) (x i c) (x i n) (x k j) (x k c) (x k n) (x m j) (x m c) (x m n) - x r n * d3 (x i j) (x i l) (x i c) (x k j) (x k l) (x k c) (x m j) (x m l) (x m c), ?_⟩
              rw [els i j hi hj ir jc, els i l hi hl ir lc, els i n hi hn ir nc, els k j hk hj kr jc, els k l hk hl kr lc, els k n hk hn kr nc, els m j hm hj mr jc, els m l hm hl mr lc, els m n hm hn mr nc]
              unfold d3
              grind
end D

set_option Elab.async false
set_option linter.all false
set_option maxRecDepth 100000
set_option maxHeartbeats 4000000
namespace D
open PySem PySem.Spec PyProof.Rows L2
open ToPy (py)
/-! ### k05: the state behind each turn -/
def mx (t : List (List Int)) : Mx := fun i j => at_ (at_ t i) j
def fx (t : List (List (Int × Int))) (i j : Nat) : Int × Int := at_ (at_ t i) j
theorem at_map {α : Type} [ToPy α] (g : Nat → α) {n i : Nat} (h : i < n) : at_ ((List.range n).map g) i = g i := by
  simp [at_, List.getD_eq_getElem?_getD, List.getElem?_range h, h]
theorem at_set {α : Type} [ToPy α] {xs : List α} {c j : Nat} {a : α} (h : j < xs.length) : at_ (xs.set c a) j = if j = c then a else at_ xs j := by
  unfold at_
  rw [List.getD_eq_getElem?_getD, List.getD_eq_getElem?_getD]
  by_cases e : j = c
  · subst e
    rw [List.getElem?_set_self h]
    simp
  · rw [List.getElem?_set_ne (Ne.symm e)]
    simp [e]
theorem at_mapL {α β : Type} [ToPy α] [ToPy β] (g : α → β) {xs : List α} {i : Nat} (h : i < xs.length) : at_ (xs.map g) i = g (at_ xs i) := by
  unfold at_
  rw [List.getD_eq_getElem?_getD, List.getD_eq_getElem?_getD, List.getElem?_map, List.getElem?_eq_getElem h]
  simp
structure Good (b fb lv : Nat) (table : List (List Int)) (scale : Int) (due : List (List (Int × Int))) (h w : Nat) : Prop where
  len : table.length = h
  wid : ∀ l ∈ table, l.length = w
  lenD : due.length = h
  widD : ∀ l ∈ due, l.length = w
  bT : ∀ i j, i < h → j < w → (mx table i j).natAbs ≤ b
  bD : ∀ i j, i < h → j < w → (fx due i j).1.natAbs ≤ fb ∧ (fx due i j).2.natAbs ≤ fb
  s1 : 1 ≤ scale
  sb : scale.natAbs ≤ b
  den : ∀ i j, i < h → j < w → 0 < (fx due i j).2
  eq : ∀ i j, i < h → j < w → mx table i j * (fx due i j).2 = (fx due i j).1 * scale
  c2 : lv ≤ 2 → C2 (mx table) scale h w
  c3 : lv ≤ 1 → C3 (mx table) scale h w
  one : lv = 0 → scale = 1
theorem fracN_eq (a b : Int) : ∃ t : Int, (t = 1 ∨ t = -1) ∧ fracN a b = (t * a, t * b) ∧ (b ≠ 0 → 0 < t * b) := by
  unfold fracN
  split
  · exact ⟨-1, .inr rfl, by simp, fun _ => by omega⟩
  · exact ⟨1, .inl rfl, by simp, fun h => by omega⟩
theorem natAbs_t {t a : Int} (h : t = 1 ∨ t = -1) : (t * a).natAbs = a.natAbs := by
  rcases h with h | h <;> subst h <;> simp
/-- a number of the turned line, unsigned -/
theorem line_at {table : List (List Int)} {d : Int} {h w r c i j : Nat} (len : table.length = h) (wid : ∀ l ∈ table, l.length = w) (hr : r < h) (hc : c < w) (hi : i < h) (hj : j < w) :
    at_ (turnLine table d (r : Int) (c : Int) (i : Int)) j = if i = r then (if j = c then d else mx table r j) else if j = c then 0 - mx table i c else (mx table i j * mx table r c - mx table i c * mx table r j) / d := by
  have lr : (at_ table r).length = w := wid _ (at_mem (by omega))
  have li : (at_ table i).length = w := wid _ (at_mem (by omega))
  unfold turnLine
  simp only [ix_nat, Int.toNat_natCast]
  by_cases e : i = r
  · subst e
    simp only [if_true]
    rw [at_set (by omega)]
    rfl
  · rw [if_neg (by omega), if_neg e, at_set (by simp; omega)]
    split
    · rfl
    · rw [at_map _ (by omega)]
      rfl
theorem turn_of {table : List (List Int)} {d : Int} {h w r c : Nat} (len : table.length = h) (wid : ∀ l ∈ table, l.length = w) (hr : r < h) (hc : c < w) (hd : 0 < d) (h2 : C2 (mx table) d h w) :
    Turn (mx table) (fun i j => at_ (turnLine table d (r : Int) (c : Int) (i : Int)) j) d h w r c := by
  refine ⟨?_, ?_, ?_, ?_⟩
  · simp [line_at len wid hr hc hr hc]
  · intro j hj jc
    simp [line_at len wid hr hc hr hj, jc]
  · intro i hi ir
    simp [line_at len wid hr hc hi hc, ir]
  · intro i j hi hj ir jc
    simp only [line_at len wid hr hc hi hj, if_neg ir, if_neg jc]
    obtain ⟨e, he⟩ := h2 i r j c hi hr hj hc ir jc
    unfold m2 at he
    rw [he, Int.mul_ediv_cancel_left _ (by omega)]
theorem turnF_at {table : List (List Int)} {d : Int} {h w r c : Nat} (len : table.length = h) (wid : ∀ l ∈ table, l.length = w) (hr : r < h) (hc : c < w) :
    ∃ s : Int, (s = 1 ∨ s = -1) ∧ (turnF table d (r : Int) (c : Int)).2 = s * mx table r c ∧ (mx table r c ≠ 0 → 0 < s * mx table r c) ∧ (turnF table d (r : Int) (c : Int)).1.length = h ∧ (∀ l ∈ (turnF table d (r : Int) (c : Int)).1, l.length = w) ∧
      ∀ i j, i < h → j < w → mx (turnF table d (r : Int) (c : Int)).1 i j = s * at_ (turnLine table d (r : Int) (c : Int) (i : Int)) j := by
  have ll : ∀ i : Nat, i < h → (turnLine table d (r : Int) (c : Int) (i : Int)).length = w := by
    intro i hi
    have lr : (at_ table r).length = w := wid _ (at_mem (by omega))
    have li : (at_ table i).length = w := wid _ (at_mem (by omega))
    unfold turnLine
    simp only [ix_nat]
    split <;> simp [lr, li]
  have ep : ix (ix table (r : Int)) (c : Int) = mx table r c := by rw [ix_nat, ix_nat]; rfl
  by_cases hp : mx table r c < 0
  · refine ⟨-1, .inr rfl, ?_, fun _ => by omega, ?_, ?_, ?_⟩
    · simp only [turnF, ep, if_pos hp]
      omega
    · simp [turnF, len]
    · intro l hl
      simp only [turnF, ep, if_pos hp, List.mem_map, List.mem_range] at hl
      obtain ⟨i, hi, rfl⟩ := hl
      rw [List.length_map]
      exact ll i (by omega)
    · intro i j hi hj
      show at_ (at_ ((List.range table.length).map _) i) j = _
      rw [at_map _ (by omega)]
      simp only [ep, if_pos hp]
      rw [at_mapL _ (by rw [ll i hi]; exact hj)]
      omega
  · refine ⟨1, .inl rfl, ?_, fun _ => by omega, ?_, ?_, ?_⟩
    · simp only [turnF, ep, if_neg hp]
      omega
    · simp [turnF, len]
    · intro l hl
      simp only [turnF, ep, if_neg hp, List.mem_map, List.mem_range] at hl
      obtain ⟨i, hi, rfl⟩ := hl
      exact ll i (by omega)
    · intro i j hi hj
      show at_ (at_ ((List.range table.length).map _) i) j = _
      rw [at_map _ (by omega)]
      simp only [ep, if_neg hp]
      omega
theorem turnD_at {due : List (List (Int × Int))} {h w r c i j : Nat} (len : due.length = h) (hi : i < h) (hj : j < w) : fx (turnD due (r : Int) (c : Int) w) i j = turnE due (r : Int) (c : Int) (i : Int) (j : Int) := by
  unfold fx turnD
  rw [at_map _ (by omega), at_map _ hj]
theorem div_le {a d : Int} (hd : 1 ≤ d) : (a / d).natAbs ≤ a.natAbs := by
  have := Int.natAbs_ediv_le_natAbs a d
  exact this
theorem mul_le {a b : Int} {m n : Nat} (ha : a.natAbs ≤ m) (hb : b.natAbs ≤ n) : (a * b).natAbs ≤ m * n := by
  rw [Int.natAbs_mul]
  exact Nat.mul_le_mul ha hb
theorem turnE_spec {b fb lv : Nat} {table : List (List Int)} {d : Int} {due : List (List (Int × Int))} {h w r c : Nat} (g : Good b fb lv table d due h w) (hr : r < h) (hc : c < w) (hp : (fx due r c).1 ≠ 0) (f1 : 1 ≤ fb) {y : Mx} (T : Turn (mx table) y d h w r c) {i j : Nat} (hi : i < h) (hj : j < w) :
    ∃ A Bv : Int, turnE due (r : Int) (c : Int) (i : Int) (j : Int) = fracN A Bv ∧ A.natAbs ≤ 2 * (fb * fb * fb * fb) ∧ Bv.natAbs ≤ 2 * (fb * fb * fb * fb) ∧ Bv ≠ 0 ∧ y i j * Bv = A * mx table r c := by
  have s1 := g.s1
  have q2 : fb ≤ fb * fb := by have := Nat.mul_le_mul_left fb f1; omega
  have q4 : fb * fb ≤ fb * fb * fb * fb := by
    have a1 : fb * fb * 1 ≤ fb * fb * fb := Nat.mul_le_mul_left _ f1
    have a2 : fb * fb * fb * 1 ≤ fb * fb * fb * fb := Nat.mul_le_mul_left _ f1
    omega
  obtain ⟨pb1, pb2⟩ := g.bD r c hr hc
  obtain ⟨ob1, ob2⟩ := g.bD i j hi hj
  obtain ⟨tb1, tb2⟩ := g.bD i c hi hc
  obtain ⟨hb1, hb2⟩ := g.bD r j hr hj
  have pe := g.eq r c hr hc
  have oe := g.eq i j hi hj
  have te := g.eq i c hi hc
  have he := g.eq r j hr hj
  have pd := g.den r c hr hc
  have od := g.den i j hi hj
  have td := g.den i c hi hc
  have hd := g.den r j hr hj
  unfold turnE
  simp only [ix_nat]
  show ∃ A Bv : Int, (if (i : Int) = r ∧ (j : Int) = c then fracN (fx due r c).2 (fx due r c).1 else if (i : Int) = r then fracN ((fx due i j).1 * (fx due r c).2) ((fx due i j).2 * (fx due r c).1) else if (j : Int) = c then fracN (0 - (fx due i j).1 * (fx due r c).2) ((fx due i j).2 * (fx due r c).1) else fallen (fx due i j) (fx due i c) (fx due r j) (fx due r c)) = fracN A Bv ∧ _
  generalize fx due r c = pv at *
  generalize fx due i j = one at *
  generalize fx due i c = two at *
  generalize fx due r j = thr at *
  by_cases ir : i = r
  · by_cases jc : j = c
    · refine ⟨pv.2, pv.1, by rw [if_pos (by omega)], by omega, by omega, hp, ?_⟩
      subst ir jc
      rw [T.rc]
      grind
    · refine ⟨one.1 * pv.2, one.2 * pv.1, by rw [if_neg (by omega), if_pos (by omega)], ?_, ?_, Int.mul_ne_zero (by omega) hp, ?_⟩
      · have := mul_le ob1 pb2
        omega
      · have := mul_le ob2 pb1
        omega
      · subst ir
        rw [T.row j hj jc]
        grind
  · by_cases jc : j = c
    · refine ⟨0 - one.1 * pv.2, one.2 * pv.1, by rw [if_neg (by omega), if_neg (by omega), if_pos (by omega)], ?_, ?_, Int.mul_ne_zero (by omega) hp, ?_⟩
      · have := mul_le ob1 pb2
        omega
      · have := mul_le ob2 pb1
        omega
      · subst jc
        rw [T.col i hi ir]
        grind
    · refine ⟨one.1 * (two.2 * thr.2 * pv.1) - two.1 * thr.1 * pv.2 * one.2, one.2 * (two.2 * thr.2 * pv.1), by rw [if_neg (by omega), if_neg (by omega), if_neg (by omega)]; rfl, ?_, ?_, ?_, ?_⟩
      · have e1 := mul_le ob1 (mul_le (mul_le tb2 hb2) pb1)
        have e2 := mul_le (mul_le (mul_le tb1 hb1) pb2) ob2
        have e3 : fb * (fb * fb * fb) = fb * fb * fb * fb := by rw [Nat.mul_comm]
        omega
      · have e1 := mul_le ob2 (mul_le (mul_le tb2 hb2) pb1)
        have e3 : fb * (fb * fb * fb) = fb * fb * fb * fb := by rw [Nat.mul_comm]
        omega
      · exact Int.mul_ne_zero (by omega) (Int.mul_ne_zero (Int.mul_ne_zero (by omega) (by omega)) hp)
      · have e := T.els i j hi hj ir jc
        apply cancel (d := d) (by omega)
        have e5 : d * (y i j * (one.2 * (two.2 * thr.2 * pv.1))) = (d * y i j) * (one.2 * (two.2 * thr.2 * pv.1)) := by grind
        rw [e5, e]
        grind
theorem good_step {b fb lv : Nat} {table : List (List Int)} {d : Int} {due : List (List (Int × Int))} {h w r c : Nat} (g : Good b fb lv table d due h w) (hr : r < h) (hc : c < w) (hp : (fx due r c).1 ≠ 0) (hl : lv ≤ 2) (b1 : 1 ≤ b) (f1 : 1 ≤ fb) :
    mx table r c ≠ 0 ∧ Good (2 * b * b) (2 * (fb * fb * fb * fb)) (lv + 1) (turnF table d (r : Int) (c : Int)).1 (turnF table d (r : Int) (c : Int)).2 (turnD due (r : Int) (c : Int) w) h w := by
  have s1 := g.s1
  have hpd := g.eq r c hr hc
  have hden := g.den r c hr hc
  have hp0 : mx table r c ≠ 0 := fun z => by
    rw [z, Int.zero_mul] at hpd
    have := Int.mul_eq_zero.mp hpd.symm
    omega
  refine ⟨hp0, ?_⟩
  obtain ⟨s, hs, hsc, hpos, hlen, hwid, hat⟩ := turnF_at (d := d) g.len g.wid hr hc
  have hpos := hpos hp0
  have T := turn_of g.len g.wid hr hc (by omega) (g.c2 hl)
  have hLine := fun i j hi hj => line_at (d := d) (i := i) (j := j) g.len g.wid hr hc hi hj
  generalize hy : (fun i j => at_ (turnLine table d (r : Int) (c : Int) (i : Int)) j : Mx) = y at T
  have hat : ∀ i j, i < h → j < w → mx (turnF table d (r : Int) (c : Int)).1 i j = s * y i j := fun i j hi hj => by rw [hat i j hi hj, ← hy]
  have hLine : ∀ i j, i < h → j < w → y i j = if i = r then (if j = c then d else mx table r j) else if j = c then 0 - mx table i c else (mx table i j * mx table r c - mx table i c * mx table r j) / d := fun i j hi hj => by rw [← hy]; exact hLine i j hi hj
  have bb : b ≤ 2 * b * b := by
    have : b * 1 ≤ b * b := Nat.mul_le_mul_left b b1
    have e : 2 * b * b = b * b + b * b := by rw [Nat.mul_assoc, Nat.two_mul]
    omega
  have ss : s * s = 1 := by rcases hs with z | z <;> subst z <;> rfl
  refine ⟨hlen, hwid, by simp [turnD, g.lenD], ?_, ?_, ?_, by omega, ?_, ?_, ?_, ?_, ?_, fun z => by omega⟩
  · intro l hl
    simp only [turnD, List.mem_map, List.mem_range] at hl
    obtain ⟨i, hi, rfl⟩ := hl
    simp
  · intro i j hi hj
    rw [hat i j hi hj, natAbs_t hs, hLine i j hi hj]
    split
    · split
      · exact Nat.le_trans g.sb bb
      · exact Nat.le_trans (g.bT r j hr hj) bb
    · split
      · have := g.bT i c hi hc
        omega
      · refine Nat.le_trans (div_le s1) ?_
        have e1 := mul_le (g.bT i j hi hj) (g.bT r c hr hc)
        have e2 := mul_le (g.bT i c hi hc) (g.bT r j hr hj)
        have e : 2 * b * b = b * b + b * b := by rw [Nat.mul_assoc, Nat.two_mul]
        omega
  · intro i j hi hj
    rw [turnD_at g.lenD hi hj]
    obtain ⟨A, Bv, e, e1, e2, e3, e4⟩ := turnE_spec g hr hc hp f1 T hi hj
    obtain ⟨t, ht, e5, e6⟩ := fracN_eq A Bv
    rw [e, e5]
    exact ⟨by rw [natAbs_t ht]; exact e1, by rw [natAbs_t ht]; exact e2⟩
  · rw [hsc, natAbs_t hs]
    exact Nat.le_trans (g.bT r c hr hc) bb
  · intro i j hi hj
    rw [turnD_at g.lenD hi hj]
    obtain ⟨A, Bv, e, e1, e2, e3, e4⟩ := turnE_spec g hr hc hp f1 T hi hj
    obtain ⟨t, ht, e5, e6⟩ := fracN_eq A Bv
    rw [e, e5]
    exact e6 e3
  · intro i j hi hj
    rw [turnD_at g.lenD hi hj, hat i j hi hj, hsc]
    obtain ⟨A, Bv, e, e1, e2, e3, e4⟩ := turnE_spec g hr hc hp f1 T hi hj
    obtain ⟨t, ht, e5, e6⟩ := fracN_eq A Bv
    rw [e, e5]
    show s * y i j * (t * Bv) = t * A * (s * mx table r c)
    grind
  · intro h2
    have z := turn_c2 T (by omega) hr hc (g.c2 hl) (g.c3 (by omega))
    intro i k j l hi hk hj hl' ik jl
    obtain ⟨e, he⟩ := z i k j l hi hk hj hl' ik jl
    refine ⟨s * e, ?_⟩
    have : m2 (mx (turnF table d (r : Int) (c : Int)).1) i k j l = (s * s) * m2 y i k j l := by
      unfold m2
      rw [hat i j hi hj, hat k l hk hl', hat i l hi hl', hat k j hk hj]
      grind
    rw [this, he, hsc]
    grind
  · intro h1
    have d1 := g.one (by omega)
    subst d1
    have z := turn_c3 T hr hc
    intro i k m j l n hi hk hm hj hl' hn ik im km jl jn ln
    obtain ⟨e, he⟩ := z i k m j l n hi hk hm hj hl' hn ik im km jl jn ln
    refine ⟨s * e, ?_⟩
    have : m3 (mx (turnF table 1 (r : Int) (c : Int)).1) i k m j l n = s * (s * s) * m3 y i k m j l n := by
      unfold m3 d3
      rw [hat i j hi hj, hat i l hi hl', hat i n hi hn, hat k j hk hj, hat k l hk hl', hat k n hk hn, hat m j hm hj, hat m l hm hl', hat m n hm hn]
      grind
    rw [this, he, hsc]
    grind
end D

set_option Elab.async false
set_option linter.all false
set_option maxRecDepth 100000
set_option maxHeartbeats 4000000
namespace D
open PySem PySem.Spec PyProof.Rows L2
open ToPy (py)
local macro_rules | `(tactic| walk_at "side") => `(tactic| first | assumption | omega | (refine Int.emod_nonneg _ ?_; omega) | (refine Int.emod_lt_of_pos _ ?_; omega) | (simp at *; omega) | (simp; done) | decide | skip)
local macro_rules | `(tactic| walk_at "d") => `(tactic| first
  | with_reducible exact ev_int | with_reducible exact ev_str | with_reducible exact ev_bl | with_reducible exact ev_non
  | exact ev_var rfl
  | with_reducible exact ev_ty
  | with_reducible exact ev_cls
  | ((with_reducible apply ev_op) <;> walk_at "d")
  | ((with_reducible apply ev_un) <;> walk_at "d")
  | ((with_reducible apply ev_call) <;> walk_at "d")
  | ((with_reducible apply ev_callX) <;> walk_at "d")
  | ((with_reducible apply ev_cb) <;> walk_at "d")
  | with_reducible exact ea_nil
  | ((with_reducible apply ea_cons) <;> walk_at "d")
  | with_reducible exact s_add
  | with_reducible exact s_sub
  | with_reducible exact s_lt
  | with_reducible exact s_le
  | with_reducible exact s_gt
  | with_reducible exact s_ge
  | with_reducible exact s_eqI
  | with_reducible exact s_neI
  | with_reducible exact s_eqS
  | with_reducible exact s_neS
  | with_reducible exact s_neB
  | exact s_eqSame (sh_ints2 _) | exact s_neSame (sh_ints2 _) | exact s_eqSame (sh_ints _) | exact s_neSame (sh_ints _)
  | ((with_reducible apply s_mod) <;> walk_at "side")
  | walk_at "div" | walk_at "mul"
  | ((with_reducible apply s_catL) <;> walk_at "side")
  | ((with_reducible apply s_repL) <;> walk_at "side")
  | with_reducible exact s_fst
  | with_reducible exact s_snd
  | with_reducible exact s_t0
  | with_reducible exact s_t1
  | with_reducible exact s_t2
  | ((with_reducible apply s_last) <;> walk_at "side")
  | ((with_reducible apply s_ixS) <;> walk_at "side")
  | ((with_reducible apply s_ix) <;> walk_at "side")
  | ((with_reducible apply s_ixT) <;> walk_at "side")
  | with_reducible exact s_negI
  | with_reducible exact c_len
  | with_reducible exact c_lI
  | with_reducible exact c_tI
  | with_reducible exact c_pI
  | with_reducible exact c_t3I
  | with_reducible exact c_sI
  | with_reducible exact c_iI
  | with_reducible exact c_iB
  | with_reducible exact c_lenP
  | with_reducible exact c_len3
  | with_reducible exact c_isInt
  | with_reducible exact c_isBool
  | with_reducible exact c_isStr
  | with_reducible exact c_isList
  | with_reducible exact c_isTup
  | with_reducible exact c_lenTup
  | with_reducible exact c_lenScr
  | with_reducible exact c_listD
  | with_reducible exact c_listTD
  | with_reducible exact c_tup
  | with_reducible exact c_abs
  | with_reducible exact c_min2
  | with_reducible exact c_max2
  | with_reducible exact c_intB
  | with_reducible exact c_sum
  | ((with_reducible apply c_min) <;> walk_at "side")
  | ((with_reducible apply c_max) <;> walk_at "side")
  | ((with_reducible apply et_val) <;> walk_at "d")
  | ((with_reducible apply et_test) <;> walk_at "d")
  | ((with_reducible apply et_not) <;> walk_at "d")
  | ((with_reducible apply et_and) <;> (try with_reducible intro _) <;> walk_at "d")
  | ((with_reducible apply et_or) <;> (try with_reducible intro _) <;> walk_at "d")
  | ((with_reducible apply ev_and) <;> (try with_reducible intro _) <;> walk_at "d")
  | ((with_reducible apply ev_or) <;> (try with_reducible intro _) <;> walk_at "d")
  | ((with_reducible apply ev_chain) <;> (try with_reducible intro _) <;> walk_at "d")
  | ((with_reducible apply ev_not) <;> walk_at "d")
  | ((with_reducible apply ev_pair) <;> walk_at "d")
  | ((with_reducible apply ev_t3) <;> walk_at "d")
  | ((with_reducible apply ev_lst1) <;> walk_at "d")
  | ((with_reducible apply ev_lst2) <;> walk_at "d")
  | ((with_reducible apply ev_lst3) <;> walk_at "d")
  | ((with_reducible apply ev_lst4) <;> walk_at "d")
  | ((with_reducible apply ev_cut) <;> walk_at "d")
  | ((with_reducible apply ep_some) <;> walk_at "d")
  | ((with_reducible apply EvD.s) <;> walk_at "d")
  | ((with_reducible apply EvT.s) <;> walk_at "d")
  | ((with_reducible apply EvN.s) <;> walk_at "d")
  | ((with_reducible apply en_lst1) <;> walk_at "d")
  | ((with_reducible apply en_lst2) <;> walk_at "d")
  | ((with_reducible apply en_lst3) <;> walk_at "d")
  | ((with_reducible apply en_lst4) <;> walk_at "d")
  | ((with_reducible apply en_cut) <;> walk_at "d")
  | with_reducible exact ev_lst0
  | with_reducible exact ep_none
  | with_reducible exact en_lst0
  | ((with_reducible apply wi_L) <;> walk_at "d")
  | ((with_reducible apply wi_T) <;> walk_at "d")
  | ((with_reducible apply wi_zip) <;> walk_at "d")
  | ((with_reducible apply WiD.s) <;> walk_at "d")
  | ((with_reducible apply wi_range) <;> walk_at "side")
  | exact spec_cell (by omega) (by omega)
  | skip)
local macro_rules | `(tactic| walk_at "div") => `(tactic| first
  | exact s_div ⟨by omega, by omega⟩
  | exact s_divW (wd_div (by first | assumption | omega) (by assumption))
  | with_reducible apply s_div)
local macro_rules | `(tactic| walk_at "mul") => `(tactic| first
  | exact s_mul (Or.inl ⟨by omega, by omega⟩) | exact s_mul (Or.inr ⟨by omega, by omega⟩)
  | exact s_mulW (wd_mul (by assumption) (by assumption))
  | with_reducible apply s_mulW)
local macro_rules | `(tactic| walk_at "fg") => `(tactic| repeat (first | exact Fg.nil | apply Fg.same | apply Fg.drop | (refine Fg.eq ?_ ?_; rotate_left)))
local macro_rules | `(tactic| walk_at "end") => `(tactic| exact bd_turnE trivial rfl (by walk_at "fg"))
local macro_rules | `(tactic| walk_at "range") => `(tactic| (apply WiD.s; apply wi_range; (walk_at "d"); omega; omega))
local macro_rules | `(tactic| walk_at "app") => `(tactic| (refine' bd_appR 0 ?_ rfl ?_ ?_ ?_ ?_; (walk_at "d"); (walk_at "d"); rotate_right))
/-! ### k05: the law -/
structure St5 where
  t : List (List Int)
  d : Int
  u : List (List (Int × Int))
def high5 (ns : List Int) : Int := 1 + cellAt ns 0 % 4
def wide5 (ns : List Int) : Int := 1 + cellAt ns 0 / 4 % 4
def most5 (ns : List Int) : Int := if decide (cellAt ns 0 / 16 % 4 = 1) = true then 50 else 5
def tab5 (ns : List Int) : List (List Int) := (List.range (high5 ns).toNat).map fun (i : Nat) => (List.range (wide5 ns).toNat).map fun (k : Nat) => cellAt ns (2 + 4 * (i : Int) + (k : Int)) % (2 * most5 ns + 1) - most5 ns
def due5 (t : List (List Int)) : List (List (Int × Int)) := (List.range t.length).map fun (i : Nat) => (List.range (at_ t i).length).map fun (j : Nat) => (at_ (at_ t i) j, (1 : Int))
def row5 (ns : List Int) (i : Nat) : Int := cellAt ns (18 + (i : Int)) % high5 ns
def col5 (ns : List Int) (i : Nat) : Int := cellAt ns (18 + (i : Int)) / 4 % wide5 ns
def run5 (ns : List Int) : Nat → St5
  | 0 => ⟨tab5 ns, 1, due5 (tab5 ns)⟩
  | i + 1 => let s := run5 ns i
    ⟨(turnF s.t s.d (row5 ns i) (col5 ns i)).1, (turnF s.t s.d (row5 ns i) (col5 ns i)).2, turnD s.u (row5 ns i) (col5 ns i) (wide5 ns).toNat⟩
def bt : Nat → Nat
  | 0 => 50
  | n + 1 => 2 * bt n * bt n
def bf : Nat → Nat
  | 0 => 50
  | n + 1 => 2 * (bf n * bf n * bf n * bf n)
theorem ratio_range (a b : Int) (h : 0 < b) : 0 ≤ a % b ∧ a % b < b := ⟨Int.emod_nonneg _ (by omega), Int.emod_lt_of_pos _ h⟩
theorem good0 (ns : List Int) : Good (bt 0) (bf 0) 0 (run5 ns 0).t (run5 ns 0).d (run5 ns 0).u (high5 ns).toNat (wide5 ns).toNat := by
  have lt : (tab5 ns).length = (high5 ns).toNat := by simp [tab5]
  have wt : ∀ l ∈ tab5 ns, l.length = (wide5 ns).toNat := by
    intro l hl
    simp only [tab5, List.mem_map, List.mem_range] at hl
    obtain ⟨i, _, rfl⟩ := hl
    simp
  have et : ∀ i j, i < (high5 ns).toNat → j < (wide5 ns).toNat → mx (tab5 ns) i j = cellAt ns (2 + 4 * (i : Int) + (j : Int)) % (2 * most5 ns + 1) - most5 ns := by
    intro i j hi hj
    unfold mx tab5
    rw [at_map _ hi, at_map _ hj]
  have eu : ∀ i j, i < (high5 ns).toNat → j < (wide5 ns).toNat → fx (due5 (tab5 ns)) i j = (mx (tab5 ns) i j, 1) := by
    intro i j hi hj
    have : (at_ (tab5 ns) i).length = (wide5 ns).toNat := wt _ (at_mem (by omega))
    unfold fx due5
    rw [at_map _ (by omega), at_map _ (by omega)]
    rfl
  have hm : most5 ns = 50 ∨ most5 ns = 5 := by
    unfold most5
    split <;> simp
  have bd : ∀ i j, i < (high5 ns).toNat → j < (wide5 ns).toNat → (mx (tab5 ns) i j).natAbs ≤ 50 := by
    intro i j hi hj
    rw [et i j hi hj]
    rcases hm with e | e <;> rw [e] <;> omega
  refine ⟨lt, wt, by simp [run5, due5, lt], ?_, bd, ?_, Int.le_refl _, (by show (1 : Int).natAbs ≤ 50; decide), ?_, ?_, ?_, ?_, fun _ => rfl⟩
  · intro l hl
    simp only [run5, due5, List.mem_map, List.mem_range] at hl
    obtain ⟨i, hi, rfl⟩ := hl
    rw [List.length_map, List.length_range]
    exact wt _ (at_mem hi)
  · intro i j hi hj
    show (fx (due5 (tab5 ns)) i j).1.natAbs ≤ 50 ∧ (fx (due5 (tab5 ns)) i j).2.natAbs ≤ 50
    rw [eu i j hi hj]
    exact ⟨bd i j hi hj, by show (1 : Int).natAbs ≤ 50; decide⟩
  · intro i j hi hj
    show 0 < (fx (due5 (tab5 ns)) i j).2
    rw [eu i j hi hj]
    show (0 : Int) < 1
    decide
  · intro i j hi hj
    show mx (tab5 ns) i j * (fx (due5 (tab5 ns)) i j).2 = (fx (due5 (tab5 ns)) i j).1 * 1
    rw [eu i j hi hj]
  · intro _ i k j l _ _ _ _ _ _
    exact ⟨_, (Int.one_mul _).symm⟩
  · intro _ i k m j l n _ _ _ _ _ _ _ _ _ _ _ _
    exact ⟨m3 (mx (tab5 ns)) i k m j l n, by show _ = 1 * 1 * _; rw [Int.one_mul, Int.one_mul]; rfl⟩
set_option exponentiation.threshold 2000 in
theorem bt_lt (i : Nat) (h : i ≤ 3) : bt i < 2 ^ 1000 ∧ 1 ≤ bt i := by
  match i, h with
  | 0, _ => decide
  | 1, _ => decide
  | 2, _ => decide
  | 3, _ => decide
set_option exponentiation.threshold 2000 in
theorem bf_lt (i : Nat) (h : i ≤ 3) : bf i < 2 ^ 900 ∧ 1 ≤ bf i := by
  match i, h with
  | 0, _ => decide
  | 1, _ => decide
  | 2, _ => decide
  | 3, _ => decide
theorem bf_lt2 (i : Nat) (h : i ≤ 2) : bf i < 2 ^ 200 := by
  match i, h with
  | 0, _ => decide
  | 1, _ => decide
  | 2, _ => decide
theorem mem_at {α : Type} [ToPy α] {xs : List α} {x : α} (h : x ∈ xs) : ∃ i, i < xs.length ∧ x = at_ xs i := by
  obtain ⟨i, hi, e⟩ := List.getElem_of_mem h
  refine ⟨i, hi, ?_⟩
  unfold at_
  rw [List.getD_eq_getElem?_getD, List.getElem?_eq_getElem hi]
  exact e.symm
theorem Good.rect {b fb lv : Nat} {t : List (List Int)} {d : Int} {u : List (List (Int × Int))} {h w : Nat} (g : Good b fb lv t d u h w) (hb : b < 2 ^ 1000) : Rect t h w := ⟨g.len, g.wid, fun l hl x hx => by
  obtain ⟨i, hi, rfl⟩ := mem_at hl
  obtain ⟨j, hj, rfl⟩ := mem_at hx
  have := g.wid _ hl
  have := g.bT i j (by have := g.len; omega) (by omega)
  unfold mx at this
  unfold Wd
  omega⟩
theorem Good.rectF {b fb lv n : Nat} {t : List (List Int)} {d : Int} {u : List (List (Int × Int))} {h w : Nat} (g : Good b fb lv t d u h w) (hb : fb < 2 ^ n) : RectF n u h w := ⟨g.lenD, g.widD, fun l hl x hx => by
  obtain ⟨i, hi, rfl⟩ := mem_at hl
  obtain ⟨j, hj, rfl⟩ := mem_at hx
  have := g.widD _ hl
  have := g.bD i j (by have := g.lenD; omega) (by omega)
  unfold fx at this
  unfold Wf
  omega⟩
def n_law : List Str := ["_law_script", "_law_first", "_law_high", "_law_wide", "_law_most", "_law_table", "_law_at", "_law_scale", "_law_due", "_law_line", "_law_turn", "_law_cell", "_law_row", "_law_column", "_law_handed", "_law_found", "_law_k", "_law_number"]
def t_law (K : PySem.W.Frag) (c : Cs) : TS := (tSeq (tAsg (tCall (spD (S_law_cell_at K c)) [] E0 (tCons (tVar 0) (tCons (tC (.int 0)) tNil))) (gName 1))
  (tSeq (tAsg (tOp (rAddX K) (tC (.int 1)) (tOp rModI (tVar 1) (tC (.int 4)))) (gName 2))
  (tSeq (tAsg (tOp (rAddX K) (tC (.int 1)) (tOp rModI (tOp rDivI (tVar 1) (tC (.int 4))) (tC (.int 4)))) (gName 3))
  (tSeq (tAsg (tC (.int 5)) (gName 4))
  (tSeq (tIfS (tTest (tOp (rEqX K) (tOp rModI (tOp rDivI (tVar 1) (tC (.int 16))) (tC (.int 4))) (tC (.int 1)))) (tSeq (tAsg (tC (.int 50)) (gName 4))
  tNext) tNext)
  (tSeq (tAsg (tLst tNil) (gName 5))
  (tSeq (tFor (iRng1 (tCons (tVar 2) tNil)) (gName 6) (tSeq (tDrop (tBM K "list" rAppend (tVar 5) (tCons (tLc (iRng1 (tCons (tVar 3) tNil)) (gName 16) tYes (tOp rSubI (tOp rModI (tCall (spD (S_law_cell_at K c)) [] E0 (tCons (tVar 0) (tCons (tOp (rAddX K) (tOp (rAddX K) (tC (.int 2)) (tOp (rMulX K) (tC (.int 4)) (tVar 6))) (tVar 16)) tNil))) (tOp (rAddX K) (tOp (rMulX K) (tC (.int 2)) (tVar 4)) (tC (.int 1)))) (tVar 4)) [16]) tNil)))
  tNext))
  (tSeq (tAsg (tC (.int 1)) (gName 7))
  (tSeq (tAsg (tLst tNil) (gName 8))
  (tSeq (tFor (iList K (tVar 5)) (gName 9) (tSeq (tDrop (tBM K "list" rAppend (tVar 8) (tCons (tLc (iList K (tVar 9)) (gName 17) tYes (tTup (tCons (tVar 17) (tCons (tC (.int 1)) tNil))) [17]) tNil)))
  tNext))
  (tSeq (tFor (iRng1 (tCons (tOp rModI (tOp rDivI (tVar 1) (tC (.int 64))) (tC (.int 4))) tNil)) (gName 10) (tSeq (tAsg (tCall (spD (S_law_cell_at K c)) [] E0 (tCons (tVar 0) (tCons (tOp (rAddX K) (tC (.int 18)) (tVar 10)) tNil))) (gName 11))
  (tSeq (tAsg (tOp rModI (tVar 11) (tVar 2)) (gName 12))
  (tSeq (tAsg (tOp rModI (tOp rDivI (tVar 11) (tC (.int 4))) (tVar 3)) (gName 13))
  (tSeq (tAsg (tLc (iList K (tVar 5)) (gName 9) tYes (tCB (rListX K) (tCons (tVar 9) tNil)) [9]) (gName 14))
  (tSeq (tIfS (tTest (tOp (rEqX K) (tOp (rIx K) (tOp (rIx K) (tOp (rIx K) (tVar 8) (tVar 12)) (tVar 13)) (tC (.int 0))) (tC (.int 0)))) (tSeq (tRet (tAndV (tCall (spD (S_law_refused K c)) [] E0 (tCons (tVar 14) (tCons (tVar 7) (tCons (tVar 12) (tCons (tVar 13) tNil))))) (tOp (rEqX K) (tVar 14) (tVar 5))))
  tNext) tNext)
  (tSeq (tAsg (tCall (spX (S_turned K c) (SE_turned K c)) [] E0 (tCons (tVar 14) (tCons (tVar 7) (tCons (tVar 12) (tCons (tVar 13) tNil))))) (gName 15))
  (tSeq (tIfS (tOr (tNot (tB (tCB (rIsi K) (tCons (tVar 15) (tCons (tC (.ty "tuple")) tNil))))) (tOr (tTest (tOp (rNeX K) (tCB (rLenX K) (tCons (tVar 15) tNil)) (tC (.int 2)))) (tTest (tOp (rNeX K) (tVar 14) (tVar 5))))) (tSeq (tRet (tC (.bl false)))
  tNext) tNext)
  (tSeq (tAsg (tCall (spD (S_law_turned K c)) [] E0 (tCons (tVar 8) (tCons (tVar 12) (tCons (tVar 13) tNil)))) (gName 8))
  (tSeq (tIfS (tNot (tB (tCall (spD (S_law_alike K c)) [] E0 (tCons (tOp (rIx K) (tVar 15) (tC (.int 0))) (tCons (tOp (rIx K) (tVar 15) (tC (.int 1))) (tCons (tVar 8) tNil)))))) (tSeq (tRet (tC (.bl false)))
  tNext) tNext)
  (tSeq (tAsg (tLc (iList K (tOp (rIx K) (tVar 15) (tC (.int 0)))) (gName 9) tYes (tCB (rListX K) (tCons (tVar 9) tNil)) [9]) (gName 5))
  (tSeq (tAsg (tOp (rIx K) (tVar 15) (tC (.int 1))) (gName 7))
  tNext))))))))))))
  (tSeq (tRet (tC (.bl true)))
  tNext))))))))))))
theorem rd_law {K : PySem.W.Frag} {c : Cs} : ∀ Rs R, S_law K c Rs R → ∀ B : Base, B.m = [] → BDe B (startC n_law Rs) [] (t_law K c) (fnP B R) := by
  rintro _ _ ⟨ns, rfl, _, rfl⟩ B hm
  have f0 := cell_pos ns 0
  have f1 := cell_lt ns 0
  apply bd_let
  · walk_at "d"
  intro first hfirst
  rw [← hfirst] at f0 f1
  apply bd_let
  · walk_at "d"
  intro high hhigh
  apply bd_let
  · walk_at "d"
  intro wide hwide
  have eh : high = high5 ns := by rw [hhigh, hfirst]; rfl
  have ew : wide = wide5 ns := by rw [hwide, hfirst]; rfl
  have rh := ratio_range first 4 (by decide)
  have rw' := ratio_range (first / 4) 4 (by decide)
  apply bd_set
  · walk_at "d"
  apply bd_ifset (a := (50 : Int)) (c := (5 : Int))
  · walk_at "d"
  · intro _
    walk_at "d"
  · rfl
  have em : (if decide (first / 16 % 4 = 1) = true then (50 : Int) else 5) = most5 ns := by rw [hfirst]; rfl
  rw [em]
  change BDe B (List.set _ 4 (some (rep (most5 ns)))) _ _ _
  generalize hmost : most5 ns = most
  have hmo : most = 50 ∨ most = 5 := by
    rw [← hmost]
    unfold most5
    split <;> simp
  refine bd_nil (List Int) fun p => ?_
  apply bd_forE (fun i => [some (scr K ns), some (rep first), some (rep high), some (rep wide), some (rep most), some (own p), none, none, none, none, none, none, none, none, none, none, none, none])
    (fun i => [(p, oL ((List.range i).map fun (i : Nat) => (List.range wide.toNat).map fun (k : Nat) => cellAt ns (2 + 4 * (i : Int) + (k : Int)) % (2 * most + 1) - most))]) (fun _ => True)
  · walk_at "range"
  · walk_at "fg"
  · rfl
  · trivial
  · intro i hi
    exact tg_name
  · intro i hi _
    apply bd_appR 0
    · walk_at "d"
    · rfl
    · apply EvD.s
      apply ev_lc (α := Int) (val := fun (k : Nat) => cellAt ns (2 + 4 * (i : Int) + (k : Int)) % (2 * most + 1) - most)
      · apply wi_range
        · walk_at "d"
        · omega
        · omega
      · intro k hk
        exact tl_name (by simp)
      · intro k hk
        walk_at "d"
      · omega
    · rfl
    · omega
    walk_at "end"
  intro _
  refine bd_frz 0 5 rfl rfl hm ?_
  have et : ((List.range high.toNat).map fun (i : Nat) => (List.range wide.toNat).map fun (k : Nat) => cellAt ns (2 + 4 * (i : Int) + (k : Int)) % (2 * most + 1) - most) = tab5 ns := by
    unfold tab5
    rw [eh, ew, hmost]
  rw [et]
  apply bd_set
  · walk_at "d"
  have g0 := good0 ns
  have l0 : (tab5 ns).length = high.toNat := by rw [eh]; exact g0.len
  have w0 : ∀ l ∈ tab5 ns, l.length = wide.toNat := by rw [ew]; exact g0.wid
  refine bd_nil (List (Int × Int)) fun p => ?_
  apply bd_forE (fun i => [some (scr K ns), some (rep first), some (rep high), some (rep wide), none, some (rep (tab5 ns)), none, some (rep (1 : Int)), some (own p), none, none, none, none, none, none, none, none, none])
    (fun i => [(p, oL ((List.range i).map fun (i : Nat) => (List.range (at_ (tab5 ns) i).length).map fun (j : Nat) => (at_ (at_ (tab5 ns) i) j, (1 : Int))))]) (fun _ => True)
  · walk_at "d"
  · walk_at "fg"
  · rfl
  · trivial
  · intro i hi
    exact tg_name
  · intro i hi _
    apply bd_appR 0
    · walk_at "d"
    · rfl
    · apply EvD.s
      apply ev_lc (α := Int × Int) (val := fun (j : Nat) => (at_ (at_ (tab5 ns) i) j, (1 : Int)))
      · walk_at "d"
      · intro k hk
        exact tl_name (by simp)
      · intro k hk
        walk_at "d"
      · have := w0 _ (at_mem hi)
        omega
    · rfl
    · omega
    walk_at "end"
  intro _
  refine bd_frz 0 8 rfl rfl hm ?_
  have eu : ((List.range (tab5 ns).length).map fun (i : Nat) => (List.range (at_ (tab5 ns) i).length).map fun (j : Nat) => (at_ (at_ (tab5 ns) i) j, (1 : Int))) = due5 (tab5 ns) := rfl
  rw [eu]
  apply bd_forE (fun i => [some (scr K ns), some (rep first), some (rep high), some (rep wide), none, some (rep (run5 ns i).t), none, some (rep (run5 ns i).d), some (rep (run5 ns i).u), none, none, none, none, none, none, none, none, none])
    (fun i => []) (fun i => Good (bt i) (bf i) i (run5 ns i).t (run5 ns i).d (run5 ns i).u high.toNat wide.toNat)
  · walk_at "range"
  · walk_at "fg"
  · rfl
  · rw [eh, ew]
    exact g0
  · intro i hi
    exact tg_name
  · intro i hi g
    have i3 : i ≤ 2 := by omega
    generalize hs : run5 ns i = s at g
    apply bd_let
    · walk_at "d"
    intro cell hcell
    apply bd_let
    · walk_at "d"
    intro row hrow
    apply bd_let
    · walk_at "d"
    intro column hcol
    have er : row = row5 ns i := by rw [hrow, hcell, eh]; rfl
    have ec : column = col5 ns i := by rw [hcol, hcell, ew]; rfl
    have rr := ratio_range cell high (by omega)
    have rc := ratio_range (cell / 4) wide (by omega)
    rw [← hrow] at rr
    rw [← hcol] at rc
    obtain ⟨r, hr⟩ : ∃ r : Nat, row = (r : Int) := ⟨row.toNat, by omega⟩
    obtain ⟨q, hq⟩ : ∃ q : Nat, column = (q : Int) := ⟨column.toNat, by omega⟩
    have hrh : r < high.toNat := by omega
    have hqw : q < wide.toNat := by omega
    have lt := g.len
    have lu := g.lenD
    have lw := g.widD _ (ix_mem rr.1 (by omega))
    have lw2 := g.wid _ (ix_mem rr.1 (by omega))
    have hrect := g.rect (bt_lt i (by omega)).1
    have hP : P_turned s.t s.d row column := ⟨high.toNat, wide.toNat, hrect, by omega, by omega, rr.1, by omega, rc.1, by omega, by have := g.s1; omega, by have := g.sb; have := bt_lt i (by omega); unfold Wd; omega⟩
    have ex : ix (ix s.t row) column = mx s.t r q := by rw [hr, hq, ix_nat, ix_nat]; rfl
    have eu : ix (ix s.u row) column = fx s.u r q := by rw [hr, hq, ix_nat, ix_nat]; rfl
    apply bd_set (R := rep s.t)
    · apply EvD.s
      refine ev_eq (ev_lc (α := List Int) (val := fun i => at_ s.t i) (wi_L (ev_var rfl)) (fun i hi => tl_name (by simp)) (fun i hi => ?_) (by omega)) ?_
      · walk_at "d"
      · have z := map_range_len s.t id
        simpa using z
    apply bd_ifr
    · walk_at "d"
    · intro hb
      simp only [decide_eq_true_eq] at hb
      have hb0 : mx s.t r q = 0 := by
        have e := g.eq r q hrh hqw
        have d0 := g.den r q hrh hqw
        rw [← eu, hb, Int.zero_mul] at e
        rcases Int.mul_eq_zero.mp e with z | z
        · exact z
        · rw [eu] at z
          omega
      apply bd_retE hm
      · apply EvD.s
        apply ev_and
        · apply ev_call
          · walk_at "d"
          · exact ⟨s.t, s.d, row, column, rfl, hP, by rw [ex]; exact hb0, rfl⟩
        · intro _
          walk_at "d"
      rfl
    intro hb
    simp only [decide_eq_false_iff_not] at hb
    obtain ⟨hx0, g'⟩ := good_step g hrh hqw (by rw [← eu]; exact hb) i3 (bt_lt i (by omega)).2 (bf_lt i (by omega)).2
    apply bd_let (α := List (List Int) × Int) (a := turnF s.t s.d row column)
    · apply EvD.s
      apply ev_callX
      · walk_at "d"
      · exact ⟨s.t, s.d, row, column, rfl, hP, by rw [ex]; exact hx0, rfl⟩
    intro found hfound
    apply bd_ifr (b := !true || (!decide ((2 : Int) = 2) || false))
    · walk_at "d"
    · intro hb
      simp at hb
    intro _
    apply bd_set (R := rep (turnD s.u row column wide.toNat))
    · apply EvD.s
      apply ev_call
      · walk_at "d"
      · exact ⟨s.u, row, column, high.toNat, wide.toNat, rfl, g.rectF (bf_lt2 i (by omega)), by omega, by omega, rr.1, by omega, rc.1, by omega, rfl⟩
    have g2 : Good (bt (i + 1)) (bf (i + 1)) (i + 1) found.1 found.2 (turnD s.u row column wide.toNat) high.toNat wide.toNat := by
      rw [hfound, hr, hq]
      exact g'
    apply bd_ifr (b := !true)
    · apply EvT.s
      apply et_not
      apply et_val
      apply ev_call
      · walk_at "d"
      · refine ⟨found.1, found.2, _, high.toNat, wide.toNat, rfl, ⟨g2.rect (bt_lt (i + 1) (by omega)).1, g2.rectF (bf_lt (i + 1) (by omega)).1, g2.s1, ?_, fun i j hi hj => g2.eq i j hi hj⟩, by omega, by omega, rfl⟩
        have := g2.sb
        have := bt_lt (i + 1) (by omega)
        unfold Wd
        omega
    · intro hb
      simp at hb
    intro _
    have lf := g2.len
    apply bd_set (R := rep found.1)
    · apply EvD.s
      apply ev_eq
      · apply ev_lc (α := List Int) (val := fun i => at_ found.1 i)
        · apply wi_L (xs := found.1)
          walk_at "d"
        · intro i hi
          exact tl_name (by simp)
        · intro i hi
          walk_at "d"
        · omega
      · have z := map_range_len found.1 id
        simpa using z
    apply bd_set (R := rep found.2)
    · walk_at "d"
    have e1 : (run5 ns (i + 1)).t = found.1 := by rw [hfound, er, ec, ← hs]; rfl
    have e2 : (run5 ns (i + 1)).d = found.2 := by rw [hfound, er, ec, ← hs]; rfl
    have e3 : (run5 ns (i + 1)).u = turnD s.u row column wide.toNat := by rw [er, ec, ew, ← hs]; rfl
    refine bd_turnE ?_ rfl ?_
    · rw [e1, e2, e3]
      exact g2
    · rw [e1, e2, e3]
      walk_at "fg"
  intro _
  apply bd_retR hm
  walk_at "d"
end D

set_option Elab.async false
set_option linter.all false
set_option maxRecDepth 100000
set_option maxHeartbeats 4000000
namespace D
open PySem PySem.Spec PyProof.Rows L2
open ToPy (py)
def top (i : Nat) : Stmt := PySem.Challenge.pw_wholecut_k05_tables_turned.main.body.getD i (.Pass ⟨0, 0, 0, 0⟩)
abbrev s_turned_line : Stmt := top 9
abbrev s_turned : Stmt := top 10
abbrev s_law_cell_at : Stmt := top 12
abbrev s_law_whole : Stmt := top 13
abbrev s_law_fraction : Stmt := top 14
abbrev s_law_fallen : Stmt := top 15
abbrev s_law_turned : Stmt := top 16
abbrev s_law_alike : Stmt := top 17
abbrev s_law_refused : Stmt := top 18
abbrev s_law : Stmt := top 19
structure Txt (K : PySem.W.Frag) (mg : Str → Option Value) (c : Cs) : Prop where
  b_abs : mg "abs" = none
  b_bool : mg "bool" = none
  b_int : mg "int" = none
  b_isinstance : mg "isinstance" = none
  b_len : mg "len" = none
  b_list : mg "list" = none
  b_range : mg "range" = none
  b_tuple : mg "tuple" = none
  b_zip : mg "zip" = none
  b_ValueError : mg "ValueError" = none
  g_BadProblem : mg "BadProblem" = some (.ref c.BadProblem)
  g_BadPoint : mg "BadPoint" = some (.ref c.BadPoint)
  g_BadBox : mg "BadBox" = some (.ref c.BadBox)
  g_BadWeights : mg "BadWeights" = some (.ref c.BadWeights)
  g_NoTurn : mg "NoTurn" = some (.ref c.NoTurn)
  g_BadText : mg "BadText" = some (.ref c.BadText)
  g_CutError : mg "CutError" = some (.ref c.CutError)
  x_NoTurn : PySem.W.excIn K c.NoTurn [.type "ValueError", .type "Exception", .type "BaseException", .type "object"] "ValueError.__new__" = true
  k_NoTurn : PySem.W.keepIn K (.ref c.NoTurn) = true
  bx_NoTurn : PySem.W.subIn K (.ref c.NoTurn) (.type "BaseException") = some true
  tx_NoTurn : PySem.W.typeIn K (.ref c.NoTurn) = some (.type "type")
  ec_NoTurn : ExcC K c.NoTurn
  ke_NoTurn : KE K c.NoTurn [c.BadProblem, c.BadPoint, c.BadBox, c.BadWeights, c.BadText] c.CutError
  d_turned_line : Def K mg "turned_line" s_turned_line ["table", "scale", "row", "column", "at"]
  d_turned : Def K mg "turned" s_turned ["table", "scale", "row", "column"]
  d_law_cell_at : Def K mg "_law_cell_at" s_law_cell_at ["_law_script", "_law_k"]
  d_law_whole : Def K mg "_law_whole" s_law_whole ["_law_found"]
  d_law_fraction : Def K mg "_law_fraction" s_law_fraction ["_law_above", "_law_below"]
  d_law_fallen : Def K mg "_law_fallen" s_law_fallen ["_law_one", "_law_two", "_law_three", "_law_pivot"]
  d_law_turned : Def K mg "_law_turned" s_law_turned ["_law_table", "_law_row", "_law_column"]
  d_law_alike : Def K mg "_law_alike" s_law_alike ["_law_table", "_law_scale", "_law_due"]
  d_law_refused : Def K mg "_law_refused" s_law_refused ["_law_table", "_law_scale", "_law_row", "_law_column"]
  d_law : Def K mg "law" s_law ["_law_script"]

theorem sc_turned_line : FnScope n_turned_line ["table", "scale", "row", "column", "at"] (defScope s_turned_line) := ⟨rfl, rfl, rfl, by decide +kernel, rfl, by decide +kernel, by decide +kernel⟩
theorem ps_turned_line {P : Program} {w : World} {K : PySem.W.Frag} {mg : Str → Option Value} {base : Heap} {c : Cs} (T : Txt K mg c)  (f : Addr) (cdv : Value) (A : Around) (outer : List Env) (s : Shared) (H : Hp) (E : XK) (hr : Room 0 (A.deeper (envOfC "turned_line" (defScope s_turned_line) s.heap.objs.size f cdv))) :
    PSs (cx0 P w K mg base n_turned_line "turned_line" s_turned_line f cdv A outer s H E) (defBody s_turned_line) (t_turned_line K c) := by
  unfold t_turned_line
  exact (pss_cons (ps_set (i := 5) sc_turned_line.nd rfl (by first | exact Or.inl rfl | exact Or.inr rfl) (pe_ix ix_seq (pe_ix ix_seq (pv 0) (pv 2) (fun _ _ => rfl)) (pv 3) (fun _ _ => rfl)))
  (pss_cons (ps_if (pt_cmpR (op_eqX hr.units) (pv 4) (pv 2) (nomark _)) (pss_cons (ps_set (i := 7) sc_turned_line.nd rfl (by first | exact Or.inl rfl | exact Or.inr rfl) (pe_callTy call_listX (by rfl) T.b_list b_list (pa_cons (pe_ix ix_seq (pv 0) (pv 2) (fun _ _ => rfl)) pa_nil)))
  (pss_cons (ps_asg (pv 1) (pg_sub (pv 7) (pv 3) set_list))
  (pss_cons (ps_ret (pv 7))
  pss_nil))) pss_nil)
  (pss_cons (ps_set (i := 6) sc_turned_line.nd rfl (by first | exact Or.inl rfl | exact Or.inr rfl) (pe_ix ix_seq (pe_ix ix_seq (pv 0) (pv 4) (fun _ _ => rfl)) (pv 3) (fun _ _ => rfl)))
  (pss_cons (ps_setLc (i := 7) (own := [("one", 8), ("other", 9)]) (g := (gTup K 2 (gCons (gName 8) (gCons (gName 9) gNil)))) (tt := tYes) rfl sc_turned_line.nd rfl rfl (sw_true rfl rfl rfl (by decide +kernel)) (pi_zip rfl T.b_zip (pa_cons (pe_ix ix_seq (pv 0) (pv 4) (fun _ _ => rfl)) (pa_cons (pe_ix ix_seq (pv 0) (pv 2) (fun _ _ => rfl)) pa_nil))) (blkOk_by (N := n_turned_line) (sc := defScope s_turned_line) (by decide +kernel)) (fun _ _ _ _ _ => (pg_tup rfl (pgs_cons (pg_name (i := 8) sc_turned_line.nd rfl (by first | exact Or.inl rfl | exact Or.inr rfl)) (pgs_cons (pg_name (i := 9) sc_turned_line.nd rfl (by first | exact Or.inl rfl | exact Or.inr rfl)) pgs_nil)))) (fun _ _ _ _ _ => pts_nil) (fun _ _ _ _ _ => (pe_op op_divX (pe_op op_subX (pe_op op_mulX (pv 8) (pv 5)) (pe_op op_mulX (pv 6) (pv 9))) (pv 1))))
  (pss_cons (ps_asg (pe_op op_subX pe_int (pv 6)) (pg_sub (pv 7) (pv 3) set_list))
  (pss_cons (ps_ret (pv 7))
  pss_nil))))))
theorem ok_turned_line {P : Program} {w : World} {K : PySem.W.Frag} {mg : Str → Option Value} {base : Heap} {c : Cs} (T : Txt K mg c) : Okd P w K mg base CX0 1 "turned_line" ["table", "scale", "row", "column", "at"] (spD (S_turned_line K c)) :=
  okd T.d_turned_line sc_turned_line (by intro Rs R h; first | (rcases h with ⟨_, rfl, _⟩; rfl) | (rcases h with ⟨_, _, rfl, _⟩; rfl) | (rcases h with ⟨_, _, _, rfl, _⟩; rfl) | (rcases h with ⟨_, _, _, _, rfl, _⟩; rfl) | (rcases h with ⟨_, _, _, _, _, rfl, _⟩; rfl) | (rcases h with ⟨_, _, _, _, _, _, rfl, _⟩; rfl) | (rcases h with ⟨_, _, _, _, _, _, _, rfl, _⟩; rfl) | (rcases h with ⟨_, _, _, _, _, _, _, _, rfl, _⟩; rfl)) (fun f cdv A outer s H E hr => ps_turned_line T  f cdv A outer s H E hr) (rd_turned_line )
theorem sc_turned : FnScope n_turned ["table", "scale", "row", "column"] (defScope s_turned) := ⟨rfl, rfl, rfl, by decide +kernel, rfl, by decide +kernel, by decide +kernel⟩
theorem ps_turned {P : Program} {w : World} {K : PySem.W.Frag} {mg : Str → Option Value} {base : Heap} {c : Cs} (T : Txt K mg c) (O_turned_line : Okd P w K mg base CX0 1 "turned_line" ["table", "scale", "row", "column", "at"] (spD (S_turned_line K c))) (f : Addr) (cdv : Value) (A : Around) (outer : List Env) (s : Shared) (H : Hp) (E : XK) (hr : Room 1 (A.deeper (envOfC "turned" (defScope s_turned) s.heap.objs.size f cdv))) :
    PSs (cxX P w K mg base n_turned "turned" s_turned f cdv A outer s H E) (defBody s_turned) (t_turned K c E) := by
  unfold t_turned
  exact (pss_cons (ps_set (i := 4) sc_turned.nd rfl (by first | exact Or.inl rfl | exact Or.inr rfl) (pe_ix ix_seq (pe_ix ix_seq (pv 0) (pv 2) (fun _ _ => rfl)) (pv 3) (fun _ _ => rfl)))
  (pss_cons (ps_if (pt_cmpR (op_eqX hr.units) (pv 4) pe_int (nomark _)) (pss_cons (ps_raise rfl (takes_of rfl rfl rfl rfl) (pmk_own PySem.F.excBase_ValueError T.x_NoTurn T.g_NoTurn T.k_NoTurn (raises_own T.bx_NoTurn T.tx_NoTurn) (by exact rfl)))
  pss_nil) pss_nil)
  (pss_cons (ps_set (i := 5) sc_turned.nd rfl (by first | exact Or.inl rfl | exact Or.inr rfl) (pe_lst pa_nil))
  (pss_cons (ps_for (passes_of rfl) rfl (pi_range1 rfl T.b_range (pa_cons (pe_callB call_lenX (by rfl) T.b_len b_len (pa_cons (pv 0) pa_nil)) pa_nil)) (pg_name (i := 6) sc_turned.nd rfl (by first | exact Or.inl rfl | exact Or.inr rfl)) (pss_cons (ps_set (i := 7) sc_turned.nd rfl (by first | exact Or.inl rfl | exact Or.inr rfl) (pe_callD O_turned_line hr pass0 (pa_cons (pv 0) (pa_cons (pv 1) (pa_cons (pv 2) (pa_cons (pv 3) (pa_cons (pv 6) pa_nil)))))))
  (pss_cons (ps_if (pt_cmpR op_ltX (pv 4) pe_int (nomark _)) (pss_cons (ps_setLc (i := 7) (own := [("number", 8)]) (g := (gName 8)) (tt := tYes) rfl sc_turned.nd rfl rfl (sw_true rfl rfl rfl (by decide +kernel)) (pi_list (pv 7)) (blkOk_by (N := n_turned) (sc := defScope s_turned) (by decide +kernel)) (fun _ _ _ _ _ => (pg_name (i := 8) sc_turned.nd rfl (by first | exact Or.inl rfl | exact Or.inr rfl))) (fun _ _ _ _ _ => pts_nil) (fun _ _ _ _ _ => (pe_op op_subX pe_int (pv 8))))
  pss_nil) pss_nil)
  (pss_cons (ps_expr (pe_bm PySem.F.plainAttrs_list PySem.F.slot_list_append PySem.F.type_list_append mt_append (pv 5) (pa_cons (pv 7) pa_nil)))
  pss_nil))))
  (pss_cons (ps_ret (pe_tup (pa_cons (pv 5) (pa_cons (pe_callB call_absX (by rfl) T.b_abs b_abs (pa_cons (pv 4) pa_nil)) pa_nil))))
  pss_nil)))))
theorem ok_turned {P : Program} {w : World} {K : PySem.W.Frag} {mg : Str → Option Value} {base : Heap} {c : Cs} (T : Txt K mg c) : Okd P w K mg base (L2.CX P w) 2 "turned" ["table", "scale", "row", "column"] (spX (S_turned K c) (SE_turned K c)) :=
  okdX T.d_turned sc_turned (by intro Rs R h; first | (rcases h with ⟨_, rfl, _⟩; rfl) | (rcases h with ⟨_, _, rfl, _⟩; rfl) | (rcases h with ⟨_, _, _, rfl, _⟩; rfl) | (rcases h with ⟨_, _, _, _, rfl, _⟩; rfl) | (rcases h with ⟨_, _, _, _, _, rfl, _⟩; rfl) | (rcases h with ⟨_, _, _, _, _, _, rfl, _⟩; rfl) | (rcases h with ⟨_, _, _, _, _, _, _, rfl, _⟩; rfl) | (rcases h with ⟨_, _, _, _, _, _, _, _, rfl, _⟩; rfl)) (by intro Rs R h; first | (rcases h with ⟨_, rfl, _⟩; rfl) | (rcases h with ⟨_, _, rfl, _⟩; rfl) | (rcases h with ⟨_, _, _, rfl, _⟩; rfl) | (rcases h with ⟨_, _, _, _, rfl, _⟩; rfl) | (rcases h with ⟨_, _, _, _, _, rfl, _⟩; rfl) | (rcases h with ⟨_, _, _, _, _, _, rfl, _⟩; rfl) | (rcases h with ⟨_, _, _, _, _, _, _, rfl, _⟩; rfl) | (rcases h with ⟨_, _, _, _, _, _, _, _, rfl, _⟩; rfl)) (fun f cdv A outer s H E hr => ps_turned T (ok_turned_line T) f cdv A outer s H E hr) (rd_turned ) (rd_turnedX )
theorem sc_law_cell_at : FnScope n_law_cell_at ["_law_script", "_law_k"] (defScope s_law_cell_at) := ⟨rfl, rfl, rfl, by decide +kernel, rfl, by decide +kernel, by decide +kernel⟩
theorem ps_law_cell_at {P : Program} {w : World} {K : PySem.W.Frag} {mg : Str → Option Value} {base : Heap} {c : Cs} (T : Txt K mg c)  (f : Addr) (cdv : Value) (A : Around) (outer : List Env) (s : Shared) (H : Hp) (E : XK) (hr : Room 0 (A.deeper (envOfC "_law_cell_at" (defScope s_law_cell_at) s.heap.objs.size f cdv))) :
    PSs (cx0 P w K mg base n_law_cell_at "_law_cell_at" s_law_cell_at f cdv A outer s H E) (defBody s_law_cell_at) (t_law_cell_at K c) := by
  unfold t_law_cell_at
  exact (pss_cons (ps_set (i := 2) sc_law_cell_at.nd rfl (by first | exact Or.inl rfl | exact Or.inr rfl) pe_int)
  (pss_cons (ps_if (pt_cmpR op_gtX (pe_callB call_lenX (by rfl) T.b_len b_len (pa_cons (pv 0) pa_nil)) pe_int (nomark _)) (pss_cons (ps_set (i := 2) sc_law_cell_at.nd rfl (by first | exact Or.inl rfl | exact Or.inr rfl) (pe_ix ix_seq (pv 0) (pe_op op_modX (pv 1) (pe_callB call_lenX (by rfl) T.b_len b_len (pa_cons (pv 0) pa_nil))) (fun _ _ => rfl)))
  pss_nil) pss_nil)
  (pss_cons (ps_ret (pe_op op_modX (pe_op op_mulX (pe_op op_addX (pv 2) (pe_op op_mulX pe_int (pv 1))) pe_int) pe_int))
  pss_nil)))
theorem ok_law_cell_at {P : Program} {w : World} {K : PySem.W.Frag} {mg : Str → Option Value} {base : Heap} {c : Cs} (T : Txt K mg c) : Okd P w K mg base CX0 1 "_law_cell_at" ["_law_script", "_law_k"] (spD (S_law_cell_at K c)) :=
  okd T.d_law_cell_at sc_law_cell_at (by intro Rs R h; first | (rcases h with ⟨_, rfl, _⟩; rfl) | (rcases h with ⟨_, _, rfl, _⟩; rfl) | (rcases h with ⟨_, _, _, rfl, _⟩; rfl) | (rcases h with ⟨_, _, _, _, rfl, _⟩; rfl) | (rcases h with ⟨_, _, _, _, _, rfl, _⟩; rfl) | (rcases h with ⟨_, _, _, _, _, _, rfl, _⟩; rfl) | (rcases h with ⟨_, _, _, _, _, _, _, rfl, _⟩; rfl) | (rcases h with ⟨_, _, _, _, _, _, _, _, rfl, _⟩; rfl)) (fun f cdv A outer s H E hr => ps_law_cell_at T  f cdv A outer s H E hr) (rd_law_cell_at )
theorem sc_law_whole : FnScope n_law_whole ["_law_found"] (defScope s_law_whole) := ⟨rfl, rfl, rfl, by decide +kernel, rfl, by decide +kernel, by decide +kernel⟩
theorem ps_law_whole {P : Program} {w : World} {K : PySem.W.Frag} {mg : Str → Option Value} {base : Heap} {c : Cs} (T : Txt K mg c)  (f : Addr) (cdv : Value) (A : Around) (outer : List Env) (s : Shared) (H : Hp) (E : XK) (hr : Room 0 (A.deeper (envOfC "_law_whole" (defScope s_law_whole) s.heap.objs.size f cdv))) :
    PSs (cx0 P w K mg base n_law_whole "_law_whole" s_law_whole f cdv A outer s H E) (defBody s_law_whole) (t_law_whole K c) := by
  unfold t_law_whole
  exact (pss_cons (ps_ret (pe_and (pe_callB call_isi (by rfl) T.b_isinstance b_isi (pa_cons (pv 0) (pa_cons (pe_bltn (v := .ty "int") (by rfl) T.b_int b_int rfl) pa_nil))) (pe_one (pe_not (pe_callB call_isi (by rfl) T.b_isinstance b_isi (pa_cons (pv 0) (pa_cons (pe_bltn (v := .ty "bool") (by rfl) T.b_bool b_bool rfl) pa_nil)))))))
  pss_nil)
theorem ok_law_whole {P : Program} {w : World} {K : PySem.W.Frag} {mg : Str → Option Value} {base : Heap} {c : Cs} (T : Txt K mg c) : Okd P w K mg base CX0 1 "_law_whole" ["_law_found"] (spD (S_law_whole K c)) :=
  okd T.d_law_whole sc_law_whole (by intro Rs R h; first | (rcases h with ⟨_, rfl, _⟩; rfl) | (rcases h with ⟨_, _, rfl, _⟩; rfl) | (rcases h with ⟨_, _, _, rfl, _⟩; rfl) | (rcases h with ⟨_, _, _, _, rfl, _⟩; rfl) | (rcases h with ⟨_, _, _, _, _, rfl, _⟩; rfl) | (rcases h with ⟨_, _, _, _, _, _, rfl, _⟩; rfl) | (rcases h with ⟨_, _, _, _, _, _, _, rfl, _⟩; rfl) | (rcases h with ⟨_, _, _, _, _, _, _, _, rfl, _⟩; rfl)) (fun f cdv A outer s H E hr => ps_law_whole T  f cdv A outer s H E hr) (rd_law_whole )
theorem sc_law_fraction : FnScope n_law_fraction ["_law_above", "_law_below"] (defScope s_law_fraction) := ⟨rfl, rfl, rfl, by decide +kernel, rfl, by decide +kernel, by decide +kernel⟩
theorem ps_law_fraction {P : Program} {w : World} {K : PySem.W.Frag} {mg : Str → Option Value} {base : Heap} {c : Cs} (T : Txt K mg c)  (f : Addr) (cdv : Value) (A : Around) (outer : List Env) (s : Shared) (H : Hp) (E : XK) (hr : Room 0 (A.deeper (envOfC "_law_fraction" (defScope s_law_fraction) s.heap.objs.size f cdv))) :
    PSs (cx0 P w K mg base n_law_fraction "_law_fraction" s_law_fraction f cdv A outer s H E) (defBody s_law_fraction) (t_law_fraction K c) := by
  unfold t_law_fraction
  exact (pss_cons (ps_if (pt_cmpR op_ltX (pv 1) pe_int (nomark _)) (pss_cons (ps_ret (pe_tup (pa_cons (pe_op op_subX pe_int (pv 0)) (pa_cons (pe_op op_subX pe_int (pv 1)) pa_nil))))
  pss_nil) pss_nil)
  (pss_cons (ps_ret (pe_tup (pa_cons (pv 0) (pa_cons (pv 1) pa_nil))))
  pss_nil))
theorem ok_law_fraction {P : Program} {w : World} {K : PySem.W.Frag} {mg : Str → Option Value} {base : Heap} {c : Cs} (T : Txt K mg c) : Okd P w K mg base CX0 1 "_law_fraction" ["_law_above", "_law_below"] (spD (S_law_fraction K c)) :=
  okd T.d_law_fraction sc_law_fraction (by intro Rs R h; first | (rcases h with ⟨_, rfl, _⟩; rfl) | (rcases h with ⟨_, _, rfl, _⟩; rfl) | (rcases h with ⟨_, _, _, rfl, _⟩; rfl) | (rcases h with ⟨_, _, _, _, rfl, _⟩; rfl) | (rcases h with ⟨_, _, _, _, _, rfl, _⟩; rfl) | (rcases h with ⟨_, _, _, _, _, _, rfl, _⟩; rfl) | (rcases h with ⟨_, _, _, _, _, _, _, rfl, _⟩; rfl) | (rcases h with ⟨_, _, _, _, _, _, _, _, rfl, _⟩; rfl)) (fun f cdv A outer s H E hr => ps_law_fraction T  f cdv A outer s H E hr) (rd_law_fraction )
theorem sc_law_fallen : FnScope n_law_fallen ["_law_one", "_law_two", "_law_three", "_law_pivot"] (defScope s_law_fallen) := ⟨rfl, rfl, rfl, by decide +kernel, rfl, by decide +kernel, by decide +kernel⟩
theorem ps_law_fallen {P : Program} {w : World} {K : PySem.W.Frag} {mg : Str → Option Value} {base : Heap} {c : Cs} (T : Txt K mg c) (O_law_fraction : Okd P w K mg base CX0 1 "_law_fraction" ["_law_above", "_law_below"] (spD (S_law_fraction K c))) (f : Addr) (cdv : Value) (A : Around) (outer : List Env) (s : Shared) (H : Hp) (E : XK) (hr : Room 1 (A.deeper (envOfC "_law_fallen" (defScope s_law_fallen) s.heap.objs.size f cdv))) :
    PSs (cx0 P w K mg base n_law_fallen "_law_fallen" s_law_fallen f cdv A outer s H E) (defBody s_law_fallen) (t_law_fallen K c) := by
  unfold t_law_fallen
  exact (pss_cons (ps_set (i := 4) sc_law_fallen.nd rfl (by first | exact Or.inl rfl | exact Or.inr rfl) (pe_op op_mulX (pe_op op_mulX (pe_op op_mulX (pe_ix ix_seq (pv 1) pe_int (fun _ _ => rfl)) (pe_ix ix_seq (pv 2) pe_int (fun _ _ => rfl))) (pe_ix ix_seq (pv 3) pe_int (fun _ _ => rfl))) (pe_ix ix_seq (pv 0) pe_int (fun _ _ => rfl))))
  (pss_cons (ps_set (i := 5) sc_law_fallen.nd rfl (by first | exact Or.inl rfl | exact Or.inr rfl) (pe_op op_mulX (pe_op op_mulX (pe_ix ix_seq (pv 1) pe_int (fun _ _ => rfl)) (pe_ix ix_seq (pv 2) pe_int (fun _ _ => rfl))) (pe_ix ix_seq (pv 3) pe_int (fun _ _ => rfl))))
  (pss_cons (ps_ret (pe_callD O_law_fraction hr pass0 (pa_cons (pe_op op_subX (pe_op op_mulX (pe_ix ix_seq (pv 0) pe_int (fun _ _ => rfl)) (pv 5)) (pv 4)) (pa_cons (pe_op op_mulX (pe_ix ix_seq (pv 0) pe_int (fun _ _ => rfl)) (pv 5)) pa_nil))))
  pss_nil)))
theorem ok_law_fallen {P : Program} {w : World} {K : PySem.W.Frag} {mg : Str → Option Value} {base : Heap} {c : Cs} (T : Txt K mg c) : Okd P w K mg base CX0 2 "_law_fallen" ["_law_one", "_law_two", "_law_three", "_law_pivot"] (spD (S_law_fallen K c)) :=
  okd T.d_law_fallen sc_law_fallen (by intro Rs R h; first | (rcases h with ⟨_, rfl, _⟩; rfl) | (rcases h with ⟨_, _, rfl, _⟩; rfl) | (rcases h with ⟨_, _, _, rfl, _⟩; rfl) | (rcases h with ⟨_, _, _, _, rfl, _⟩; rfl) | (rcases h with ⟨_, _, _, _, _, rfl, _⟩; rfl) | (rcases h with ⟨_, _, _, _, _, _, rfl, _⟩; rfl) | (rcases h with ⟨_, _, _, _, _, _, _, rfl, _⟩; rfl) | (rcases h with ⟨_, _, _, _, _, _, _, _, rfl, _⟩; rfl)) (fun f cdv A outer s H E hr => ps_law_fallen T (ok_law_fraction T) f cdv A outer s H E hr) (rd_law_fallen )
theorem sc_law_turned : FnScope n_law_turned ["_law_table", "_law_row", "_law_column"] (defScope s_law_turned) := ⟨rfl, rfl, rfl, by decide +kernel, rfl, by decide +kernel, by decide +kernel⟩
theorem ps_law_turned {P : Program} {w : World} {K : PySem.W.Frag} {mg : Str → Option Value} {base : Heap} {c : Cs} (T : Txt K mg c) (O_law_fraction : Okd P w K mg base CX0 1 "_law_fraction" ["_law_above", "_law_below"] (spD (S_law_fraction K c))) (O_law_fallen : Okd P w K mg base CX0 2 "_law_fallen" ["_law_one", "_law_two", "_law_three", "_law_pivot"] (spD (S_law_fallen K c))) (f : Addr) (cdv : Value) (A : Around) (outer : List Env) (s : Shared) (H : Hp) (E : XK) (hr : Room 2 (A.deeper (envOfC "_law_turned" (defScope s_law_turned) s.heap.objs.size f cdv))) :
    PSs (cx0 P w K mg base n_law_turned "_law_turned" s_law_turned f cdv A outer s H E) (defBody s_law_turned) (t_law_turned K c) := by
  unfold t_law_turned
  exact (pss_cons (ps_set (i := 3) sc_law_turned.nd rfl (by first | exact Or.inl rfl | exact Or.inr rfl) (pe_ix ix_seq (pe_ix ix_seq (pv 0) (pv 1) (fun _ _ => rfl)) (pv 2) (fun _ _ => rfl)))
  (pss_cons (ps_set (i := 4) sc_law_turned.nd rfl (by first | exact Or.inl rfl | exact Or.inr rfl) (pe_lst pa_nil))
  (pss_cons (ps_for PassesOwn.never rfl (pi_range1 rfl T.b_range (pa_cons (pe_callB call_lenX (by rfl) T.b_len b_len (pa_cons (pv 0) pa_nil)) pa_nil)) (pg_name (i := 5) sc_law_turned.nd rfl (by first | exact Or.inl rfl | exact Or.inr rfl)) (pss_cons (ps_set (i := 6) sc_law_turned.nd rfl (by first | exact Or.inl rfl | exact Or.inr rfl) (pe_lst pa_nil))
  (pss_cons (ps_for PassesOwn.never rfl (pi_range1 rfl T.b_range (pa_cons (pe_callB call_lenX (by rfl) T.b_len b_len (pa_cons (pe_ix ix_seq (pv 0) pe_int (fun _ _ => rfl)) pa_nil)) pa_nil)) (pg_name (i := 7) sc_law_turned.nd rfl (by first | exact Or.inl rfl | exact Or.inr rfl)) (pss_cons (ps_set (i := 8) sc_law_turned.nd rfl (by first | exact Or.inl rfl | exact Or.inr rfl) (pe_ix ix_seq (pe_ix ix_seq (pv 0) (pv 5) (fun _ _ => rfl)) (pv 7) (fun _ _ => rfl)))
  (pss_cons (ps_if (PW.pt (pw_and (pt_cmpR (op_eqX hr.units) (pv 5) (pv 1) (nomark _)) (pw_and1 (pt_cmpR (op_eqX hr.units) (pv 7) (pv 2) (nomark _))))) (pss_cons (ps_expr (pe_bm PySem.F.plainAttrs_list PySem.F.slot_list_append PySem.F.type_list_append mt_append (pv 6) (pa_cons (pe_callD O_law_fraction hr pass0 (pa_cons (pe_ix ix_seq (pv 3) pe_int (fun _ _ => rfl)) (pa_cons (pe_ix ix_seq (pv 3) pe_int (fun _ _ => rfl)) pa_nil))) pa_nil)))
  pss_nil) (pss_cons (ps_if (pt_cmpR (op_eqX hr.units) (pv 5) (pv 1) (nomark _)) (pss_cons (ps_expr (pe_bm PySem.F.plainAttrs_list PySem.F.slot_list_append PySem.F.type_list_append mt_append (pv 6) (pa_cons (pe_callD O_law_fraction hr pass0 (pa_cons (pe_op op_mulX (pe_ix ix_seq (pv 8) pe_int (fun _ _ => rfl)) (pe_ix ix_seq (pv 3) pe_int (fun _ _ => rfl))) (pa_cons (pe_op op_mulX (pe_ix ix_seq (pv 8) pe_int (fun _ _ => rfl)) (pe_ix ix_seq (pv 3) pe_int (fun _ _ => rfl))) pa_nil))) pa_nil)))
  pss_nil) (pss_cons (ps_if (pt_cmpR (op_eqX hr.units) (pv 7) (pv 2) (nomark _)) (pss_cons (ps_expr (pe_bm PySem.F.plainAttrs_list PySem.F.slot_list_append PySem.F.type_list_append mt_append (pv 6) (pa_cons (pe_callD O_law_fraction hr pass0 (pa_cons (pe_op op_subX pe_int (pe_op op_mulX (pe_ix ix_seq (pv 8) pe_int (fun _ _ => rfl)) (pe_ix ix_seq (pv 3) pe_int (fun _ _ => rfl)))) (pa_cons (pe_op op_mulX (pe_ix ix_seq (pv 8) pe_int (fun _ _ => rfl)) (pe_ix ix_seq (pv 3) pe_int (fun _ _ => rfl))) pa_nil))) pa_nil)))
  pss_nil) (pss_cons (ps_expr (pe_bm PySem.F.plainAttrs_list PySem.F.slot_list_append PySem.F.type_list_append mt_append (pv 6) (pa_cons (pe_callD O_law_fallen hr pass0 (pa_cons (pv 8) (pa_cons (pe_ix ix_seq (pe_ix ix_seq (pv 0) (pv 5) (fun _ _ => rfl)) (pv 2) (fun _ _ => rfl)) (pa_cons (pe_ix ix_seq (pe_ix ix_seq (pv 0) (pv 1) (fun _ _ => rfl)) (pv 7) (fun _ _ => rfl)) (pa_cons (pv 3) pa_nil))))) pa_nil)))
  pss_nil))
  pss_nil))
  pss_nil))
  pss_nil)))
  (pss_cons (ps_expr (pe_bm PySem.F.plainAttrs_list PySem.F.slot_list_append PySem.F.type_list_append mt_append (pv 4) (pa_cons (pv 6) pa_nil)))
  pss_nil))))
  (pss_cons (ps_ret (pv 4))
  pss_nil))))
theorem ok_law_turned {P : Program} {w : World} {K : PySem.W.Frag} {mg : Str → Option Value} {base : Heap} {c : Cs} (T : Txt K mg c) : Okd P w K mg base CX0 3 "_law_turned" ["_law_table", "_law_row", "_law_column"] (spD (S_law_turned K c)) :=
  okd T.d_law_turned sc_law_turned (by intro Rs R h; first | (rcases h with ⟨_, rfl, _⟩; rfl) | (rcases h with ⟨_, _, rfl, _⟩; rfl) | (rcases h with ⟨_, _, _, rfl, _⟩; rfl) | (rcases h with ⟨_, _, _, _, rfl, _⟩; rfl) | (rcases h with ⟨_, _, _, _, _, rfl, _⟩; rfl) | (rcases h with ⟨_, _, _, _, _, _, rfl, _⟩; rfl) | (rcases h with ⟨_, _, _, _, _, _, _, rfl, _⟩; rfl) | (rcases h with ⟨_, _, _, _, _, _, _, _, rfl, _⟩; rfl)) (fun f cdv A outer s H E hr => ps_law_turned T (ok_law_fraction T) (ok_law_fallen T) f cdv A outer s H E hr) (rd_law_turned )
theorem sc_law_alike : FnScope n_law_alike ["_law_table", "_law_scale", "_law_due"] (defScope s_law_alike) := ⟨rfl, rfl, rfl, by decide +kernel, rfl, by decide +kernel, by decide +kernel⟩
theorem ps_law_alike {P : Program} {w : World} {K : PySem.W.Frag} {mg : Str → Option Value} {base : Heap} {c : Cs} (T : Txt K mg c) (O_law_whole : Okd P w K mg base CX0 1 "_law_whole" ["_law_found"] (spD (S_law_whole K c))) (f : Addr) (cdv : Value) (A : Around) (outer : List Env) (s : Shared) (H : Hp) (E : XK) (hr : Room 1 (A.deeper (envOfC "_law_alike" (defScope s_law_alike) s.heap.objs.size f cdv))) :
    PSs (cx0 P w K mg base n_law_alike "_law_alike" s_law_alike f cdv A outer s H E) (defBody s_law_alike) (t_law_alike K c) := by
  unfold t_law_alike
  exact (pss_cons (ps_if (PW.pt (pw_or (pt_not (pt_val (pe_callB call_isi (by rfl) T.b_isinstance b_isi (pa_cons (pv 0) (pa_cons (pe_bltn (v := .ty "list") (by rfl) T.b_list b_list rfl) pa_nil))))) (pw_or (pt_cmpR (op_neX hr.units) (pe_callB call_lenX (by rfl) T.b_len b_len (pa_cons (pv 0) pa_nil)) (pe_callB call_lenX (by rfl) T.b_len b_len (pa_cons (pv 2) pa_nil)) (nomark _)) (pw_or (pt_not (pt_val (pe_callD O_law_whole hr pass0 (pa_cons (pv 1) pa_nil)))) (pw_or1 (pt_cmpR op_ltX (pv 1) pe_int (nomark _))))))) (pss_cons (ps_ret pe_bl)
  pss_nil) pss_nil)
  (pss_cons (ps_for PassesOwn.never rfl (pi_range1 rfl T.b_range (pa_cons (pe_callB call_lenX (by rfl) T.b_len b_len (pa_cons (pv 2) pa_nil)) pa_nil)) (pg_name (i := 3) sc_law_alike.nd rfl (by first | exact Or.inl rfl | exact Or.inr rfl)) (pss_cons (ps_if (PW.pt (pw_or (pt_not (pt_val (pe_callB call_isi (by rfl) T.b_isinstance b_isi (pa_cons (pe_ix ix_seq (pv 0) (pv 3) (fun _ _ => rfl)) (pa_cons (pe_bltn (v := .ty "list") (by rfl) T.b_list b_list rfl) pa_nil))))) (pw_or1 (pt_cmpR (op_neX hr.units) (pe_callB call_lenX (by rfl) T.b_len b_len (pa_cons (pe_ix ix_seq (pv 0) (pv 3) (fun _ _ => rfl)) pa_nil)) (pe_callB call_lenX (by rfl) T.b_len b_len (pa_cons (pe_ix ix_seq (pv 2) (pv 3) (fun _ _ => rfl)) pa_nil)) (nomark _))))) (pss_cons (ps_ret pe_bl)
  pss_nil) pss_nil)
  (pss_cons (ps_for PassesOwn.never rfl (pi_range1 rfl T.b_range (pa_cons (pe_callB call_lenX (by rfl) T.b_len b_len (pa_cons (pe_ix ix_seq (pv 2) (pv 3) (fun _ _ => rfl)) pa_nil)) pa_nil)) (pg_name (i := 4) sc_law_alike.nd rfl (by first | exact Or.inl rfl | exact Or.inr rfl)) (pss_cons (ps_set (i := 5) sc_law_alike.nd rfl (by first | exact Or.inl rfl | exact Or.inr rfl) (pe_ix ix_seq (pe_ix ix_seq (pv 0) (pv 3) (fun _ _ => rfl)) (pv 4) (fun _ _ => rfl)))
  (pss_cons (ps_if (PW.pt (pw_or (pt_not (pt_val (pe_callD O_law_whole hr pass0 (pa_cons (pv 5) pa_nil)))) (pw_or1 (pt_cmpR (op_neX hr.units) (pe_op op_mulX (pv 5) (pe_ix ix_seq (pe_ix ix_seq (pe_ix ix_seq (pv 2) (pv 3) (fun _ _ => rfl)) (pv 4) (fun _ _ => rfl)) pe_int (fun _ _ => rfl))) (pe_op op_mulX (pe_ix ix_seq (pe_ix ix_seq (pe_ix ix_seq (pv 2) (pv 3) (fun _ _ => rfl)) (pv 4) (fun _ _ => rfl)) pe_int (fun _ _ => rfl)) (pv 1)) (nomark _))))) (pss_cons (ps_ret pe_bl)
  pss_nil) pss_nil)
  pss_nil)))
  pss_nil)))
  (pss_cons (ps_ret pe_bl)
  pss_nil)))
theorem ok_law_alike {P : Program} {w : World} {K : PySem.W.Frag} {mg : Str → Option Value} {base : Heap} {c : Cs} (T : Txt K mg c) : Okd P w K mg base CX0 2 "_law_alike" ["_law_table", "_law_scale", "_law_due"] (spD (S_law_alike K c)) :=
  okd T.d_law_alike sc_law_alike (by intro Rs R h; first | (rcases h with ⟨_, rfl, _⟩; rfl) | (rcases h with ⟨_, _, rfl, _⟩; rfl) | (rcases h with ⟨_, _, _, rfl, _⟩; rfl) | (rcases h with ⟨_, _, _, _, rfl, _⟩; rfl) | (rcases h with ⟨_, _, _, _, _, rfl, _⟩; rfl) | (rcases h with ⟨_, _, _, _, _, _, rfl, _⟩; rfl) | (rcases h with ⟨_, _, _, _, _, _, _, rfl, _⟩; rfl) | (rcases h with ⟨_, _, _, _, _, _, _, _, rfl, _⟩; rfl)) (fun f cdv A outer s H E hr => ps_law_alike T (ok_law_whole T) f cdv A outer s H E hr) (rd_law_alike )
theorem sc_law_refused : FnScope n_law_refused ["_law_table", "_law_scale", "_law_row", "_law_column"] (defScope s_law_refused) := ⟨rfl, rfl, rfl, by decide +kernel, rfl, by decide +kernel, by decide +kernel⟩
theorem ps_law_refused {P : Program} {w : World} {K : PySem.W.Frag} {mg : Str → Option Value} {base : Heap} {c : Cs} (T : Txt K mg c) (O_turned : Okd P w K mg base (L2.CX P w) 2 "turned" ["table", "scale", "row", "column"] (spX (S_turned K c) (SE_turned K c))) (f : Addr) (cdv : Value) (A : Around) (outer : List Env) (s : Shared) (H : Hp) (E : XK) (hr : Room 2 (A.deeper (envOfC "_law_refused" (defScope s_law_refused) s.heap.objs.size f cdv))) :
    PSs (cx0 P w K mg base n_law_refused "_law_refused" s_law_refused f cdv A outer s H E) (defBody s_law_refused) (t_law_refused K c) := by
  unfold t_law_refused
  exact (pss_cons (ps_tryD (i := 4) (tb := fun W => (tSeq (tDrop (tCallS (spX (S_turned K c) (SE_turned K c)) (WE W) (tCons (tVar 0) (tCons (tVar 1) (tCons (tVar 2) (tCons (tVar 3) tNil))))))
  tNext)) (ts := fun a => (tSeq (tIfS (tOr (tB (tCB (rIsE K c.NoTurn a) (tCons (tVar 4) (tCons (tC (.ref c.BadPoint)) tNil)))) (tOr (tB (tCB (rIsE K c.NoTurn a) (tCons (tVar 4) (tCons (tC (.ref c.BadBox)) tNil)))) (tB (tCB (rIsE K c.NoTurn a) (tCons (tVar 4) (tCons (tC (.ref c.BadWeights)) tNil)))))) (tSeq (tRet (tC (.bl false)))
  tNext) tNext)
  (tSeq (tIfS (tOr (tB (tCB (rIsE K c.NoTurn a) (tCons (tVar 4) (tCons (tC (.ref c.BadProblem)) tNil)))) (tB (tCB (rIsE K c.NoTurn a) (tCons (tVar 4) (tCons (tC (.ref c.BadText)) tNil))))) (tSeq (tRet (tC (.bl false)))
  tNext) tNext)
  (tSeq (tRet (tAndV (tCB (rIsE K c.NoTurn a) (tCons (tVar 4) (tCons (tC (.ref c.CutError)) tNil))) (tCB (rIsE K c.NoTurn a) (tCons (tVar 4) (tCons (tC (.ty "ValueError")) tNil)))))
  tNext)))) T.g_NoTurn T.ec_NoTurn (fun W pn xe tk => (pss_cons (ps_expr (pe_callW O_turned hr tk (pa_cons (pv 0) (pa_cons (pv 1) (pa_cons (pv 2) (pa_cons (pv 3) pa_nil))))))
  pss_nil)) (fun a oe pn hz hf => (pss_cons (ps_if (PW.pt (pw_or (pt_val (pe_isEC T.ec_NoTurn hz hf (pv 4) T.g_BadPoint T.b_isinstance)) (pw_or (pt_val (pe_isEC T.ec_NoTurn hz hf (pv 4) T.g_BadBox T.b_isinstance)) (pw_or1 (pt_val (pe_isEC T.ec_NoTurn hz hf (pv 4) T.g_BadWeights T.b_isinstance)))))) (pss_cons (ps_ret pe_bl)
  pss_nil) pss_nil)
  (pss_cons (ps_if (PW.pt (pw_or (pt_val (pe_isEC T.ec_NoTurn hz hf (pv 4) T.g_BadProblem T.b_isinstance)) (pw_or1 (pt_val (pe_isEC T.ec_NoTurn hz hf (pv 4) T.g_BadText T.b_isinstance))))) (pss_cons (ps_ret pe_bl)
  pss_nil) pss_nil)
  (pss_cons (ps_ret (pe_and (pe_isEC T.ec_NoTurn hz hf (pv 4) T.g_CutError T.b_isinstance) (pe_one (pe_isET T.ec_NoTurn hz hf (pv 4) T.b_ValueError b_VE T.b_isinstance))))
  pss_nil)))) (hN := sc_law_refused.nd))
  (pss_cons (ps_ret pe_bl)
  pss_nil))
theorem ok_law_refused {P : Program} {w : World} {K : PySem.W.Frag} {mg : Str → Option Value} {base : Heap} {c : Cs} (T : Txt K mg c) : Okd P w K mg base CX0 3 "_law_refused" ["_law_table", "_law_scale", "_law_row", "_law_column"] (spD (S_law_refused K c)) :=
  okd T.d_law_refused sc_law_refused (by intro Rs R h; first | (rcases h with ⟨_, rfl, _⟩; rfl) | (rcases h with ⟨_, _, rfl, _⟩; rfl) | (rcases h with ⟨_, _, _, rfl, _⟩; rfl) | (rcases h with ⟨_, _, _, _, rfl, _⟩; rfl) | (rcases h with ⟨_, _, _, _, _, rfl, _⟩; rfl) | (rcases h with ⟨_, _, _, _, _, _, rfl, _⟩; rfl) | (rcases h with ⟨_, _, _, _, _, _, _, rfl, _⟩; rfl) | (rcases h with ⟨_, _, _, _, _, _, _, _, rfl, _⟩; rfl)) (fun f cdv A outer s H E hr => ps_law_refused T (ok_turned T) f cdv A outer s H E hr) (rd_law_refused T.ke_NoTurn)
theorem sc_law : FnScope n_law ["_law_script"] (defScope s_law) := ⟨rfl, rfl, rfl, by decide +kernel, rfl, by decide +kernel, by decide +kernel⟩
theorem ps_law {P : Program} {w : World} {K : PySem.W.Frag} {mg : Str → Option Value} {base : Heap} {c : Cs} (T : Txt K mg c) (O_law_alike : Okd P w K mg base CX0 2 "_law_alike" ["_law_table", "_law_scale", "_law_due"] (spD (S_law_alike K c))) (O_law_turned : Okd P w K mg base CX0 3 "_law_turned" ["_law_table", "_law_row", "_law_column"] (spD (S_law_turned K c))) (O_turned : Okd P w K mg base (L2.CX P w) 2 "turned" ["table", "scale", "row", "column"] (spX (S_turned K c) (SE_turned K c))) (O_law_refused : Okd P w K mg base CX0 3 "_law_refused" ["_law_table", "_law_scale", "_law_row", "_law_column"] (spD (S_law_refused K c))) (O_law_cell_at : Okd P w K mg base CX0 1 "_law_cell_at" ["_law_script", "_law_k"] (spD (S_law_cell_at K c))) (f : Addr) (cdv : Value) (A : Around) (outer : List Env) (s : Shared) (H : Hp) (E : XK) (hr : Room 3 (A.deeper (envOfC "law" (defScope s_law) s.heap.objs.size f cdv))) :
    PSs (cx0 P w K mg base n_law "law" s_law f cdv A outer s H E) (defBody s_law) (t_law K c) := by
  unfold t_law
  exact (pss_cons (ps_set (i := 1) sc_law.nd rfl (by first | exact Or.inl rfl | exact Or.inr rfl) (pe_callD O_law_cell_at hr pass0 (pa_cons (pv 0) (pa_cons pe_int pa_nil))))
  (pss_cons (ps_set (i := 2) sc_law.nd rfl (by first | exact Or.inl rfl | exact Or.inr rfl) (pe_op op_addX pe_int (pe_op op_modX (pv 1) pe_int)))
  (pss_cons (ps_set (i := 3) sc_law.nd rfl (by first | exact Or.inl rfl | exact Or.inr rfl) (pe_op op_addX pe_int (pe_op op_modX (pe_op op_divX (pv 1) pe_int) pe_int)))
  (pss_cons (ps_set (i := 4) sc_law.nd rfl (by first | exact Or.inl rfl | exact Or.inr rfl) pe_int)
  (pss_cons (ps_if (pt_cmpR (op_eqX hr.units) (pe_op op_modX (pe_op op_divX (pv 1) pe_int) pe_int) pe_int (nomark _)) (pss_cons (ps_set (i := 4) sc_law.nd rfl (by first | exact Or.inl rfl | exact Or.inr rfl) pe_int)
  pss_nil) pss_nil)
  (pss_cons (ps_set (i := 5) sc_law.nd rfl (by first | exact Or.inl rfl | exact Or.inr rfl) (pe_lst pa_nil))
  (pss_cons (ps_for PassesOwn.never rfl (pi_range1 rfl T.b_range (pa_cons (pv 2) pa_nil)) (pg_name (i := 6) sc_law.nd rfl (by first | exact Or.inl rfl | exact Or.inr rfl)) (pss_cons (ps_expr (pe_bm PySem.F.plainAttrs_list PySem.F.slot_list_append PySem.F.type_list_append mt_append (pv 5) (pa_cons (pe_lc (own := [("_law_k", 16)]) (g := (gName 16)) (tt := tYes) rfl sc_law.nd (pi_range1 rfl T.b_range (pa_cons (pv 3) pa_nil)) (blkOk_by (N := n_law) (sc := defScope s_law) (by decide +kernel)) (fun _ _ _ _ _ => (pg_name (i := 16) sc_law.nd rfl (by first | exact Or.inl rfl | exact Or.inr rfl))) (fun _ _ _ _ _ => pts_nil) (fun _ _ _ _ _ => (pe_op op_subX (pe_op op_modX (pe_callD O_law_cell_at hr pass0 (pa_cons (pv 0) (pa_cons (pe_op op_addX (pe_op op_addX pe_int (pe_op op_mulX pe_int (pv 6))) (pv 16)) pa_nil))) (pe_op op_addX (pe_op op_mulX pe_int (pv 4)) pe_int)) (pv 4)))) pa_nil)))
  pss_nil))
  (pss_cons (ps_set (i := 7) sc_law.nd rfl (by first | exact Or.inl rfl | exact Or.inr rfl) pe_int)
  (pss_cons (ps_set (i := 8) sc_law.nd rfl (by first | exact Or.inl rfl | exact Or.inr rfl) (pe_lst pa_nil))
  (pss_cons (ps_for PassesOwn.never rfl (pi_list (pv 5)) (pg_name (i := 9) sc_law.nd rfl (by first | exact Or.inl rfl | exact Or.inr rfl)) (pss_cons (ps_expr (pe_bm PySem.F.plainAttrs_list PySem.F.slot_list_append PySem.F.type_list_append mt_append (pv 8) (pa_cons (pe_lc (own := [("_law_number", 17)]) (g := (gName 17)) (tt := tYes) rfl sc_law.nd (pi_list (pv 9)) (blkOk_by (N := n_law) (sc := defScope s_law) (by decide +kernel)) (fun _ _ _ _ _ => (pg_name (i := 17) sc_law.nd rfl (by first | exact Or.inl rfl | exact Or.inr rfl))) (fun _ _ _ _ _ => pts_nil) (fun _ _ _ _ _ => (pe_tup (pa_cons (pv 17) (pa_cons pe_int pa_nil))))) pa_nil)))
  pss_nil))
  (pss_cons (ps_for PassesOwn.never rfl (pi_range1 rfl T.b_range (pa_cons (pe_op op_modX (pe_op op_divX (pv 1) pe_int) pe_int) pa_nil)) (pg_name (i := 10) sc_law.nd rfl (by first | exact Or.inl rfl | exact Or.inr rfl)) (pss_cons (ps_set (i := 11) sc_law.nd rfl (by first | exact Or.inl rfl | exact Or.inr rfl) (pe_callD O_law_cell_at hr pass0 (pa_cons (pv 0) (pa_cons (pe_op op_addX pe_int (pv 10)) pa_nil))))
  (pss_cons (ps_set (i := 12) sc_law.nd rfl (by first | exact Or.inl rfl | exact Or.inr rfl) (pe_op op_modX (pv 11) (pv 2)))
  (pss_cons (ps_set (i := 13) sc_law.nd rfl (by first | exact Or.inl rfl | exact Or.inr rfl) (pe_op op_modX (pe_op op_divX (pv 11) pe_int) (pv 3)))
  (pss_cons (ps_setLc (i := 14) (own := [("_law_line", 9)]) (g := (gName 9)) (tt := tYes) rfl sc_law.nd rfl rfl (sw_true rfl rfl rfl (by decide +kernel)) (pi_list (pv 5)) (blkOk_by (N := n_law) (sc := defScope s_law) (by decide +kernel)) (fun _ _ _ _ _ => (pg_name (i := 9) sc_law.nd rfl (by first | exact Or.inl rfl | exact Or.inr rfl))) (fun _ _ _ _ _ => pts_nil) (fun _ _ _ _ _ => (pe_callTy call_listX (by rfl) T.b_list b_list (pa_cons (pv 9) pa_nil))))
  (pss_cons (ps_if (pt_cmpR (op_eqX hr.units) (pe_ix ix_seq (pe_ix ix_seq (pe_ix ix_seq (pv 8) (pv 12) (fun _ _ => rfl)) (pv 13) (fun _ _ => rfl)) pe_int (fun _ _ => rfl)) pe_int (nomark _)) (pss_cons (ps_ret (pe_and (pe_callD O_law_refused hr pass0 (pa_cons (pv 14) (pa_cons (pv 7) (pa_cons (pv 12) (pa_cons (pv 13) pa_nil))))) (pe_one (pe_cmpR (op_eqX hr.units) (pv 14) (pv 5) (nomark _)))))
  pss_nil) pss_nil)
  (pss_cons (ps_set (i := 15) sc_law.nd rfl (by first | exact Or.inl rfl | exact Or.inr rfl) (pe_callD O_turned hr passL (pa_cons (pv 14) (pa_cons (pv 7) (pa_cons (pv 12) (pa_cons (pv 13) pa_nil))))))
  (pss_cons (ps_if (PW.pt (pw_or (pt_not (pt_val (pe_callB call_isi (by rfl) T.b_isinstance b_isi (pa_cons (pv 15) (pa_cons (pe_bltn (v := .ty "tuple") (by rfl) T.b_tuple b_tuple rfl) pa_nil))))) (pw_or (pt_cmpR (op_neX hr.units) (pe_callB call_lenX (by rfl) T.b_len b_len (pa_cons (pv 15) pa_nil)) pe_int (nomark _)) (pw_or1 (pt_cmpR (op_neX hr.units) (pv 14) (pv 5) (nomark _)))))) (pss_cons (ps_ret pe_bl)
  pss_nil) pss_nil)
  (pss_cons (ps_set (i := 8) sc_law.nd rfl (by first | exact Or.inl rfl | exact Or.inr rfl) (pe_callD O_law_turned hr pass0 (pa_cons (pv 8) (pa_cons (pv 12) (pa_cons (pv 13) pa_nil)))))
  (pss_cons (ps_if (pt_not (pt_val (pe_callD O_law_alike hr pass0 (pa_cons (pe_ix ix_seq (pv 15) pe_int (fun _ _ => rfl)) (pa_cons (pe_ix ix_seq (pv 15) pe_int (fun _ _ => rfl)) (pa_cons (pv 8) pa_nil)))))) (pss_cons (ps_ret pe_bl)
  pss_nil) pss_nil)
  (pss_cons (ps_setLc (i := 5) (own := [("_law_line", 9)]) (g := (gName 9)) (tt := tYes) rfl sc_law.nd rfl rfl (sw_true rfl rfl rfl (by decide +kernel)) (pi_list (pe_ix ix_seq (pv 15) pe_int (fun _ _ => rfl))) (blkOk_by (N := n_law) (sc := defScope s_law) (by decide +kernel)) (fun _ _ _ _ _ => (pg_name (i := 9) sc_law.nd rfl (by first | exact Or.inl rfl | exact Or.inr rfl))) (fun _ _ _ _ _ => pts_nil) (fun _ _ _ _ _ => (pe_callTy call_listX (by rfl) T.b_list b_list (pa_cons (pv 9) pa_nil))))
  (pss_cons (ps_set (i := 7) sc_law.nd rfl (by first | exact Or.inl rfl | exact Or.inr rfl) (pe_ix ix_seq (pv 15) pe_int (fun _ _ => rfl)))
  pss_nil))))))))))))
  (pss_cons (ps_ret pe_bl)
  pss_nil))))))))))))
theorem ok_law {P : Program} {w : World} {K : PySem.W.Frag} {mg : Str → Option Value} {base : Heap} {c : Cs} (T : Txt K mg c) {f : Addr} {fd : FuncData} (F : Fun K "law" "law" s_law f fd) : FnOk P w K mg base CX0 4 f fd ["_law_script"] (spD (S_law K c)) :=
  okf F sc_law (by intro Rs R h; first | (rcases h with ⟨_, rfl, _⟩; rfl) | (rcases h with ⟨_, _, rfl, _⟩; rfl) | (rcases h with ⟨_, _, _, rfl, _⟩; rfl) | (rcases h with ⟨_, _, _, _, rfl, _⟩; rfl) | (rcases h with ⟨_, _, _, _, _, rfl, _⟩; rfl) | (rcases h with ⟨_, _, _, _, _, _, rfl, _⟩; rfl) | (rcases h with ⟨_, _, _, _, _, _, _, rfl, _⟩; rfl) | (rcases h with ⟨_, _, _, _, _, _, _, _, rfl, _⟩; rfl)) (fun f cdv A outer s H E hr => ps_law T (ok_law_alike T) (ok_law_turned T) (ok_turned T) (ok_law_refused T) (ok_law_cell_at T) f cdv A outer s H E hr) (rd_law )
theorem fin {P : Program} {w : World} {K : PySem.W.Frag} {h : Heap} {mg : Str → Option Value} {fa : Addr} (X : K.In h) (G : h.Ns mainGlobals mg) (hfa : mg "law" = some (.ref fa)) {C_BadProblem : Addr} {C_BadPoint : Addr} {C_BadBox : Addr} {C_BadWeights : Addr} {C_NoTurn : Addr} {C_BadText : Addr} {C_CutError : Addr}
    (b_abs : PySem.W.nsIn K mainGlobals "abs" = some none)
    (b_bool : PySem.W.nsIn K mainGlobals "bool" = some none)
    (b_int : PySem.W.nsIn K mainGlobals "int" = some none)
    (b_isinstance : PySem.W.nsIn K mainGlobals "isinstance" = some none)
    (b_len : PySem.W.nsIn K mainGlobals "len" = some none)
    (b_list : PySem.W.nsIn K mainGlobals "list" = some none)
    (b_range : PySem.W.nsIn K mainGlobals "range" = some none)
    (b_tuple : PySem.W.nsIn K mainGlobals "tuple" = some none)
    (b_zip : PySem.W.nsIn K mainGlobals "zip" = some none)
    (b_ValueError : PySem.W.nsIn K mainGlobals "ValueError" = some none)
    (g_BadProblem : PySem.W.nsIn K mainGlobals "BadProblem" = some (some (.ref C_BadProblem)))
    (g_BadPoint : PySem.W.nsIn K mainGlobals "BadPoint" = some (some (.ref C_BadPoint)))
    (g_BadBox : PySem.W.nsIn K mainGlobals "BadBox" = some (some (.ref C_BadBox)))
    (g_BadWeights : PySem.W.nsIn K mainGlobals "BadWeights" = some (some (.ref C_BadWeights)))
    (g_NoTurn : PySem.W.nsIn K mainGlobals "NoTurn" = some (some (.ref C_NoTurn)))
    (g_BadText : PySem.W.nsIn K mainGlobals "BadText" = some (some (.ref C_BadText)))
    (g_CutError : PySem.W.nsIn K mainGlobals "CutError" = some (some (.ref C_CutError)))
    (x_NoTurn : PySem.W.excIn K C_NoTurn [.type "ValueError", .type "Exception", .type "BaseException", .type "object"] "ValueError.__new__" = true)
    (k_NoTurn : PySem.W.keepIn K (.ref C_NoTurn) = true)
    (bx_NoTurn : PySem.W.subIn K (.ref C_NoTurn) (.type "BaseException") = some true)
    (tx_NoTurn : PySem.W.typeIn K (.ref C_NoTurn) = some (.type "type"))
    (ea_NoTurn : PySem.W.findIn K (.ref C_NoTurn) "__getattribute__" = some (some (.builtin "BaseException.__getattribute__")))
    (eb_NoTurn : PySem.W.findIn K (.ref C_NoTurn) "__getattr__" = some none)
    (ed_NoTurn : PySem.W.subIn K (.ref C_NoTurn) (.type "BaseException") = some true)
    (ee_NoTurn : PySem.W.hasDictIn K C_NoTurn = true)
    (ef_NoTurn : PySem.W.findIn K (.ref C_NoTurn) "__class__" = some (some (.builtin "object.__class__")))
    (eg_NoTurn : PySem.W.specialIn K (.builtin "object.__class__") "__get__" = some (some (.builtin "getset_descriptor.__get__")))
    (eh_NoTurn : PySem.W.takesIn K (.builtin "object.__class__") = some true)
    (ei_NoTurn : PySem.W.mroIn K C_NoTurn (.type "object") = some true)
    (ej_NoTurn : PySem.W.exmOne K (.ref C_NoTurn) (.ref C_NoTurn) = some true)
    (ek_NoTurn : PySem.W.kitOne K (.ref C_NoTurn) (.ref C_CutError) = some true)
    (el_NoTurn : PySem.W.kitOne K (.ref C_NoTurn) (.type "ValueError") = some true)
    (em_BadProblem_NoTurn : PySem.W.kitOne K (.ref C_NoTurn) (.ref C_BadProblem) = some false)
    (em_BadPoint_NoTurn : PySem.W.kitOne K (.ref C_NoTurn) (.ref C_BadPoint) = some false)
    (em_BadBox_NoTurn : PySem.W.kitOne K (.ref C_NoTurn) (.ref C_BadBox) = some false)
    (em_BadWeights_NoTurn : PySem.W.kitOne K (.ref C_NoTurn) (.ref C_BadWeights) = some false)
    (em_BadText_NoTurn : PySem.W.kitOne K (.ref C_NoTurn) (.ref C_BadText) = some false)
    (d_turned_line : DefK K "turned_line" s_turned_line)
    (d_turned : DefK K "turned" s_turned)
    (d_law_cell_at : DefK K "_law_cell_at" s_law_cell_at)
    (d_law_whole : DefK K "_law_whole" s_law_whole)
    (d_law_fraction : DefK K "_law_fraction" s_law_fraction)
    (d_law_fallen : DefK K "_law_fallen" s_law_fallen)
    (d_law_turned : DefK K "_law_turned" s_law_turned)
    (d_law_alike : DefK K "_law_alike" s_law_alike)
    (d_law_refused : DefK K "_law_refused" s_law_refused)
    (d_law : DefK K "law" s_law) :
    ∃ fd : FuncData, (∀ (s : Shared) (v : Value), BindsTo s fd ⟨[v], []⟩ [("_law_script", v)]) ∧ ∀ base : Heap, K.In base → base.Ns mainGlobals mg → FnOk P w K mg base CX0 4 fa fd ["_law_script"] (spD (S_law K cs0)) := by
  have T : Txt K mg { Problem := 0, Tableau := 0, Search := 0, CutError := C_CutError, BadProblem := C_BadProblem, BadPoint := C_BadPoint, BadBox := C_BadBox, BadWeights := C_BadWeights, NoTurn := C_NoTurn, BadText := C_BadText } := { b_abs := PySem.W.mg_none_of X G b_abs, b_bool := PySem.W.mg_none_of X G b_bool, b_int := PySem.W.mg_none_of X G b_int, b_isinstance := PySem.W.mg_none_of X G b_isinstance, b_len := PySem.W.mg_none_of X G b_len, b_list := PySem.W.mg_none_of X G b_list, b_range := PySem.W.mg_none_of X G b_range, b_tuple := PySem.W.mg_none_of X G b_tuple, b_zip := PySem.W.mg_none_of X G b_zip, b_ValueError := PySem.W.mg_none_of X G b_ValueError, g_BadProblem := PySem.W.mg_of X G g_BadProblem, g_BadPoint := PySem.W.mg_of X G g_BadPoint, g_BadBox := PySem.W.mg_of X G g_BadBox, g_BadWeights := PySem.W.mg_of X G g_BadWeights, g_NoTurn := PySem.W.mg_of X G g_NoTurn, g_BadText := PySem.W.mg_of X G g_BadText, g_CutError := PySem.W.mg_of X G g_CutError, x_NoTurn := x_NoTurn, k_NoTurn := k_NoTurn, bx_NoTurn := bx_NoTurn, tx_NoTurn := tx_NoTurn, ec_NoTurn := ⟨ea_NoTurn, eb_NoTurn, ed_NoTurn, ee_NoTurn, ef_NoTurn, eg_NoTurn, eh_NoTurn, ei_NoTurn⟩, ke_NoTurn := ⟨ej_NoTurn, fun a ha => by simp only [List.mem_cons, List.not_mem_nil, or_false] at ha; rcases ha with rfl | rfl | rfl | rfl | rfl <;> assumption, ek_NoTurn, el_NoTurn⟩, d_turned_line := def_of X G d_turned_line (fun _ _ _ _ _ _ us hl => match us, hl with | [_, _, _, _, _], _ => rfl), d_turned := def_of X G d_turned (fun _ _ _ _ _ _ us hl => match us, hl with | [_, _, _, _], _ => rfl), d_law_cell_at := def_of X G d_law_cell_at (fun _ _ _ _ _ _ us hl => match us, hl with | [_, _], _ => rfl), d_law_whole := def_of X G d_law_whole (fun _ _ _ _ _ _ us hl => match us, hl with | [_], _ => rfl), d_law_fraction := def_of X G d_law_fraction (fun _ _ _ _ _ _ us hl => match us, hl with | [_, _], _ => rfl), d_law_fallen := def_of X G d_law_fallen (fun _ _ _ _ _ _ us hl => match us, hl with | [_, _, _, _], _ => rfl), d_law_turned := def_of X G d_law_turned (fun _ _ _ _ _ _ us hl => match us, hl with | [_, _, _], _ => rfl), d_law_alike := def_of X G d_law_alike (fun _ _ _ _ _ _ us hl => match us, hl with | [_, _, _], _ => rfl), d_law_refused := def_of X G d_law_refused (fun _ _ _ _ _ _ us hl => match us, hl with | [_, _, _, _], _ => rfl), d_law := def_of X G d_law (fun _ _ _ _ _ _ us hl => match us, hl with | [_], _ => rfl) }
  exact fin_of X G hfa d_law (fun _ _ _ _ _ _ _ => rfl) fun base f fd F => ok_law T F
end D
open PySem PySem.W PyProof.Rows
set_option maxRecDepth 100000 in
set_option maxHeartbeats 0 in
theorem PySem.Challenge.cw_wholecut_k05_tables_turned_holds : PySem.Challenge.rw_wholecut_k05_tables_turned.Holds := by
  w_on; o_law; k_head; (case hw => w_witness2)
  k_fill
  refine L2.walk_of (l := PySem.Challenge.rw_wholecut_k05_tables_turned) (n := 63) (k := 4) (x := "_law_script") (CX := fun _ => L2.CX0) (sp := fun w => D.spD (D.S_law _ D.cs0)) rfl (by decide) rfl ⟨rfl, by decide, by decide⟩ (fun w h Y => PySem.W.kIn_of Y) ?F (fun _ _ a ns hl _ hS => D.sp_law_of hl hS) fun _ _ _ _ _ z => z
  case F =>
    intro w mg fa h KX G hmg
    refine' D.fin KX G hmg ?b_abs ?b_bool ?b_int ?b_isinstance ?b_len ?b_list ?b_range ?b_tuple ?b_zip ?b_ValueError ?g_BadProblem ?g_BadPoint ?g_BadBox ?g_BadWeights ?g_NoTurn ?g_BadText ?g_CutError ?x_NoTurn ?k_NoTurn ?bx_NoTurn ?tx_NoTurn ?ea_NoTurn ?eb_NoTurn ?ed_NoTurn ?ee_NoTurn ?ef_NoTurn ?eg_NoTurn ?eh_NoTurn ?ei_NoTurn ?ej_NoTurn ?ek_NoTurn ?el_NoTurn ?em_BadProblem_NoTurn ?em_BadPoint_NoTurn ?em_BadBox_NoTurn ?em_BadWeights_NoTurn ?em_BadText_NoTurn ?d_turned_line ?d_turned ?d_law_cell_at ?d_law_whole ?d_law_fraction ?d_law_fallen ?d_law_turned ?d_law_alike ?d_law_refused ?d_law
    (case b_abs => k_is)
    (case b_bool => k_is)
    (case b_int => k_is)
    (case b_isinstance => k_is)
    (case b_len => k_is)
    (case b_list => k_is)
    (case b_range => k_is)
    (case b_tuple => k_is)
    (case b_zip => k_is)
    (case b_ValueError => k_is)
    (case g_BadProblem => k_is)
    (case g_BadPoint => k_is)
    (case g_BadBox => k_is)
    (case g_BadWeights => k_is)
    (case g_NoTurn => k_is)
    (case g_BadText => k_is)
    (case g_CutError => k_is)
    (case x_NoTurn => k_exc)
    (case k_NoTurn => k_is)
    (case bx_NoTurn => k_is)
    (case tx_NoTurn => k_is)
    (case ea_NoTurn => k_is)
    (case eb_NoTurn => k_is)
    (case ed_NoTurn => k_is)
    (case ee_NoTurn => k_is)
    (case ef_NoTurn => k_is)
    (case eg_NoTurn => k_is)
    (case eh_NoTurn => k_is)
    (case ei_NoTurn => k_is)
    (case ej_NoTurn => kernel_rfl)
    (case ek_NoTurn => kernel_rfl)
    (case el_NoTurn => kernel_rfl)
    (case em_BadProblem_NoTurn => kernel_rfl)
    (case em_BadPoint_NoTurn => kernel_rfl)
    (case em_BadBox_NoTurn => kernel_rfl)
    (case em_BadWeights_NoTurn => kernel_rfl)
    (case em_BadText_NoTurn => kernel_rfl)
    (case d_turned_line => (refine' D.DefK.mk_ ?a ?l ?c ?k; (case a => k_is); (case l => k_is); (case c => k_is); (case k => k_is)))
    (case d_turned => (refine' D.DefK.mk_ ?a ?l ?c ?k; (case a => k_is); (case l => k_is); (case c => k_is); (case k => k_is)))
    (case d_law_cell_at => (refine' D.DefK.mk_ ?a ?l ?c ?k; (case a => k_is); (case l => k_is); (case c => k_is); (case k => k_is)))
    (case d_law_whole => (refine' D.DefK.mk_ ?a ?l ?c ?k; (case a => k_is); (case l => k_is); (case c => k_is); (case k => k_is)))
    (case d_law_fraction => (refine' D.DefK.mk_ ?a ?l ?c ?k; (case a => k_is); (case l => k_is); (case c => k_is); (case k => k_is)))
    (case d_law_fallen => (refine' D.DefK.mk_ ?a ?l ?c ?k; (case a => k_is); (case l => k_is); (case c => k_is); (case k => k_is)))
    (case d_law_turned => (refine' D.DefK.mk_ ?a ?l ?c ?k; (case a => k_is); (case l => k_is); (case c => k_is); (case k => k_is)))
    (case d_law_alike => (refine' D.DefK.mk_ ?a ?l ?c ?k; (case a => k_is); (case l => k_is); (case c => k_is); (case k => k_is)))
    (case d_law_refused => (refine' D.DefK.mk_ ?a ?l ?c ?k; (case a => k_is); (case l => k_is); (case c => k_is); (case k => k_is)))
    (case d_law => (refine' D.DefK.mk_ ?a ?l ?c ?k; (case a => k_is); (case l => k_is); (case c => k_is); (case k => k_is)))
#print axioms PySem.Challenge.cw_wholecut_k05_tables_turned_holds
