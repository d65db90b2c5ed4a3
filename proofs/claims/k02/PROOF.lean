import PyProof.Rows.All
import Wide.All
import OpenK.AllK
import Wide.FinOn
import HandS.ForMost
import HandS.ForExc
import HandS.IsInst
import HandS.Conv
import HandS.Wide
import HandS.TupMul
import HandS.TupAny
import HandS.Zip
import HandS.Style
import HandS.ExcIs
import HandS.Text
import HandS.Iter
import HandS.Comp
import HandS.Exc
import HandS.ExcOwn
import KE.IntTextLaws
import PySem.Challenge.RW_wholecut_k02_rows_written
set_option Elab.async false
set_option linter.all false
set_option maxRecDepth 100000
set_option maxHeartbeats 4000000
namespace D
open PySem PySem.Spec PyProof.Rows L2

/-! ### data in a heap -/
mutual
def repD : PyData → V → Hp → Prop
  | .none, v, _ => v = .non
  | .bool b, v, _ => v = .bl b
  | .int i, v, _ => v = .int i
  | .str x, v, _ => v = .str x
  | .list ds, v, H => ∃ p vs, v = .ref p ∧ H p = some (.lst vs) ∧ repL ds vs H
  | .tuple ds, v, H => ∃ p vs, v = .ref p ∧ H p = some (.tup vs) ∧ repL ds vs H
  | .dict _, _, _ => False
def repL : List PyData → List V → Hp → Prop
  | [], vs, _ => vs = []
  | d :: ds, vs, H => ∃ v r, vs = v :: r ∧ repD d v H ∧ repL ds r H
end
mutual
theorem repD_mono {H H' : Hp} (s : Same H H') : ∀ (d : PyData) (v : V), repD d v H → repD d v H'
  | .none, _, h => by simp only [repD] at h ⊢; exact h
  | .bool b, _, h => by simp only [repD] at h ⊢; exact h
  | .int i, _, h => by simp only [repD] at h ⊢; exact h
  | .str x, _, h => by simp only [repD] at h ⊢; exact h
  | .list ds, _, h => by
    simp only [repD] at h ⊢
    obtain ⟨p, vs, e, h1, h2⟩ := h
    exact ⟨p, vs, e, s _ _ h1, repL_mono s ds vs h2⟩
  | .tuple ds, _, h => by
    simp only [repD] at h ⊢
    obtain ⟨p, vs, e, h1, h2⟩ := h
    exact ⟨p, vs, e, s _ _ h1, repL_mono s ds vs h2⟩
  | .dict _, _, h => by simp only [repD] at h
theorem repL_mono {H H' : Hp} (s : Same H H') : ∀ (ds : List PyData) (vs : List V), repL ds vs H → repL ds vs H'
  | [], _, h => by simp only [repL] at h ⊢; exact h
  | d :: ds, _, h => by
    simp only [repL] at h ⊢
    obtain ⟨v, r, e, h1, h2⟩ := h
    exact ⟨v, r, e, repD_mono s d v h1, repL_mono s ds r h2⟩
end
theorem repL_length : ∀ {ds : List PyData} {vs : List V} {H : Hp}, repL ds vs H → vs.length = ds.length
  | [], _, _, h => by simp only [repL] at h; subst h; rfl
  | d :: ds, _, _, h => by
    simp only [repL] at h
    obtain ⟨v, r, e, _, h2⟩ := h
    subst e
    simp [repL_length h2]
theorem repL_get : ∀ {ds : List PyData} {vs : List V} {H : Hp} {i : Nat} {d : PyData}, repL ds vs H → ds[i]? = some d → ∃ v, vs[i]? = some v ∧ repD d v H
  | [], _, _, _, _, _, h => by simp at h
  | a :: ds, _, _, 0, d, h, e => by
    simp only [repL] at h
    obtain ⟨v, r, e1, h1, _⟩ := h
    simp at e
    subst e e1
    exact ⟨v, rfl, h1⟩
  | a :: ds, _, _, i + 1, d, h, e => by
    simp only [repL] at h
    obtain ⟨v, r, e1, _, h2⟩ := h
    subst e1
    simp at e
    obtain ⟨v', h3, h4⟩ := repL_get h2 e
    exact ⟨v', by simpa using h3, h4⟩
theorem repL_append : ∀ {ds es : List PyData} {vs ws : List V} {H : Hp}, repL ds vs H → repL es ws H → repL (ds ++ es) (vs ++ ws) H
  | [], _, _, _, _, h, h' => by simp only [repL] at h; subst h; exact h'
  | d :: ds, es, _, ws, H, h, h' => by
    simp only [repL] at h
    obtain ⟨v, r, e1, h1, h2⟩ := h
    subst e1
    show repL (d :: (ds ++ es)) (v :: (r ++ ws)) H
    simp only [repL]
    exact ⟨v, r ++ ws, rfl, h1, repL_append h2 h'⟩
theorem repL_one {d : PyData} {v : V} {H : Hp} (h : repD d v H) : repL [d] [v] H := by
  simp only [repL]
  exact ⟨v, [], rfl, h, rfl⟩
theorem repL_drop : ∀ {ds : List PyData} {vs : List V} {H : Hp} (n : Nat), repL ds vs H → repL (ds.drop n) (vs.drop n) H
  | _, _, _, 0, h => h
  | [], _, _, n + 1, h => by simp only [repL] at h; subst h; simp [repL]
  | d :: ds, _, _, n + 1, h => by
    simp only [repL] at h
    obtain ⟨v, r, e1, _, h2⟩ := h
    subst e1
    exact repL_drop n h2
theorem repL_take : ∀ {ds : List PyData} {vs : List V} {H : Hp} (n : Nat), repL ds vs H → repL (ds.take n) (vs.take n) H
  | _, _, _, 0, h => by simp [repL]
  | [], _, _, n + 1, h => by simp only [repL] at h; subst h; simp [repL]
  | d :: ds, _, _, n + 1, h => by
    simp only [repL] at h
    obtain ⟨v, r, e1, h1, h2⟩ := h
    subst e1
    show repL (d :: ds.take n) (v :: r.take n) _
    simp only [repL]
    exact ⟨v, _, rfl, h1, repL_take n h2⟩
theorem repL_set : ∀ {ds : List PyData} {vs : List V} {H : Hp} {d : PyData} {v : V} (i : Nat), repL ds vs H → repD d v H → repL (ds.set i d) (vs.set i v) H
  | [], _, _, _, _, i, h, _ => by simp only [repL] at h; subst h; simp [repL]
  | d :: ds, _, H, e, w, 0, h, h' => by
    simp only [repL] at h
    obtain ⟨v, r, e1, h1, h2⟩ := h
    subst e1
    show repL (e :: ds) (w :: r) H
    simp only [repL]
    exact ⟨w, r, rfl, h', h2⟩
  | d :: ds, _, H, e, w, i + 1, h, h' => by
    simp only [repL] at h
    obtain ⟨v, r, e1, h1, h2⟩ := h
    subst e1
    show repL (d :: ds.set i e) (v :: r.set i w) H
    simp only [repL]
    exact ⟨v, _, rfl, h1, repL_set i h2 h'⟩
theorem repL_replicate {d : PyData} {v : V} {H : Hp} (h : repD d v H) : ∀ n : Nat, repL (List.replicate n d) (List.replicate n v) H
  | 0 => by simp [repL]
  | n + 1 => by
    show repL (d :: List.replicate n d) (v :: List.replicate n v) H
    simp only [repL]
    exact ⟨v, _, rfl, h, repL_replicate h n⟩
theorem repL_ints : ∀ {ns : List Int} {vs : List V} {H : Hp}, repL (ns.map PyData.int) vs H → vs = ns.map V.int
  | [], _, _, h => by simpa only [repL, List.map_nil] using h
  | n :: ns, _, _, h => by
    simp only [List.map_cons, repL, repD] at h
    obtain ⟨v, r, e1, e2, h2⟩ := h
    subst e1 e2
    rw [List.map_cons, ← repL_ints h2]
theorem repL_of_ints : ∀ (ns : List Int) (H : Hp), repL (ns.map PyData.int) (ns.map V.int) H
  | [], _ => by simp [repL]
  | n :: ns, H => by
    simp only [List.map_cons, repL, repD]
    exact ⟨_, _, rfl, rfl, repL_of_ints ns H⟩
mutual
theorem repD_Dp {K : PySem.W.Frag} {H : Hp} : ∀ (d : PyData) (v : V), repD d v H → Dp K H v d
  | .none, _, h => by simp only [repD] at h; subst h; exact .non
  | .bool b, _, h => by simp only [repD] at h; subst h; exact .bl b
  | .int i, _, h => by simp only [repD] at h; subst h; exact .int i
  | .str x, _, h => by simp only [repD] at h; subst h; exact .str x
  | .list ds, _, h => by
    simp only [repD] at h
    obtain ⟨p, vs, e, h1, h2⟩ := h
    subst e
    exact .lst (.inl (.inl h1)) (repL_Dp ds vs h2)
  | .tuple ds, _, h => by
    simp only [repD] at h
    obtain ⟨p, vs, e, h1, h2⟩ := h
    subst e
    exact .tup (.inl (.inl h1)) (repL_Dp ds vs h2)
  | .dict _, _, h => by simp only [repD] at h
theorem repL_Dp {K : PySem.W.Frag} {H : Hp} : ∀ (ds : List PyData) (vs : List V), repL ds vs H → DpAll K H vs ds
  | [], _, h => by simp only [repL] at h; subst h; exact .nil
  | d :: ds, _, h => by
    simp only [repL] at h
    obtain ⟨v, r, e, h1, h2⟩ := h
    subst e
    exact .cons (repD_Dp d v h1) (repL_Dp ds r h2)
end

/-! ### persistent properties of values -/
structure RP where
  p : V → Hp → Prop
  mono : ∀ {v : V} {H H' : Hp}, p v H → Same H H' → p v H'
def rpD (d : PyData) : RP := ⟨repD d, fun h s => repD_mono s d _ h⟩
class ToPy (α : Type) where
  py : α → PyData
  dft : α
open ToPy (py)
def rep {α : Type} [ToPy α] (a : α) : RP := rpD (py a)
/-- a tuple of things alike; a tuple of three -/
structure Tup (α : Type) where
  l : List α
structure T3 (α β γ : Type) where
  a : α
  b : β
  c : γ
instance : ToPy Int := ⟨.int, 0⟩
instance : ToPy Bool := ⟨.bool, false⟩
instance : ToPy Str := ⟨.str, ""⟩
instance : ToPy Unit := ⟨fun _ => .none, ()⟩
instance : ToPy PyData := ⟨id, .none⟩
instance {α : Type} [ToPy α] : ToPy (List α) := ⟨fun l => .list (l.map py), []⟩
instance {α : Type} [ToPy α] : ToPy (Tup α) := ⟨fun l => .tuple (l.l.map py), ⟨[]⟩⟩
instance {α : Type} [ToPy α] : ToPy (Option α) := ⟨fun o => match o with | none => .none | some a => py a, none⟩
instance {α β : Type} [ToPy α] [ToPy β] : ToPy (α × β) := ⟨fun x => .tuple [py x.1, py x.2], (ToPy.dft, ToPy.dft)⟩
instance {α β γ : Type} [ToPy α] [ToPy β] [ToPy γ] : ToPy (T3 α β γ) := ⟨fun x => .tuple [py x.a, py x.b, py x.c], ⟨ToPy.dft, ToPy.dft, ToPy.dft⟩⟩
/-- the object at p, in our own hands -/
def own (p : Addr) : RP := ⟨fun v _ => v = .ref p, fun h _ => h⟩
/-- what does not lean on the heap -/
def Flat (R : RP) : Prop := ∀ v H H', R.p v H → R.p v H'
theorem flat_int (i : Int) : Flat (rep i) := fun v H H' h => by
  have h : repD (.int i) v H := h
  show repD (.int i) v H'
  simp only [repD] at h ⊢
  exact h
theorem flat_bool (i : Bool) : Flat (rep i) := fun v H H' h => by
  have h : repD (.bool i) v H := h
  show repD (.bool i) v H'
  simp only [repD] at h ⊢
  exact h
theorem flat_str (i : Str) : Flat (rep i) := fun v H H' h => by
  have h : repD (.str i) v H := h
  show repD (.str i) v H'
  simp only [repD] at h ⊢
  exact h
theorem flat_unit : Flat (rep ()) := fun v H H' h => by
  have h : repD (.none) v H := h
  show repD (.none) v H'
  simp only [repD] at h ⊢
  exact h
def All : List RP → List V → Hp → Prop
  | [], vs, _ => vs = []
  | R :: Rs, vs, H => ∃ v r, vs = v :: r ∧ R.p v H ∧ All Rs r H
theorem All.mono {H H' : Hp} (s : Same H H') : ∀ {Rs : List RP} {vs : List V}, All Rs vs H → All Rs vs H'
  | [], _, h => h
  | R :: Rs, _, ⟨v, r, e, h1, h2⟩ => ⟨v, r, e, R.mono h1 s, All.mono s h2⟩
theorem All.length {H : Hp} : ∀ {Rs : List RP} {vs : List V}, All Rs vs H → vs.length = Rs.length
  | [], _, h => by subst h; rfl
  | R :: Rs, _, ⟨v, r, e, h1, h2⟩ => by subst e; simp [All.length h2]
theorem All.get {H : Hp} : ∀ {Rs : List RP} {vs : List V} {i : Nat} {R : RP}, All Rs vs H → Rs[i]? = some R → ∃ v, vs[i]? = some v ∧ R.p v H
  | [], _, _, _, _, e => by simp at e
  | R :: Rs, _, 0, R', ⟨v, r, e, h1, h2⟩, e' => by
    subst e
    simp at e'
    subst e'
    exact ⟨v, rfl, h1⟩
  | R :: Rs, _, i + 1, R', ⟨v, r, e, h1, h2⟩, e' => by
    subst e
    simp at e'
    obtain ⟨v', h3, h4⟩ := All.get h2 e'
    exact ⟨v', by simpa using h3, h4⟩
/-- what an owned object holds -/
structure OT where
  q : HO → Hp → Prop
  mono : ∀ {o : HO} {H H' : Hp}, q o H → Same H H' → q o H'
def oLD (ds : List PyData) : OT := ⟨fun o f => ∃ vs, o = .lst vs ∧ repL ds vs f, fun ⟨vs, e, h⟩ s => ⟨vs, e, repL_mono s _ _ h⟩⟩
def oL {α : Type} [ToPy α] (xs : List α) : OT := oLD (xs.map py)

/-! ### how heaps go on: f the part that stands for good, h the whole -/
structure Ext (f h f' h' : Hp) : Prop where
  ff : Same f f'
  hh : Same h h'
  fh : Same f' h'
  nf : ∀ a, h a ≠ none → f a = none → f' a = none
theorem Ext.refl {f h : Hp} (s : Same f h) : Ext f h f h := ⟨.refl _, .refl _, s, fun _ _ e => e⟩
theorem Ext.trans {f h f1 h1 f2 h2 : Hp} (a : Ext f h f1 h1) (b : Ext f1 h1 f2 h2) : Ext f h f2 h2 :=
  ⟨a.ff.trans b.ff, a.hh.trans b.hh, b.fh, fun x n e => b.nf x (fun z => n (a.hh.free z)) (a.nf x n e)⟩
theorem same_new {H : Hp} {p : Addr} {o : HO} (hp : H p = none) : Same H (upd H p o) := fun b u e => by
  rw [upd_ne (ne_of_none e hp)]
  exact e
theorem same_upd {f h : Hp} {p : Addr} {o : HO} (s : Same f h) (hp : f p = none) : Same f (upd h p o) := fun b u e => by
  rw [upd_ne (ne_of_none e hp)]
  exact s b u e
theorem same_both {f h : Hp} {p : Addr} {o : HO} (s : Same f h) : Same (upd f p o) (upd h p o) := fun b u e => by
  by_cases hb : b = p
  · subst hb
    rw [upd_same] at e ⊢
    exact e
  · rw [upd_ne hb] at e ⊢
    exact s b u e
theorem Ext.new {f h : Hp} {p : Addr} {o : HO} (s : Same f h) (hp : h p = none) : Ext f h (upd f p o) (upd h p o) :=
  ⟨same_new (s.free hp), same_new hp, same_both s, fun a n e => by
    rw [upd_ne (fun z => n (by rw [z]; exact hp))]
    exact e⟩
theorem Ext.newH {f h : Hp} {p : Addr} {o : HO} (s : Same f h) (hp : h p = none) : Ext f h f (upd h p o) :=
  ⟨.refl _, same_new hp, s.trans (same_new hp), fun _ _ e => e⟩
/-- what was made new may stand for good from now on -/
theorem Ext.frz {f h f' h' : Hp} {p : Addr} {o : HO} (e : Ext f h f' h') (hp : h p = none) (ho : h' p = some o) (hf : f' p = none) : Ext f h (upd f' p o) h' :=
  ⟨e.ff.trans (same_new hf), e.hh, fun b u q => by
    by_cases hb : b = p
    · subst hb
      rw [upd_same] at q
      cases q
      exact ho
    · rw [upd_ne hb] at q
      exact e.fh b u q, fun a n z => by
    rw [upd_ne (fun y => n (by rw [y]; exact hp))]
    exact e.nf a n z⟩

/-! ### contexts: what each slot holds -/
abbrev Ctx := List (Option RP)
def Ok (Γ : Ctx) (σ : L2.St) (f : Hp) : Prop := σ.length = Γ.length ∧ ∀ (i : Nat) (R : RP), Γ[i]? = some (some R) → ∃ v, σ[i]? = some (some v) ∧ R.p v f
theorem Ok.mono {Γ : Ctx} {σ : L2.St} {f f' : Hp} (h : Ok Γ σ f) (s : Same f f') : Ok Γ σ f' := ⟨h.1, fun i R e => by
  obtain ⟨v, h1, h2⟩ := h.2 i R e
  exact ⟨v, h1, R.mono h2 s⟩⟩
theorem Ok.set {Γ : Ctx} {σ : L2.St} {f : Hp} {R : RP} {v : V} (i : Nat) (h : Ok Γ σ f) (hv : R.p v f) : Ok (Γ.set i (some R)) (σ.set i (some v)) f := by
  refine ⟨by simp [h.1], fun j R' e => ?_⟩
  by_cases hj : i = j
  · subst hj
    by_cases hl : i < Γ.length
    · rw [List.getElem?_set_self hl] at e
      cases e
      exact ⟨v, List.getElem?_set_self (by rw [h.1]; exact hl), hv⟩
    · rw [List.getElem?_eq_none (by simpa using Nat.le_of_not_lt hl)] at e
      cases e
  · rw [List.getElem?_set_ne hj] at e
    obtain ⟨u, h1, h2⟩ := h.2 j R' e
    exact ⟨u, by rw [List.getElem?_set_ne hj]; exact h1, h2⟩
theorem Ok.setn {Γ : Ctx} {σ : L2.St} {f : Hp} {s : Option V} (i : Nat) (h : Ok Γ σ f) : Ok (Γ.set i none) (σ.set i s) f := by
  refine ⟨by simp [h.1], fun j R' e => ?_⟩
  by_cases hj : i = j
  · subst hj
    by_cases hl : i < Γ.length
    · rw [List.getElem?_set_self hl] at e
      cases e
    · rw [List.getElem?_eq_none (by simpa using Nat.le_of_not_lt hl)] at e
      cases e
  · rw [List.getElem?_set_ne hj] at e
    obtain ⟨u, h1, h2⟩ := h.2 j R' e
    exact ⟨u, by rw [List.getElem?_set_ne hj]; exact h1, h2⟩

/-! ### what readings come to -/
def EvD (Γ : Ctx) (te : TE) (R : RP) : Prop := ∀ σ f h, Same f h → Ok Γ σ f → ∀ Q : VK, (∀ v f' h', Ext f h f' h' → R.p v f' → Q v h') → te σ h Q
def EvT (Γ : Ctx) (tt : TT) (b : Bool) : Prop := ∀ σ f h, Same f h → Ok Γ σ f → ∀ Q : Bool → Hp → Prop, (∀ f' h', Ext f h f' h' → Q b h') → tt σ h Q
def EvA (Γ : Ctx) (ta : TA) (Rs : List RP) : Prop := ∀ σ f h, Same f h → Ok Γ σ f → ∀ Q : List V → Hp → Prop, (∀ vs f' h', Ext f h f' h' → All Rs vs f' → Q vs h') → ta σ h Q
def EvP (Γ : Ctx) (to : TO) (o : Option Int) : Prop := ∀ σ f h, Same f h → Ok Γ σ f → ∀ Q : Option Int → Hp → Prop, (∀ f' h', Ext f h f' h' → Q o h') → to σ h Q
/-- a new object -/
def EvN (Γ : Ctx) (te : TE) (T : OT) : Prop := ∀ σ f h, Same f h → Ok Γ σ f → ∀ Q : VK, (∀ p o f' h', Ext f h f' h' → h p = none → f' p = none → h' p = some o → T.q o f' → Q (.ref p) h') → te σ h Q
def R2D (r : R2) (Ra Rb R : RP) : Prop := ∀ x y f h, Same f h → Ra.p x f → Rb.p y f → ∀ Q : VK, (∀ v f' h', Ext f h f' h' → R.p v f' → Q v h') → r x y h Q
def R2N (r : R2) (Ra Rb : RP) (T : OT) : Prop := ∀ x y f h, Same f h → Ra.p x f → Rb.p y f → ∀ Q : VK, (∀ p o f' h', Ext f h f' h' → h p = none → f' p = none → h' p = some o → T.q o f' → Q (.ref p) h') → r x y h Q
def R1D (r : V → Hp → VK → Prop) (Ra R : RP) : Prop := ∀ x f h, Same f h → Ra.p x f → ∀ Q : VK, (∀ v f' h', Ext f h f' h' → R.p v f' → Q v h') → r x h Q
def RcD (r : List V → Hp → VK → Prop) (Rs : List RP) (R : RP) : Prop := ∀ vs f h, Same f h → All Rs vs f → ∀ Q : VK, (∀ v f' h', Ext f h f' h' → R.p v f' → Q v h') → r vs h Q
def RcN (r : List V → Hp → VK → Prop) (Rs : List RP) (T : OT) : Prop := ∀ vs f h, Same f h → All Rs vs f → ∀ Q : VK, (∀ p o f' h', Ext f h f' h' → h p = none → f' p = none → h' p = some o → T.q o f' → Q (.ref p) h') → r vs h Q

section
variable {Γ : Ctx} {te ta tb tc : TE} {tt tu : TT} {R Ra Rb Rc R' : RP} {T : OT} {r : R2}
/-- a new list stands for good -/
theorem EvN.evD {ds : List PyData} (h : EvN Γ te (oLD ds)) : EvD Γ te (rpD (.list ds)) := fun σ f hp s ok Q q =>
  h σ f hp s ok Q fun p o f' h' e n nf ho ht => by
    obtain ⟨vs, rfl, hr⟩ := ht
    refine q (.ref p) (upd f' p (.lst vs)) h' (e.frz n ho nf) ?_
    show repD (.list ds) _ _
    simp only [repD]
    exact ⟨p, vs, rfl, upd_same, repL_mono (same_new nf) _ _ hr⟩
theorem ev_new {α : Type} {_ : ToPy α} {xs : List α} (h : EvN Γ te (oL xs)) : EvD Γ te (rep xs) := EvN.evD h
theorem ev_var {i : Nat} (h : Γ[i]? = some (some R)) : EvD Γ (tVar i) R := fun σ f hp s ok Q q => by
  obtain ⟨v, h1, h2⟩ := ok.2 i R h
  exact ⟨v, h1, q v f hp (.refl s) h2⟩
theorem ev_c {v : V} (h : ∀ H, R.p v H) : EvD Γ (tC v) R := fun σ f hp s ok Q q => q v f hp (.refl s) (h f)
theorem ev_int {i : Int} : EvD Γ (tC (.int i)) (rep i) := ev_c fun H => by show repD (.int i) _ H; simp [repD]
theorem ev_bl {i : Bool} : EvD Γ (tC (.bl i)) (rep i) := ev_c fun H => by show repD (.bool i) _ H; simp [repD]
theorem ev_str {i : Str} : EvD Γ (tC (.str i)) (rep i) := ev_c fun H => by show repD (.str i) _ H; simp [repD]
theorem ev_non : EvD Γ (tC .non) (rep ()) := ev_c fun H => by show repD .none _ H; simp [repD]
theorem ev_op (ha : EvD Γ ta Ra) (hb : EvD Γ tb Rb) (hr : R2D r Ra Rb R) : EvD Γ (tOp r ta tb) R := fun σ f hp s ok Q q =>
  ha σ f hp s ok _ fun x f1 h1 e1 rx => hb σ f1 h1 e1.fh (ok.mono e1.ff) _ fun y f2 h2 e2 ry =>
    hr x y f2 h2 e2.fh (Ra.mono rx e2.ff) ry Q fun v f3 h3 e3 rv => q v f3 h3 ((e1.trans e2).trans e3) rv
theorem ev_opN (ha : EvD Γ ta Ra) (hb : EvD Γ tb Rb) (hr : R2N r Ra Rb T) : EvN Γ (tOp r ta tb) T := fun σ f hp s ok Q q =>
  ha σ f hp s ok _ fun x f1 h1 e1 rx => hb σ f1 h1 e1.fh (ok.mono e1.ff) _ fun y f2 h2 e2 ry =>
    hr x y f2 h2 e2.fh (Ra.mono rx e2.ff) ry Q fun p o f3 h3 e3 n nf ho ht => q p o f3 h3 ((e1.trans e2).trans e3) ((e1.trans e2).hh.free n) nf ho ht
theorem ev_un {r : V → Hp → VK → Prop} (ha : EvD Γ ta Ra) (hr : R1D r Ra R) : EvD Γ (tUn r ta) R := fun σ f hp s ok Q q =>
  ha σ f hp s ok _ fun x f1 h1 e1 rx => hr x f1 h1 e1.fh rx Q fun v f3 h3 e3 rv => q v f3 h3 (e1.trans e3) rv
theorem ev_cast (h : EvD Γ te R) (e : R = R') : EvD Γ te R' := e ▸ h
theorem ev_eq {α : Type} {_ : ToPy α} {a b : α} (h : EvD Γ te (rep a)) (e : a = b) : EvD Γ te (rep b) := e ▸ h
theorem et_eq {a b : Bool} (h : EvT Γ tt a) (e : a = b) : EvT Γ tt b := e ▸ h
theorem rep_bool {b : Bool} {v : V} {f : Hp} (h : (rep b).p v f) : v = .bl b := by
  have h : repD (.bool b) v f := h
  simpa only [repD] using h
theorem rep_int {b : Int} {v : V} {f : Hp} (h : (rep b).p v f) : v = .int b := by
  have h : repD (.int b) v f := h
  simpa only [repD] using h
theorem rep_str {b : Str} {v : V} {f : Hp} (h : (rep b).p v f) : v = .str b := by
  have h : repD (.str b) v f := h
  simpa only [repD] using h
theorem rep_unit {v : V} {f : Hp} (h : (rep ()).p v f) : v = .non := by
  have h : repD .none v f := h
  simpa only [repD] using h
theorem rep_of_int (b : Int) (f : Hp) : (rep b).p (.int b) f := by show repD (.int b) _ f; simp [repD]
theorem rep_of_bool (b : Bool) (f : Hp) : (rep b).p (.bl b) f := by show repD (.bool b) _ f; simp [repD]
theorem rep_of_str (b : Str) (f : Hp) : (rep b).p (.str b) f := by show repD (.str b) _ f; simp [repD]
theorem rep_of_unit (f : Hp) : (rep ()).p .non f := by show repD .none _ f; simp [repD]
theorem rep_list {α : Type} {_ : ToPy α} {xs : List α} {v : V} {f : Hp} (h : (rep xs).p v f) : ∃ p vs, v = .ref p ∧ f p = some (.lst vs) ∧ repL (xs.map py) vs f := by
  have h : repD (.list (xs.map py)) v f := h
  simpa only [repD] using h
theorem rep_tup {α : Type} {_ : ToPy α} {xs : List α} {v : V} {f : Hp} (h : (rep (Tup.mk xs)).p v f) : ∃ p vs, v = .ref p ∧ f p = some (.tup vs) ∧ repL (xs.map py) vs f := by
  have h : repD (.tuple (xs.map py)) v f := h
  simpa only [repD] using h
/-! tests -/
theorem et_val {b : Bool} (h : EvD Γ te (rep b)) : EvT Γ (tB te) b := fun σ f hp s ok Q q => h σ f hp s ok _ fun v f' h' e rv => ⟨b, rep_bool rv, q f' h' e⟩
theorem et_test {b : Bool} (h : EvD Γ te (rep b)) : EvT Γ (tTest te) b := fun σ f hp s ok Q q => h σ f hp s ok _ fun v f' h' e rv => ⟨b, rep_bool rv, q f' h' e⟩
theorem et_not {b : Bool} (h : EvT Γ tt b) : EvT Γ (tNot tt) (!b) := fun σ f hp s ok Q q => h σ f hp s ok _ fun f' h' e => q f' h' e
theorem et_and {a b : Bool} (h1 : EvT Γ tt a) (h2 : a = true → EvT Γ tu b) : EvT Γ (tAnd tt tu) (a && b) := fun σ f hp s ok Q q => h1 σ f hp s ok _ fun f' h' e => by
  cases a with
  | true => exact iteT (h2 rfl σ f' h' e.fh (ok.mono e.ff) _ fun f2 h2 e2 => q f2 h2 (e.trans e2))
  | false => exact iteF (q f' h' e)
theorem et_or {a b : Bool} (h1 : EvT Γ tt a) (h2 : a = false → EvT Γ tu b) : EvT Γ (tOr tt tu) (a || b) := fun σ f hp s ok Q q => h1 σ f hp s ok _ fun f' h' e => by
  cases a with
  | true => exact iteT (q f' h' e)
  | false => exact iteF (h2 rfl σ f' h' e.fh (ok.mono e.ff) _ fun f2 h2 e2 => q f2 h2 (e.trans e2))
theorem ev_and {a b : Bool} (h1 : EvD Γ ta (rep a)) (h2 : a = true → EvD Γ tb (rep b)) : EvD Γ (tAndV ta tb) (rep (a && b)) := fun σ f hp s ok Q q => h1 σ f hp s ok _ fun v f' h' e rv => by
  refine ⟨a, rep_bool rv, ?_⟩
  cases a with
  | true => exact iteT (h2 rfl σ f' h' e.fh (ok.mono e.ff) _ fun v2 f2 h2 e2 r2 => q v2 f2 h2 (e.trans e2) r2)
  | false => exact iteF (q _ f' h' e (rep_of_bool _ _))
theorem ev_or {a b : Bool} (h1 : EvD Γ ta (rep a)) (h2 : a = false → EvD Γ tb (rep b)) : EvD Γ (tOrV ta tb) (rep (a || b)) := fun σ f hp s ok Q q => h1 σ f hp s ok _ fun v f' h' e rv => by
  refine ⟨a, rep_bool rv, ?_⟩
  cases a with
  | true => exact iteT (q _ f' h' e (rep_of_bool _ _))
  | false => exact iteF (h2 rfl σ f' h' e.fh (ok.mono e.ff) _ fun v2 f2 h2 e2 r2 => q v2 f2 h2 (e.trans e2) r2)
theorem ev_not {a : Bool} (h1 : EvD Γ ta (rep a)) : EvD Γ (tNotV ta) (rep (!a)) := fun σ f hp s ok Q q => h1 σ f hp s ok _ fun v f' h' e rv =>
  ⟨a, rep_bool rv, q _ f' h' e (rep_of_bool _ _)⟩
theorem ev_if {b : Bool} (h : EvT Γ tt b) (h1 : b = true → EvD Γ ta R) (h2 : b = false → EvD Γ tb R) : EvD Γ (tIf tt ta tb) R := fun σ f hp s ok Q q => h σ f hp s ok _ fun f' h' e => by
  cases b with
  | true => exact iteT (h1 rfl σ f' h' e.fh (ok.mono e.ff) _ fun v2 f2 h2 e2 r2 => q v2 f2 h2 (e.trans e2) r2)
  | false => exact iteF (h2 rfl σ f' h' e.fh (ok.mono e.ff) _ fun v2 f2 h2 e2 r2 => q v2 f2 h2 (e.trans e2) r2)
/-- a < b < c -/
theorem ev_chain {r r' : R2} {a b : Bool} (h1 : EvD Γ ta Ra) (h2 : EvD Γ tb Rb) (h3 : EvD Γ tc Rc) (hr : R2D r Ra Rb (rep a)) (hr' : a = true → R2D r' Rb Rc (rep b)) : EvD Γ (tChain r r' ta tb tc) (rep (a && b)) := fun σ f hp s ok Q q =>
  h1 σ f hp s ok _ fun x f1 hp1 e1 rx => h2 σ f1 hp1 e1.fh (ok.mono e1.ff) _ fun y f2 hp2 e2 ry =>
    hr x y f2 hp2 e2.fh (Ra.mono rx e2.ff) ry _ fun z f3 hp3 e3 rz => by
      refine ⟨a, rep_bool rz, ?_⟩
      cases a with
      | true =>
        refine iteT (h3 σ f3 hp3 e3.fh (ok.mono ((e1.trans e2).trans e3).ff) _ fun w f4 hp4 e4 rw_ => ?_)
        exact hr' rfl y w f4 hp4 e4.fh (Rb.mono ry (e3.trans e4).ff) rw_ Q fun v f5 hp5 e5 rv => q v f5 hp5 ((((e1.trans e2).trans e3).trans e4).trans e5) rv
      | false => exact iteF (q _ f3 hp3 ((e1.trans e2).trans e3) (rep_of_bool _ _))
/-! arguments -/
theorem ea_nil : EvA Γ tNil [] := fun σ f hp s ok Q q => q [] f hp (.refl s) rfl
theorem ea_cons {tr : TA} {Rs : List RP} (h : EvD Γ te R) (hr : EvA Γ tr Rs) : EvA Γ (tCons te tr) (R :: Rs) := fun σ f hp s ok Q q =>
  h σ f hp s ok _ fun x f1 h1 e1 rx => hr σ f1 h1 e1.fh (ok.mono e1.ff) _ fun vs f2 h2 e2 rs => q (x :: vs) f2 h2 (e1.trans e2) ⟨x, vs, rfl, R.mono rx e2.ff, rs⟩
theorem ep_none : EvP Γ tNoPart none := fun σ f hp s ok Q q => q f hp (.refl s)
theorem ep_some {i : Int} (h : EvD Γ te (rep i)) : EvP Γ (tPart te) (some i) := fun σ f hp s ok Q q => h σ f hp s ok _ fun v f1 h1 e1 rv => ⟨i, rep_int rv, q f1 h1 e1⟩
theorem ev_cb {r : List V → Hp → VK → Prop} {t : TA} {Rs : List RP} (ha : EvA Γ t Rs) (hr : RcD r Rs R) : EvD Γ (tCB r t) R := fun σ f hp s ok Q q =>
  ha σ f hp s ok _ fun vs f1 h1 e1 rs => hr vs f1 h1 e1.fh rs Q fun v f2 h2 e2 rv => q v f2 h2 (e1.trans e2) rv
theorem ev_cbN {r : List V → Hp → VK → Prop} {t : TA} {Rs : List RP} (ha : EvA Γ t Rs) (hr : RcN r Rs T) : EvN Γ (tCB r t) T := fun σ f hp s ok Q q =>
  ha σ f hp s ok _ fun vs f1 h1 e1 rs => hr vs f1 h1 e1.fh rs Q fun p o f2 h2 e2 n nf ho ht => q p o f2 h2 (e1.trans e2) (e1.hh.free n) nf ho ht
end
end D

set_option Elab.async false
set_option linter.all false
set_option maxRecDepth 100000
set_option maxHeartbeats 4000000
namespace D
open PySem PySem.Spec PyProof.Rows L2
open ToPy (py)

/-! ### operators whose kinds are told by the values: one rule for each sign -/
def rOr (r r' : R2) : R2 := fun x y H Q => r x y H Q ∨ r' x y H Q
def rAddI : R2 := rI0 fun i j => .int (i + j)
def rSubI : R2 := rI0 fun i j => .int (i - j)
def rMulI : R2 := rOr (rI CMul fun i j => .int (i * j)) (rI CMulW fun i j => .int (i * j))
def rModI : R2 := rI (fun _ j => 0 < j) fun i j => .int (i % j)
def rDivI : R2 := rOr (rI CDiv fun i j => .int (i / j)) (rI CDivW fun i j => .int (i / j))
def rPowI : R2 := rI CPow fun i j => .int (i ^ j.toNat)
def rAddS : R2 := fun x y H Q => ∃ i j, x = .str i ∧ y = .str j ∧ i.length + j.length ≤ sizeLine ∧ Q (.str (i ++ j)) H
def rAddX (K : PySem.W.Frag) : R2 := rOr rAddI (rOr rCat (rOr rAddS (rCatA K)))
def rMulX (K : PySem.W.Frag) : R2 := rOr rMulI (rOr rRep (rRepT K))
def rEqX (K : PySem.W.Frag) : R2 := rOr rEq (rEqD K)
def rNeX (K : PySem.W.Frag) : R2 := rOr rNe (rNeD K)
def rLtI : R2 := rI0 fun i j => .bl (decide (i < j))
def rLeI : R2 := rI0 fun i j => .bl (decide (i ≤ j))
def rGtI : R2 := rI0 fun i j => .bl (decide (j < i))
def rGeI : R2 := rI0 fun i j => .bl (decide (j ≤ i))
def rInSg : R2 := fun x y H Q => ∃ (c : Nat) (z : Str), x = .str ⟨#[c]⟩ ∧ y = .str z ∧ Q (.bl (decide (c ∈ z.cps.toList))) H
def rNinSg : R2 := fun x y H Q => ∃ (c : Nat) (z : Str), x = .str ⟨#[c]⟩ ∧ y = .str z ∧ Q (.bl (!decide (c ∈ z.cps.toList))) H
def rInX (K : PySem.W.Frag) : R2 := rOr (rIn K false) rInSg
def rNinX (K : PySem.W.Frag) : R2 := rOr (rIn K true) rNinSg
def rIsNo : R2 := fun x y H Q => y = .non ∧ Q (.bl (decide (x = .non))) H
def rNotNo : R2 := fun x y H Q => y = .non ∧ Q (.bl (!decide (x = .non))) H
section
variable {X : Cx}
theorem or2 {f : Value → Value → Sem Value} {r r' : R2} (h : OpR X f r) (h' : OpR X f r') : OpR X f (rOr r r') := h.or h'
theorem op_addX : OpR X (binaryOp .Add) (rAddX X.K) := or2 op_add (or2 op_cat (or2 op_add_str op_catA))
theorem op_subX : OpR X (binaryOp .Sub) rSubI := op_sub
theorem op_mulX : OpR X (binaryOp .Mult) (rMulX X.K) := or2 (or2 op_mul op_mulW) (or2 op_rep op_repT)
theorem op_modX : OpR X (binaryOp .Mod) rModI := op_mod
theorem op_divX : OpR X (binaryOp .FloorDiv) rDivI := or2 op_fdiv op_fdivW
theorem op_powX : OpR X (binaryOp .Pow) rPowI := op_pow
theorem op_eqX (hu : X.A.units + 64 < cLine) : OpR X (compareOp .Eq) (rEqX X.K) := or2 op_eq (op_eqD hu)
theorem op_neX (hu : X.A.units + 64 < cLine) : OpR X (compareOp .NotEq) (rNeX X.K) := or2 op_ne (op_neD hu)
theorem op_ltX : OpR X (compareOp .Lt) rLtI := op_lt
theorem op_leX : OpR X (compareOp .LtE) rLeI := op_le
theorem op_gtX : OpR X (compareOp .Gt) rGtI := op_gt
theorem op_geX : OpR X (compareOp .GtE) rGeI := op_ge
theorem op_inX : OpR X (compareOp .In) (rInX X.K) := or2 op_in_seq op_in_sign
theorem op_ninX : OpR X (compareOp .NotIn) (rNinX X.K) := or2 op_notIn_seq op_notIn_sign
theorem op_isNo : OpR X (compareOp .Is) rIsNo := op_isN
theorem op_notNo : OpR X (compareOp .IsNot) rNotNo := op_notN
def rLenX (K : PySem.W.Frag) : List V → Hp → VK → Prop := fun xs H Q => (∃ p ys, xs = [.ref p] ∧ (SqL K H p ys ∨ SqT K H p ys) ∧ Q (.int ys.length) H) ∨ (∃ z, xs = [.str z] ∧ z.length ≤ sizeLine ∧ Q (.int z.length) H)
theorem call_lenX : CallR X (.builtin "len") (rLenX X.K) := call_len_seq.or call_len_str
def rListX (K : PySem.W.Frag) : List V → Hp → VK → Prop := fun xs H Q => ∃ p ys, xs = [.ref p] ∧ (SqL K H p ys ∨ SqT K H p ys) ∧ ∀ l, H l = none → Q (.ref l) (upd H l (.lst ys))
theorem call_listX : CallR X (.type "list") (rListX X.K) := call_list_of
def rTupX (K : PySem.W.Frag) : List V → Hp → VK → Prop := fun xs H Q => ∃ p ys, xs = [.ref p] ∧ ((SqL K H p ys ∧ ∀ l, H l = none → Q (.ref l) (upd H l (.tup ys))) ∨ (SqT K H p ys ∧ Q (.ref p) H))
theorem call_tupX : CallR X (.type "tuple") (rTupX X.K) := call_tuple_of
def rIntX : List V → Hp → VK → Prop := fun xs H Q => ((∃ i, xs = [.int i] ∧ Q (.int i) H) ∨ ∃ k, xs = [.bl k] ∧ Q (.int (if k then 1 else 0)) H) ∨ (∃ a n, xs = [.str a] ∧ PySem.intText? a = some n ∧ a.length ≤ 640 ∧ Q (.int n) H)
theorem call_intX : CallR X (.type "int") rIntX := call_int1.or call_int_str
def rStrX : List V → Hp → VK → Prop := fun xs H Q => ∃ i, xs = [.int i] ∧ i.natAbs.log2 < 1920 ∧ Q (.str (toString i)) H
theorem call_strX : CallR X (.type "str") rStrX := call_str_int
def rAbsX : List V → Hp → VK → Prop := fun xs H Q => ∃ i, xs = [.int i] ∧ Q (.int (if i < 0 then -i else i)) H
theorem call_absX : CallR X (.builtin "abs") rAbsX := call_abs
def rMin2X : List V → Hp → VK → Prop := fun xs H Q => ∃ i j, xs = [.int i, .int j] ∧ Q (.int (if j < i then j else i)) H
theorem call_min2X (hc : X.calm = true) : CallR X (.builtin "min") rMin2X := call_min2 hc
def rMax2X : List V → Hp → VK → Prop := fun xs H Q => ∃ i j, xs = [.int i, .int j] ∧ Q (.int (if j > i then j else i)) H
theorem call_max2X (hc : X.calm = true) : CallR X (.builtin "max") rMax2X := call_max2 hc
def rSlX (K : PySem.W.Frag) : V → Option Int → Option Int → Hp → VK → Prop := fun x lo hi H Q => (rSlL K x lo hi H Q ∨ rSlA K x lo hi H Q) ∨ rSlS x lo hi H Q
theorem sl_X : SlR X (rSlX X.K) := (sl_list.or sl_tupA).or sl_str
end
theorem b_len : bootBuiltins "len" = some (.builtin "len") := by decide +kernel
theorem b_isi : bootBuiltins "isinstance" = some (.builtin "isinstance") := by decide +kernel
theorem b_sum : bootBuiltins "sum" = some (.builtin "sum") := by decide +kernel
theorem b_abs : bootBuiltins "abs" = some (.builtin "abs") := by decide +kernel
theorem b_min : bootBuiltins "min" = some (.builtin "min") := by decide +kernel
theorem b_max : bootBuiltins "max" = some (.builtin "max") := by decide +kernel
theorem b_list : bootBuiltins "list" = some (.type "list") := by decide +kernel
theorem b_tuple : bootBuiltins "tuple" = some (.type "tuple") := by decide +kernel
theorem b_int : bootBuiltins "int" = some (.type "int") := by decide +kernel
theorem b_str : bootBuiltins "str" = some (.type "str") := by decide +kernel
theorem b_bool : bootBuiltins "bool" = some (.type "bool") := by decide +kernel
theorem b_VE : bootBuiltins "ValueError" = some (.type "ValueError") := by decide +kernel

section
variable {K : PySem.W.Frag} {Ra Rb R : RP} {T : OT} {r r' : R2}
theorem s_l (h : R2D r Ra Rb R) : R2D (rOr r r') Ra Rb R := fun x y f hp s rx ry Q q => .inl (h x y f hp s rx ry Q q)
theorem s_r (h : R2D r' Ra Rb R) : R2D (rOr r r') Ra Rb R := fun x y f hp s rx ry Q q => .inr (h x y f hp s rx ry Q q)
theorem s_lN (h : R2N r Ra Rb T) : R2N (rOr r r') Ra Rb T := fun x y f hp s rx ry Q q => .inl (h x y f hp s rx ry Q q)
theorem s_rN (h : R2N r' Ra Rb T) : R2N (rOr r r') Ra Rb T := fun x y f hp s rx ry Q q => .inr (h x y f hp s rx ry Q q)
theorem s_I0 {g : Int → Int → Int} {i j : Int} : R2D (rI0 fun i j => .int (g i j)) (rep i) (rep j) (rep (g i j)) := fun x y f hp s rx ry Q q =>
  ⟨i, j, rep_int rx, rep_int ry, q _ f hp (.refl s) (rep_of_int _ _)⟩
theorem s_B0 {g : Int → Int → Bool} {i j : Int} : R2D (rI0 fun i j => .bl (g i j)) (rep i) (rep j) (rep (g i j)) := fun x y f hp s rx ry Q q =>
  ⟨i, j, rep_int rx, rep_int ry, q _ f hp (.refl s) (rep_of_bool _ _)⟩
theorem s_I {C : Int → Int → Prop} {g : Int → Int → Int} {i j : Int} (hc : C i j) : R2D (rI C fun i j => .int (g i j)) (rep i) (rep j) (rep (g i j)) := fun x y f hp s rx ry Q q =>
  ⟨i, j, rep_int rx, rep_int ry, hc, q _ f hp (.refl s) (rep_of_int _ _)⟩
theorem s_add {i j : Int} : R2D (rAddX K) (rep i) (rep j) (rep (i + j)) := s_l s_I0
theorem s_sub {i j : Int} : R2D rSubI (rep i) (rep j) (rep (i - j)) := s_I0
theorem s_mul {i j : Int} (h : CMul i j) : R2D (rMulX K) (rep i) (rep j) (rep (i * j)) := s_l (s_l (s_I h))
theorem s_mulW {i j : Int} (h : CMulW i j) : R2D (rMulX K) (rep i) (rep j) (rep (i * j)) := s_l (s_r (s_I h))
theorem s_mod {i j : Int} (h : 0 < j) : R2D rModI (rep i) (rep j) (rep (i % j)) := s_I (C := fun _ j => 0 < j) h
theorem s_div {i j : Int} (h : CDiv i j) : R2D rDivI (rep i) (rep j) (rep (i / j)) := s_l (s_I h)
theorem s_divW {i j : Int} (h : CDivW i j) : R2D rDivI (rep i) (rep j) (rep (i / j)) := s_r (s_I h)
theorem s_pow {i j : Int} (h : CPow i j) : R2D rPowI (rep i) (rep j) (rep (i ^ j.toNat)) := s_I h
theorem s_lt {i j : Int} : R2D rLtI (rep i) (rep j) (rep (decide (i < j))) := s_B0
theorem s_le {i j : Int} : R2D rLeI (rep i) (rep j) (rep (decide (i ≤ j))) := s_B0
theorem s_gt {i j : Int} : R2D rGtI (rep i) (rep j) (rep (decide (j < i))) := s_B0
theorem s_ge {i j : Int} : R2D rGeI (rep i) (rep j) (rep (decide (j ≤ i))) := s_B0
theorem s_eqI {i j : Int} : R2D (rEqX K) (rep i) (rep j) (rep (decide (i = j))) := fun x y f hp s rx ry Q q => by
  cases rep_int rx
  cases rep_int ry
  refine .inl ⟨rfl, q _ f hp (.refl s) ?_⟩
  have e : decide (V.int i = V.int j) = decide (i = j) := by simp
  rw [e]
  exact rep_of_bool _ _
theorem s_neI {i j : Int} : R2D (rNeX K) (rep i) (rep j) (rep (!decide (i = j))) := fun x y f hp s rx ry Q q => by
  cases rep_int rx
  cases rep_int ry
  refine .inl ⟨rfl, q _ f hp (.refl s) ?_⟩
  have e : decide (V.int i = V.int j) = decide (i = j) := by simp
  rw [e]
  exact rep_of_bool _ _
theorem s_eqS {i j : Str} : R2D (rEqX K) (rep i) (rep j) (rep (decide (i = j))) := fun x y f hp s rx ry Q q => by
  cases rep_str rx
  cases rep_str ry
  refine .inl ⟨rfl, q _ f hp (.refl s) ?_⟩
  have e : decide (V.str i = V.str j) = decide (i = j) := by simp
  rw [e]
  exact rep_of_bool _ _
theorem s_neS {i j : Str} : R2D (rNeX K) (rep i) (rep j) (rep (!decide (i = j))) := fun x y f hp s rx ry Q q => by
  cases rep_str rx
  cases rep_str ry
  refine .inl ⟨rfl, q _ f hp (.refl s) ?_⟩
  have e : decide (V.str i = V.str j) = decide (i = j) := by simp
  rw [e]
  exact rep_of_bool _ _
theorem s_neB {i j : Bool} : R2D (rNeX K) (rep i) (rep j) (rep (!decide (i = j))) := fun x y f hp s rx ry Q q => by
  cases rep_bool rx
  cases rep_bool ry
  refine .inl ⟨rfl, q _ f hp (.refl s) ?_⟩
  have e : decide (V.bl i = V.bl j) = decide (i = j) := by simp
  rw [e]
  exact rep_of_bool _ _
/-- == of data -/
theorem s_eqD {d e : PyData} (hd : SeqAt.shaped d = true) (he : SeqAt.shaped e = true) : R2D (rEqX K) (rpD d) (rpD e) (rep (PyData.eqv d e)) := fun x y f hp s rx ry Q q =>
  .inr ⟨d, e, repD_Dp d x (repD_mono s d x rx), repD_Dp e y (repD_mono s e y ry), hd, he, q _ f hp (.refl s) (rep_of_bool _ _)⟩
theorem s_neD {d e : PyData} (hd : SeqAt.shaped d = true) (he : SeqAt.shaped e = true) : R2D (rNeX K) (rpD d) (rpD e) (rep (!PyData.eqv d e)) := fun x y f hp s rx ry Q q =>
  .inr ⟨d, e, repD_Dp d x (repD_mono s d x rx), repD_Dp e y (repD_mono s e y ry), hd, he, q _ f hp (.refl s) (rep_of_bool _ _)⟩
theorem s_isNo (h : ∀ v f, Ra.p v f → v ≠ .non) : R2D rIsNo Ra (rep ()) (rep false) := fun x y f hp s rx ry Q q => by
  cases rep_unit ry
  refine ⟨rfl, q _ f hp (.refl s) ?_⟩
  rw [decide_eq_false (h x f rx)]
  exact rep_of_bool _ _
theorem s_isYes : R2D rIsNo (rep ()) (rep ()) (rep true) := fun x y f hp s rx ry Q q => by
  cases rep_unit rx
  cases rep_unit ry
  exact ⟨rfl, q _ f hp (.refl s) (rep_of_bool _ _)⟩
theorem s_notYes (h : ∀ v f, Ra.p v f → v ≠ .non) : R2D rNotNo Ra (rep ()) (rep true) := fun x y f hp s rx ry Q q => by
  cases rep_unit ry
  refine ⟨rfl, q _ f hp (.refl s) ?_⟩
  rw [decide_eq_false (h x f rx)]
  exact rep_of_bool _ _
theorem s_notNo : R2D rNotNo (rep ()) (rep ()) (rep false) := fun x y f hp s rx ry Q q => by
  cases rep_unit rx
  cases rep_unit ry
  exact ⟨rfl, q _ f hp (.refl s) (rep_of_bool _ _)⟩
theorem s_neg {i : Int} : R1D (rU fun i => .int (-i)) (rep i) (rep (-i)) := fun x f hp s rx Q q => ⟨i, rep_int rx, q _ f hp (.refl s) (rep_of_int _ _)⟩
/-! lists -/
theorem SqL.of1 {H : Hp} {p : Addr} {vs : List V} (h : H p = some (.lst vs)) : SqL K H p vs := .inl (.inl h)
theorem SqT.of1 {H : Hp} {p : Addr} {vs : List V} (h : H p = some (.tup vs)) : SqT K H p vs := .inl (.inl h)
/-- the place that an index names, from nought -/
theorem s_ixD {ds : List PyData} {d : PyData} {i : Int} (h : atI ds i = some d) : R2D (rIx K) (rpD (.list ds)) (rep i) (rpD d) := fun x y f hp s rx ry Q q => by
  have rx : repD (.list ds) x f := rx
  simp only [repD] at rx
  obtain ⟨p, vs, rfl, h1, h2⟩ := rx
  cases rep_int ry
  obtain ⟨j, hj, hg⟩ := Option.bind_eq_some_iff.mp h
  obtain ⟨v, hv, rv⟩ := repL_get h2 hg
  refine .inl ⟨p, vs, i, v, rfl, rfl, SqL.of1 (s _ _ h1), ?_, q v f hp (.refl s) rv⟩
  unfold atI
  rw [repL_length h2, hj]
  exact hv
theorem s_ixTD {ds : List PyData} {d : PyData} {i : Int} (h : atI ds i = some d) : R2D (rIx K) (rpD (.tuple ds)) (rep i) (rpD d) := fun x y f hp s rx ry Q q => by
  have rx : repD (.tuple ds) x f := rx
  simp only [repD] at rx
  obtain ⟨p, vs, rfl, h1, h2⟩ := rx
  cases rep_int ry
  obtain ⟨j, hj, hg⟩ := Option.bind_eq_some_iff.mp h
  obtain ⟨v, hv, rv⟩ := repL_get h2 hg
  refine .inr (.inl ⟨p, vs, i, v, rfl, rfl, SqT.of1 (s _ _ h1), ?_, q v f hp (.refl s) rv⟩)
  unfold atI
  rw [repL_length h2, hj]
  exact hv
theorem atI_map {α β : Type} (g : α → β) (xs : List α) (i : Int) : atI (xs.map g) i = (atI xs i).map g := by
  unfold atI
  rw [List.length_map]
  cases ixN xs.length i with
  | none => rfl
  | some j => simp
/-- the item at k, from nought -/
def ix {α : Type} [ToPy α] (xs : List α) (k : Int) : α := xs.getD k.toNat ToPy.dft
theorem atI_ix {α : Type} [ToPy α] {xs : List α} {k : Int} (h0 : 0 ≤ k) (h1 : k < (xs.length : Int)) : atI xs k = some (ix xs k) := by
  unfold atI ixN ix
  have e : k.toNat < xs.length := by omega
  rw [if_pos h0, if_pos h1]
  show xs[k.toNat]? = _
  rw [List.getD_eq_getElem?_getD, List.getElem?_eq_getElem e]
  rfl
theorem s_ix {α : Type} {_ : ToPy α} {xs : List α} {i : Int} (h0 : 0 ≤ i) (h1 : i < (xs.length : Int)) : R2D (rIx K) (rep xs) (rep i) (rep (ix xs i)) :=
  s_ixD (by rw [atI_map, atI_ix h0 h1]; rfl)
theorem s_ixT {α : Type} {_ : ToPy α} {xs : List α} {i : Int} (h0 : 0 ≤ i) (h1 : i < (xs.length : Int)) : R2D (rIx K) (rep (Tup.mk xs)) (rep i) (rep (ix xs i)) :=
  s_ixTD (by rw [atI_map, atI_ix h0 h1]; rfl)
/-- xs[-1] -/
def last {α : Type} [ToPy α] (xs : List α) : α := xs.getD (xs.length - 1) ToPy.dft
theorem atI_neg1 {α : Type} [ToPy α] {xs : List α} (h : 0 < xs.length) : atI xs (-1) = some (last xs) := by
  unfold atI ixN last
  rw [if_neg (by decide), if_pos (by omega)]
  show xs[((-1 : Int) + xs.length).toNat]? = _
  have e : ((-1 : Int) + xs.length).toNat = xs.length - 1 := by omega
  rw [e, List.getD_eq_getElem?_getD, List.getElem?_eq_getElem (by omega)]
  rfl
theorem s_last {α : Type} {_ : ToPy α} {xs : List α} (h : 0 < xs.length) : R2D (rIx K) (rep xs) (rep (-1 : Int)) (rep (last xs)) :=
  s_ixD (by rw [atI_map, atI_neg1 h]; rfl)
theorem s_fst {α β : Type} {_ : ToPy α} {_ : ToPy β} {x : α × β} : R2D (rIx K) (rep x) (rep (0 : Int)) (rep x.1) := s_ixTD rfl
theorem s_snd {α β : Type} {_ : ToPy α} {_ : ToPy β} {x : α × β} : R2D (rIx K) (rep x) (rep (1 : Int)) (rep x.2) := s_ixTD rfl
theorem s_t0 {α β γ : Type} {_ : ToPy α} {_ : ToPy β} {_ : ToPy γ} {x : T3 α β γ} : R2D (rIx K) (rep x) (rep (0 : Int)) (rep x.a) := s_ixTD rfl
theorem s_t1 {α β γ : Type} {_ : ToPy α} {_ : ToPy β} {_ : ToPy γ} {x : T3 α β γ} : R2D (rIx K) (rep x) (rep (1 : Int)) (rep x.b) := s_ixTD rfl
theorem s_t2 {α β γ : Type} {_ : ToPy α} {_ : ToPy β} {_ : ToPy γ} {x : T3 α β γ} : R2D (rIx K) (rep x) (rep (2 : Int)) (rep x.c) := s_ixTD rfl
/-- the script -/
def scr (K : PySem.W.Frag) (ns : List Int) : RP := ⟨fun v H => ∃ a, v = .ref a ∧ SqL K H a (ns.map V.int), fun ⟨a, e, h⟩ s => ⟨a, e, s.seq h⟩⟩
theorem s_ixS {ns : List Int} {i : Int} (h0 : 0 ≤ i) (h1 : i < (ns.length : Int)) : R2D (rIx K) (scr K ns) (rep i) (rep (ix ns i)) := fun x y f hp s rx ry Q q => by
  obtain ⟨a, rfl, h⟩ := rx
  cases rep_int ry
  exact .inl ⟨a, _, i, .int (ix ns i), rfl, rfl, s.seq h, by rw [atI_map, atI_ix h0 h1]; rfl, q _ f hp (.refl s) (rep_of_int _ _)⟩
theorem s_catN {ds es : List PyData} (hl : ds.length + es.length ≤ 1000000) : R2N (rAddX K) (rpD (.list ds)) (rpD (.list es)) (oLD (ds ++ es)) := fun x y f hp s rx ry Q q => by
  have rx : repD (.list ds) x f := rx
  have ry : repD (.list es) y f := ry
  simp only [repD] at rx ry
  obtain ⟨p, vs, rfl, h1, h2⟩ := rx
  obtain ⟨p', vs', rfl, h1', h2'⟩ := ry
  refine .inr (.inl ⟨p, p', vs, vs', rfl, rfl, s _ _ h1, s _ _ h1', ?_, fun n hn => q n (.lst (vs ++ vs')) f _ (.newH s hn) hn (s.free hn) upd_same ⟨_, rfl, repL_append h2 h2'⟩⟩)
  rw [repL_length h2, repL_length h2']
  exact Nat.le_trans hl (by decide)
theorem s_cat {α : Type} {_ : ToPy α} {xs ys : List α} (hl : xs.length + ys.length ≤ 1000000) : R2N (rAddX K) (rep xs) (rep ys) (oL (xs ++ ys)) := by
  have h := s_catN (K := K) (ds := xs.map py) (es := ys.map py) (by simpa using hl)
  rw [← List.map_append] at h
  exact h
theorem rep1 {v : V} : ∀ n : Nat, (List.replicate n [v]).flatten = List.replicate n v
  | 0 => rfl
  | n + 1 => by rw [List.replicate_succ, List.flatten_cons, rep1 n]; rfl
theorem s_repN {d : PyData} {k : Int} (h0 : 0 ≤ k) (hk : k ≤ 100000) : R2N (rMulX K) (rpD (.list [d])) (rep k) (oLD (List.replicate k.toNat d)) := fun x y f hp s rx ry Q q => by
  have rx : repD (.list [d]) x f := rx
  simp only [repD] at rx
  obtain ⟨p, vs, rfl, h1, h2⟩ := rx
  cases rep_int ry
  simp only [repL] at h2
  obtain ⟨v, r, e1, hd, e2⟩ := h2
  subst e2 e1
  refine .inr (.inl ⟨p, k, [v], rfl, rfl, s _ _ h1, by omega, by omega, ?_, fun n hn => ?_⟩)
  · have : [v].length * k.toNat ≤ 100000 := by show 1 * k.toNat ≤ 100000; omega
    exact Nat.le_trans this (by decide)
  · exact q n _ f _ (.newH s hn) hn (s.free hn) upd_same ⟨_, rfl, by rw [rep1]; exact repL_replicate hd _⟩
theorem s_rep {α : Type} {_ : ToPy α} {a : α} {k : Int} (h0 : 0 ≤ k) (hk : k ≤ 100000) : R2N (rMulX K) (rep [a]) (rep k) (oL (List.replicate k.toNat a)) := by
  have h := s_repN (K := K) (d := py a) (k := k) h0 hk
  have e : (List.replicate k.toNat a).map py = List.replicate k.toNat (py a) := by simp
  unfold oL
  rw [e]
  exact h
end
end D

set_option Elab.async false
set_option linter.all false
set_option maxRecDepth 100000
set_option maxHeartbeats 4000000
namespace D
open PySem PySem.Spec PyProof.Rows L2
open ToPy (py)
section
variable {K : PySem.W.Frag} {Γ : Ctx} {te ta tb tc : TE} {tt tu : TT} {R Ra Rb Rc R' : RP} {T : OT} {r r' : R2}
theorem All.one {R : RP} {vs : List V} {H : Hp} (h : All [R] vs H) : ∃ v, vs = [v] ∧ R.p v H := by
  obtain ⟨v, r, e, h1, h2⟩ := h
  cases h2
  exact ⟨v, e, h1⟩
theorem All.two {R S : RP} {vs : List V} {H : Hp} (h : All [R, S] vs H) : ∃ v u, vs = [v, u] ∧ R.p v H ∧ S.p u H := by
  obtain ⟨v, r, e, h1, h2⟩ := h
  obtain ⟨u, rfl, h3⟩ := All.one h2
  exact ⟨v, u, e, h1, h3⟩
theorem All.three {R S T : RP} {vs : List V} {H : Hp} (h : All [R, S, T] vs H) : ∃ v u z, vs = [v, u, z] ∧ R.p v H ∧ S.p u H ∧ T.p z H := by
  obtain ⟨v, r, e, h1, h2⟩ := h
  obtain ⟨u, z, rfl, h3, h4⟩ := All.two h2
  exact ⟨v, u, z, e, h1, h3, h4⟩
theorem All.repL {ds : List PyData} : ∀ {vs : List V} {H : Hp}, All (ds.map rpD) vs H → repL ds vs H := by
  induction ds with
  | nil => intro vs H h; simp only [D.repL]; exact h
  | cons d ds ih =>
    intro vs H h
    obtain ⟨v, r, e, h1, h2⟩ := h
    simp only [D.repL]
    exact ⟨v, r, e, h1, ih h2⟩
/-! ### displays -/
theorem en_lst {t : TA} {ds : List PyData} (h : EvA Γ t (ds.map rpD)) (hl : ds.length ≤ 1000000 := by simp) : EvN Γ (tLst t) (oLD ds) := fun σ f hp s ok Q q =>
  h σ f hp s ok _ fun vs f' h' e rs => ⟨by rw [repL_length (All.repL rs)]; exact Nat.le_trans hl (by decide), fun p hn => q p (.lst vs) f' _ ⟨e.ff, e.hh.trans (same_new hn), e.fh.trans (same_new hn), e.nf⟩ (e.hh.free hn) (e.fh.free hn) upd_same ⟨vs, rfl, All.repL rs⟩⟩
theorem ev_tupD {t : TA} {ds : List PyData} (h : EvA Γ t (ds.map rpD)) (hl : ds.length ≤ 1000000 := by simp) : EvD Γ (tTup t) (rpD (.tuple ds)) := fun σ f hp s ok Q q =>
  h σ f hp s ok _ fun vs f' h' e rs => ⟨by rw [repL_length (All.repL rs)]; exact Nat.le_trans hl (by decide), fun p hn => q (.ref p) _ _ (e.trans (Ext.new e.fh hn)) (by
    show repD (.tuple ds) _ _
    simp only [repD]
    exact ⟨p, vs, rfl, upd_same, repL_mono (same_new (e.fh.free hn)) _ _ (All.repL rs)⟩)⟩
theorem en_lst0 {α : Type} {_ : ToPy α} : EvN Γ (tLst tNil) (oL ([] : List α)) := en_lst (ds := []) ea_nil
theorem en_lst1 {α : Type} {_ : ToPy α} {a : α} {t : TE} (h : EvD Γ t (rep a)) : EvN Γ (tLst (tCons t tNil)) (oL [a]) := en_lst (ds := [py a]) (ea_cons h ea_nil)
theorem en_lst2 {α : Type} {_ : ToPy α} {a b : α} {t u : TE} (h : EvD Γ t (rep a)) (h2 : EvD Γ u (rep b)) : EvN Γ (tLst (tCons t (tCons u tNil))) (oL [a, b]) := en_lst (ds := [py a, py b]) (ea_cons h (ea_cons h2 ea_nil))
theorem en_lst3 {α : Type} {_ : ToPy α} {a b c : α} {t u w : TE} (h : EvD Γ t (rep a)) (h2 : EvD Γ u (rep b)) (h3 : EvD Γ w (rep c)) : EvN Γ (tLst (tCons t (tCons u (tCons w tNil)))) (oL [a, b, c]) := en_lst (ds := [py a, py b, py c]) (ea_cons h (ea_cons h2 (ea_cons h3 ea_nil)))
theorem en_lst4 {α : Type} {_ : ToPy α} {a b c d : α} {t u w z : TE} (h : EvD Γ t (rep a)) (h2 : EvD Γ u (rep b)) (h3 : EvD Γ w (rep c)) (h4 : EvD Γ z (rep d)) : EvN Γ (tLst (tCons t (tCons u (tCons w (tCons z tNil))))) (oL [a, b, c, d]) := en_lst (ds := [py a, py b, py c, py d]) (ea_cons h (ea_cons h2 (ea_cons h3 (ea_cons h4 ea_nil))))
theorem ev_pair {α β : Type} {_ : ToPy α} {_ : ToPy β} {a : α} {b : β} {t u : TE} (h : EvD Γ t (rep a)) (h2 : EvD Γ u (rep b)) : EvD Γ (tTup (tCons t (tCons u tNil))) (rep (a, b)) := ev_tupD (ds := [py a, py b]) (ea_cons h (ea_cons h2 ea_nil))
theorem ev_t3 {α β γ : Type} {_ : ToPy α} {_ : ToPy β} {_ : ToPy γ} {a : α} {b : β} {c : γ} {t u w : TE} (h : EvD Γ t (rep a)) (h2 : EvD Γ u (rep b)) (h3 : EvD Γ w (rep c)) : EvD Γ (tTup (tCons t (tCons u (tCons w tNil)))) (rep (T3.mk a b c)) := ev_tupD (ds := [py a, py b, py c]) (ea_cons h (ea_cons h2 (ea_cons h3 ea_nil)))
/-! ### calls of built-ins -/
theorem c_lenL {ds : List PyData} : RcD (rLenX K) [rpD (.list ds)] (rep (ds.length : Int)) := fun vs f hp s rs Q q => by
  obtain ⟨v, rfl, rv⟩ := rs.one
  have rv : repD (.list ds) v f := rv
  simp only [repD] at rv
  obtain ⟨p, us, rfl, h1, h2⟩ := rv
  exact .inl ⟨p, us, rfl, .inl (SqL.of1 (s _ _ h1)), q _ f hp (.refl s) (by rw [repL_length h2]; exact rep_of_int _ _)⟩
theorem c_lenT {ds : List PyData} : RcD (rLenX K) [rpD (.tuple ds)] (rep (ds.length : Int)) := fun vs f hp s rs Q q => by
  obtain ⟨v, rfl, rv⟩ := rs.one
  have rv : repD (.tuple ds) v f := rv
  simp only [repD] at rv
  obtain ⟨p, us, rfl, h1, h2⟩ := rv
  exact .inl ⟨p, us, rfl, .inr (SqT.of1 (s _ _ h1)), q _ f hp (.refl s) (by rw [repL_length h2]; exact rep_of_int _ _)⟩
theorem c_len {α : Type} {_ : ToPy α} {xs : List α} : RcD (rLenX K) [rep xs] (rep (xs.length : Int)) := by
  have h := c_lenL (K := K) (ds := xs.map py)
  rw [List.length_map] at h
  exact h
theorem c_lenTup {α : Type} {_ : ToPy α} {xs : List α} : RcD (rLenX K) [rep (Tup.mk xs)] (rep (xs.length : Int)) := by
  have h := c_lenT (K := K) (ds := xs.map py)
  rw [List.length_map] at h
  exact h
theorem c_lenScr {ns : List Int} : RcD (rLenX K) [scr K ns] (rep (ns.length : Int)) := fun vs f hp s rs Q q => by
  obtain ⟨v, rfl, a, rfl, h⟩ := rs.one
  exact .inl ⟨a, _, rfl, .inl (s.seq h), q _ f hp (.refl s) (by rw [List.length_map]; exact rep_of_int _ _)⟩
theorem c_lenS {x : Str} (hl : x.length ≤ 1000000) : RcD (rLenX K) [rep x] (rep (x.length : Int)) := fun vs f hp s rs Q q => by
  obtain ⟨v, rfl, rv⟩ := rs.one
  cases rep_str rv
  exact .inr ⟨x, rfl, Nat.le_trans hl (by decide), q _ f hp (.refl s) (rep_of_int _ _)⟩
theorem c_listN {ds : List PyData} : RcN (rListX K) [rpD (.list ds)] (oLD ds) := fun vs f hp s rs Q q => by
  obtain ⟨v, rfl, rv⟩ := rs.one
  have rv : repD (.list ds) v f := rv
  simp only [repD] at rv
  obtain ⟨p, us, rfl, h1, h2⟩ := rv
  exact ⟨p, us, rfl, .inl (SqL.of1 (s _ _ h1)), fun n hn => q n _ f _ (.newH s hn) hn (s.free hn) upd_same ⟨us, rfl, h2⟩⟩
theorem c_list {α : Type} {_ : ToPy α} {xs : List α} : RcN (rListX K) [rep xs] (oL xs) := c_listN
theorem c_listTN {ds : List PyData} : RcN (rListX K) [rpD (.tuple ds)] (oLD ds) := fun vs f hp s rs Q q => by
  obtain ⟨v, rfl, rv⟩ := rs.one
  have rv : repD (.tuple ds) v f := rv
  simp only [repD] at rv
  obtain ⟨p, us, rfl, h1, h2⟩ := rv
  exact ⟨p, us, rfl, .inr (SqT.of1 (s _ _ h1)), fun n hn => q n _ f _ (.newH s hn) hn (s.free hn) upd_same ⟨us, rfl, h2⟩⟩
theorem c_listT {α : Type} {_ : ToPy α} {xs : List α} : RcN (rListX K) [rep (Tup.mk xs)] (oL xs) := c_listTN
theorem c_tupD {ds : List PyData} : RcD (rTupX K) [rpD (.list ds)] (rpD (.tuple ds)) := fun vs f hp s rs Q q => by
  obtain ⟨v, rfl, rv⟩ := rs.one
  have rv : repD (.list ds) v f := rv
  simp only [repD] at rv
  obtain ⟨p, us, rfl, h1, h2⟩ := rv
  refine ⟨p, us, rfl, .inl ⟨SqL.of1 (s _ _ h1), fun n hn => q (.ref n) _ _ (.new s hn) ?_⟩⟩
  show repD (.tuple ds) _ _
  simp only [repD]
  exact ⟨n, us, rfl, upd_same, repL_mono (same_new (s.free hn)) _ _ h2⟩
theorem c_tup {α : Type} {_ : ToPy α} {xs : List α} : RcD (rTupX K) [rep xs] (rep (Tup.mk xs)) := c_tupD
theorem c_abs {i : Int} : RcD rAbsX [rep i] (rep (if i < 0 then -i else i)) := fun vs f hp s rs Q q => by
  obtain ⟨v, rfl, rv⟩ := rs.one
  cases rep_int rv
  exact ⟨i, rfl, q _ f hp (.refl s) (rep_of_int _ _)⟩
theorem c_min2 {i j : Int} : RcD rMin2X [rep i, rep j] (rep (if j < i then j else i)) := fun vs f hp s rs Q q => by
  obtain ⟨v, u, rfl, rv, ru⟩ := rs.two
  cases rep_int rv
  cases rep_int ru
  exact ⟨i, j, rfl, q _ f hp (.refl s) (rep_of_int _ _)⟩
theorem c_max2 {i j : Int} : RcD rMax2X [rep i, rep j] (rep (if j > i then j else i)) := fun vs f hp s rs Q q => by
  obtain ⟨v, u, rfl, rv, ru⟩ := rs.two
  cases rep_int rv
  cases rep_int ru
  exact ⟨i, j, rfl, q _ f hp (.refl s) (rep_of_int _ _)⟩
theorem c_intB {b : Bool} : RcD rIntX [rep b] (rep (if b = true then 1 else 0 : Int)) := fun vs f hp s rs Q q => by
  obtain ⟨v, rfl, rv⟩ := rs.one
  cases rep_bool rv
  exact .inl (.inr ⟨b, rfl, q _ f hp (.refl s) (rep_of_int _ _)⟩)
theorem c_intS {x : Str} {n : Int} (h : PySem.intText? x = some n) (hl : x.length ≤ 640) : RcD rIntX [rep x] (rep n) := fun vs f hp s rs Q q => by
  obtain ⟨v, rfl, rv⟩ := rs.one
  cases rep_str rv
  exact .inr ⟨x, n, rfl, h, hl, q _ f hp (.refl s) (rep_of_int _ _)⟩
theorem c_str {i : Int} (h : i.natAbs.log2 < 1920) : RcD rStrX [rep i] (rep (toString i : Str)) := fun vs f hp s rs Q q => by
  obtain ⟨v, rfl, rv⟩ := rs.one
  cases rep_int rv
  exact ⟨i, rfl, h, q _ f hp (.refl s) (rep_of_str _ _)⟩
theorem c_sum {ns : List Int} : RcD (rSum K) [rep ns] (rep ns.sum) := fun vs f hp s rs Q q => by
  obtain ⟨v, rfl, rv⟩ := rs.one
  obtain ⟨p, us, rfl, h1, h2⟩ := rep_list rv
  have e := repL_ints h2
  subst e
  exact ⟨p, ns, rfl, SqL.of1 (s _ _ h1), q _ f hp (.refl s) (rep_of_int _ _)⟩
/-- the least of some numbers, not none -/
def least : List Int → Int
  | [] => 0
  | a :: l => l.foldl (fun x y => if y < x then y else x) a
def greatest : List Int → Int
  | [] => 0
  | a :: l => l.foldl (fun x y => if x < y then y else x) a
theorem fold_least : ∀ (l : List Int) (a : Int), (l.foldl (fun x y => if y < x then y else x) a = a ∨ l.foldl (fun x y => if y < x then y else x) a ∈ l) ∧ l.foldl (fun x y => if y < x then y else x) a ≤ a ∧ ∀ y ∈ l, l.foldl (fun x y => if y < x then y else x) a ≤ y
  | [], a => by simp
  | b :: l, a => by
    rw [List.foldl_cons]
    obtain ⟨h1, h2, h3⟩ := fold_least l (if b < a then b else a)
    refine ⟨?_, ?_, ?_⟩
    · rcases h1 with h1 | h1
      · rw [h1]
        split
        · right; simp
        · left; rfl
      · right; simp [h1]
    · refine Int.le_trans h2 ?_
      split <;> omega
    · intro y hy
      rcases List.mem_cons.mp hy with rfl | hy
      · refine Int.le_trans h2 ?_
        split <;> omega
      · exact h3 y hy
theorem fold_greatest : ∀ (l : List Int) (a : Int), (l.foldl (fun x y => if x < y then y else x) a = a ∨ l.foldl (fun x y => if x < y then y else x) a ∈ l) ∧ a ≤ l.foldl (fun x y => if x < y then y else x) a ∧ ∀ y ∈ l, y ≤ l.foldl (fun x y => if x < y then y else x) a
  | [], a => by simp
  | b :: l, a => by
    rw [List.foldl_cons]
    obtain ⟨h1, h2, h3⟩ := fold_greatest l (if a < b then b else a)
    refine ⟨?_, ?_, ?_⟩
    · rcases h1 with h1 | h1
      · rw [h1]
        split
        · right; simp
        · left; rfl
      · right; simp [h1]
    · refine Int.le_trans ?_ h2
      split <;> omega
    · intro y hy
      rcases List.mem_cons.mp hy with rfl | hy
      · refine Int.le_trans ?_ h2
        split <;> omega
      · exact h3 y hy
theorem least_mem {l : List Int} (h : 0 < l.length) : least l ∈ l ∧ ∀ y ∈ l, least l ≤ y := by
  cases l with
  | nil => simp at h
  | cons a l =>
    obtain ⟨h1, h2, h3⟩ := fold_least l a
    refine ⟨?_, ?_⟩
    · show l.foldl _ a ∈ a :: l
      rcases h1 with h1 | h1
      · rw [h1]; simp
      · simp [h1]
    · intro y hy
      rcases List.mem_cons.mp hy with rfl | hy
      · exact h2
      · exact h3 y hy
theorem greatest_mem {l : List Int} (h : 0 < l.length) : greatest l ∈ l ∧ ∀ y ∈ l, y ≤ greatest l := by
  cases l with
  | nil => simp at h
  | cons a l =>
    obtain ⟨h1, h2, h3⟩ := fold_greatest l a
    refine ⟨?_, ?_⟩
    · show l.foldl _ a ∈ a :: l
      rcases h1 with h1 | h1
      · rw [h1]; simp
      · simp [h1]
    · intro y hy
      rcases List.mem_cons.mp hy with rfl | hy
      · exact h2
      · exact h3 y hy
theorem c_min {ns : List Int} (h : 0 < ns.length) : RcD (rMin K) [rep ns] (rep (least ns)) := fun vs f hp s rs Q q => by
  obtain ⟨v, rfl, rv⟩ := rs.one
  obtain ⟨p, us, rfl, h1, h2⟩ := rep_list rv
  have e := repL_ints h2
  subst e
  refine ⟨p, ns, rfl, SqL.of1 (s _ _ h1), h, fun m hm hle => ?_⟩
  have l := least_mem h
  have e : m = least ns := Int.le_antisymm (hle _ l.1) (l.2 _ hm)
  rw [e]
  exact q _ f hp (.refl s) (rep_of_int _ _)
theorem c_max {ns : List Int} (h : 0 < ns.length) : RcD (rMax K) [rep ns] (rep (greatest ns)) := fun vs f hp s rs Q q => by
  obtain ⟨v, rfl, rv⟩ := rs.one
  obtain ⟨p, us, rfl, h1, h2⟩ := rep_list rv
  have e := repL_ints h2
  subst e
  refine ⟨p, ns, rfl, SqL.of1 (s _ _ h1), h, fun m hm hle => ?_⟩
  have l := greatest_mem h
  have e : m = greatest ns := Int.le_antisymm (l.2 _ hm) (hle _ l.1)
  rw [e]
  exact q _ f hp (.refl s) (rep_of_int _ _)
/-! ### isinstance -/
def tyName : PyData → String
  | .none => "NoneType" | .bool _ => "bool" | .int _ => "int" | .str _ => "str" | .list _ => "list" | .tuple _ => "tuple" | .dict _ => "dict"
/-- isinstance(x, T) of data -/
def isiN (a T : String) : Bool := a == T || (T == "int" && a == "bool")
def isi (d : PyData) (T : String) : Bool := isiN (tyName d) T
/-! ### the slices -/
def tSlX (K : PySem.W.Frag) (te : TE) (tl th : TO) : TE := tSl (rSlX K) te tl th
theorem en_sl {ds : List PyData} {tl th : TO} {lo hi : Option Int} (h : EvD Γ te (rpD (.list ds))) (h1 : EvP Γ tl lo) (h2 : EvP Γ th hi) :
    EvN Γ (tSl (rSlX K) te tl th) (oLD ((ds.drop (HT.sIx ds.length 0 lo)).take (HT.sIx ds.length ds.length hi - HT.sIx ds.length 0 lo))) := fun σ f hp s ok Q q =>
  h σ f hp s ok _ fun v f1 hp1 e1 rv => h1 σ f1 hp1 e1.fh (ok.mono e1.ff) _ fun f2 hp2 e2 => h2 σ f2 hp2 e2.fh (ok.mono (e1.trans e2).ff) _ fun f3 hp3 e3 => by
    have rv := RP.mono (rpD (.list ds)) rv (e2.trans e3).ff
    have rv : repD (.list ds) v f3 := rv
    simp only [repD] at rv
    obtain ⟨p, us, rfl, g1, g2⟩ := rv
    have E := (e1.trans e2).trans e3
    refine .inl (.inl ⟨p, us, rfl, SqL.of1 (E.fh _ _ g1), fun n hn => q n _ f3 _ (E.trans (.newH E.fh hn)) (E.hh.free hn) (E.fh.free hn) upd_same ⟨_, rfl, ?_⟩⟩)
    unfold cutV
    rw [repL_length g2]
    exact repL_take _ (repL_drop _ g2)
def cut {α : Type} (xs : List α) (lo hi : Option Int) : List α := (xs.drop (HT.sIx xs.length 0 lo)).take (HT.sIx xs.length xs.length hi - HT.sIx xs.length 0 lo)
theorem en_cut {α : Type} {_ : ToPy α} {xs : List α} {tl th : TO} {lo hi : Option Int} (h : EvD Γ te (rep xs)) (h1 : EvP Γ tl lo) (h2 : EvP Γ th hi) : EvN Γ (tSl (rSlX K) te tl th) (oL (cut xs lo hi)) := by
  have z := en_sl (K := K) (ds := xs.map py) h h1 h2
  have e : (cut xs lo hi).map py = (((xs.map py).drop (HT.sIx (xs.map (py : α → PyData)).length 0 lo)).take (HT.sIx (xs.map (py : α → PyData)).length (xs.map (py : α → PyData)).length hi - HT.sIx (xs.map (py : α → PyData)).length 0 lo)) := by
    unfold cut
    rw [List.map_take, List.map_drop, List.length_map]
  unfold oL
  rw [e]
  exact z
end
end D

set_option Elab.async false
set_option linter.all false
set_option maxRecDepth 100000
set_option maxHeartbeats 4000000
namespace D
open PySem PySem.Spec PyProof.Rows L2
open ToPy (py)

/-! ### states: a base (the part that stands, the whole heap, what of it may change), slots, our own objects -/
structure Base where
  f : Hp
  h : Hp
  m : List Addr
abbrev Own := List (Addr × OT)
structure Sta (B : Base) (Γ : Ctx) (O : Own) (σ : L2.St) (f h : Hp) : Prop where
  ff : Same B.f f
  fh : Same f h
  hh : ∀ a o, B.h a = some o → a ∉ B.m → h a = some o
  th : ∀ a, B.h a ≠ none → h a ≠ none
  nf : ∀ a, B.h a ≠ none → B.f a = none → f a = none
  ok : Ok Γ σ f
  ow : ∀ p T, (p, T) ∈ O → f p = none ∧ (B.h p = none ∨ p ∈ B.m) ∧ ∃ o, h p = some o ∧ T.q o f
  nd : (O.map (·.1)).Nodup
structure Post where
  nx : L2.St → Hp → Hp → Prop
  rt : V → Hp → Hp → Prop
  bk : L2.St → Hp → Hp → Prop
  ct : L2.St → Hp → Hp → Prop
structure PostOk (L : Hp) (P : Post) (D : Ends) : Prop where
  nx : ∀ σ f h, Same L f → P.nx σ f h → D.nx σ h
  rt : ∀ v f h, Same L f → P.rt v f h → D.rt v h
  bk : ∀ σ f h, Same L f → P.bk σ f h → D.bk σ h
  ct : ∀ σ f h, Same L f → P.ct σ f h → D.ct σ h
def BDe (B : Base) (Γ : Ctx) (O : Own) (t : TS) (P : Post) : Prop := ∀ L σ f h, Sta B Γ O σ f h → Same L f → ∀ D : Ends, PostOk L P D → t D σ h
def EvS (B : Base) (Γ : Ctx) (O : Own) (te : TE) (R : RP) : Prop := ∀ σ f h, Sta B Γ O σ f h → ∀ Q : VK, (∀ v f' h', Ext f h f' h' → R.p v f' → Q v h') → te σ h Q
def EvTS (B : Base) (Γ : Ctx) (O : Own) (tt : TT) (b : Bool) : Prop := ∀ σ f h, Sta B Γ O σ f h → ∀ Q : Bool → Hp → Prop, (∀ f' h', Ext f h f' h' → Q b h') → tt σ h Q
def EvNS (B : Base) (Γ : Ctx) (O : Own) (te : TE) (T : OT) : Prop := ∀ σ f h, Sta B Γ O σ f h → ∀ Q : VK, (∀ p o f' h', Ext f h f' h' → h p = none → f' p = none → h' p = some o → T.q o f' → Q (.ref p) h') → te σ h Q
/-- the heap that stands, with our own objects -/
def lent (O : Own) (f h : Hp) : Hp := fun a => if a ∈ O.map (·.1) then h a else f a
/-- one thing lent: as R it is known, as R' the expression may see it -/
def Lend (O : Own) (R R' : RP) : Prop := ∀ v f h, Same f (lent O f h) → (∀ p T, (p, T) ∈ O → ∃ o, h p = some o ∧ T.q o f) → R.p v f → R'.p v (lent O f h)
inductive LendC (O : Own) : Ctx → Ctx → Prop where
  | nil : LendC O [] []
  | no {G G' : Ctx} (h : LendC O G G') : LendC O (none :: G) (none :: G')
  | skip {G G' : Ctx} {R : RP} (h : LendC O G G') : LendC O (some R :: G) (none :: G')
  | one {G G' : Ctx} {R R' : RP} (l : Lend O R R') (h : LendC O G G') : LendC O (some R :: G) (some R' :: G')
section
variable {B : Base} {Γ Γ' : Ctx} {O O' : Own} {σ : L2.St} {f h f' h' : Hp} {te ta : TE} {tt : TT} {R R' : RP} {T T' : OT} {t u t1 t2 : TS} {P : Post} {b : Bool} {i j : Nat} {K : PySem.W.Frag}
theorem Sta.ext (s : Sta B Γ O σ f h) (e : Ext f h f' h') : Sta B Γ O σ f' h' where
  ff := s.ff.trans e.ff
  fh := e.fh
  hh := fun a o q n => e.hh _ _ (s.hh a o q n)
  th := fun a n z => s.th a n (e.hh.free z)
  nf := fun a n z => e.nf a (s.th a n) (s.nf a n z)
  ok := s.ok.mono e.ff
  ow := fun p T hp => by
    obtain ⟨h1, h2, o, h3, h4⟩ := s.ow p T hp
    exact ⟨e.nf p (by rw [h3]; exact fun z => nomatch z) h1, h2, o, e.hh _ _ h3, T.mono h4 e.ff⟩
  nd := s.nd
theorem Sta.toExt (s : Sta B Γ O σ f h) (hm : B.m = []) : Ext B.f B.h f h := ⟨s.ff, fun a o e => s.hh a o e (by rw [hm]; simp), s.fh, s.nf⟩
theorem EvD.s (x : EvD Γ te R) : EvS B Γ O te R := fun σ f h s Q q => x σ f h s.fh s.ok Q q
theorem EvT.s (x : EvT Γ tt b) : EvTS B Γ O tt b := fun σ f h s Q q => x σ f h s.fh s.ok Q q
theorem EvN.s (x : EvN Γ te T) : EvNS B Γ O te T := fun σ f h s Q q => x σ f h s.fh s.ok Q q
theorem PostOk.seq {L : Hp} {D : Ends} (p : PostOk L P D) (k : ∀ σ f h, Same L f → Sta B Γ' O' σ f h → u D σ h) : PostOk L { P with nx := fun σ f h => Sta B Γ' O' σ f h } { D with nx := u D } :=
  ⟨k, p.rt, p.bk, p.ct⟩
theorem bd_next (k : ∀ σ f h, Sta B Γ O σ f h → P.nx σ f h) : BDe B Γ O tNext P := fun L σ f h s l D p => p.nx σ f h l (k σ f h s)
theorem bd_cont (k : ∀ σ f h, Sta B Γ O σ f h → P.ct σ f h) : BDe B Γ O (tSeq tCont u) P := fun L σ f h s l D p => p.ct σ f h l (k σ f h s)
theorem bd_seq (h1 : BDe B Γ O t { P with nx := fun σ f h => Sta B Γ' O' σ f h }) (h2 : BDe B Γ' O' u P) : BDe B Γ O (tSeq t u) P := fun L σ f h s l D p =>
  h1 L σ f h s l _ (p.seq fun σ' f' h' l' s' => h2 L σ' f' h' s' l' D p)
theorem Sta.set (s : Sta B Γ O σ f h) {v : V} (hv : R.p v f) : Sta B (Γ.set i (some R)) O (σ.set i (some v)) f h := { s with ok := s.ok.set i hv }
theorem Sta.setn (s : Sta B Γ O σ f h) {v : Option V} : Sta B (Γ.set i none) O (σ.set i v) f h := { s with ok := s.ok.setn i }
/-- x = e -/
theorem bd_set (he : EvS B Γ O te R) (hr : BDe B (Γ.set i (some R)) O u P) : BDe B Γ O (tSeq (tAsg te (gName i)) u) P := fun L σ f h s l D p =>
  he σ f h s _ fun v f1 h1 e rv => hr L _ f1 h1 ((s.ext e).set rv) (l.trans e.ff) D p
/-- x = e, its value by a letter -/
theorem bd_let {α : Type} {_ : ToPy α} {a : α} (he : EvS B Γ O te (rep a)) (hr : ∀ x : α, x = a → BDe B (Γ.set i (some (rep x))) O u P) : BDe B Γ O (tSeq (tAsg te (gName i)) u) P := bd_set he (hr a rfl)
/-- x = e, a new object of our own -/
theorem bd_own (he : EvNS B Γ O te T) (hr : ∀ p, BDe B (Γ.set i (some (own p))) ((p, T) :: O) u P) : BDe B Γ O (tSeq (tAsg te (gName i)) u) P := fun L σ f h s l D q =>
  he σ f h s _ fun p o f1 h1 e n nf ho ht => by
    have s1 := s.ext e
    refine hr p L _ f1 h1 { s1 with ok := s1.ok.set i (R := own p) rfl, ow := ?_, nd := ?_ } (l.trans e.ff) D q
    · intro p' T' hm
      rcases List.mem_cons.mp hm with z | z
      · cases z
        refine ⟨nf, .inl ?_, o, ho, ht⟩
        cases hb : B.h p with
        | none => rfl
        | some o' => exact absurd n (s.th p (by rw [hb]; exact fun z => nomatch z))
      · exact s1.ow p' T' z
    · rw [List.map_cons, List.nodup_cons]
      refine ⟨fun z => ?_, s1.nd⟩
      obtain ⟨⟨p', T'⟩, z1, z2⟩ := List.mem_map.mp z
      obtain ⟨_, _, o', h3, _⟩ := s.ow p' T' z1
      cases z2
      rw [n] at h3
      cases h3
theorem bd_drop (he : EvS B Γ O te R) (hr : BDe B Γ O u P) : BDe B Γ O (tSeq (tDrop te) u) P := fun L σ f h s l D p =>
  he σ f h s _ fun v f1 h1 e rv => hr L _ f1 h1 (s.ext e) (l.trans e.ff) D p
theorem bd_ret (he : EvS B Γ O te R) (hm : B.m = []) (hP : ∀ v f h, Ext B.f B.h f h → R.p v f → P.rt v f h) : BDe B Γ O (tSeq (tRet te) u) P := fun L σ f h s l D p =>
  he σ f h s _ fun v f1 h1 e rv => p.rt v f1 h1 (l.trans e.ff) (hP v f1 h1 ((s.ext e).toExt hm) rv)
theorem bd_retN (hm : B.m = []) (hP : ∀ f h, Ext B.f B.h f h → P.rt .non f h) : BDe B Γ O (tSeq tRetN u) P := fun L σ f h s l D p => p.rt .non f h l (hP f h (s.toExt hm))
theorem bd_if (hc : EvTS B Γ O tt b) (h1 : b = true → BDe B Γ O t1 { P with nx := fun σ f h => Sta B Γ' O' σ f h }) (h2 : b = false → BDe B Γ O t2 { P with nx := fun σ f h => Sta B Γ' O' σ f h }) (hr : BDe B Γ' O' u P) :
    BDe B Γ O (tSeq (tIfS tt t1 t2) u) P := fun L σ f h s l D p => hc σ f h s _ fun f1 hp1 e => by
  have s1 := s.ext e
  have l1 := l.trans e.ff
  have p1 : PostOk L { P with nx := fun σ f h => Sta B Γ' O' σ f h } { D with nx := u D } := p.seq fun σ' f' h' l' s' => hr L σ' f' h' s' l' D p
  cases b with
  | true => exact iteT (h1 rfl L σ f1 hp1 s1 l1 _ p1)
  | false => exact iteF (h2 rfl L σ f1 hp1 s1 l1 _ p1)
/-- if c: a way that does not fall through -/
theorem bd_ifr (hc : EvTS B Γ O tt b) (h1 : b = true → BDe B Γ O t1 { P with nx := fun _ _ _ => False }) (hr : b = false → BDe B Γ O u P) : BDe B Γ O (tSeq (tIfS tt t1 tNext) u) P := fun L σ f h s l D p =>
  hc σ f h s _ fun f1 hp1 e => by
    have s1 := s.ext e
    have l1 := l.trans e.ff
    cases b with
    | true => exact iteT (h1 rfl L σ f1 hp1 s1 l1 _ ⟨fun _ _ _ _ z => z.elim, p.rt, p.bk, p.ct⟩)
    | false => exact iteF (hr rfl L σ f1 hp1 s1 l1 D p)
/-- both ways go on alone -/
theorem bd_if2 (hc : EvTS B Γ O tt b) (h1 : b = true → BDe B Γ O (tSeq t1 u) P) (h2 : b = false → BDe B Γ O (tSeq t2 u) P) : BDe B Γ O (tSeq (tIfS tt t1 t2) u) P := fun L σ f h s l D p =>
  hc σ f h s _ fun f1 hp1 e => by
    have s1 := s.ext e
    have l1 := l.trans e.ff
    cases b with
    | true => exact iteT (h1 rfl L σ f1 hp1 s1 l1 D p)
    | false => exact iteF (h2 rfl L σ f1 hp1 s1 l1 D p)
/-- if c: x = e, both ways in one -/
theorem bd_ifset {α : Type} [ToPy α] {a c : α} (hc : EvTS B Γ O tt b) (h1 : b = true → EvS B Γ O te (rep a)) (h2 : Γ[i]? = some (some (rep c))) (hr : BDe B (Γ.set i (some (rep (if b = true then a else c)))) O u P) :
    BDe B Γ O (tSeq (tIfS tt (tSeq (tAsg te (gName i)) tNext) tNext) u) P := fun L σ f h s l D p => hc σ f h s _ fun f1 hp1 e => by
  have s1 := s.ext e
  have l1 := l.trans e.ff
  cases b with
  | true => exact iteT (h1 rfl σ f1 hp1 s1 _ fun v f2 h2 e2 rv => hr L _ f2 h2 ((s1.ext e2).set rv) (l1.trans e2.ff) D p)
  | false =>
    refine iteF (hr L σ f1 hp1 ?_ l1 D p)
    have e : Γ.set i (some (rep (if false = true then a else c))) = Γ := by
      apply List.ext_getElem?
      intro n
      by_cases hn : i = n
      · subst hn
        rw [h2, List.getElem?_set_self (List.getElem?_eq_some_iff.mp h2).1]
        simp
      · rw [List.getElem?_set_ne hn]
    rw [e]
    exact s1
theorem bd_weak (w : ∀ σ f h, Sta B Γ O σ f h → Sta B Γ' O' σ f h) (k : BDe B Γ' O' t P) : BDe B Γ O t P := fun L σ f h s l D p => k L σ f h (w σ f h s) l D p
theorem sta_forget (hl : Γ'.length = Γ.length) (w : ∀ (i : Nat) (R : RP), Γ'[i]? = some (some R) → Γ[i]? = some (some R)) : ∀ σ f h, Sta B Γ O σ f h → Sta B Γ' O σ f h := fun σ f h s =>
  { s with ok := ⟨by rw [s.ok.1, hl], fun i R e => s.ok.2 i R (w i R e)⟩ }
/-! ### our own objects -/
theorem Sta.get (s : Sta B Γ O σ f h) {p : Addr} (hi : O[i]? = some (p, T)) : ∃ o, h p = some o ∧ T.q o f := (s.ow p T (List.mem_of_getElem? hi)).2.2
theorem nodup_at {O : Own} (nd : (O.map (·.1)).Nodup) {i j : Nat} {p : Addr} {T T' : OT} (h1 : O[i]? = some (p, T)) (h2 : O[j]? = some (p, T')) : i = j := by
  have e1 : (O.map (·.1))[i]? = some p := by rw [List.getElem?_map, h1]; rfl
  have e2 : (O.map (·.1))[j]? = some p := by rw [List.getElem?_map, h2]; rfl
  obtain ⟨l1, g1⟩ := List.getElem?_eq_some_iff.mp e1
  obtain ⟨l2, g2⟩ := List.getElem?_eq_some_iff.mp e2
  exact (List.getElem_inj nd).mp (g1.trans g2.symm)
theorem Sta.put (s : Sta B Γ O σ f h) {p : Addr} {o : HO} (hi : O[i]? = some (p, T)) (hq : T'.q o f) : Sta B Γ (O.set i (p, T')) σ f (upd h p o) := by
  obtain ⟨h1, h2, o1, h3, _⟩ := s.ow p T (List.mem_of_getElem? hi)
  refine { s with fh := same_upd s.fh h1, hh := ?_, th := ?_, ow := ?_, nd := ?_ }
  · intro a o' e n
    by_cases hp : a = p
    · subst hp
      rcases h2 with h2 | h2
      · rw [h2] at e; cases e
      · exact absurd h2 n
    · rw [upd_ne hp]
      exact s.hh a o' e n
  · intro a n
    by_cases hp : a = p
    · subst hp
      rw [upd_same]
      exact fun z => nomatch z
    · rw [upd_ne hp]
      exact s.th a n
  · intro p' U hm
    obtain ⟨j, hj⟩ := List.getElem?_of_mem hm
    by_cases hij : i = j
    · subst hij
      rw [List.getElem?_set_self (List.getElem?_eq_some_iff.mp hi).1] at hj
      cases hj
      exact ⟨h1, h2, o, upd_same, hq⟩
    · rw [List.getElem?_set_ne hij] at hj
      obtain ⟨g1, g2, o2, g3, g4⟩ := s.ow p' U (List.mem_of_getElem? hj)
      have ne : p' ≠ p := fun z => hij (nodup_at s.nd hi (z ▸ hj))
      exact ⟨g1, g2, o2, by rw [upd_ne ne]; exact g3, g4⟩
  · have e : (O.set i (p, T')).map (·.1) = O.map (·.1) := by
      rw [List.map_set]
      apply List.ext_getElem?
      intro n
      by_cases hn : i = n
      · subst hn
        rw [List.getElem?_set_self (by simpa using (List.getElem?_eq_some_iff.mp hi).1), List.getElem?_map, hi]
        rfl
      · rw [List.getElem?_set_ne hn]
    rw [e]
    exact s.nd
/-- an object of our own stands for good from now on -/
theorem Sta.freeze (s : Sta B Γ O σ f h) {p : Addr} {o : HO} (hi : O[i]? = some (p, T)) (ho : h p = some o) (hm : B.m = []) : Sta B Γ (O.eraseIdx i) σ (upd f p o) h ∧ Same f (upd f p o) := by
  obtain ⟨h1, h2, o1, h3, h4⟩ := s.ow p T (List.mem_of_getElem? hi)
  have hb : B.h p = none := by
    rcases h2 with h2 | h2
    · exact h2
    · rw [hm] at h2; cases h2
  have k := same_new (o := o) h1
  refine ⟨{ s with ff := s.ff.trans k, fh := ?_, nf := ?_, ok := s.ok.mono k, ow := ?_, nd := ?_ }, k⟩
  · intro a u e
    by_cases hp : a = p
    · subst hp
      rw [upd_same] at e
      cases e
      exact ho
    · rw [upd_ne hp] at e
      exact s.fh a u e
  · intro a n z
    rw [upd_ne (fun y => n (by rw [y]; exact hb))]
    exact s.nf a n z
  · intro p' U hm'
    obtain ⟨j, hj⟩ := List.getElem?_of_mem hm'
    have hj' : O[if j < i then j else j + 1]? = some (p', U) := by
      rw [List.getElem?_eraseIdx] at hj
      split at hj
      · rename_i c; rw [if_pos c]; exact hj
      · rename_i c; rw [if_neg c]; exact hj
    obtain ⟨g1, g2, o2, g3, g4⟩ := s.ow p' U (List.mem_of_getElem? hj')
    have ne : p' ≠ p := fun z => by
      have := nodup_at s.nd hi (z ▸ hj')
      split at this <;> omega
    exact ⟨by rw [upd_ne ne]; exact g1, g2, o2, g3, U.mono g4 k⟩
  · rw [List.eraseIdx_eq_take_drop_succ, List.map_append]
    have nd := s.nd
    rw [← List.take_append_drop i O, List.map_append] at nd
    rw [List.nodup_append] at nd ⊢
    obtain ⟨n1, n2, n3⟩ := nd
    have sub : (List.map (·.1) (O.drop (i + 1))).Sublist (List.map (·.1) (O.drop i)) := by
      refine List.Sublist.map _ ?_
      have : O.drop (i + 1) = (O.drop i).drop 1 := by rw [List.drop_drop]
      rw [this]
      exact List.drop_sublist 1 _
    exact ⟨n1, n2.sublist sub, fun a ha b hb => n3 a ha b (sub.subset hb)⟩
theorem bd_frz {α : Type} {_ : ToPy α} {xs : List α} {p : Addr} (j : Nat) (i : Nat) (hi : Γ[i]? = some (some (own p))) (hj : O[j]? = some (p, oL xs)) (hm : B.m = []) (k : BDe B (Γ.set i (some (rep xs))) (O.eraseIdx j) u P) : BDe B Γ O u P := fun L σ f h s l D q => by
  obtain ⟨o, ho, vs, rfl, hr⟩ := s.get hj
  obtain ⟨s1, k1⟩ := s.freeze hj ho hm
  obtain ⟨v, hv, rv⟩ := s.ok.2 i _ hi
  cases rv
  have z : (rep xs).p (.ref p) (upd f p (.lst vs)) := by
    show repD (.list (xs.map py)) _ _
    simp only [repD]
    exact ⟨p, vs, rfl, upd_same, repL_mono k1 _ _ hr⟩
  refine k L σ _ h ?_ (l.trans k1) D q
  have s2 := s1.set (i := i) z
  have e : σ.set i (some (.ref p)) = σ := by
    apply List.ext_getElem?
    intro n
    by_cases hn : i = n
    · subst hn
      rw [List.getElem?_set_self (List.getElem?_eq_some_iff.mp hv).1, hv]
    · rw [List.getElem?_set_ne hn]
  rw [e] at s2
  exact s2
/-! ### lending our own objects to an expression that leaves nothing of them behind -/
theorem lent_f {f h : Hp} (s : Sta B Γ O σ f h) : Same f (lent O f h) := fun a o e => by
  unfold lent
  split
  · exact s.fh a o e
  · exact e
theorem lent_h {f h : Hp} (s : Sta B Γ O σ f h) : Same (lent O f h) h := fun a o e => by
  unfold lent at e
  split at e
  · exact e
  · exact s.fh a o e
theorem lent_at {p : Addr} {f h : Hp} (hi : O[i]? = some (p, T)) : lent O f h p = h p := by
  unfold lent
  rw [if_pos (List.mem_map.mpr ⟨_, List.mem_of_getElem? hi, rfl⟩)]
theorem lend_same : Lend O R R := fun v f h s _ hv => R.mono hv s
theorem lend_list {α : Type} {_ : ToPy α} {xs : List α} {p : Addr} (j : Nat) (hj : O[j]? = some (p, oL xs)) : Lend O (own p) (rep xs) := fun v f h s w hv => by
  cases hv
  obtain ⟨o, ho, vs, rfl, hr⟩ := w p _ (List.mem_of_getElem? hj)
  show repD (.list (xs.map py)) _ _
  simp only [repD]
  exact ⟨p, vs, rfl, by rw [lent_at hj]; exact ho, repL_mono s _ _ hr⟩
theorem LendC.ok (c : LendC O Γ Γ') : ∀ {σ : L2.St} {f h : Hp}, Same f (lent O f h) → (∀ p T, (p, T) ∈ O → ∃ o, h p = some o ∧ T.q o f) → Ok Γ σ f → Ok Γ' σ (lent O f h) := by
  induction c with
  | nil => intro σ f h s w ok; exact ⟨ok.1, fun i R e => by simp at e⟩
  | @no Γ Γ' c ih =>
    intro σ f h s w ok
    cases σ with
    | nil => have := ok.1; simp at this
    | cons x σ =>
      have ok' : Ok Γ σ f := ⟨by have := ok.1; simpa using this, fun i R e => by have := ok.2 (i + 1) R (by simpa using e); simpa using this⟩
      have r := ih s w ok'
      refine ⟨by simp [r.1], fun i R e => ?_⟩
      cases i with
      | zero => simp at e
      | succ i => simpa using r.2 i R (by simpa using e)
  | @skip Γ Γ' Q c ih =>
    intro σ f h s w ok
    cases σ with
    | nil => have := ok.1; simp at this
    | cons x σ =>
      have ok' : Ok Γ σ f := ⟨by have := ok.1; simpa using this, fun i R e => by have := ok.2 (i + 1) R (by simpa using e); simpa using this⟩
      have r := ih s w ok'
      refine ⟨by simp [r.1], fun i R e => ?_⟩
      cases i with
      | zero => simp at e
      | succ i => simpa using r.2 i R (by simpa using e)
  | @one Γ Γ' Q Q' l c ih =>
    intro σ f h s w ok
    cases σ with
    | nil => have := ok.1; simp at this
    | cons x σ =>
      have ok' : Ok Γ σ f := ⟨by have := ok.1; simpa using this, fun i R e => by have := ok.2 (i + 1) R (by simpa using e); simpa using this⟩
      have r := ih s w ok'
      refine ⟨by simp [r.1], fun i R e => ?_⟩
      cases i with
      | zero =>
        simp at e
        subst e
        obtain ⟨v, h1, h2⟩ := ok.2 0 Q rfl
        exact ⟨v, h1, l v f h s w h2⟩
      | succ i => simpa using r.2 i R (by simpa using e)
theorem ev_lend (c : LendC O Γ Γ') (x : EvD Γ' te R) (fl : Flat R) : EvS B Γ O te R := fun σ f h s Q q =>
  x σ (lent O f h) h (lent_h s) (c.ok (lent_f s) (fun p T m => (s.ow p T m).2.2) s.ok) Q fun v f' h' e rv =>
    q v f h' ⟨.refl _, e.hh, s.fh.trans e.hh, fun _ _ z => z⟩ (fl v f' f rv)
theorem et_lend (c : LendC O Γ Γ') (x : EvT Γ' tt b) : EvTS B Γ O tt b := fun σ f h s Q q =>
  x σ (lent O f h) h (lent_h s) (c.ok (lent_f s) (fun p T m => (s.ow p T m).2.2) s.ok) Q fun f' h' e =>
    q f h' ⟨.refl _, e.hh, s.fh.trans e.hh, fun _ _ z => z⟩
/-! ### changes of our own objects -/
/-- xs.append(e) -/
theorem bd_app {α : Type} {_ : ToPy α} {xs : List α} {a : α} {p : Addr} {to : TE} (j : Nat) (ho : EvD Γ to (own p)) (hj : O[j]? = some (p, oL xs)) (he : EvS B Γ O te (rep a)) (hz : xs.length < 1000000) (k : BDe B Γ (O.set j (p, oL (xs ++ [a]))) u P) :
    BDe B Γ O (tSeq (tDrop (tBM K "list" rAppend to (tCons te tNil))) u) P := fun L σ f h s l D q =>
  ho σ f h s.fh s.ok _ fun v f1 h1 e1 rv => by
    cases rv
    have s1 := s.ext e1
    obtain ⟨o, hp, vs, rfl, hr⟩ := s1.get hj
    refine ⟨.inl ⟨rfl, vs, SqL.of1 hp⟩, he σ f1 h1 s1 _ fun y f2 h2 e2 ry => ?_⟩
    have s2 := s1.ext e2
    have hp2 : h2 p = some (.lst vs) := e2.hh _ _ hp
    refine ⟨p, vs, y, rfl, rfl, hp2, ?_, ?_⟩
    · rw [repL_length hr, List.length_map]
      exact Nat.lt_trans hz (by decide)
    · refine k L σ f2 _ (s2.put hj ?_) ((l.trans e1.ff).trans e2.ff) D q
      refine ⟨_, rfl, ?_⟩
      rw [List.map_append]
      exact repL_append (repL_mono e2.ff _ _ hr) (repL_one ry)
/-- xs[i] = e -/
theorem bd_setI {α : Type} {_ : ToPy α} {xs : List α} {a : α} {z : Int} {p : Addr} {to ti : TE} (j : Nat) (he : EvS B Γ O te (rep a)) (ho : EvD Γ to (own p)) (hi : EvS B Γ O ti (rep z)) (hj : O[j]? = some (p, oL xs)) (h0 : 0 ≤ z) (h1 : z < (xs.length : Int))
    (k : BDe B Γ (O.set j (p, oL (xs.set z.toNat a))) u P) : BDe B Γ O (tSeq (tAsg te (gSub to ti rSetL)) u) P := fun L σ f h s l D q =>
  he σ f h s _ fun y f1 hp1 e1 ry => ho σ f1 hp1 e1.fh (s.ext e1).ok _ fun v f2 hp2 e2 rv => hi σ f2 hp2 ((s.ext e1).ext e2) _ fun w f3 hp3 e3 rw_ => by
    cases rv
    cases rep_int rw_
    have s3 := ((s.ext e1).ext e2).ext e3
    obtain ⟨o, hp, vs, rfl, hr⟩ := s3.get hj
    refine ⟨p, vs, z, z.toNat, rfl, rfl, hp, ?_, ?_⟩
    · unfold ixN
      rw [if_pos h0, if_pos]
      rw [repL_length hr, List.length_map]
      exact h1
    · refine k L σ f3 _ (s3.put hj ?_) (((l.trans e1.ff).trans e2.ff).trans e3.ff) D q
      refine ⟨_, rfl, ?_⟩
      rw [List.map_set]
      exact repL_set _ hr ((rpD (py a)).mono ry (e2.trans e3).ff)
end
end D

set_option Elab.async false
set_option linter.all false
set_option maxRecDepth 100000
set_option maxHeartbeats 4000000
namespace D
open PySem PySem.Spec PyProof.Rows L2
open ToPy (py)

/-! ### what a for walks: n items, the i-th as item i tells -/
structure ItOk (J : It) (f0 : Hp) (n : Nat) (item : Nat → RP) : Prop where
  go : ∀ i f h, i < n → Same f0 f → Same f h → J.go i h
  yld : ∀ i f h x h', i < n → Same f0 f → Same f h → J.yld i h x h' → ∃ f', Ext f h f' h' ∧ (item i).p x f'
  stop : ∀ f h, Same f0 f → Same f h → J.stop n h
def WiD (Γ : Ctx) (wi : TI) (n : Nat) (item : Nat → RP) : Prop := ∀ σ f h, Same f h → Ok Γ σ f → ∀ Rk : It → Hp → Prop, (∀ J f' h', Ext f h f' h' → ItOk J f' n item → Rk J h') → wi σ h Rk
def WiS (B : Base) (Γ : Ctx) (O : Own) (wi : TI) (n : Nat) (item : Nat → RP) : Prop := ∀ σ f h, Sta B Γ O σ f h → ∀ Rk : It → Hp → Prop, (∀ J f' h', Ext f h f' h' → ItOk J f' n item → Rk J h') → wi σ h Rk
/-- a target: what the slots hold behind it -/
def TgD (g : TG) (R : RP) (Γ Γ' : Ctx) : Prop := ∀ σ f h, Same f h → Ok Γ σ f → ∀ v, R.p v f → ∀ Q : L2.St → Hp → Prop, (∀ σ', Ok Γ' σ' f → Q σ' h) → g v σ h Q
section
variable {B : Base} {Γ Γ' : Ctx} {O O' : Own} {σ : L2.St} {te ta tl : TE} {tt : TT} {R R' : RP} {T T' : OT} {t u t1 t2 tb : TS} {P : Post} {b : Bool} {i j n : Nat} {K : PySem.W.Frag} {wi : TI} {item : Nat → RP} {g : TG}
theorem WiD.s (x : WiD Γ wi n item) : WiS B Γ O wi n item := fun σ f h s Q q => x σ f h s.fh s.ok Q q
theorem tg_name {j : Nat} : TgD (gName j) R Γ (Γ.set j (some R)) := fun σ f h s ok v rv Q q => q _ (ok.set j rv)
theorem tg_pair {α β : Type} {_ : ToPy α} {_ : ToPy β} {a : α} {c : β} {i j : Nat} : TgD (gTup K 2 (gCons (gName i) (gCons (gName j) gNil))) (rep (a, c)) Γ ((Γ.set i (some (rep a))).set j (some (rep c))) := fun σ f h s ok v rv Q q => by
  have rv : repD (.tuple [py a, py c]) v f := rv
  simp only [repD, repL] at rv
  obtain ⟨p, vs, rfl, h1, x, r, rfl, hx, y, r2, rfl, hy, rfl⟩ := rv
  exact ⟨p, _, rfl, SqT.of1 (s _ _ h1), rfl, x, [y], rfl, y, [], rfl, rfl, q _ ((ok.set i (R := rep a) hx).set j (R := rep c) hy)⟩
theorem tg_t3 {α β γ : Type} {_ : ToPy α} {_ : ToPy β} {_ : ToPy γ} {a : α} {c : β} {d : γ} {i j k : Nat} :
    TgD (gTup K 3 (gCons (gName i) (gCons (gName j) (gCons (gName k) gNil)))) (rep (T3.mk a c d)) Γ (((Γ.set i (some (rep a))).set j (some (rep c))).set k (some (rep d))) := fun σ f h s ok v rv Q q => by
  have rv : repD (.tuple [py a, py c, py d]) v f := rv
  simp only [repD, repL] at rv
  obtain ⟨p, vs, rfl, h1, x, r, rfl, hx, y, r2, rfl, hy, z, r3, rfl, hz, rfl⟩ := rv
  exact ⟨p, _, rfl, SqT.of1 (s _ _ h1), rfl, x, [y, z], rfl, y, [z], rfl, z, [], rfl, rfl, q _ (((ok.set i (R := rep a) hx).set j (R := rep c) hy).set k (R := rep d) hz)⟩
/-- for .. in ..: the word by the turn: slots G, our own W, a fact F -/
theorem bd_for (hw : WiS B Γ O wi n item) (G : Nat → Ctx) (W : Nat → Own) (F : Nat → Prop) (h0 : ∀ σ f h, Sta B Γ O σ f h → Sta B (G 0) (W 0) σ f h) (f0 : F 0) {G' : Nat → Ctx}
    (ht : ∀ i, i < n → TgD g (item i) (G i) (G' i))
    (hb : ∀ i, i < n → F i → BDe B (G' i) (W i) tb { P with nx := fun σ f h => F (i + 1) ∧ Sta B (G (i + 1)) (W (i + 1)) σ f h, ct := fun σ f h => F (i + 1) ∧ Sta B (G (i + 1)) (W (i + 1)) σ f h, bk := fun _ _ _ => False })
    (hn : F n → BDe B (G n) (W n) u P) : BDe B Γ O (tSeq (tFor wi g tb) u) P := fun L σ f h s l D p =>
  hw σ f h s _ fun J f1 h1 e J1 => by
    have s1 := s.ext e
    refine ⟨fun i m σ' h' => ∃ f', m = n - i ∧ i ≤ n ∧ F i ∧ Same f1 f' ∧ Sta B (G i) (W i) σ' f' h', ⟨n, f1, by simp, Nat.zero_le _, f0, .refl _, h0 _ _ _ s1⟩, ?_⟩
    rintro i m σ' h' ⟨f', rfl, hi, fi, k1, s'⟩
    by_cases hlt : i < n
    · refine .inr ⟨J1.go i f' h' hlt k1 s'.fh, fun σ2 h2 => ∃ f2, F (i + 1) ∧ Same f1 f2 ∧ Sta B (G (i + 1)) (W (i + 1)) σ2 f2 h2, fun σ2 h2 ⟨f2, a, c, d⟩ => ⟨n - (i + 1), by omega, f2, rfl, hlt, a, c, d⟩, fun x h2 y => ?_⟩
      obtain ⟨f2, e2, rx⟩ := J1.yld i f' h' x h2 hlt k1 s'.fh y
      have s2 := s'.ext e2
      refine ht i hlt σ' f2 h2 s2.fh s2.ok x rx _ fun σ3 ok3 => ?_
      have s3 : Sta B (G' i) (W i) σ3 f2 h2 := { s2 with ok := ok3 }
      have k2 := k1.trans e2.ff
      refine hb i hlt fi f1 σ3 f2 h2 s3 k2 _ ⟨fun σ4 f4 h4 l4 z => ⟨f4, z.1, l4, z.2⟩, fun v f4 h4 l4 z => p.rt v f4 h4 ((l.trans e.ff).trans l4) z, fun σ4 f4 h4 l4 z => z.elim, fun σ4 f4 h4 l4 z => ⟨f4, z.1, l4, z.2⟩⟩
    · have e3 : i = n := by omega
      subst e3
      exact .inl ⟨J1.stop f' h' k1 s'.fh, hn fi L σ' f' h' s' ((l.trans e.ff).trans k1) D p⟩
/-- while ..: at most n turns -/
theorem bd_while (n : Nat) (G : Nat → Ctx) (W : Nat → Own) (F : Nat → Prop) (h0 : ∀ σ f h, Sta B Γ O σ f h → Sta B (G 0) (W 0) σ f h) (f0 : F 0) (c : Nat → Bool) (hc : ∀ i, i ≤ n → F i → EvTS B (G i) (W i) tt (c i))
    (hb : ∀ i, i ≤ n → F i → c i = true → BDe B (G i) (W i) tb { P with nx := fun σ f h => i < n ∧ F (i + 1) ∧ Sta B (G (i + 1)) (W (i + 1)) σ f h, ct := fun σ f h => i < n ∧ F (i + 1) ∧ Sta B (G (i + 1)) (W (i + 1)) σ f h, bk := fun _ _ _ => False })
    (hn : ∀ i, i ≤ n → F i → c i = false → BDe B (G i) (W i) u P) : BDe B Γ O (tSeq (tWhile tt tb) u) P := fun L σ f h s l D p => by
  refine ⟨fun m σ' h' => ∃ i f', m = n - i ∧ i ≤ n ∧ F i ∧ Same f f' ∧ Sta B (G i) (W i) σ' f' h', ⟨n, 0, f, by simp, Nat.zero_le _, f0, .refl _, h0 _ _ _ s⟩, ?_⟩
  rintro m σ' h' ⟨i, f', rfl, hi, fi, k1, s'⟩
  refine hc i hi fi σ' f' h' s' _ fun f2 h2 e => ?_
  have s2 := s'.ext e
  have k2 := k1.trans e.ff
  cases hci : c i with
  | true =>
    refine iteT ⟨fun σ2 h2 => ∃ f2, i < n ∧ F (i + 1) ∧ Same f f2 ∧ Sta B (G (i + 1)) (W (i + 1)) σ2 f2 h2, fun σ2 h2 ⟨f2, a, b, c, d⟩ => ⟨n - (i + 1), by omega, i + 1, f2, rfl, a, b, c, d⟩, ?_⟩
    exact hb i hi fi hci f σ' f2 h2 s2 k2 _ ⟨fun σ4 f4 h4 l4 z => ⟨f4, z.1, z.2.1, l4, z.2.2⟩, fun v f4 h4 l4 z => p.rt v f4 h4 (l.trans l4) z, fun σ4 f4 h4 l4 z => z.elim, fun σ4 f4 h4 l4 z => ⟨f4, z.1, z.2.1, l4, z.2.2⟩⟩
  | false => exact iteF (hn i hi fi hci L σ' f2 h2 s2 (l.trans k2) D p)
/-! the things walked -/
theorem wi_list {ds : List PyData} (h : EvD Γ tl (rpD (.list ds))) {it : Nat → RP} (hi : ∀ i d, ds[i]? = some d → it i = rpD d) : WiD Γ (iList K tl) ds.length it := fun σ f hp s ok Rk q =>
  h σ f hp s ok _ fun v f1 h1 e rv => by
    have rv : repD (.list ds) v f1 := rv
    simp only [repD] at rv
    obtain ⟨p, vs, rfl, g1, g2⟩ := rv
    refine ⟨p, rfl, ⟨vs, SqL.of1 (e.fh _ _ g1)⟩, q _ f1 h1 e ⟨fun i f h hi s0 s1 => ?_, fun i f h x h' hlt s0 s1 y => ?_, fun f h s0 s1 => ⟨vs, SqL.of1 (s1 _ _ (s0 _ _ g1)), by rw [repL_length g2]; exact Nat.le_refl _⟩⟩⟩
    · have hv : i < vs.length := by rw [repL_length g2]; exact hi
      exact ⟨vs, vs[i], SqL.of1 (s1 _ _ (s0 _ _ g1)), by simp [hv]⟩
    · obtain ⟨rfl, y⟩ := y
      have y := y vs (SqL.of1 (s1 _ _ (s0 _ _ g1)))
      have hd : ds[i]? = some ds[i] := by simp [hlt]
      obtain ⟨v, h3, h4⟩ := repL_get g2 hd
      rw [y] at h3
      cases h3
      exact ⟨f, .refl s1, by rw [hi i _ hd]; exact repD_mono s0 _ _ h4⟩
theorem wi_tup {ds : List PyData} (h : EvD Γ tl (rpD (.tuple ds))) {it : Nat → RP} (hi : ∀ i d, ds[i]? = some d → it i = rpD d) : WiD Γ (iTup K tl) ds.length it := fun σ f hp s ok Rk q =>
  h σ f hp s ok _ fun v f1 h1 e rv => by
    have rv : repD (.tuple ds) v f1 := rv
    simp only [repD] at rv
    obtain ⟨p, vs, rfl, g1, g2⟩ := rv
    refine ⟨p, rfl, ⟨vs, SqT.of1 (e.fh _ _ g1)⟩, q _ f1 h1 e ⟨fun i f h hi s0 s1 => ?_, fun i f h x h' hlt s0 s1 y => ?_, fun f h s0 s1 => ⟨vs, SqT.of1 (s1 _ _ (s0 _ _ g1)), by rw [repL_length g2]; exact Nat.le_refl _⟩⟩⟩
    · have hv : i < vs.length := by rw [repL_length g2]; exact hi
      exact ⟨vs, vs[i], SqT.of1 (s1 _ _ (s0 _ _ g1)), by simp [hv]⟩
    · obtain ⟨rfl, y⟩ := y
      have y := y vs (SqT.of1 (s1 _ _ (s0 _ _ g1)))
      have hd : ds[i]? = some ds[i] := by simp [hlt]
      obtain ⟨v, h3, h4⟩ := repL_get g2 hd
      rw [y] at h3
      cases h3
      exact ⟨f, .refl s1, by rw [hi i _ hd]; exact repD_mono s0 _ _ h4⟩
/-- the item at i (a nat) -/
def at_ {α : Type} [ToPy α] (xs : List α) (i : Nat) : α := xs.getD i ToPy.dft
theorem at_some {α : Type} [ToPy α] {xs : List α} {i : Nat} (h : i < xs.length) : xs[i]? = some (at_ xs i) := by
  unfold at_
  rw [List.getD_eq_getElem?_getD, List.getElem?_eq_getElem h]
  rfl
theorem map_at {α : Type} {_ : ToPy α} {xs : List α} {i : Nat} {d : PyData} (h : (xs.map py)[i]? = some d) : rep (at_ xs i) = rpD d := by
  rw [List.getElem?_map] at h
  unfold at_
  rw [List.getD_eq_getElem?_getD]
  cases e : xs[i]? with
  | none => rw [e] at h; cases h
  | some a => rw [e] at h; cases h; rfl
theorem wi_L {α : Type} {_ : ToPy α} {xs : List α} (h : EvD Γ tl (rep xs)) : WiD Γ (iList K tl) xs.length (fun i => rep (at_ xs i)) := by
  have z := wi_list (K := K) (ds := xs.map py) h (it := fun i => rep (at_ xs i)) fun i d e => map_at e
  rw [List.length_map] at z
  exact z
theorem wi_T {α : Type} {_ : ToPy α} {xs : List α} (h : EvD Γ tl (rep (Tup.mk xs))) : WiD Γ (iTup K tl) xs.length (fun i => rep (at_ xs i)) := by
  have z := wi_tup (K := K) (ds := xs.map py) h (it := fun i => rep (at_ xs i)) fun i d e => map_at e
  rw [List.length_map] at z
  exact z
theorem wi_range {ta : TE} {z : Int} (h : EvD Γ ta (rep z)) (h0 : -(2 ^ 62) ≤ z) (h1 : z < 2 ^ 62) : WiD Γ (iRng1 (tCons ta tNil)) z.toNat (fun i => rep (i : Int)) := fun σ f hp s ok Rk q =>
  h σ f hp s ok _ fun v f1 hp1 e rv => by
    cases rep_int rv
    refine ⟨z, rfl, h0, h1, q _ f1 hp1 e ⟨fun i f h hi s0 s1 => hi, fun i f h x h' hlt s0 s1 y => ?_, fun f h s0 s1 => Nat.le_refl _⟩⟩
    obtain ⟨rfl, rfl⟩ := y
    exact ⟨f, .refl s1, by rw [Int.zero_add]; exact rep_of_int _ _⟩
theorem wi_zip {α β : Type} {_ : ToPy α} {_ : ToPy β} {xs : List α} {ys : List β} {ta tc : TE} (h : EvD Γ ta (rep xs)) (h2 : EvD Γ tc (rep ys)) (hl : xs.length = ys.length) :
    WiD Γ (iZip K (tCons ta (tCons tc tNil))) xs.length (fun i => rep (at_ xs i, at_ ys i)) := fun σ f hp s ok Rk q =>
  h σ f hp s ok _ fun v f1 hp1 e1 rv => h2 σ f1 hp1 e1.fh (ok.mono e1.ff) _ fun w f2 hp2 e2 rw_ => by
    have rv := (rep xs).mono rv e2.ff
    obtain ⟨p, vs, rfl, g1, g2⟩ := rep_list rv
    obtain ⟨p', vs', rfl, g1', g2'⟩ := rep_list rw_
    have l1 : vs.length = xs.length := by rw [repL_length g2, List.length_map]
    have l2 : vs'.length = ys.length := by rw [repL_length g2', List.length_map]
    have E := e1.trans e2
    refine ⟨p, p', vs, vs', rfl, SqL.of1 (E.fh _ _ g1), SqL.of1 (E.fh _ _ g1'), q _ f2 hp2 E ⟨fun i f h hi s0 s1 => ?_, fun i f h x h' hlt s0 s1 y => ?_, fun f h s0 s1 => ?_⟩⟩
    · have a1 : i < vs.length := by omega
      have a2 : i < vs'.length := by omega
      exact ⟨vs, vs', vs[i], vs'[i], SqL.of1 (s1 _ _ (s0 _ _ g1)), SqL.of1 (s1 _ _ (s0 _ _ g1')), by simp [a1], by simp [a2]⟩
    · obtain ⟨T, x1, y1, rfl, hT, rfl, hx1, hx2⟩ := y
      have q1 := hx1 vs (SqL.of1 (s1 _ _ (s0 _ _ g1)))
      have q2 := hx2 vs' (SqL.of1 (s1 _ _ (s0 _ _ g1')))
      refine ⟨_, .new s1 hT, ?_⟩
      have b1 : (xs.map py)[i]? = some (py (at_ xs i)) := by rw [List.getElem?_map, at_some hlt]; rfl
      have b2 : (ys.map py)[i]? = some (py (at_ ys i)) := by rw [List.getElem?_map, at_some (by omega)]; rfl
      obtain ⟨c1, c2, c3⟩ := repL_get g2 b1
      obtain ⟨d1, d2, d3⟩ := repL_get g2' b2
      have z1 : x1 = c1 := Option.some.inj (q1.symm.trans c2)
      have z2 : y1 = d1 := Option.some.inj (q2.symm.trans d2)
      subst z1
      subst z2
      show repD (.tuple [py (at_ xs i), py (at_ ys i)]) _ _
      simp only [repD, repL]
      have k := s0.trans (same_new (o := HO.tup [x1, y1]) (s1.free hT))
      exact ⟨T, _, rfl, upd_same, x1, [y1], rfl, repD_mono k _ _ c3, y1, [], rfl, repD_mono k _ _ d3, rfl⟩
    · exact ⟨vs, vs', SqL.of1 (s1 _ _ (s0 _ _ g1)), SqL.of1 (s1 _ _ (s0 _ _ g1')), .inl (by omega)⟩
/-! ### comprehensions -/
/-- the slots that a comprehension's own names take are forgotten -/
def wipeC (Γ : Ctx) : List Nat → Ctx
  | [] => Γ
  | v :: vs => (wipeC Γ vs).set v none
theorem Ok.wipe {f : Hp} (ok : Ok Γ σ f) : ∀ vs : List Nat, Ok (wipeC Γ vs) (wipe σ vs) f
  | [] => ok
  | v :: vs => by
    unfold wipeC L2.wipe
    exact (Ok.wipe ok vs).setn v
/-- a target that stores into the comprehension's own slots alone -/
def TgL (g : TG) (vs : List Nat) (R : RP) (Γ Γ' : Ctx) : Prop := ∀ σ f h, Same f h → Ok Γ σ f → ∀ v, R.p v f → ∀ Q : L2.St → Hp → Prop, (∀ σ', wipe σ' vs = wipe σ vs → Ok Γ' σ' f → Q σ' h) → g v σ h Q
theorem wipe_wipe_set {σ : L2.St} {j : Nat} {x : Option V} : ∀ {vs : List Nat}, j ∈ vs → wipe (σ.set j x) vs = wipe σ vs
  | [], h => by cases h
  | v :: vs, h => by
    unfold L2.wipe
    by_cases e : j ∈ vs
    · rw [wipe_wipe_set e]
    · have e1 : j = v := by
        rcases List.mem_cons.mp h with z | z
        · exact z
        · exact absurd z e
      subst e1
      have key : ∀ (us : List Nat) (τ : L2.St), (wipe (τ.set j x) us).set j none = (wipe τ us).set j none := by
        intro us
        induction us with
        | nil => intro τ; show (τ.set j x).set j none = τ.set j none; rw [List.set_set]
        | cons u us ih =>
          intro τ
          unfold L2.wipe
          by_cases hu : u = j
          · subst hu
            rw [List.set_set, List.set_set]
            exact ih τ
          · rw [List.set_comm _ _ hu, ih τ, List.set_comm _ _ (Ne.symm hu)]
      exact key vs σ
theorem wipe_idem {σ : L2.St} : ∀ (us vs : List Nat), (∀ u ∈ us, u ∈ vs) → wipe (wipe σ us) vs = wipe σ vs
  | [], vs, _ => rfl
  | u :: us, vs, h => by
    show wipe ((wipe σ us).set u none) vs = wipe σ vs
    rw [wipe_wipe_set (h u (by simp)), wipe_idem us vs fun z hz => h z (List.mem_cons_of_mem _ hz)]
theorem tl_name {j : Nat} {vs : List Nat} (hj : j ∈ vs) : TgL (gName j) vs R Γ (Γ.set j (some R)) := fun σ f h s ok v rv Q q => q _ (wipe_wipe_set hj) (ok.set j rv)
theorem tl_pair {α β : Type} {_ : ToPy α} {_ : ToPy β} {a : α} {c : β} {i j : Nat} {vs : List Nat} (hi : i ∈ vs) (hj : j ∈ vs) : TgL (gTup K 2 (gCons (gName i) (gCons (gName j) gNil))) vs (rep (a, c)) Γ ((Γ.set i (some (rep a))).set j (some (rep c))) := fun σ f h s ok v rv Q q => by
  have rv : repD (.tuple [py a, py c]) v f := rv
  simp only [repD, repL] at rv
  obtain ⟨p, us, rfl, h1, x, r, rfl, hx, y, r2, rfl, hy, rfl⟩ := rv
  exact ⟨p, _, rfl, SqT.of1 (s _ _ h1), rfl, x, [y], rfl, y, [], rfl, rfl, q _ (by rw [wipe_wipe_set hj, wipe_wipe_set hi]) ((ok.set i (R := rep a) hx).set j (R := rep c) hy)⟩
/-- [e for .. in .. if ..]: item by item kept or not -/
theorem en_lcD {vs : List Nat} {keep : Nat → Bool} {val : Nat → PyData} {te : TE} (hw : WiD Γ wi n item) {G' : Nat → Ctx} (ht : ∀ i, i < n → TgL g vs (item i) (wipeC Γ vs) (G' i)) (hc : ∀ i, i < n → EvT (G' i) tt (keep i))
    (he : ∀ i, i < n → keep i = true → EvD (G' i) te (rpD (val i))) (hz : n ≤ 100000) : EvN Γ (tLc wi g tt te vs) (oLD (((List.range n).filter keep).map val)) := fun σ f h s ok Q q =>
  hw σ f h s ok _ fun J f1 h1 e J1 D hD => by
    refine ⟨fun i m h' => m = n - i ∧ i ≤ n ∧ ∃ f', Same f1 f' ∧ Ext f h f' h' ∧ f' D = none ∧ ∃ us, h' D = some (.lst us) ∧ repL (((List.range i).filter keep).map val) us f', ⟨n, by simp, Nat.zero_le _, f1, .refl _, ?_, e.fh.free hD, [], upd_same, by simp [repL]⟩, ?_⟩
    · exact ⟨e.ff, e.hh.trans (same_new hD), e.fh.trans (same_new hD), e.nf⟩
    rintro i m h' ⟨rfl, hi, f', k1, E, hf, us, hu, hr⟩
    by_cases hlt : i < n
    · refine .inr ⟨J1.go i f' h' hlt k1 E.fh, fun h2 => ∃ f2, Same f1 f2 ∧ Ext f h f2 h2 ∧ f2 D = none ∧ ∃ us, h2 D = some (.lst us) ∧ repL (((List.range (i + 1)).filter keep).map val) us f2, fun h2 ⟨f2, a, b, c⟩ => ⟨n - (i + 1), by omega, rfl, hlt, f2, a, b, c⟩, fun x h2 y => ?_⟩
      obtain ⟨f2, e2, rx⟩ := J1.yld i f' h' x h2 hlt k1 E.fh y
      have ok2 : Ok (wipeC Γ vs) (wipe σ vs) f2 := (ok.mono (E.trans e2).ff).wipe vs
      refine ht i hlt _ f2 h2 e2.fh ok2 x rx _ fun σ3 hw3 ok3 => ⟨by rw [hw3]; exact wipe_idem vs vs fun _ z => z, ?_⟩
      refine hc i hlt σ3 f2 h2 e2.fh ok3 _ fun f3 h3 e3 => ?_
      have fD2 : f2 D = none := e2.nf D (by rw [hu]; exact fun z => nomatch z) hf
      have hu2 : h2 D = some (.lst us) := e2.hh _ _ hu
      have fD3 : f3 D = none := e3.nf D (by rw [hu2]; exact fun z => nomatch z) fD2
      have hu3 : h3 D = some (.lst us) := e3.hh _ _ hu2
      have k3 := (k1.trans e2.ff).trans e3.ff
      have E3 := (E.trans e2).trans e3
      cases hk : keep i with
      | true =>
        refine iteT (he i hlt hk σ3 f3 h3 e3.fh (ok3.mono e3.ff) _ fun v f4 h4 e4 rv => ⟨us, e4.hh _ _ hu3, ?_, f4, k3.trans e4.ff, ?_, e4.nf D (by rw [hu3]; exact fun z => nomatch z) fD3, _, upd_same, ?_⟩)
        · rw [repL_length hr, List.length_map]
          have := List.length_filter_le keep (List.range i)
          rw [List.length_range] at this
          exact Nat.lt_of_le_of_lt (Nat.le_trans this (Nat.le_trans (Nat.le_of_lt hlt) hz)) (by decide)
        · have E4 := E3.trans e4
          have f4D : f4 D = none := e4.nf D (by rw [hu3]; exact fun z => nomatch z) fD3
          have hD0 : h D = none := e.hh.free hD
          have kk : Same h (upd h4 D (.lst (us ++ [v]))) := same_upd E4.hh hD0
          exact ⟨E4.ff, kk, same_upd E4.fh f4D, E4.nf⟩
        · rw [List.range_succ, List.filter_append, List.map_append]
          have z : ([i].filter keep).map val = [val i] := by simp [hk]
          rw [z]
          exact repL_append (repL_mono ((e2.ff.trans e3.ff).trans e4.ff) _ _ hr) (repL_one rv)
      | false =>
        refine iteF ⟨f3, k3, E3, fD3, us, hu3, ?_⟩
        rw [List.range_succ, List.filter_append, List.map_append]
        have z : ([i].filter keep).map val = [] := by simp [hk]
        rw [z, List.append_nil]
        exact repL_mono (e2.ff.trans e3.ff) _ _ hr
    · have e3 : i = n := by omega
      subst e3
      exact .inl ⟨J1.stop f' h' k1 E.fh, q D _ f' h' E (e.hh.free hD) hf hu ⟨us, rfl, hr⟩⟩
theorem et_yes : EvT Γ tYes true := fun σ f h s ok Q q => q f h (.refl s)
theorem range_true (n : Nat) : (List.range n).filter (fun _ => true) = List.range n := by simp
/-- [e for .. in ..] -/
theorem en_lc {α : Type} {_ : ToPy α} {vs : List Nat} {val : Nat → α} {te : TE} (hw : WiD Γ wi n item) {G' : Nat → Ctx} (ht : ∀ i, i < n → TgL g vs (item i) (wipeC Γ vs) (G' i))
    (he : ∀ i, i < n → EvD (G' i) te (rep (val i))) (hz : n ≤ 100000) : EvN Γ (tLc wi g tYes te vs) (oL ((List.range n).map val)) := by
  have z := en_lcD (keep := fun _ => true) (val := fun i => py (val i)) hw ht (fun i _ => et_yes) (fun i hi _ => he i hi) hz
  rw [range_true] at z
  unfold oL
  rw [List.map_map]
  exact z
theorem en_lcIf {α : Type} {_ : ToPy α} {vs : List Nat} {val : Nat → α} {keep : Nat → Bool} {te : TE} (hw : WiD Γ wi n item) {G' : Nat → Ctx} (ht : ∀ i, i < n → TgL g vs (item i) (wipeC Γ vs) (G' i)) (hc : ∀ i, i < n → EvT (G' i) tt (keep i))
    (he : ∀ i, i < n → keep i = true → EvD (G' i) te (rep (val i))) (hz : n ≤ 100000) : EvN Γ (tLc wi g tt te vs) (oL (((List.range n).filter keep).map val)) := by
  have z := en_lcD (keep := keep) (val := fun i => py (val i)) hw ht hc (fun i hi h => he i hi h) hz
  unfold oL
  rw [List.map_map]
  exact z
end
end D

set_option Elab.async false
set_option linter.all false
set_option maxRecDepth 100000
set_option maxHeartbeats 4000000
namespace D
open PySem PySem.Spec PyProof.Rows L2
open ToPy (py)

/-! ### promises -/
abbrev Spec := List RP → RP → Prop
/-- a def that hands back what S tells and leaves all that stood -/
def spD (S : Spec) : Sp := fun vs H Q _ => ∃ Rs R f, S Rs R ∧ Same f H ∧ All Rs vs f ∧ ∀ v f' H', Ext f H f' H' → R.p v f' → Q v H'
/-- .. or raises an error of the class at C where SE tells so -/
def spX (S : Spec) (SE : List RP → Addr → Prop) : Sp := fun vs H Q E => ∃ Rs f, Same f H ∧ All Rs vs f ∧ ((∃ R, S Rs R ∧ ∀ v f' H', Ext f H f' H' → R.p v f' → Q v H') ∨ (∃ C, SE Rs C ∧ ∀ f' H', Ext f H f' H' → E (.ref C) none H'))
/-- a def by its name -/
def Okd (P : Program) (w : World) (K : PySem.W.Frag) (mg : Str → Option Value) (base : Heap) (CX : CXT) (k : Nat) (x : Str) (ps : List Str) (sp : Sp) : Prop :=
  ∃ f fd, mg x = some (.ref f) ∧ PySem.W.keepIn K (.ref f) = true ∧ Binds K fd ps [] ∧ FnOk P w K mg base CX k f fd ps sp
/-- a def of the text, by its name, as the top leaves it -/
def Def (K : PySem.W.Frag) (mg : Str → Option Value) (x : Str) (st : Stmt) (ps : List Str) : Prop := ∃ f fd, Fun K x x st f fd ∧ mg x = some (.ref f) ∧ Binds K fd ps []
/-- a method -/
def Okm (P : Program) (w : World) (K : PySem.W.Frag) (mg : Str → Option Value) (base : Heap) (CX : CXT) (k : Nat) (C : Addr) (m : Str) (ps : List Str) (sp : Sp) : Prop :=
  ∃ f fd, Meth K C m f ∧ Binds K fd ps [] ∧ FnOk P w K mg base CX k f fd ps sp
def DefM (K : PySem.W.Frag) (C : Addr) (m q : Str) (st : Stmt) (ps : List Str) : Prop := ∃ f fd, Fun K m q st f fd ∧ Meth K C m f ∧ Binds K fd ps []
/-- a class, made by its __init__ -/
def Oki (P : Program) (w : World) (K : PySem.W.Frag) (mg : Str → Option Value) (base : Heap) (CX : CXT) (k : Nat) (x : Str) (C : Addr) (ps : List Str) (sp : Sp) : Prop :=
  mg x = some (.ref C) ∧ ∃ f fd, Mk K C f ∧ Binds K fd ps [] ∧ FnOk P w K mg base CX k f fd ps sp
section
variable {X : Cx} {CX : CXT} {k j : Nat} {x m : Str} {ps : List Str} {sp : Sp} {p pos apos : Pos} {e o : Expr} {es : List Expr} {t : TA} {ta : TE} {E : XK} {C : Addr}
theorem pe_callD (F : Okd X.prog X.w X.K X.mg X.base CX k x ps sp) (hr : Room j X.A) (hx : Passes CX X E) (ha : PA X (e :: es) t) (hk : k ≤ j := by decide) (hg : Gl X x := by rfl) (hdb : (x == ("__debug__" : Str)) = false := by decide)
    (he : starEach (e :: es) X.env = (false, eval e X.env) :: starEach es X.env := by rfl) (hpl : (backTo pos (starEach es X.env)).any (·.1) = false := by rfl) :
    PE X (.Call (.Name x p) (e :: es) [] pos) (tCall sp [] E t) := by
  obtain ⟨f, fd, h1, h2, h3, h4⟩ := F
  exact pe_call h4 (hr.mono hk) hg h1 h2 h3 .nil hx ha hdb he hpl
theorem pe_makeD (F : Oki X.prog X.w X.K X.mg X.base CX k x C ps sp) (hr : Room j X.A) (hx : Passes CX X E) (ha : PA X (e :: es) t) (hk : k + 1 ≤ j := by decide) (hg : Gl X x := by rfl) (hdb : (x == ("__debug__" : Str)) = false := by decide)
    (he : starEach (e :: es) X.env = (false, eval e X.env) :: starEach es X.env := by rfl) (hpl : (backTo pos (starEach es X.env)).any (·.1) = false := by rfl) :
    PE X (.Call (.Name x p) (e :: es) [] pos) (tMake C sp [] E t) := by
  obtain ⟨h1, f, fd, h2, h3, h4⟩ := F
  exact pe_make h2 h4 (hr.mono hk) hg h1 h3 .nil hx ha hdb he hpl
theorem pe_methD {pl : Sem Bool} (he : PE X o ta) (c : Cls X.K C) (F : Okm X.prog X.w X.K X.mg X.base CX k C m ps sp) (hr : Room j X.A) (hx : Passes CX X E) (ha : PA X (e :: es) t) (hk : k ≤ j := by decide)
    (hst : starEach (e :: es) X.env = (false, eval e X.env) :: starEach es X.env := by rfl) (hpl : (backTo pos (starEach es X.env)).any (·.1) = false := by rfl)
    (ht : eval (.Call (.Attribute o m apos) (e :: es) [] pos) X.env = (do
      let ov ← eval o X.env
      standAt apos.atName
      let (f, first) ← holding [ov] (getMethod ov m pl)
      callWith pos f first (backTo pos (starEach (e :: es) X.env)) (backToKw pos (keywordEach [] X.env))) := by rfl) :
    PE X (.Call (.Attribute o m apos) (e :: es) [] pos) (tMeth C m sp [] E ta t) := by
  obtain ⟨f, fd, h1, h3, h4⟩ := F
  exact pe_meth he c h1 h4 (hr.mono hk) h3 .nil hx ha hst hpl ht
theorem pe_methD0 {pl : Sem Bool} (he : PE X o ta) (c : Cls X.K C) (F : Okm X.prog X.w X.K X.mg X.base CX k C m ps sp) (hr : Room j X.A) (hx : Passes CX X E) (hk : k ≤ j := by decide)
    (ht : eval (.Call (.Attribute o m apos) [] [] pos) X.env = (do
      let ov ← eval o X.env
      standAt apos.atName
      let (f, first) ← holding [ov] (getMethod ov m pl)
      callWith pos f first (backTo pos (starEach [] X.env)) (backToKw pos (keywordEach [] X.env))) := by rfl) :
    PE X (.Call (.Attribute o m apos) [] [] pos) (tMeth C m sp [] E ta tNil) := by
  obtain ⟨f, fd, h1, h3, h4⟩ := F
  exact pe_meth0 he c h1 h4 (hr.mono hk) h3 .nil hx ht
end
/-! ### instances that stand -/
def RepF : List (Str × RP) → List (Str × V) → Hp → Prop
  | [], fvs, _ => fvs = []
  | (n, R) :: fs, fvs, H => ∃ v r, fvs = (n, v) :: r ∧ R.p v H ∧ RepF fs r H
theorem RepF.mono {H H' : Hp} (s : Same H H') : ∀ {fs : List (Str × RP)} {fvs : List (Str × V)}, RepF fs fvs H → RepF fs fvs H'
  | [], _, h => h
  | (n, R) :: fs, _, ⟨v, r, e, h1, h2⟩ => ⟨v, r, e, R.mono h1 s, RepF.mono s h2⟩
theorem RepF.get {H : Hp} {n : Str} {R : RP} : ∀ {fs : List (Str × RP)} {fvs : List (Str × V)}, RepF fs fvs H → fs.lookup n = some R → ∃ v, fvs.lookup n = some v ∧ R.p v H
  | [], _, _, h => by simp at h
  | (n', R') :: fs, _, ⟨v, r, e, h1, h2⟩, h => by
    subst e
    by_cases c : n = n'
    · subst c
      simp at h
      subst h
      exact ⟨v, by simp, h1⟩
    · have c' : (n == n') = false := by simpa using c
      rw [List.lookup_cons, c'] at h
      obtain ⟨v', h3, h4⟩ := RepF.get h2 h
      exact ⟨v', by rw [List.lookup_cons, c']; exact h3, h4⟩
theorem RepF.none {H : Hp} {n : Str} : ∀ {fs : List (Str × RP)} {fvs : List (Str × V)}, RepF fs fvs H → fs.lookup n = Option.none → fvs.lookup n = Option.none
  | [], _, h, _ => by cases h; rfl
  | (n', R') :: fs, _, ⟨v, r, e, h1, h2⟩, h => by
    subst e
    by_cases c : n = n'
    · subst c
      simp at h
    · have c' : (n == n') = false := by simpa using c
      rw [List.lookup_cons, c'] at h ⊢
      exact RepF.none h2 h
def insR (C : Addr) (fs : List (Str × RP)) : RP := ⟨fun v H => ∃ a dx fvs, v = .ref a ∧ H a = some (.ins C dx fvs) ∧ RepF fs fvs H, fun ⟨a, dx, fvs, e, h1, h2⟩ s => ⟨a, dx, fvs, e, s _ _ h1, h2.mono s⟩⟩
def insO (C : Addr) (fs : List (Str × RP)) : OT := ⟨fun o f => ∃ dx fvs, o = .ins C dx fvs ∧ RepF fs fvs f, fun ⟨dx, fvs, e, h2⟩ s => ⟨dx, fvs, e, h2.mono s⟩⟩
section
variable {Γ : Ctx} {te ta tb tc : TE} {t : TA} {R Ra Rb Rc R' : RP} {Rs : List RP} {T : OT} {K : PySem.W.Frag} {C : Addr} {n m : Str} {fs : List (Str × RP)} {E : XK} {S : Spec}
theorem ev_fld (h : EvD Γ ta (insR C fs)) (hc : Cls K C) (hn : NoAttr K C n) (hl : fs.lookup n = some R) : EvD Γ (tFld K ta n) R := fun σ f hp s ok Q q =>
  h σ f hp s ok _ fun v f1 h1 e ⟨a, dx, fvs, ev, g1, g2⟩ => by
    obtain ⟨v', l, rv⟩ := g2.get hl
    exact ⟨a, C, dx, fvs, v', ev, e.fh _ _ g1, hc, hn, l, q v' f1 h1 e rv⟩
theorem ev_call (ha : EvA Γ t Rs) (hS : S Rs R) : EvD Γ (tCall (spD S) [] E t) R := fun σ f hp s ok Q q =>
  ha σ f hp s ok _ fun vs f1 h1 e rs => by
    rw [List.append_nil]
    exact ⟨Rs, R, f1, hS, e.fh, rs, fun v f' H' e2 rv => q v f' H' (e.trans e2) rv⟩
theorem ev_callX {SE : List RP → Addr → Prop} (ha : EvA Γ t Rs) (hS : S Rs R) : EvD Γ (tCall (spX S SE) [] E t) R := fun σ f hp s ok Q q =>
  ha σ f hp s ok _ fun vs f1 h1 e rs => by
    rw [List.append_nil]
    exact ⟨Rs, f1, e.fh, rs, .inl ⟨R, hS, fun v f' H' e2 rv => q v f' H' (e.trans e2) rv⟩⟩
theorem ev_meth (h : EvD Γ ta (insR C fs)) (hl : fs.lookup m = none) (ha : EvA Γ t Rs) (hS : S (insR C fs :: Rs) R) : EvD Γ (tMeth C m (spD S) [] E ta t) R := fun σ f hp s ok Q q =>
  h σ f hp s ok _ fun v f1 h1 e rv => by
    obtain ⟨a, dx, fvs, ev, g1, g2⟩ := id rv
    subst ev
    refine ⟨a, dx, fvs, rfl, e.fh _ _ g1, g2.none hl, ha σ f1 h1 e.fh (ok.mono e.ff) _ fun vs f2 h2 e2 rs => ?_⟩
    rw [List.append_nil]
    exact ⟨insR C fs :: Rs, R, f2, hS, e2.fh, ⟨_, vs, rfl, RP.mono (insR C fs) rv e2.ff, rs⟩, fun v f' H' e3 rv => q v f' H' ((e.trans e2).trans e3) rv⟩
end
/-! ### a def's body -/
def startC (N : List Str) (Rs : List RP) : Ctx := Rs.map some ++ List.replicate (N.length - Rs.length) none
theorem ok_start {N : List Str} {Rs : List RP} {vs : List V} {f : Hp} (a : All Rs vs f) : Ok (startC N Rs) (L2.start N vs) f := by
  have hl := a.length
  refine ⟨by unfold startC L2.start; simp [hl], fun i R e => ?_⟩
  unfold startC at e
  by_cases hi : i < Rs.length
  · rw [List.getElem?_append_left (by simpa using hi), List.getElem?_map] at e
    cases e1 : Rs[i]? with
    | none => rw [e1] at e; cases e
    | some R' =>
      rw [e1] at e
      cases e
      obtain ⟨v, h1, h2⟩ := a.get e1
      refine ⟨v, ?_, h2⟩
      unfold L2.start
      rw [List.getElem?_append_left (by simpa [hl] using hi), List.getElem?_map, h1]
      rfl
  · rw [List.getElem?_append_right (by simpa using Nat.le_of_not_lt hi), List.getElem?_replicate] at e
    split at e <;> cases e
/-- what a body is to reach: the heap goes on from the entry, R is handed back -/
def fnP (B : Base) (R : RP) : Post := ⟨fun _ f h => Ext B.f B.h f h ∧ R.p .non f, fun v f h => Ext B.f B.h f h ∧ R.p v f, fun _ _ _ => False, fun _ _ _ => False⟩
section
variable {P : Program} {w : World} {K : PySem.W.Frag} {mg : Str → Option Value} {base : Heap} {x q : Str} {st : Stmt} {N ps : List Str} {k : Nat} {S : Spec} {C : Addr} {m : Str} {t : TS}
/-- the context of a def's body -/
abbrev cx0 (P : Program) (w : World) (K : PySem.W.Frag) (mg : Str → Option Value) (base : Heap) (N : List Str) (q : Str) (st : Stmt) (f : Addr) (cdv : Value) (A : Around) (outer : List Env) (s : Shared) (H : Hp) (E : XK) : Cx := (cxOf CX0 P w K mg base N q (defScope st) f cdv A outer s H E).nox
theorem run_spD {t : TS} (ev : ∀ Rs R, S Rs R → ∀ B : Base, B.m = [] → BDe B (startC N Rs) [] t (fnP B R)) {vs : List V} {H : Hp} {Q : VK} {E : XK} (h : spD S vs H Q E) : t { nx := fun _ H' => Q .non H', rt := Q } (L2.start N vs) H := by
  obtain ⟨Rs, R, f, hS, s, a, k⟩ := h
  refine ev Rs R hS ⟨f, H, []⟩ rfl f (L2.start N vs) f H ?_ (.refl _) _ ⟨fun σ f' h' _ z => k .non f' h' z.1 z.2, fun v f' h' _ z => k v f' h' z.1 z.2, fun _ _ _ _ z => z.elim, fun _ _ _ _ z => z.elim⟩
  exact { ff := .refl _, fh := s, hh := fun a o e _ => e, th := fun _ n => n, nf := fun _ _ e => e, ok := ok_start a, ow := fun _ _ z => (nomatch z), nd := List.nodup_nil }
theorem okd (F : Def K mg x st ps) (sc : FnScope N ps (defScope st)) (hlen : ∀ Rs R, S Rs R → Rs.length = ps.length)
    (hps : ∀ (f : Addr) (cdv : Value) (A : Around) (outer : List Env) (s : Shared) (H : Hp) (E : XK), Room k (A.deeper (envOfC x (defScope st) s.heap.objs.size f cdv)) → PSs (cx0 P w K mg base N x st f cdv A outer s H E) (defBody st) t)
    (ev : ∀ Rs R, S Rs R → ∀ B : Base, B.m = [] → BDe B (startC N Rs) [] t (fnP B R)) : Okd P w K mg base CX0 (k + 1) x ps (spD S) := by
  obtain ⟨f, fd, hF, hm, hb⟩ := F
  refine ⟨f, fd, hm, hF.kp, hb, hF.ok sc (fun vs H Q E h => ?_) fun cdv A outer s H vs Q E hr h => ⟨t, hps f cdv A outer s H E hr, run_spD ev h⟩⟩
  obtain ⟨Rs, R, f, hS, _, a, _⟩ := h
  rw [a.length, hlen Rs R hS]
theorem okm (F : DefM K C m q st ps) (sc : FnScope N ps (defScope st)) (hlen : ∀ Rs R, S Rs R → Rs.length = ps.length)
    (hps : ∀ (f : Addr) (cdv : Value) (A : Around) (outer : List Env) (s : Shared) (H : Hp) (E : XK), Room k (A.deeper (envOfC q (defScope st) s.heap.objs.size f cdv)) → PSs (cx0 P w K mg base N q st f cdv A outer s H E) (defBody st) t)
    (ev : ∀ Rs R, S Rs R → ∀ B : Base, B.m = [] → BDe B (startC N Rs) [] t (fnP B R)) : Okm P w K mg base CX0 (k + 1) C m ps (spD S) := by
  obtain ⟨f, fd, hF, hm, hb⟩ := F
  refine ⟨f, fd, hm, hb, hF.ok sc (fun vs H Q E h => ?_) fun cdv A outer s H vs Q E hr h => ⟨t, hps f cdv A outer s H E hr, run_spD ev h⟩⟩
  obtain ⟨Rs, R, f, hS, _, a, _⟩ := h
  rw [a.length, hlen Rs R hS]
end
end D

set_option Elab.async false
set_option linter.all false
set_option maxRecDepth 100000
set_option maxHeartbeats 4000000
namespace D
open PySem PySem.Spec PyProof.Rows L2
open ToPy (py)
def Wd (x : Int) : Prop := x.natAbs < 2 ^ 1000
theorem wd_mul {a b : Int} (ha : Wd a) (hb : Wd b) : CMulW a b := wide_mul ha hb (by decide) (by decide) (by decide)
theorem wd_div {a b : Int} (h0 : 0 < b) (hb : Wd b) : CDivW a b := wide_div h0 hb (by decide) (by decide)
def rNegI : V → Hp → VK → Prop := rU fun i => .int (-i)
section
variable {K : PySem.W.Frag} {Γ : Ctx} {te ta tb tc : TE} {tt tu : TT} {R Ra Rb Rc R' : RP} {T : OT} {r r' : R2} {B : Base} {O : Own} {P : Post} {i : Nat}
theorem R2N.d {ds : List PyData} (h : R2N r Ra Rb (oLD ds)) : R2D r Ra Rb (rpD (.list ds)) := fun x y f hp s rx ry Q q =>
  h x y f hp s rx ry Q fun p o f' h' e n nf ho ht => by
    obtain ⟨vs, rfl, hr⟩ := ht
    refine q (.ref p) (upd f' p (.lst vs)) h' (e.frz n ho nf) ?_
    show repD (.list ds) _ _
    simp only [repD]
    exact ⟨p, vs, rfl, upd_same, repL_mono (same_new nf) _ _ hr⟩
theorem R2N.dL {α : Type} {_ : ToPy α} {xs : List α} (h : R2N r Ra Rb (oL xs)) : R2D r Ra Rb (rep xs) := R2N.d h
theorem RcN.d {r : List V → Hp → VK → Prop} {Rs : List RP} {ds : List PyData} (h : RcN r Rs (oLD ds)) : RcD r Rs (rpD (.list ds)) := fun vs f hp s rs Q q =>
  h vs f hp s rs Q fun p o f' h' e n nf ho ht => by
    obtain ⟨vs, rfl, hr⟩ := ht
    refine q (.ref p) (upd f' p (.lst vs)) h' (e.frz n ho nf) ?_
    show repD (.list ds) _ _
    simp only [repD]
    exact ⟨p, vs, rfl, upd_same, repL_mono (same_new nf) _ _ hr⟩
theorem RcN.dL {α : Type} {_ : ToPy α} {r : List V → Hp → VK → Prop} {Rs : List RP} {xs : List α} (h : RcN r Rs (oL xs)) : RcD r Rs (rep xs) := RcN.d h
theorem s_catL {α : Type} {_ : ToPy α} {xs ys : List α} (hl : xs.length + ys.length ≤ 1000000) : R2D (rAddX K) (rep xs) (rep ys) (rep (xs ++ ys)) := (s_cat hl).dL
theorem s_repL {α : Type} {_ : ToPy α} {a : α} {k : Int} (h0 : 0 ≤ k) (hk : k ≤ 100000) : R2D (rMulX K) (rep [a]) (rep k) (rep (List.replicate k.toNat a)) := (s_rep h0 hk).dL
theorem c_listD {α : Type} {_ : ToPy α} {xs : List α} : RcD (rListX K) [rep xs] (rep xs) := c_list.dL
theorem c_listTD {α : Type} {_ : ToPy α} {xs : List α} : RcD (rListX K) [rep (Tup.mk xs)] (rep xs) := c_listT.dL
theorem s_negI {i : Int} : R1D rNegI (rep i) (rep (-i)) := s_neg
theorem cmul_l {i j : Int} (h : -(2 ^ 64) < i ∧ i < 2 ^ 64) : CMul i j := .inl h
theorem cmul_r {i j : Int} (h : -(2 ^ 64) < j ∧ j < 2 ^ 64) : CMul i j := .inr h
/-- what a body's end asks where R is handed back -/
theorem bd_retR {nx bk ct : L2.St → Hp → Hp → Prop} (hm : B.m = []) (he : EvS B Γ O te R) {u : TS} : BDe B Γ O (tSeq (tRet te) u) ⟨nx, (fnP B R).rt, bk, ct⟩ := bd_ret he hm fun v f h e r => ⟨e, r⟩
theorem bd_retE {nx bk ct : L2.St → Hp → Hp → Prop} {α : Type} {_ : ToPy α} {a b : α} (hm : B.m = []) (he : EvS B Γ O te (rep a)) (e : a = b) {u : TS} : BDe B Γ O (tSeq (tRet te) u) ⟨nx, (fnP B (rep b)).rt, bk, ct⟩ := bd_retR hm (e ▸ he)
theorem bd_endN (hm : B.m = []) : BDe B Γ O tNext (fnP B (rep ())) := bd_next fun σ f h s => ⟨s.toExt hm, rep_of_unit _⟩
/-- the end of a way that others join -/
theorem bd_join {rt : V → Hp → Hp → Prop} {bk ct : L2.St → Hp → Hp → Prop} : BDe B Γ O tNext ⟨fun σ f h => Sta B Γ O σ f h, rt, bk, ct⟩ := bd_next fun σ f h s => s
theorem bd_joinW {rt : V → Hp → Hp → Prop} {bk ct : L2.St → Hp → Hp → Prop} {Γ' : Ctx} {O' : Own} (w : ∀ σ f h, Sta B Γ O σ f h → Sta B Γ' O' σ f h) : BDe B Γ O tNext ⟨fun σ f h => Sta B Γ' O' σ f h, rt, bk, ct⟩ := bd_next fun σ f h s => w σ f h s
/-- the end of a turn -/
theorem bd_turn {rt : V → Hp → Hp → Prop} {bk ct : L2.St → Hp → Hp → Prop} {Γ' : Ctx} {O' : Own} {F : Prop} (hF : F) (w : ∀ σ f h, Sta B Γ O σ f h → Sta B Γ' O' σ f h) : BDe B Γ O tNext ⟨fun σ f h => F ∧ Sta B Γ' O' σ f h, rt, bk, ct⟩ := bd_next fun σ f h s => ⟨hF, w σ f h s⟩
theorem sta_set_none {Γ : Ctx} {O : Own} {i : Nat} {R : RP} : ∀ σ f h, Sta B (Γ.set i (some R)) O σ f h → Sta B (Γ.set i none) O σ f h :=
  sta_forget (by simp) fun j R' e => by
    by_cases hj : i = j
    · subst hj
      by_cases hl : i < Γ.length
      · rw [List.getElem?_set_self hl] at e; cases e
      · rw [List.getElem?_eq_none (by simpa using Nat.le_of_not_lt hl)] at e; cases e
    · rw [List.getElem?_set_ne hj] at e ⊢
      exact e
theorem ev_lst0 {α : Type} {_ : ToPy α} : EvD Γ (tLst tNil) (rep ([] : List α)) := ev_new en_lst0
theorem ev_lst1 {α : Type} {_ : ToPy α} {a : α} {t : TE} (h : EvD Γ t (rep a)) : EvD Γ (tLst (tCons t tNil)) (rep [a]) := ev_new (en_lst1 h)
theorem ev_lst2 {α : Type} {_ : ToPy α} {a b : α} {t u : TE} (h : EvD Γ t (rep a)) (h2 : EvD Γ u (rep b)) : EvD Γ (tLst (tCons t (tCons u tNil))) (rep [a, b]) := ev_new (en_lst2 h h2)
theorem ev_lst3 {α : Type} {_ : ToPy α} {a b c : α} {t u w : TE} (h : EvD Γ t (rep a)) (h2 : EvD Γ u (rep b)) (h3 : EvD Γ w (rep c)) : EvD Γ (tLst (tCons t (tCons u (tCons w tNil)))) (rep [a, b, c]) := ev_new (en_lst3 h h2 h3)
theorem ev_lst4 {α : Type} {_ : ToPy α} {a b c d : α} {t u w z : TE} (h : EvD Γ t (rep a)) (h2 : EvD Γ u (rep b)) (h3 : EvD Γ w (rep c)) (h4 : EvD Γ z (rep d)) : EvD Γ (tLst (tCons t (tCons u (tCons w (tCons z tNil))))) (rep [a, b, c, d]) := ev_new (en_lst4 h h2 h3 h4)
theorem ev_cut {α : Type} {_ : ToPy α} {xs : List α} {tl th : TO} {lo hi : Option Int} (h : EvD Γ te (rep xs)) (h1 : EvP Γ tl lo) (h2 : EvP Γ th hi) : EvD Γ (tSl (rSlX K) te tl th) (rep (cut xs lo hi)) := ev_new (en_cut h h1 h2)
theorem ev_lc {α : Type} {_ : ToPy α} {wi : TI} {g : TG} {n : Nat} {item : Nat → RP} {vs : List Nat} {val : Nat → α} {te : TE} (hw : WiD Γ wi n item) {G' : Nat → Ctx} (ht : ∀ i, i < n → TgL g vs (item i) (wipeC Γ vs) (G' i))
    (he : ∀ i, i < n → EvD (G' i) te (rep (val i))) (hz : n ≤ 100000) : EvD Γ (tLc wi g tYes te vs) (rep ((List.range n).map val)) := ev_new (en_lc hw ht he hz)
theorem ev_lcIf {α : Type} {_ : ToPy α} {wi : TI} {g : TG} {n : Nat} {item : Nat → RP} {vs : List Nat} {val : Nat → α} {keep : Nat → Bool} {te : TE} (hw : WiD Γ wi n item) {G' : Nat → Ctx} (ht : ∀ i, i < n → TgL g vs (item i) (wipeC Γ vs) (G' i)) (hc : ∀ i, i < n → EvT (G' i) tt (keep i))
    (he : ∀ i, i < n → keep i = true → EvD (G' i) te (rep (val i))) (hz : n ≤ 100000) : EvD Γ (tLc wi g tt te vs) (rep (((List.range n).filter keep).map val)) := ev_new (en_lcIf hw ht hc he hz)
end
end D

set_option Elab.async false
set_option linter.all false
set_option maxRecDepth 100000
set_option maxHeartbeats 4000000
namespace D
open PySem PySem.Spec PyProof.Rows L2
open ToPy (py)
/-- what is forgotten of the slots -/
inductive Fg : Ctx → Ctx → Prop where
  | nil : Fg [] []
  | same {G G' : Ctx} {x : Option RP} (h : Fg G G') : Fg (x :: G) (x :: G')
  | drop {G G' : Ctx} {x : Option RP} (h : Fg G G') : Fg (x :: G) (none :: G')
  | eq {G G' : Ctx} {R R' : RP} (e : R = R') (h : Fg G G') : Fg (some R :: G) (some R' :: G')
theorem Fg.to {G G' : Ctx} (h : Fg G G') : G'.length = G.length ∧ ∀ (i : Nat) (R : RP), G'[i]? = some (some R) → G[i]? = some (some R) := by
  induction h with
  | nil => exact ⟨rfl, fun _ _ e => e⟩
  | same h ih =>
    refine ⟨by simp [ih.1], fun i R e => ?_⟩
    cases i with
    | zero => exact e
    | succ i => exact ih.2 i R (by simpa using e)
  | drop h ih =>
    refine ⟨by simp [ih.1], fun i R e => ?_⟩
    cases i with
    | zero => simp at e
    | succ i => exact ih.2 i R (by simpa using e)
  | eq q h ih =>
    refine ⟨by simp [ih.1], fun i R e => ?_⟩
    cases i with
    | zero => rw [q]; exact e
    | succ i => exact ih.2 i R (by simpa using e)
theorem Fg.sta {B : Base} {G G' : Ctx} {O O' : Own} (h : Fg G G') (e : O = O') : ∀ σ f hp, Sta B G O σ f hp → Sta B G' O' σ f hp := fun σ f hp s => e ▸ sta_forget h.to.1 h.to.2 σ f hp s
theorem bd_turnE {B : Base} {Γ Γ' : Ctx} {O O' : Own} {rt : V → Hp → Hp → Prop} {bk ct : L2.St → Hp → Hp → Prop} {F : Prop} (hF : F) (ho : O = O') (g : Fg Γ Γ') : BDe B Γ O tNext ⟨fun σ f h => F ∧ Sta B Γ' O' σ f h, rt, bk, ct⟩ := bd_turn hF (g.sta ho)
theorem bd_joinE {B : Base} {Γ Γ' : Ctx} {O O' : Own} {rt : V → Hp → Hp → Prop} {bk ct : L2.St → Hp → Hp → Prop} (ho : O = O') (g : Fg Γ Γ') : BDe B Γ O tNext ⟨fun σ f h => Sta B Γ' O' σ f h, rt, bk, ct⟩ := bd_joinW (g.sta ho)
theorem bd_nil (α : Type) [ToPy α] {B : Base} {Γ : Ctx} {O : Own} {i : Nat} {u : TS} {P : Post} (hr : ∀ p, BDe B (Γ.set i (some (own p))) ((p, oL ([] : List α)) :: O) u P) : BDe B Γ O (tSeq (tAsg (tLst tNil) (gName i)) u) P := bd_own (en_lst0 (α := α)).s hr
theorem bd_forE {B : Base} {Γ : Ctx} {O : Own} {wi : TI} {n : Nat} {item : Nat → RP} {g : TG} {tb u : TS} {P : Post} (G : Nat → Ctx) (W : Nat → Own) (F : Nat → Prop) (hw : WiS B Γ O wi n item) (fg : Fg Γ (G 0)) (ho : O = W 0) (f0 : F 0) {G' : Nat → Ctx}
    (ht : ∀ i, i < n → TgD g (item i) (G i) (G' i))
    (hb : ∀ i, i < n → F i → BDe B (G' i) (W i) tb ⟨fun σ f h => F (i + 1) ∧ Sta B (G (i + 1)) (W (i + 1)) σ f h, P.rt, fun _ _ _ => False, fun σ f h => F (i + 1) ∧ Sta B (G (i + 1)) (W (i + 1)) σ f h⟩)
    (hn : F n → BDe B (G n) (W n) u P) : BDe B Γ O (tSeq (tFor wi g tb) u) P := bd_for hw G W F (fg.sta ho) f0 ht hb hn
/-! ### isinstance of data -/
def tyR (n : String) : RP := ⟨fun v _ => v = .ty n, fun h _ => h⟩
theorem ev_ty {Γ : Ctx} {n : String} : EvD Γ (tC (.ty n)) (tyR n) := ev_c fun _ => rfl
def NoDict : PyData → Prop
  | .dict _ => False
  | _ => True
theorem kit_int (d : PyData) : kitB (tyName d) "int" = some (isi d "int") := by cases d <;> (simp only [isi, tyName]; decide +kernel)
theorem kit_bool (d : PyData) : kitB (tyName d) "bool" = some (isi d "bool") := by cases d <;> (simp only [isi, tyName]; decide +kernel)
theorem kit_str (d : PyData) : kitB (tyName d) "str" = some (isi d "str") := by cases d <;> (simp only [isi, tyName]; decide +kernel)
theorem kit_list (d : PyData) : kitB (tyName d) "list" = some (isi d "list") := by cases d <;> (simp only [isi, tyName]; decide +kernel)
theorem kit_tuple (d : PyData) : kitB (tyName d) "tuple" = some (isi d "tuple") := by cases d <;> (simp only [isi, tyName]; decide +kernel)
theorem ty_of {K : PySem.W.Frag} {H : Hp} : ∀ (d : PyData) (v : V), repD d v H → TyX K H v (.type (tyName d))
  | .none, _, h => by simp only [repD] at h; subst h; exact .base .non
  | .bool b, _, h => by simp only [repD] at h; subst h; exact .base (.bl b)
  | .int i, _, h => by simp only [repD] at h; subst h; exact .base (.int i)
  | .str x, _, h => by simp only [repD] at h; subst h; exact .base (.str x)
  | .list ds, _, h => by
    simp only [repD] at h
    obtain ⟨p, vs, e, h1, h2⟩ := h
    subst e
    exact .base (.lst h1)
  | .tuple ds, _, h => by
    simp only [repD] at h
    obtain ⟨p, vs, e, h1, h2⟩ := h
    subst e
    exact .base (.tup h1)
  | .dict _, _, h => by simp only [repD] at h
theorem c_isi {K : PySem.W.Frag} {d : PyData} {n : String} (h : kitB (tyName d) n = some (isi d n)) : RcD (rIsi K) [rpD d, tyR n] (rep (isi d n)) := fun vs f hp s rs Q q => by
  obtain ⟨v, u, rfl, rv, ru⟩ := rs.two
  cases ru
  exact ⟨v, .ty n, .type (tyName d), .type n, isi d n, rfl, .ty n, ty_of d v (repD_mono s d v rv), kit_ty h, q _ f hp (.refl s) (rep_of_bool _ _)⟩
theorem c_isInt {K : PySem.W.Frag} {d : PyData} : RcD (rIsi K) [rpD d, tyR "int"] (rep (isi d "int")) := c_isi (kit_int d)
theorem c_isBool {K : PySem.W.Frag} {d : PyData} : RcD (rIsi K) [rpD d, tyR "bool"] (rep (isi d "bool")) := c_isi (kit_bool d)
theorem c_isStr {K : PySem.W.Frag} {d : PyData} : RcD (rIsi K) [rpD d, tyR "str"] (rep (isi d "str")) := c_isi (kit_str d)
theorem c_isList {K : PySem.W.Frag} {d : PyData} : RcD (rIsi K) [rpD d, tyR "list"] (rep (isi d "list")) := c_isi (kit_list d)
theorem c_isTup {K : PySem.W.Frag} {d : PyData} : RcD (rIsi K) [rpD d, tyR "tuple"] (rep (isi d "tuple")) := c_isi (kit_tuple d)
section
variable {K : PySem.W.Frag} {α β γ : Type} [ToPy α] [ToPy β] [ToPy γ]
theorem c_lI {xs : List α} : RcD (rIsi K) [rep xs, tyR "list"] (rep true) := c_isList (d := .list (xs.map py))
theorem c_tI {xs : List α} : RcD (rIsi K) [rep (Tup.mk xs), tyR "tuple"] (rep true) := c_isTup (d := .tuple (xs.map py))
theorem c_pI {x : α × β} : RcD (rIsi K) [rep x, tyR "tuple"] (rep true) := c_isTup (d := .tuple [py x.1, py x.2])
theorem c_t3I {x : T3 α β γ} : RcD (rIsi K) [rep x, tyR "tuple"] (rep true) := c_isTup (d := .tuple [py x.a, py x.b, py x.c])
theorem c_lenP {x : α × β} : RcD (rLenX K) [rep x] (rep (2 : Int)) := c_lenT (ds := [py x.1, py x.2])
theorem c_len3 {x : T3 α β γ} : RcD (rLenX K) [rep x] (rep (3 : Int)) := c_lenT (ds := [py x.a, py x.b, py x.c])
theorem c_sI {x : Str} : RcD (rIsi K) [rep x, tyR "str"] (rep true) := c_isStr (d := .str x)
theorem c_iI {x : Int} : RcD (rIsi K) [rep x, tyR "int"] (rep true) := c_isInt (d := .int x)
theorem c_iB {x : Int} : RcD (rIsi K) [rep x, tyR "bool"] (rep false) := c_isBool (d := .int x)
end
section
variable {B : Base} {Γ Γ' : Ctx} {O O' : Own} {te ta : TE} {t t1 t2 u : TS} {P : Post}
theorem bd_assoc (h : BDe B Γ O (tSeq t1 (tSeq t2 u)) P) : BDe B Γ O (tSeq (tSeq t1 t2) u) P := h
theorem bd_skip (h : BDe B Γ O u P) : BDe B Γ O (tSeq tNext u) P := h
theorem map_snoc {α : Type} {g : Nat → α} {a : α} {n : Nat} (e : a = g n) : (List.range n).map g ++ [a] = (List.range (n + 1)).map g := by
  rw [List.range_succ, List.map_append, e]
  rfl
/-- an item more of a list that is a map over the turns -/
theorem bd_appR {K : PySem.W.Frag} {α : Type} {_ : ToPy α} {g : Nat → α} {n : Nat} {a : α} {p : Addr} {to : TE} (j : Nat) (ho : EvD Γ to (own p)) (hj : O[j]? = some (p, oL ((List.range n).map g))) (he : EvS B Γ O te (rep a)) (e : a = g n) (hz : n < 1000000)
    (k : BDe B Γ (O.set j (p, oL ((List.range (n + 1)).map g))) u P) : BDe B Γ O (tSeq (tDrop (tBM K "list" rAppend to (tCons te tNil))) u) P := by
  refine bd_app j ho hj he (by simpa using hz) ?_
  rw [map_snoc e]
  exact k
end
/-- where the classes of the text stand -/
structure Cs where
  Problem : Addr
  Tableau : Addr
  Search : Addr
  CutError : Addr
  BadProblem : Addr
  BadPoint : Addr
  BadBox : Addr
  BadWeights : Addr
  NoTurn : Addr
  BadText : Addr
def tRaiseC (E : XK) (C : Addr) : TS := fun _ σ H => E (.ref C) none H
def tCallE (sp : Sp) (E : XK) (t : TA) : TE := fun σ H Q => t σ H fun vs H1 => sp vs H1 Q E
/-- an expression that raises -/
def EvX (Γ : Ctx) (te : TE) (E : XK) (C : Addr) : Prop := ∀ σ f h, Same f h → Ok Γ σ f → (∀ f' h', Ext f h f' h' → E (.ref C) none h') → ∀ Q, te σ h Q
/-- nothing is reached -/
def noP : Post := ⟨fun _ _ _ => False, fun _ _ _ => False, fun _ _ _ => False, fun _ _ _ => False⟩
def Raises (B : Base) (E : XK) (C : Addr) : Prop := ∀ f h, Ext B.f B.h f h → E (.ref C) none h
section
variable {B : Base} {Γ Γ' : Ctx} {O O' : Own} {te ta : TE} {t : TA} {tt : TT} {R : RP} {Rs : List RP} {u t1 t2 : TS} {P : Post} {i : Nat} {E : XK} {C : Addr} {S : Spec} {SE : List RP → Addr → Prop} {b : Bool}
theorem bd_raise (hm : B.m = []) (hE : Raises B E C) : BDe B Γ O (tSeq (tRaiseC E C) u) P := fun L σ f h s l D p => hE f h (s.toExt hm)
theorem ev_callE (ha : EvA Γ t Rs) (hS : S Rs R) : EvD Γ (tCallE (spX S SE) E t) R := fun σ f hp s ok Q q =>
  ha σ f hp s ok _ fun vs f1 h1 e rs => ⟨Rs, f1, e.fh, rs, .inl ⟨R, hS, fun v f' H' e2 rv => q v f' H' (e.trans e2) rv⟩⟩
theorem ex_callE (ha : EvA Γ t Rs) (hS : SE Rs C) : EvX Γ (tCallE (spX S SE) E t) E C := fun σ f hp s ok q Q =>
  ha σ f hp s ok _ fun vs f1 h1 e rs => ⟨Rs, f1, e.fh, rs, .inr ⟨C, hS, fun f' H' e2 => q f' H' (e.trans e2)⟩⟩
theorem bd_dropX (hm : B.m = []) (hE : Raises B E C) (he : EvX Γ te E C) : BDe B Γ O (tSeq (tDrop te) u) P := fun L σ f h s l D p =>
  he σ f h s.fh s.ok (fun f' h' e => hE f' h' ((s.toExt hm).trans e)) _
theorem bd_setX (hm : B.m = []) (hE : Raises B E C) (he : EvX Γ te E C) : BDe B Γ O (tSeq (tAsg te (gName i)) u) P := fun L σ f h s l D p =>
  he σ f h s.fh s.ok (fun f' h' e => hE f' h' ((s.toExt hm).trans e)) _
theorem bd_retX (hm : B.m = []) (hE : Raises B E C) (he : EvX Γ te E C) : BDe B Γ O (tSeq (tRet te) u) P := fun L σ f h s l D p =>
  he σ f h s.fh s.ok (fun f' h' e => hE f' h' ((s.toExt hm).trans e)) _
end
section
variable {X : Cx} {k j : Nat} {x : Str} {ps : List Str} {sp : Sp} {p pos : Pos} {e : Expr} {es : List Expr} {t : TA} {E : XK}
theorem pe_globI {i : Int} {pos : Pos} (hm : ∃ t, X.mg x = some (.int i t)) (hg : Gl X x := by rfl) (hd : (x == ("__debug__" : Str)) = false := by decide) : PE X (.Name x pos) (tC (.int i)) := by
  obtain ⟨t, h⟩ := hm
  exact pe_glob hg h ⟨t, rfl⟩ hd
theorem pe_globS {i : Str} {pos : Pos} (hm : ∃ t, X.mg x = some (.str i t)) (hg : Gl X x := by rfl) (hd : (x == ("__debug__" : Str)) = false := by decide) : PE X (.Name x pos) (tC (.str i)) := by
  obtain ⟨t, h⟩ := hm
  exact pe_glob hg h ⟨t, rfl⟩ hd
theorem pe_callE (F : Okd X.prog X.w X.K X.mg X.base (L2.CX X.prog X.w) k x ps sp) (hr : Room j X.A) (tk : Takes X (fun cls d _ H => E cls d H)) (ha : PA X (e :: es) t) (hk : k ≤ j := by decide) (hg : Gl X x := by rfl) (hdb : (x == ("__debug__" : Str)) = false := by decide)
    (he : starEach (e :: es) X.env = (false, eval e X.env) :: starEach es X.env := by rfl) (hpl : (backTo pos (starEach es X.env)).any (·.1) = false := by rfl) :
    PE X (.Call (.Name x p) (e :: es) [] pos) (tCallE sp E t) := by
  obtain ⟨f, fd, h1, h2, h3, h4⟩ := F
  exact pe_callS (E := WE (fun cls d _ H => E cls d H)) h4 (hr.mono hk) hg h1 h2 h3 (fun σ => passAt tk σ) ha hdb he hpl
end
section
variable {P : Program} {w : World} {K : PySem.W.Frag} {mg : Str → Option Value} {base : Heap} {x q : Str} {st : Stmt} {N ps : List Str} {k : Nat} {S : Spec} {SE : List RP → Addr → Prop} {t : XK → TS}
abbrev cxX (P : Program) (w : World) (K : PySem.W.Frag) (mg : Str → Option Value) (base : Heap) (N : List Str) (q : Str) (st : Stmt) (f : Addr) (cdv : Value) (A : Around) (outer : List Env) (s : Shared) (H : Hp) (E : XK) : Cx := cxOf (L2.CX P w) P w K mg base N q (defScope st) f cdv A outer s H E
theorem okdX (F : Def K mg x st ps) (sc : FnScope N ps (defScope st)) (hlen : ∀ Rs R, S Rs R → Rs.length = ps.length) (hlenE : ∀ Rs C, SE Rs C → Rs.length = ps.length)
    (hps : ∀ (f : Addr) (cdv : Value) (A : Around) (outer : List Env) (s : Shared) (H : Hp) (E : XK), Room k (A.deeper (envOfC x (defScope st) s.heap.objs.size f cdv)) → PSs (cxX P w K mg base N x st f cdv A outer s H E) (defBody st) (t E))
    (ev : ∀ Rs R, S Rs R → ∀ (B : Base) (E : XK), B.m = [] → BDe B (startC N Rs) [] (t E) (fnP B R))
    (evE : ∀ Rs C, SE Rs C → ∀ (B : Base) (E : XK), B.m = [] → D.Raises B E C → BDe B (startC N Rs) [] (t E) noP) : Okd P w K mg base (L2.CX P w) (k + 1) x ps (spX S SE) := by
  obtain ⟨f, fd, hF, hm, hb⟩ := F
  refine ⟨f, fd, hm, hF.kp, hb, hF.okX sc (fun vs H Q E h => ?_) fun cdv A outer s H vs Q E hr h => ⟨t E, hps f cdv A outer s H E hr, ?_⟩⟩
  · obtain ⟨Rs, f, _, a, ⟨R, hS, _⟩ | ⟨C, hS, _⟩⟩ := h
    · rw [a.length, hlen Rs R hS]
    · rw [a.length, hlenE Rs C hS]
  · obtain ⟨Rs, f, s0, a, ⟨R, hS, k⟩ | ⟨C, hS, k⟩⟩ := h
    · refine ev Rs R hS ⟨f, H, []⟩ E rfl f (L2.start N vs) f H ?_ (.refl _) _ ⟨fun σ f' h' _ z => k .non f' h' z.1 z.2, fun v f' h' _ z => k v f' h' z.1 z.2, fun _ _ _ _ z => z.elim, fun _ _ _ _ z => z.elim⟩
      exact { ff := .refl _, fh := s0, hh := fun a o e _ => e, th := fun _ n => n, nf := fun _ _ e => e, ok := ok_start a, ow := fun _ _ z => (nomatch z), nd := List.nodup_nil }
    · refine evE Rs C hS ⟨f, H, []⟩ E rfl (fun f' h' e => k f' h' e) f (L2.start N vs) f H ?_ (.refl _) _ ⟨fun σ f' h' _ z => z.elim, fun v f' h' _ z => z.elim, fun _ _ _ _ z => z.elim, fun _ _ _ _ z => z.elim⟩
      exact { ff := .refl _, fh := s0, hh := fun a o e _ => e, th := fun _ n => n, nf := fun _ _ e => e, ok := ok_start a, ow := fun _ _ z => (nomatch z), nd := List.nodup_nil }
end
end D

set_option Elab.async false
set_option linter.all false
set_option maxRecDepth 100000
set_option maxHeartbeats 4000000
namespace D
open PySem PySem.Spec PyProof.Rows L2
open ToPy (py)
/-! ### try: f(..) except C as e: .. -/
def tUnder (cls : Value) (d : Option Addr) (C : Addr) (t : TS) : TS := fun D σ H => (cls = .ref C ∧ d = none) ∧ t D σ H
theorem pss_under {X : Cx} {ss : List Stmt} {cls : Value} {d : Option Addr} {C : Addr} {t : TS} (h : cls = .ref C → d = none → PSs X ss t) : PSs X ss (tUnder cls d C t) :=
  ⟨fun pins s σ H D I z => (h z.1.1 z.1.2).run pins s σ H D I z.2⟩
/-- the try's reading -/
def tTry (K : PySem.W.Frag) (C : Addr) (i : Nat) (tb : WX → TS) (ts : Addr → TS) : TS := fun D σ H => tb (wAs K (.ref C) i (fun a cls d => tUnder cls d C (ts a)) (fun _ _ _ _ => False) D) D σ H
theorem ps_tryD {X : Cx} {x n : Str} {C : Addr} {i : Nat} {body suite : List Stmt} {b₀ : Stmt} {np pos pos' : Pos} {tb : WX → TS} {ts : Addr → TS} (gC : X.mg x = some (.ref C)) (ec : ExcC X.K C)
    (hb : ∀ (W : WX) (pn : List (Addr × Obj)) (xe : Value → Shared → Prop), Takes (X.tr pn xe) W → PSs (X.tr pn xe) body (tb W))
    (hsu : ∀ (a : Addr) (oe : Obj) (pn : List (Addr × Obj)), Zc (.ref C) none oe → (∃ vs, oe.data = .fields vs) → PSs (X.suite a ((a, oe) :: pn)) (b₀ :: suite) (ts a))
    (hs : X.stack = X.env :: X.outer := by rfl) (hf : X.env.frame = some X.env.locals := by rfl) (hN : X.N.Nodup) (hi : X.N[i]? = some n := by rfl) (hln : X.env.kindOf n = some .local := by rfl) (gx : Gl X x := by rfl) (dx : (x == ("__debug__" : Str)) = false := by decide) :
    PS X (.Try body [.ExceptHandler (some (.Name x np)) (some n) (b₀ :: suite) pos'] [] [] pos) (tTry X.K C i tb ts) :=
  ps_try_as hs hf hN hi hln ⟨gx, dx, .inl gC⟩ takes0 (fun W pn xe tk _ => hb W pn xe tk) fun a oe cls d pn hz hv => pss_under fun e1 e2 => by
    subst e1 e2
    exact hsu a oe pn hz hv
section
variable {X : Cx} {k j : Nat} {x : Str} {ps : List Str} {sp : Sp} {p pos : Pos} {e : Expr} {es : List Expr} {t : TA} {W : WX}
theorem pe_callW (F : Okd X.prog X.w X.K X.mg X.base (L2.CX X.prog X.w) k x ps sp) (hr : Room j X.A) (tk : Takes X W) (ha : PA X (e :: es) t) (hk : k ≤ j := by decide) (hg : Gl X x := by rfl) (hdb : (x == ("__debug__" : Str)) = false := by decide)
    (he : starEach (e :: es) X.env = (false, eval e X.env) :: starEach es X.env := by rfl) (hpl : (backTo pos (starEach es X.env)).any (·.1) = false := by rfl) :
    PE X (.Call (.Name x p) (e :: es) [] pos) (tCallS sp (WE W) t) := by
  obtain ⟨f, fd, h1, h2, h3, h4⟩ := F
  exact pe_callS h4 (hr.mono hk) hg h1 h2 h3 (fun σ => passAt tk σ) ha hdb he hpl
/-- isinstance(e, T) of the exception at hand -/
theorem pe_isEC {i : Nat} {a C T : Addr} {oe : Obj} {pn : List (Addr × Obj)} {n x : Str} {p0 p1 p2 : Pos} (ec : ExcC X.K C) (hz : Zc (.ref C) none oe) (hf : ∃ vs, oe.data = .fields vs) (hv : PE (X.suite a ((a, oe) :: pn)) (.Name n p1) (tVar i)) (gT : X.mg x = some (.ref T)) (bi : X.mg "isinstance" = none)
    (gi : Gl X "isinstance" := by rfl) (gx : Gl X x := by rfl) (dx : (x == ("__debug__" : Str)) = false := by decide)
    (he : starEach ([.Name n p1, .Name x p2] : List Expr) X.env = (false, eval (.Name n p1) X.env) :: starEach [.Name x p2] X.env := by rfl) (he2 : starEach ([.Name x p2] : List Expr) X.env = (false, eval (.Name x p2) X.env) :: starEach [] X.env := by rfl) (hpl : (backTo pos (starEach ([.Name x p2] : List Expr) X.env)).any (·.1) = false := by rfl) :
    PE (X.suite a ((a, oe) :: pn)) (.Call (.Name "isinstance" p0) [.Name n p1, .Name x p2] [] pos) (tCB (rIsE X.K C a) (tCons (tVar i) (tCons (tC (.ref T)) tNil))) :=
  pe_callB (X := X.suite a ((a, oe) :: pn)) (call_isE ec hz hf) gi bi b_isi (pa_cons hv (pa_cons (pe_glob (X := X.suite a ((a, oe) :: pn)) gx gT rfl dx) pa_nil he2) he) (by decide) (by decide) he hpl
theorem pe_isET {i : Nat} {a C : Addr} {T : String} {oe : Obj} {pn : List (Addr × Obj)} {n x : Str} {p0 p1 p2 : Pos} (ec : ExcC X.K C) (hz : Zc (.ref C) none oe) (hf : ∃ vs, oe.data = .fields vs) (hv : PE (X.suite a ((a, oe) :: pn)) (.Name n p1) (tVar i)) (bT : X.mg x = none) (bx : bootBuiltins x = some (.type T)) (bi : X.mg "isinstance" = none)
    (gi : Gl X "isinstance" := by rfl) (gx : Gl X x := by rfl) (nx : x ≠ "__name__" := by decide) (dx : (x == ("__debug__" : Str)) = false := by decide)
    (he : starEach ([.Name n p1, .Name x p2] : List Expr) X.env = (false, eval (.Name n p1) X.env) :: starEach [.Name x p2] X.env := by rfl) (he2 : starEach ([.Name x p2] : List Expr) X.env = (false, eval (.Name x p2) X.env) :: starEach [] X.env := by rfl) (hpl : (backTo pos (starEach ([.Name x p2] : List Expr) X.env)).any (·.1) = false := by rfl) :
    PE (X.suite a ((a, oe) :: pn)) (.Call (.Name "isinstance" p0) [.Name n p1, .Name x p2] [] pos) (tCB (rIsE X.K C a) (tCons (tVar i) (tCons (tC (.ty T)) tNil))) :=
  pe_callB (X := X.suite a ((a, oe) :: pn)) (call_isE ec hz hf) gi bi b_isi (pa_cons hv (pa_cons (pe_bltn (X := X.suite a ((a, oe) :: pn)) gx bT bx rfl nx dx) pa_nil he2) he) (by decide) (by decide) he hpl
end
/-- a body that raises C -/
def TBe (B : Base) (Γ : Ctx) (O : Own) (tb : WX → TS) (C : Addr) : Prop := ∀ L σ f h, Sta B Γ O σ f h → Same L f → ∀ (D : Ends) (W : WX), (∀ f' h', Sta B Γ O σ f' h' → Same L f' → W (.ref C) none σ h') → tb W D σ h
section
variable {B : Base} {Γ : Ctx} {O : Own} {tb t1 t2 : WX → TS} {C : Addr} {t : TA} {Rs : List RP} {S : Spec} {SE : List RP → Addr → Prop} {tt : TT} {b : Bool} {P : Post} {u : TS} {K : PySem.W.Frag} {i : Nat} {ts : Addr → TS}
theorem tbe_drop (ha : EvA Γ t Rs) (hS : SE Rs C) : TBe B Γ O (fun W => tSeq (tDrop (tCallS (spX S SE) (WE W) t)) tNext) C := fun L σ f h s l D W hW =>
  ha σ f h s.fh s.ok _ fun vs f1 h1 e rs => ⟨Rs, f1, e.fh, rs, .inr ⟨C, hS, fun f' H' e2 => hW f' H' (s.ext (e.trans e2)) (l.trans (e.trans e2).ff)⟩⟩
theorem tbe_if (hc : EvT Γ tt b) (h1 : b = true → TBe B Γ O t1 C) (h2 : b = false → TBe B Γ O t2 C) : TBe B Γ O (fun W => tSeq (tIfS tt (t1 W) (t2 W)) tNext) C := fun L σ f h s l D W hW =>
  hc σ f h s.fh s.ok _ fun f1 hp1 e => by
    cases b with
    | true => exact iteT (h1 rfl L σ f1 hp1 (s.ext e) (l.trans e.ff) _ W hW)
    | false => exact iteF (h2 rfl L σ f1 hp1 (s.ext e) (l.trans e.ff) _ W hW)
theorem bd_try (hb : TBe B Γ O tb C) (he : PySem.W.exmOne K (.ref C) (.ref C) = some true) (hs : ∀ a, BDe B (Γ.set i (some (own a))) O (ts a) ⟨fun _ _ _ => False, P.rt, fun _ _ _ => False, fun _ _ _ => False⟩) : BDe B Γ O (tSeq (tTry K C i tb ts) u) P := fun L σ f h s l D p =>
  hb L σ f h s l _ _ fun f' h' s' l' => ⟨true, he, fun _ a _ => ⟨⟨rfl, rfl⟩, hs a L _ f' h' { s' with ok := s'.ok.set i rfl } l' _ ⟨fun _ _ _ _ z => z.elim, p.rt, fun _ _ _ _ z => z.elim, fun _ _ _ _ z => z.elim⟩⟩, fun z => nomatch z⟩
theorem c_isE {a C T : Addr} {b : Bool} (h : PySem.W.kitOne K (.ref C) (.ref T) = some b) : RcD (rIsE K C a) [own a, own T] (rep b) := fun vs f hp s rs Q q => by
  obtain ⟨v, u, rfl, rv, ru⟩ := rs.two
  cases rv
  cases ru
  exact ⟨.ref T, .ref T, b, rfl, fun u r => r, h, q _ f hp (.refl s) (rep_of_bool _ _)⟩
theorem c_isET {a C : Addr} {n : String} {b : Bool} (h : PySem.W.kitOne K (.ref C) (.type n) = some b) : RcD (rIsE K C a) [own a, tyR n] (rep b) := fun vs f hp s rs Q q => by
  obtain ⟨v, u, rfl, rv, ru⟩ := rs.two
  cases rv
  cases ru
  exact ⟨.ty n, .type n, b, rfl, fun u r => r, h, q _ f hp (.refl s) (rep_of_bool _ _)⟩
theorem ev_isE {a C T : Addr} {b : Bool} (hv : Γ[i]? = some (some (own a))) (h : PySem.W.kitOne K (.ref C) (.ref T) = some b) : EvD Γ (tCB (rIsE K C a) (tCons (tVar i) (tCons (tC (.ref T)) tNil))) (rep b) := ev_cb (ea_cons (ev_var hv) (ea_cons (ev_c fun _ => rfl) ea_nil)) (c_isE h)
theorem ev_isET {a C : Addr} {n : String} {b : Bool} (hv : Γ[i]? = some (some (own a))) (h : PySem.W.kitOne K (.ref C) (.type n) = some b) : EvD Γ (tCB (rIsE K C a) (tCons (tVar i) (tCons (tC (.ty n)) tNil))) (rep b) := ev_cb (ea_cons (ev_var hv) (ea_cons (ev_c fun _ => rfl) ea_nil)) (c_isET h)
theorem ev_cls {T : Addr} : EvD Γ (tC (.ref T)) (own T) := ev_c fun _ => rfl
end
end D

set_option Elab.async false
set_option linter.all false
set_option maxRecDepth 100000
set_option maxHeartbeats 4000000
namespace D
open PySem PySem.Spec PyProof.Rows L2
open ToPy (py)
/-! ### data that may be compared: its shape -/
structure Shd (d : PyData) (n : Nat) : Prop where
  lay : d.canLay0 = true
  dep : d.depth ≤ n
theorem Shd.ok {d : PyData} {n : Nat} (h : Shd d n) (hn : n ≤ 64 := by decide) : SeqAt.shaped d = true := by
  unfold SeqAt.shaped
  rw [h.lay, decide_eq_true (Nat.le_trans h.dep hn)]
  rfl
theorem shd_int (i : Int) : Shd (.int i) 0 := ⟨by simp only [PyData.canLay0], by simp only [PyData.depth]; exact Nat.le_refl _⟩
theorem shd_bool (i : Bool) : Shd (.bool i) 0 := ⟨by simp only [PyData.canLay0], by simp only [PyData.depth]; exact Nat.le_refl _⟩
theorem shd_none : Shd .none 0 := ⟨by simp only [PyData.canLay0], by simp only [PyData.depth]; exact Nat.le_refl _⟩
theorem shd_str {x : Str} (h : PyData.strOk x = true) : Shd (.str x) 0 := ⟨by simp only [PyData.canLay0]; exact h, by simp only [PyData.depth]; exact Nat.le_refl _⟩
theorem lay_all : ∀ {ds : List PyData}, (∀ d ∈ ds, d.canLay0 = true) → PyData.canLayAll0 ds = true
  | [], _ => by simp only [PyData.canLayAll0]
  | d :: ds, h => by
    simp only [PyData.canLayAll0, Bool.and_eq_true]
    exact ⟨h d (by simp), lay_all fun e he => h e (List.mem_cons_of_mem _ he)⟩
theorem dep_all {n : Nat} : ∀ {ds : List PyData}, (∀ d ∈ ds, d.depth ≤ n) → PyData.depthAll ds ≤ n
  | [], _ => by simp only [PyData.depthAll]; omega
  | d :: ds, h => by
    simp only [PyData.depthAll]
    exact Nat.max_le.mpr ⟨h d (by simp), dep_all fun e he => h e (List.mem_cons_of_mem _ he)⟩
theorem shd_list {ds : List PyData} {n : Nat} (h : ∀ d ∈ ds, Shd d n) : Shd (.list ds) (n + 1) :=
  ⟨by simp only [PyData.canLay0]; exact lay_all fun d hd => (h d hd).lay, by simp only [PyData.depth]; exact Nat.succ_le_succ (dep_all fun d hd => (h d hd).dep)⟩
theorem shd_tup {ds : List PyData} {n : Nat} (h : ∀ d ∈ ds, Shd d n) : Shd (.tuple ds) (n + 1) :=
  ⟨by simp only [PyData.canLay0]; exact lay_all fun d hd => (h d hd).lay, by simp only [PyData.depth]; exact Nat.succ_le_succ (dep_all fun d hd => (h d hd).dep)⟩
theorem Shd.mono {d : PyData} {m n : Nat} (h : Shd d m) (k : m ≤ n) : Shd d n := ⟨h.lay, Nat.le_trans h.dep k⟩
theorem shL {α : Type} [ToPy α] {xs : List α} {n : Nat} (h : ∀ x ∈ xs, Shd (py x) n) : Shd (py xs) (n + 1) := shd_list (ds := xs.map py) fun d hd => by
  obtain ⟨x, hx, rfl⟩ := List.mem_map.mp hd
  exact h x hx
theorem sh_ints (xs : List Int) : Shd (py xs) 1 := shL fun x _ => shd_int x
theorem sh_ints2 (xs : List (List Int)) : Shd (py xs) 2 := shL fun x _ => sh_ints x
section
variable {K : PySem.W.Frag} {α : Type} [ToPy α] {n : Nat}
theorem s_eqSame {a : α} (h : Shd (py a) n) (hn : n ≤ 64 := by decide) : R2D (rEqX K) (rep a) (rep a) (rep true) := by
  have z := s_eqD (K := K) (h.ok hn) (h.ok hn)
  rw [SeqAt.eqv_refl _ h.lay] at z
  exact z
theorem s_neSame {a : α} (h : Shd (py a) n) (hn : n ≤ 64 := by decide) : R2D (rNeX K) (rep a) (rep a) (rep false) := by
  have z := s_neD (K := K) (h.ok hn) (h.ok hn)
  rw [SeqAt.eqv_refl _ h.lay] at z
  exact z
theorem s_eqA {β : Type} [ToPy β] {a : α} {b : β} {m : Nat} (h : Shd (py a) n) (h' : Shd (py b) m) (hn : n ≤ 64 := by decide) (hm : m ≤ 64 := by decide) : R2D (rEqX K) (rep a) (rep b) (rep (PyData.eqv (py a) (py b))) := s_eqD (h.ok hn) (h'.ok hm)
theorem s_neA {β : Type} [ToPy β] {a : α} {b : β} {m : Nat} (h : Shd (py a) n) (h' : Shd (py b) m) (hn : n ≤ 64 := by decide) (hm : m ≤ 64 := by decide) : R2D (rNeX K) (rep a) (rep b) (rep (!PyData.eqv (py a) (py b))) := s_neD (h.ok hn) (h'.ok hm)
end
/-! ### the cells of the script -/
def cellAt (ns : List Int) (k : Int) : Int := (((if 0 < ns.length then ix ns (k % ns.length) else 0) + 17 * k) * 48271) % 1000003
def S_law_cell_at (K : PySem.W.Frag) (c : Cs) : Spec := fun Rs R => ∃ (ns : List Int) (k : Int), Rs = [scr K ns, rep k] ∧ 0 ≤ k ∧ k < 1000 ∧ R = rep (cellAt ns k)
theorem spec_cell {K : PySem.W.Frag} {c : Cs} {ns : List Int} {k : Int} (h0 : 0 ≤ k) (h1 : k < 1000) : S_law_cell_at K c [scr K ns, rep k] (rep (cellAt ns k)) := ⟨ns, k, rfl, h0, h1, rfl⟩
theorem cell_pos (ns : List Int) (k : Int) : 0 ≤ cellAt ns k := Int.emod_nonneg _ (by decide)
theorem cell_lt (ns : List Int) (k : Int) : cellAt ns k < 1000003 := Int.emod_lt_of_pos _ (by decide)
/-! ### a walk over a list or a tuple -/
def iLT (K : PySem.W.Frag) (t : TE) : TI := fun σ H R => iList K t σ H R ∨ iTup K t σ H R
theorem pi_lt {X : Cx} {tg e : Expr} {t : TE} (h : PE X e t) : PI X tg e (iLT X.K t) := ⟨fun pins s σ H R I w => by
  rcases w with w | w
  · exact (pi_list h).run pins s σ H R I w
  · exact (pi_tup h).run pins s σ H R I w⟩
section
variable {K : PySem.W.Frag} {Γ : Ctx} {tl : TE} {it : Nat → RP}
theorem wi_ltL {n : Nat} (h : WiD Γ (iList K tl) n it) : WiD Γ (iLT K tl) n it := fun σ f hp s ok Rk q => .inl (h σ f hp s ok Rk q)
theorem wi_ltT {n : Nat} (h : WiD Γ (iTup K tl) n it) : WiD Γ (iLT K tl) n it := fun σ f hp s ok Rk q => .inr (h σ f hp s ok Rk q)
/-- a list or a tuple of data -/
def seqD (b : Bool) (ds : List PyData) : PyData := if b = true then .list ds else .tuple ds
theorem wi_seq {b : Bool} {ds : List PyData} (h : EvD Γ tl (rpD (seqD b ds))) : WiD Γ (iLT K tl) ds.length (fun i => rpD (at_ ds i)) := by
  have e : ∀ i d, ds[i]? = some d → rpD (at_ ds i) = rpD d := fun i d h => by
    unfold at_
    rw [List.getD_eq_getElem?_getD, h]
    rfl
  cases b with
  | true => exact wi_ltL (wi_list h e)
  | false => exact wi_ltT (wi_tup h e)
theorem c_lenSeq {b : Bool} {ds : List PyData} : RcD (rLenX K) [rpD (seqD b ds)] (rep (ds.length : Int)) := by
  cases b with
  | true => exact c_lenL
  | false => exact c_lenT
theorem et_orT {tt tu : TT} (h : EvT Γ tt true) : EvT Γ (tOr tt tu) true := et_eq (et_or (b := true) h fun z => nomatch z) rfl
theorem et_orF {tt tu : TT} {b : Bool} (h : EvT Γ tt false) (h2 : EvT Γ tu b) : EvT Γ (tOr tt tu) b := et_eq (et_or h fun _ => h2) (Bool.false_or b)
theorem et_andF {tt tu : TT} (h : EvT Γ tt false) : EvT Γ (tAnd tt tu) false := et_eq (et_and (b := true) h fun z => nomatch z) rfl
theorem et_andT {tt tu : TT} {b : Bool} (h : EvT Γ tt true) (h2 : EvT Γ tu b) : EvT Γ (tAnd tt tu) b := et_eq (et_and h fun _ => h2) (Bool.true_and b)
theorem ev_andF {ta tb : TE} (h : EvD Γ ta (rep false)) : EvD Γ (tAndV ta tb) (rep false) := ev_eq (ev_and (b := true) h fun z => nomatch z) rfl
theorem ev_andT {ta tb : TE} {b : Bool} (h : EvD Γ ta (rep true)) (h2 : EvD Γ tb (rep b)) : EvD Γ (tAndV ta tb) (rep b) := ev_eq (ev_and h fun _ => h2) (Bool.true_and b)
theorem ev_orT {ta tb : TE} (h : EvD Γ ta (rep true)) : EvD Γ (tOrV ta tb) (rep true) := ev_eq (ev_or (b := true) h fun z => nomatch z) rfl
theorem ev_orF {ta tb : TE} {b : Bool} (h : EvD Γ ta (rep false)) (h2 : EvD Γ tb (rep b)) : EvD Γ (tOrV ta tb) (rep b) := ev_eq (ev_or h fun _ => h2) (Bool.false_or b)
end
theorem ix_mem {α : Type} [ToPy α] {xs : List α} {k : Int} (h0 : 0 ≤ k) (h1 : k < (xs.length : Int)) : ix xs k ∈ xs := by
  unfold ix
  rw [List.getD_eq_getElem?_getD, List.getElem?_eq_getElem (by omega : k.toNat < xs.length)]
  exact List.getElem_mem _
theorem at_mem {α : Type} [ToPy α] {xs : List α} {k : Nat} (h1 : k < xs.length) : at_ xs k ∈ xs := by
  unfold at_
  rw [List.getD_eq_getElem?_getD, List.getElem?_eq_getElem h1]
  exact List.getElem_mem _
theorem s_inS2 {K : PySem.W.Frag} {x a b : Str} : R2D (rInX K) (rep x) (rpD (.tuple [.str a, .str b])) (rep (decide (x = a) || decide (x = b))) := fun u y f hp s rx ry Q q => by
  cases rep_str rx
  have ry : repD (.tuple [.str a, .str b]) y f := ry
  simp only [repD, repL] at ry
  obtain ⟨p, vs, rfl, h1, v, r, rfl, rfl, v2, r2, rfl, rfl, rfl⟩ := ry
  refine .inl ⟨p, _, rfl, .inr (SqT.of1 (s _ _ h1)), rfl, rfl, ?_⟩
  have e : (if false = true then !inV (.str x) [V.str a, V.str b] else inV (.str x) [V.str a, V.str b]) = (decide (x = a) || decide (x = b)) := by
    have q : ∀ a b : Str, (a == b) = decide (b = a) := fun a b => by
      by_cases e : a = b
      · subst e; simp
      · rw [decide_eq_false (fun z => e z.symm)]; exact beq_eq_false_iff_ne.mpr e
    simp [inV, eqV, q]
  rw [e]
  exact q _ f hp (.refl s) (rep_of_bool _ _)
/-! ### what the top leaves, and the law's end -/
def DefK (K : PySem.W.Frag) (x : Str) (st : Stmt) : Prop := ∃ (f : Addr) (oc : Value) (od : Option Addr) (kV doc pm : Value) (an : Option Addr) (cdv ct : Value) (osl : Array (Option Value)),
  PySem.W.nsIn K mainGlobals x = some (some (.ref f)) ∧ K.lookup f = some ⟨oc, od, .func (PySem.W.fnOf x x (defArgs st) (defBody st) (defScope st) .none kV doc pm an cdv ct), osl⟩ ∧ PySem.W.codeIn K cdv x = true ∧ PySem.W.keepIn K (.ref f) = true
def DefMK (K : PySem.W.Frag) (C : Addr) (m q : Str) (st : Stmt) : Prop := ∃ (f : Addr) (oc : Value) (od : Option Addr) (kV doc pm : Value) (an : Option Addr) (cdv ct : Value) (osl : Array (Option Value)),
  PySem.W.findIn K (.ref C) m = some (some (.ref f)) ∧ PySem.W.isFn K (.ref f) = true ∧ K.lookup f = some ⟨oc, od, .func (PySem.W.fnOf m q (defArgs st) (defBody st) (defScope st) .none kV doc pm an cdv ct), osl⟩ ∧ PySem.W.codeIn K cdv q = true ∧ PySem.W.keepIn K (.ref f) = true
def DefIK (K : PySem.W.Frag) (C : Addr) (st : Stmt) (q : Str) : Prop := ∃ (f : Addr) (oc : Value) (od : Option Addr) (kV doc pm : Value) (an : Option Addr) (cdv ct : Value) (osl : Array (Option Value)),
  PySem.W.findIn K (.ref C) "__init__" = some (some (.ref f)) ∧ PySem.W.isFn K (.ref f) = true ∧ K.lookup f = some ⟨oc, od, .func (PySem.W.fnOf "__init__" q (defArgs st) (defBody st) (defScope st) .none kV doc pm an cdv ct), osl⟩ ∧ PySem.W.codeIn K cdv q = true ∧ PySem.W.keepIn K (.ref f) = true ∧
    PySem.W.makesIn K C = true ∧ PySem.W.keepIn K (.ref C) = true
theorem DefK.mk_ {K : PySem.W.Frag} {x : Str} {st : Stmt} {f : Addr} {oc : Value} {od : Option Addr} {kV doc pm : Value} {an : Option Addr} {cdv ct : Value} {osl : Array (Option Value)} (a : PySem.W.nsIn K mainGlobals x = some (some (.ref f)))
    (l : K.lookup f = some ⟨oc, od, .func (PySem.W.fnOf x x (defArgs st) (defBody st) (defScope st) .none kV doc pm an cdv ct), osl⟩) (c : PySem.W.codeIn K cdv x = true) (k : PySem.W.keepIn K (.ref f) = true) : DefK K x st := ⟨f, oc, od, kV, doc, pm, an, cdv, ct, osl, a, l, c, k⟩
theorem DefMK.mk_ {K : PySem.W.Frag} {C : Addr} {m q : Str} {st : Stmt} {f : Addr} {oc : Value} {od : Option Addr} {kV doc pm : Value} {an : Option Addr} {cdv ct : Value} {osl : Array (Option Value)} (a : PySem.W.findIn K (.ref C) m = some (some (.ref f))) (b : PySem.W.isFn K (.ref f) = true)
    (l : K.lookup f = some ⟨oc, od, .func (PySem.W.fnOf m q (defArgs st) (defBody st) (defScope st) .none kV doc pm an cdv ct), osl⟩) (c : PySem.W.codeIn K cdv q = true) (k : PySem.W.keepIn K (.ref f) = true) : DefMK K C m q st := ⟨f, oc, od, kV, doc, pm, an, cdv, ct, osl, a, b, l, c, k⟩
theorem DefIK.mk_ {K : PySem.W.Frag} {C : Addr} {q : Str} {st : Stmt} {f : Addr} {oc : Value} {od : Option Addr} {kV doc pm : Value} {an : Option Addr} {cdv ct : Value} {osl : Array (Option Value)} (a : PySem.W.findIn K (.ref C) "__init__" = some (some (.ref f))) (b : PySem.W.isFn K (.ref f) = true)
    (l : K.lookup f = some ⟨oc, od, .func (PySem.W.fnOf "__init__" q (defArgs st) (defBody st) (defScope st) .none kV doc pm an cdv ct), osl⟩) (c : PySem.W.codeIn K cdv q = true) (k : PySem.W.keepIn K (.ref f) = true) (m1 : PySem.W.makesIn K C = true) (m2 : PySem.W.keepIn K (.ref C) = true) : DefIK K C st q := ⟨f, oc, od, kV, doc, pm, an, cdv, ct, osl, a, b, l, c, k, m1, m2⟩
theorem ex_int {K : PySem.W.Frag} {x : Str} {i : Int} {t : Tok} (h : PySem.W.nsIn K mainGlobals x = some (some (.int i t))) : ∃ t, PySem.W.nsIn K mainGlobals x = some (some (.int i t)) := ⟨t, h⟩
theorem ex_str {K : PySem.W.Frag} {x : Str} {i : Str} {t : Tok} (h : PySem.W.nsIn K mainGlobals x = some (some (.str i t))) : ∃ t, PySem.W.nsIn K mainGlobals x = some (some (.str i t)) := ⟨t, h⟩
/-- a class and its __init__ -/
def DefI (K : PySem.W.Frag) (mg : Str → Option Value) (x : Str) (C : Addr) (st : Stmt) (ps : List Str) : Prop := mg x = some (.ref C) ∧ ∃ (f : Addr) (fd : FuncData) (q : Str), Fun K "__init__" q st f fd ∧ Mk K C f ∧ Binds K fd ps []
section
variable {K : PySem.W.Frag} {mg : Str → Option Value} {h : Heap} {x m q : Str} {st : Stmt} {ps : List Str} {C : Addr}
theorem def_of (X : K.In h) (G : h.Ns mainGlobals mg) (d : DefK K x st)
    (hb : ∀ (kV doc pm : Value) (an : Option Addr) (cdv ct : Value) (us : List Value), us.length = ps.length → bindArgs (PySem.W.fnOf x x (defArgs st) (defBody st) (defScope st) .none kV doc pm an cdv ct) ⟨us, []⟩ = pure (ps.zip us)) : Def K mg x st ps := by
  obtain ⟨f, oc, od, kV, doc, pm, an, cdv, ct, osl, a, l, c, k⟩ := d
  have F := fun_mk (st := st) l c k
  exact ⟨f, _, F, PySem.W.mg_of X G a, F.binds hb⟩
theorem defm_of (d : DefMK K C m q st)
    (hb : ∀ (kV doc pm : Value) (an : Option Addr) (cdv ct : Value) (us : List Value), us.length = ps.length → bindArgs (PySem.W.fnOf m q (defArgs st) (defBody st) (defScope st) .none kV doc pm an cdv ct) ⟨us, []⟩ = pure (ps.zip us)) : DefM K C m q st ps := by
  obtain ⟨f, oc, od, kV, doc, pm, an, cdv, ct, osl, a, b, l, c, k⟩ := d
  have F := fun_mk (st := st) l c k
  exact ⟨f, _, F, ⟨a, b, k⟩, F.binds hb⟩
theorem defi_of (X : K.In h) (G : h.Ns mainGlobals mg) (g : PySem.W.nsIn K mainGlobals x = some (some (.ref C))) (d : DefIK K C st q)
    (hb : ∀ (kV doc pm : Value) (an : Option Addr) (cdv ct : Value) (us : List Value), us.length = ps.length → bindArgs (PySem.W.fnOf "__init__" q (defArgs st) (defBody st) (defScope st) .none kV doc pm an cdv ct) ⟨us, []⟩ = pure (ps.zip us)) : DefI K mg x C st ps := by
  obtain ⟨f, oc, od, kV, doc, pm, an, cdv, ct, osl, a, b, l, c, k, m1, m2⟩ := d
  have F := fun_mk (st := st) l c k
  exact ⟨PySem.W.mg_of X G g, f, _, q, F, ⟨m1, a, b, m2⟩, F.binds hb⟩
def cs0 : Cs := ⟨0, 0, 0, 0, 0, 0, 0, 0, 0, 0⟩
def S_law (K : PySem.W.Frag) (c : Cs) : Spec := fun Rs R => ∃ ns : List Int, Rs = [scr K ns] ∧ ns.length ≤ 63 ∧ R = rep true
theorem sp_law_of {H : Hp} {a : Addr} {ns : List Int} (hl : ns.length ≤ 63) (hS : SqL K H a (ns.map V.int)) : spD (S_law K cs0) [.ref a] H (fun v _ => v = .bl true) (fun _ _ _ => False) :=
  ⟨[scr K ns], rep true, H, ⟨ns, rfl, hl, rfl⟩, .refl _, ⟨.ref a, [], rfl, ⟨a, rfl, hS⟩, rfl⟩, fun v f' H' e rv => rep_bool rv⟩
theorem okf {P : Program} {w : World} {base : Heap} {S : Spec} {f : Addr} {fd : FuncData} {N : List Str} {k : Nat} {t : TS} (F : Fun K x x st f fd) (sc : FnScope N ps (defScope st)) (hlen : ∀ Rs R, S Rs R → Rs.length = ps.length)
    (hps : ∀ (f : Addr) (cdv : Value) (A : Around) (outer : List Env) (s : Shared) (H : Hp) (E : XK), Room k (A.deeper (envOfC x (defScope st) s.heap.objs.size f cdv)) → PSs (cx0 P w K mg base N x st f cdv A outer s H E) (defBody st) t)
    (ev : ∀ Rs R, S Rs R → ∀ B : Base, B.m = [] → BDe B (startC N Rs) [] t (fnP B R)) : FnOk P w K mg base CX0 (k + 1) f fd ps (spD S) := by
  refine F.ok sc (fun vs H Q E h => ?_) fun cdv A outer s H vs Q E hr h => ⟨t, hps f cdv A outer s H E hr, run_spD ev h⟩
  obtain ⟨Rs, R, f, hS, _, a, _⟩ := h
  rw [a.length, hlen Rs R hS]
theorem fin_of {P : Program} {w : World} {fa : Addr} {k : Nat} {sp : Sp} (X : K.In h) (G : h.Ns mainGlobals mg) (hfa : mg "law" = some (.ref fa)) (d : DefK K "law" st)
    (hb : ∀ (kV doc pm : Value) (an : Option Addr) (cdv ct : Value) (v : Value), bindArgs (PySem.W.fnOf "law" "law" (defArgs st) (defBody st) (defScope st) .none kV doc pm an cdv ct) ⟨[v], []⟩ = pure [(("_law_script" : Str), v)])
    (ok : ∀ (base : Heap) (f : Addr) (fd : FuncData), Fun K "law" "law" st f fd → FnOk P w K mg base CX0 k f fd ["_law_script"] sp) :
    ∃ fd : FuncData, (∀ (s : Shared) (v : Value), BindsTo s fd ⟨[v], []⟩ [("_law_script", v)]) ∧ ∀ base : Heap, K.In base → base.Ns mainGlobals mg → FnOk P w K mg base CX0 k fa fd ["_law_script"] sp := by
  obtain ⟨f, oc, od, kV, doc, pm, an, cdv, ct, osl, a, l, c, kk⟩ := d
  have e := hfa.symm.trans (PySem.W.mg_of X G a)
  cases e
  have F := fun_mk (st := st) l c kk
  exact ⟨_, fun s v => .of_eq (hb kV doc pm an cdv ct v), fun base _ _ => ok base _ _ F⟩
end
end D

set_option Elab.async false
set_option linter.all false
set_option maxRecDepth 100000
set_option maxHeartbeats 4000000
namespace D
open PySem PySem.Spec PyProof.Rows L2
open ToPy (py)
local macro_rules | `(tactic| walk_at "side") => `(tactic| first | assumption | omega | (refine Int.emod_nonneg _ ?_; omega) | (refine Int.emod_lt_of_pos _ ?_; omega) | (simp at *; omega) | (simp; done) | decide | skip)
local macro_rules | `(tactic| walk_at "d") => `(tactic| first
  | with_reducible exact ev_int | with_reducible exact ev_str | with_reducible exact ev_bl | with_reducible exact ev_non
  | exact ev_var rfl
  | with_reducible exact ev_ty
  | with_reducible exact ev_cls
  | ((with_reducible apply ev_op) <;> walk_at "d")
  | ((with_reducible apply ev_un) <;> walk_at "d")
  | ((with_reducible apply ev_call) <;> walk_at "d")
  | ((with_reducible apply ev_callX) <;> walk_at "d")
  | ((with_reducible apply ev_cb) <;> walk_at "d")
  | with_reducible exact ea_nil
  | ((with_reducible apply ea_cons) <;> walk_at "d")
  | with_reducible exact s_add
  | with_reducible exact s_sub
  | with_reducible exact s_lt
  | with_reducible exact s_le
  | with_reducible exact s_gt
  | with_reducible exact s_ge
  | with_reducible exact s_eqI
  | with_reducible exact s_neI
  | with_reducible exact s_eqS
  | with_reducible exact s_neS
  | with_reducible exact s_neB
  | exact s_eqSame (sh_ints2 _) | exact s_neSame (sh_ints2 _) | exact s_eqSame (sh_ints _) | exact s_neSame (sh_ints _)
  | ((with_reducible apply s_mod) <;> walk_at "side")
  | walk_at "div" | walk_at "mul"
  | ((with_reducible apply s_catL) <;> walk_at "side")
  | ((with_reducible apply s_repL) <;> walk_at "side")
  | with_reducible exact s_fst
  | with_reducible exact s_snd
  | with_reducible exact s_t0
  | with_reducible exact s_t1
  | with_reducible exact s_t2
  | ((with_reducible apply s_last) <;> walk_at "side")
  | ((with_reducible apply s_ixS) <;> walk_at "side")
  | ((with_reducible apply s_ix) <;> walk_at "side")
  | ((with_reducible apply s_ixT) <;> walk_at "side")
  | with_reducible exact s_negI
  | with_reducible exact c_len
  | with_reducible exact c_lI
  | with_reducible exact c_tI
  | with_reducible exact c_pI
  | with_reducible exact c_t3I
  | with_reducible exact c_sI
  | with_reducible exact c_iI
  | with_reducible exact c_iB
  | with_reducible exact c_lenP
  | with_reducible exact c_len3
  | with_reducible exact c_isInt
  | with_reducible exact c_isBool
  | with_reducible exact c_isStr
  | with_reducible exact c_isList
  | with_reducible exact c_isTup
  | with_reducible exact c_lenTup
  | with_reducible exact c_lenScr
  | with_reducible exact c_listD
  | with_reducible exact c_listTD
  | with_reducible exact c_tup
  | with_reducible exact c_abs
  | with_reducible exact c_min2
  | with_reducible exact c_max2
  | with_reducible exact c_intB
  | with_reducible exact c_sum
  | ((with_reducible apply c_min) <;> walk_at "side")
  | ((with_reducible apply c_max) <;> walk_at "side")
  | ((with_reducible apply et_val) <;> walk_at "d")
  | ((with_reducible apply et_test) <;> walk_at "d")
  | ((with_reducible apply et_not) <;> walk_at "d")
  | ((with_reducible apply et_and) <;> (try with_reducible intro _) <;> walk_at "d")
  | ((with_reducible apply et_or) <;> (try with_reducible intro _) <;> walk_at "d")
  | ((with_reducible apply ev_and) <;> (try with_reducible intro _) <;> walk_at "d")
  | ((with_reducible apply ev_or) <;> (try with_reducible intro _) <;> walk_at "d")
  | ((with_reducible apply ev_chain) <;> (try with_reducible intro _) <;> walk_at "d")
  | ((with_reducible apply ev_not) <;> walk_at "d")
  | ((with_reducible apply ev_pair) <;> walk_at "d")
  | ((with_reducible apply ev_t3) <;> walk_at "d")
  | ((with_reducible apply ev_lst1) <;> walk_at "d")
  | ((with_reducible apply ev_lst2) <;> walk_at "d")
  | ((with_reducible apply ev_lst3) <;> walk_at "d")
  | ((with_reducible apply ev_lst4) <;> walk_at "d")
  | ((with_reducible apply ev_cut) <;> walk_at "d")
  | ((with_reducible apply ep_some) <;> walk_at "d")
  | ((with_reducible apply EvD.s) <;> walk_at "d")
  | ((with_reducible apply EvT.s) <;> walk_at "d")
  | ((with_reducible apply EvN.s) <;> walk_at "d")
  | ((with_reducible apply en_lst1) <;> walk_at "d")
  | ((with_reducible apply en_lst2) <;> walk_at "d")
  | ((with_reducible apply en_lst3) <;> walk_at "d")
  | ((with_reducible apply en_lst4) <;> walk_at "d")
  | ((with_reducible apply en_cut) <;> walk_at "d")
  | with_reducible exact ev_lst0
  | with_reducible exact ep_none
  | with_reducible exact en_lst0
  | ((with_reducible apply wi_L) <;> walk_at "d")
  | ((with_reducible apply wi_T) <;> walk_at "d")
  | ((with_reducible apply wi_zip) <;> walk_at "d")
  | ((with_reducible apply WiD.s) <;> walk_at "d")
  | ((with_reducible apply wi_range) <;> walk_at "side")
  | exact spec_cell (by omega) (by omega)
  | skip)
local macro_rules | `(tactic| walk_at "div") => `(tactic| first
  | exact s_div ⟨by omega, by omega⟩
  | exact s_divW (wd_div (by first | assumption | omega) (by assumption))
  | with_reducible apply s_div)
local macro_rules | `(tactic| walk_at "mul") => `(tactic| first
  | exact s_mul (Or.inl ⟨by omega, by omega⟩) | exact s_mul (Or.inr ⟨by omega, by omega⟩)
  | exact s_mulW (wd_mul (by assumption) (by assumption))
  | with_reducible apply s_mulW)
local macro_rules | `(tactic| walk_at "fg") => `(tactic| repeat (first | exact Fg.nil | apply Fg.same | apply Fg.drop | (refine Fg.eq ?_ ?_; rotate_left)))
local macro_rules | `(tactic| walk_at "end") => `(tactic| exact bd_turnE trivial rfl (by walk_at "fg"))
local macro_rules | `(tactic| walk_at "range") => `(tactic| (apply WiD.s; apply wi_range; (walk_at "d"); omega; omega))
local macro_rules | `(tactic| walk_at "app") => `(tactic| (refine' bd_appR 0 ?_ rfl ?_ ?_ ?_ ?_; (walk_at "d"); (walk_at "d"); rotate_right))
local macro_rules | `(tactic| walk_at "lend") => `(tactic| repeat (first | exact LendC.nil | apply LendC.no | (apply LendC.one; (exact lend_list 0 rfl)) | (apply LendC.one; (exact lend_same))))
/-! ### problems: what is within bounds, rows, what is refused (over data of any kind) -/
def betw (d : PyData) (lo hi : Int) : Bool := match d with
  | .int i => decide (lo ≤ i) && decide (i ≤ hi)
  | _ => false
def S_between (K : PySem.W.Frag) (c : Cs) : Spec := fun Rs R => ∃ (d : PyData) (lo hi : Int), Rs = [rpD d, rep lo, rep hi] ∧ R = rep (betw d lo hi)
def S_are_between (K : PySem.W.Frag) (c : Cs) : Spec := fun Rs R => ∃ (b : Bool) (ds : List PyData) (many lo hi : Int), Rs = [rpD (seqD b ds), rep many, rep lo, rep hi] ∧ R = rep (decide ((ds.length : Int) = many) && ds.all (betw · lo hi))
def wordOk (d : PyData) : Bool := match d with
  | .str x => decide (x = "most") || decide (x = "least")
  | _ => false
def isRow (d : PyData) (many : Int) : Bool := match d with
  | .tuple [.tuple ns, w, b] => (decide ((ns.length : Int) = many) && ns.all (betw · (-50) 50)) && wordOk w && betw b (-2000) 2000
  | _ => false
def S_is_row (K : PySem.W.Frag) (c : Cs) : Spec := fun Rs R => ∃ (d : PyData) (many : Int), Rs = [rpD d, rep many] ∧ R = rep (isRow d many)
def n_between : List Str := ["thing", "low", "high"]
def t_between (K : PySem.W.Frag) (c : Cs) : TS := (tSeq (tRet (tAndV (tCB (rIsi K) (tCons (tVar 0) (tCons (tC (.ty "int")) tNil))) (tAndV (tNotV (tCB (rIsi K) (tCons (tVar 0) (tCons (tC (.ty "bool")) tNil)))) (tChain rLeI rLeI (tVar 1) (tVar 0) (tVar 2)))))
  tNext)
def n_are_between : List Str := ["things", "many", "low", "high", "thing"]
def t_are_between (K : PySem.W.Frag) (c : Cs) : TS := (tSeq (tIfS (tTest (tOp (rNeX K) (tCB (rLenX K) (tCons (tVar 0) tNil)) (tVar 1))) (tSeq (tRet (tC (.bl false)))
  tNext) tNext)
  (tSeq (tFor (iLT K (tVar 0)) (gName 4) (tSeq (tIfS (tNot (tB (tCall (spD (S_between K c)) [] E0 (tCons (tVar 4) (tCons (tVar 2) (tCons (tVar 3) tNil)))))) (tSeq (tRet (tC (.bl false)))
  tNext) tNext)
  tNext))
  (tSeq (tRet (tC (.bl true)))
  tNext)))
def n_is_row : List Str := ["row", "many"]
def t_is_row (K : PySem.W.Frag) (c : Cs) : TS := (tSeq (tIfS (tOr (tNot (tB (tCB (rIsi K) (tCons (tVar 0) (tCons (tC (.ty "tuple")) tNil))))) (tOr (tTest (tOp (rNeX K) (tCB (rLenX K) (tCons (tVar 0) tNil)) (tC (.int 3)))) (tNot (tB (tCB (rIsi K) (tCons (tOp (rIx K) (tVar 0) (tC (.int 0))) (tCons (tC (.ty "tuple")) tNil))))))) (tSeq (tRet (tC (.bl false)))
  tNext) tNext)
  (tSeq (tIfS (tOr (tNot (tB (tCall (spD (S_are_between K c)) [] E0 (tCons (tOp (rIx K) (tVar 0) (tC (.int 0))) (tCons (tVar 1) (tCons (tUn rNegI (tC (.int 50))) (tCons (tC (.int 50)) tNil))))))) (tNot (tB (tCB (rIsi K) (tCons (tOp (rIx K) (tVar 0) (tC (.int 1))) (tCons (tC (.ty "str")) tNil)))))) (tSeq (tRet (tC (.bl false)))
  tNext) tNext)
  (tSeq (tRet (tAndV (tOp (rInX K) (tOp (rIx K) (tVar 0) (tC (.int 1))) (tTup (tCons (tC (.str "most")) (tCons (tC (.str "least")) tNil)))) (tCall (spD (S_between K c)) [] E0 (tCons (tOp (rIx K) (tVar 0) (tC (.int 2))) (tCons (tUn rNegI (tC (.int 2000))) (tCons (tC (.int 2000)) tNil))))))
  tNext)))
theorem isi_int_not {d : PyData} (h : ∀ i, d ≠ .int i) : (isi d "int" && !isi d "bool") = false := by
  cases d <;> first | rfl | (exact absurd rfl (h _))
theorem rd_between {K : PySem.W.Frag} {c : Cs} : ∀ Rs R, S_between K c Rs R → ∀ B : Base, B.m = [] → BDe B (startC n_between Rs) [] (t_between K c) (fnP B R) := by
  rintro _ _ ⟨d, lo, hi, rfl, rfl⟩ B hm
  by_cases h : ∃ i, d = .int i
  · obtain ⟨i, rfl⟩ := h
    apply bd_retE (α := Bool) hm
    · apply EvD.s
      apply ev_and (a := true) (b := true && (decide (lo ≤ i) && decide (i ≤ hi)))
      · exact ev_cb (ea_cons (ev_var rfl) (ea_cons ev_ty ea_nil)) (c_isInt (d := .int i))
      · intro _
        apply ev_and (a := true)
        · exact ev_not (ev_cb (ea_cons (ev_var rfl) (ea_cons ev_ty ea_nil)) (c_isBool (d := .int i)))
        · intro _
          refine ev_chain (Rb := rep i) (ev_var rfl) (ev_var rfl) (ev_var rfl) s_le fun _ => s_le
    · simp [betw]
  · have hb : betw d lo hi = false := by
      cases d <;> first | rfl | (exact absurd ⟨_, rfl⟩ h)
    rw [hb]
    apply bd_retR hm
    apply EvD.s
    by_cases h1 : isi d "int" = true
    · have h2 : isi d "bool" = true := by
        cases d <;> first | rfl | (exact absurd ⟨_, rfl⟩ h) | (simp [isi, tyName, isiN] at h1)
      apply ev_andT
      · rw [← h1]
        exact ev_cb (ea_cons (ev_var rfl) (ea_cons ev_ty ea_nil)) c_isInt
      · apply ev_andF
        refine ev_eq (ev_not (ev_cb (ea_cons (ev_var rfl) (ea_cons ev_ty ea_nil)) c_isBool)) ?_
        rw [h2]
        rfl
    · apply ev_andF
      rw [← Bool.eq_false_iff.mpr h1]
      exact ev_cb (ea_cons (ev_var rfl) (ea_cons ev_ty ea_nil)) c_isInt
theorem all_range (ds : List PyData) (p : PyData → Bool) (h : ∀ i, i < ds.length → p (at_ ds i) = true) : ds.all p = true := by
  rw [List.all_eq_true]
  intro x hx
  obtain ⟨i, hi, e⟩ := List.getElem_of_mem hx
  have := h i hi
  unfold at_ at this
  rw [List.getD_eq_getElem?_getD, List.getElem?_eq_getElem hi] at this
  rw [← e]
  exact this
theorem rd_are_between {K : PySem.W.Frag} {c : Cs} : ∀ Rs R, S_are_between K c Rs R → ∀ B : Base, B.m = [] → BDe B (startC n_are_between Rs) [] (t_are_between K c) (fnP B R) := by
  rintro _ _ ⟨b, ds, many, lo, hi, rfl, rfl⟩ B hm
  apply bd_ifr (b := !decide ((ds.length : Int) = many))
  · exact EvT.s (et_test (ev_op (ev_cb (ea_cons (ev_var rfl) ea_nil) c_lenSeq) (ev_var rfl) s_neI))
  · intro h
    apply bd_retE hm
    · walk_at "d"
    · simp at h
      simp [h]
  intro h
  simp at h
  apply bd_forE (fun _ => [some (rpD (seqD b ds)), some (rep many), some (rep lo), some (rep hi), none]) (fun _ => []) (fun i => ∀ j, j < i → betw (at_ ds j) lo hi = true)
  · exact WiD.s (wi_seq (ev_var rfl))
  · walk_at "fg"
  · rfl
  · intro j hj
    omega
  · intro i hi
    exact tg_name
  · intro i hlt F
    apply bd_ifr (b := !betw (at_ ds i) lo hi)
    · apply EvT.s
      apply et_not
      apply et_val
      apply ev_call
      · walk_at "d"
      · exact ⟨_, _, _, rfl, rfl⟩
    · intro hb
      simp at hb
      apply bd_retE hm
      · walk_at "d"
      · have : ds.all (betw · lo hi) = false := by
          rw [List.all_eq_false]
          exact ⟨_, at_mem hlt, by rw [hb]; exact Bool.false_ne_true⟩
        simp [this]
    · intro hb
      simp at hb
      refine bd_turnE ?_ rfl (by walk_at "fg")
      intro j hj
      by_cases e : j = i
      · rw [e]
        exact hb
      · exact F j (by omega)
  · intro F
    apply bd_retE hm
    · walk_at "d"
    · rw [all_range ds _ F]
      simp [h]
theorem tri (d : PyData) : (∃ a b c : PyData, d = .tuple [a, b, c]) ∨ (∃ ds, d = .tuple ds ∧ ds.length ≠ 3) ∨ isi d "tuple" = false := by
  cases d with
  | tuple ds =>
    match ds with
    | [a, b, c] => exact .inl ⟨a, b, c, rfl⟩
    | [] => exact .inr (.inl ⟨_, rfl, by simp⟩)
    | [_] => exact .inr (.inl ⟨_, rfl, by simp⟩)
    | [_, _] => exact .inr (.inl ⟨_, rfl, by simp⟩)
    | _ :: _ :: _ :: _ :: r => exact .inr (.inl ⟨_, rfl, by simp⟩)
  | _ => exact .inr (.inr rfl)
theorem rd_is_row {K : PySem.W.Frag} {c : Cs} : ∀ Rs R, S_is_row K c Rs R → ∀ B : Base, B.m = [] → BDe B (startC n_is_row Rs) [] (t_is_row K c) (fnP B R) := by
  rintro _ _ ⟨d, many, rfl, rfl⟩ B hm
  have isT : ∀ {te : TE} {x : PyData}, EvD (startC n_is_row [rpD d, rep many]) te (rpD x) → EvD (startC n_is_row [rpD d, rep many]) (tCB (rIsi K) (tCons te (tCons (tC (.ty "tuple")) tNil))) (rep (isi x "tuple")) := fun h => ev_cb (ea_cons h (ea_cons ev_ty ea_nil)) c_isTup
  have first : ∀ {b : Bool} {tt tu tw : TT}, (isi d "tuple" = b) → EvT (startC n_is_row [rpD d, rep many]) (tNot (tB (tCB (rIsi K) (tCons (tVar 0) (tCons (tC (.ty "tuple")) tNil))))) (!b) := fun e => by
    rw [← e]
    exact et_not (et_val (isT (ev_var rfl)))
  rcases tri d with ⟨a, w, bd, rfl⟩ | ⟨ds, rfl, hl⟩ | hn
  · have ixs : ∀ {i : Int} {x : PyData}, atI [a, w, bd] i = some x → ∀ {te : TE}, te = tC (.int i) → EvD (startC n_is_row [rpD (.tuple [a, w, bd]), rep many]) (tOp (rIx K) (tVar 0) te) (rpD x) := fun h _ e => by
      rw [e]
      exact ev_op (ev_var rfl) ev_int (s_ixTD h)
    have e0 := ixs (i := 0) (x := a) rfl rfl
    have e1 := ixs (i := 1) (x := w) rfl rfl
    have e2 := ixs (i := 2) (x := bd) rfl rfl
    have len3 : EvT (startC n_is_row [rpD (.tuple [a, w, bd]), rep many]) (tTest (tOp (rNeX K) (tCB (rLenX K) (tCons (tVar 0) tNil)) (tC (.int 3)))) false :=
      et_eq (et_test (ev_op (ev_cb (ea_cons (ev_var rfl) ea_nil) (c_lenT (ds := [a, w, bd]))) ev_int s_neI)) rfl
    by_cases ht : ∃ ns, a = .tuple ns
    · obtain ⟨ns, rfl⟩ := ht
      apply bd_ifr (b := false)
      · refine EvT.s (et_orF (first (tt := tNot (tB (tVar 0))) (tu := tNot (tB (tVar 0))) (tw := tNot (tB (tVar 0))) (b := true) rfl) (et_orF len3 (et_eq (et_not (et_val (isT e0))) rfl)))
      · intro h
        cases h
      intro _
      have ab : EvD (startC n_is_row [rpD (.tuple [.tuple ns, w, bd]), rep many]) (tCall (spD (S_are_between K c)) [] E0 (tCons (tOp (rIx K) (tVar 0) (tC (.int 0))) (tCons (tVar 1) (tCons (tUn rNegI (tC (.int 50))) (tCons (tC (.int 50)) tNil))))) (rep (decide ((ns.length : Int) = many) && ns.all (betw · (-50) 50))) :=
        ev_call (ea_cons e0 (ea_cons (ev_var rfl) (ea_cons (ev_un ev_int s_negI) (ea_cons ev_int ea_nil)))) ⟨false, ns, many, -50, 50, rfl, rfl⟩
      by_cases hA : (decide ((ns.length : Int) = many) && ns.all (betw · (-50) 50)) = true
      · by_cases hw : ∃ x, w = .str x
        · obtain ⟨x, rfl⟩ := hw
          apply bd_ifr (b := false)
          · refine EvT.s (et_orF ?_ ?_)
            · refine et_eq (et_not (et_val ab)) ?_
              rw [hA]
              rfl
            · exact et_eq (et_not (et_val (ev_cb (ea_cons e1 (ea_cons ev_ty ea_nil)) c_isStr))) rfl
          · intro h
            cases h
          intro _
          have inn : EvD (startC n_is_row [rpD (.tuple [.tuple ns, .str x, bd]), rep many]) (tOp (rInX K) (tOp (rIx K) (tVar 0) (tC (.int 1))) (tTup (tCons (tC (.str "most")) (tCons (tC (.str "least")) tNil)))) (rep (wordOk (.str x))) :=
            ev_op (ev_cast e1 rfl) (ev_tupD (ds := [.str "most", .str "least"]) (ea_cons ev_str (ea_cons ev_str ea_nil))) s_inS2
          have eR : isRow (.tuple [.tuple ns, .str x, bd]) many = (wordOk (.str x) && betw bd (-2000) 2000) := by
            simp only [isRow, hA, Bool.true_and]
          rw [eR]
          apply bd_retR hm
          apply EvD.s
          apply ev_and inn
          intro _
          exact ev_call (ea_cons e2 (ea_cons (ev_un ev_int s_negI) (ea_cons ev_int ea_nil))) ⟨bd, -2000, 2000, rfl, rfl⟩
        · have hs : isi w "str" = false := by
            cases w <;> first | rfl | (exact absurd ⟨_, rfl⟩ hw)
          have hw' : wordOk w = false := by
            cases w <;> first | rfl | (exact absurd ⟨_, rfl⟩ hw)
          apply bd_ifr (b := true)
          · refine EvT.s (et_orF ?_ ?_)
            · refine et_eq (et_not (et_val ab)) ?_
              rw [hA]
              rfl
            · refine et_eq (et_not (et_val (ev_cb (ea_cons e1 (ea_cons ev_ty ea_nil)) c_isStr))) ?_
              rw [hs]
              rfl
          · intro _
            have eR : isRow (.tuple [.tuple ns, w, bd]) many = false := by
              simp only [isRow, hw', Bool.and_false, Bool.false_and]
            rw [eR]
            apply bd_retR hm
            walk_at "d"
          · intro h
            cases h
      · have hA := Bool.eq_false_iff.mpr hA
        apply bd_ifr (b := true)
        · refine EvT.s (et_orT ?_)
          refine et_eq (et_not (et_val ab)) ?_
          rw [hA]
          rfl
        · intro _
          have eR : isRow (.tuple [.tuple ns, w, bd]) many = false := by
            simp only [isRow, hA, Bool.false_and]
          rw [eR]
          apply bd_retR hm
          walk_at "d"
        · intro h
          cases h
    · have hs : isi a "tuple" = false := by
        cases a <;> first | rfl | (exact absurd ⟨_, rfl⟩ ht)
      apply bd_ifr (b := true)
      · refine EvT.s (et_orF (first (tt := tNot (tB (tVar 0))) (tu := tNot (tB (tVar 0))) (tw := tNot (tB (tVar 0))) (b := true) rfl) (et_orF len3 (et_eq (et_not (et_val (isT e0))) ?_)))
        rw [hs]
        rfl
      · intro _
        have eR : isRow (.tuple [a, w, bd]) many = false := by
          cases a <;> first | rfl | (exact absurd ⟨_, rfl⟩ ht)
        rw [eR]
        apply bd_retR hm
        walk_at "d"
      · intro h
        cases h
  · apply bd_ifr (b := true)
    · refine EvT.s (et_orF (first (tt := tNot (tB (tVar 0))) (tu := tNot (tB (tVar 0))) (tw := tNot (tB (tVar 0))) (b := true) rfl) (et_orT ?_))
      refine et_eq (et_test (ev_op (ev_cb (ea_cons (ev_var rfl) ea_nil) (c_lenT (ds := ds))) ev_int s_neI)) ?_
      simp
      omega
    · intro _
      have eR : isRow (.tuple ds) many = false := by
        match ds, hl with
        | [], _ => rfl
        | [a], _ => cases a <;> rfl
        | [a, _], _ => cases a <;> rfl
        | [_, _, _], h => exact absurd rfl h
        | a :: _ :: _ :: _ :: r, _ => cases a <;> rfl
      rw [eR]
      apply bd_retR hm
      walk_at "d"
    · intro h
      cases h
  · apply bd_ifr (b := true)
    · exact EvT.s (et_orT (first (tt := tNot (tB (tVar 0))) (tu := tNot (tB (tVar 0))) (tw := tNot (tB (tVar 0))) (b := false) hn))
    · intro _
      have eR : isRow d many = false := by
        cases d <;> first | rfl | (simp [isi, tyName, isiN] at hn)
      rw [eR]
      apply bd_retR hm
      walk_at "d"
    · intro h
      cases h
end D

set_option Elab.async false
set_option linter.all false
set_option maxRecDepth 100000
set_option maxHeartbeats 4000000
namespace D
open PySem PySem.Spec PyProof.Rows L2
open ToPy (py)
abbrev own_ := own
/-! ### defs that change objects lent to them, or make objects of the caller's own -/
structure ExtM (m : List Addr) (f h f' h' : Hp) : Prop where
  ff : Same f f'
  fh : Same f' h'
  hh : ∀ a o, h a = some o → a ∉ m → h' a = some o
  th : ∀ a, h a ≠ none → h' a ≠ none
  nf : ∀ a, h a ≠ none → f a = none → f' a = none
structure OwnOk (m : List Addr) (h : Hp) (O : Own) (f' h' : Hp) : Prop where
  ow : ∀ p T, (p, T) ∈ O → f' p = none ∧ (h p = none ∨ p ∈ m) ∧ ∃ o, h' p = some o ∧ T.q o f'
  nd : (O.map (·.1)).Nodup
/-- S: from the arguments and the objects lent to what may come back, and the objects then -/
abbrev SpecO := List RP → Own → (RP → Own → Prop) → Prop
def spO (S : SpecO) : Sp := fun vs H Q _ => ∃ Rs O Po f, S Rs O Po ∧ Same f H ∧ All Rs vs f ∧ OwnOk (O.map (·.1)) H O f H ∧ ∀ v f' H' R O', Po R O' → ExtM (O.map (·.1)) f H f' H' → OwnOk (O.map (·.1)) H O' f' H' → R.p v f' → Q v H'
def fnO (B : Base) (Po : RP → Own → Prop) : Post :=
  ⟨fun _ f h => ∃ R O', Po R O' ∧ ExtM B.m B.f B.h f h ∧ OwnOk B.m B.h O' f h ∧ R.p .non f, fun v f h => ∃ R O', Po R O' ∧ ExtM B.m B.f B.h f h ∧ OwnOk B.m B.h O' f h ∧ R.p v f, fun _ _ _ => False, fun _ _ _ => False⟩
def EvAS (B : Base) (Γ : Ctx) (O : Own) (ta : TA) (Rs : List RP) : Prop := ∀ σ f h, Sta B Γ O σ f h → ∀ Q : List V → Hp → Prop, (∀ vs f' h', Ext f h f' h' → All Rs vs f' → Q vs h') → ta σ h Q
section
variable {B : Base} {Γ Γ' : Ctx} {O O' : Own} {σ : L2.St} {f h f' h' : Hp} {te ta to : TE} {t : TA} {R R' : RP} {Rs : List RP} {u : TS} {P : Post} {i : Nat} {C : Addr} {S : SpecO} {E : XK} {K : PySem.W.Frag} {Po : RP → Own → Prop} {m : Str}
theorem EvA.s (x : EvA Γ t Rs) : EvAS B Γ O t Rs := fun σ f h s Q q => x σ f h s.fh s.ok Q q
theorem ea_nilS : EvAS B Γ O tNil [] := fun σ f h s Q q => q [] f h (.refl s.fh) rfl
theorem ea_consS (h1 : EvS B Γ O te R) (h2 : EvAS B Γ O t Rs) : EvAS B Γ O (tCons te t) (R :: Rs) := fun σ f h s Q q =>
  h1 σ f h s _ fun v f1 h1 e1 rv => h2 σ f1 h1 (s.ext e1) _ fun vs f2 h2 e2 rs => q (v :: vs) f2 h2 (e1.trans e2) ⟨v, vs, rfl, R.mono rv e2.ff, rs⟩
theorem Sta.toM (s : Sta B Γ O σ f h) : ExtM B.m B.f B.h f h ∧ OwnOk B.m B.h O f h := ⟨⟨s.ff, s.fh, s.hh, s.th, s.nf⟩, ⟨s.ow, s.nd⟩⟩
theorem bd_endO (hp : Po R O) (hr : ∀ f, R.p .non f) : BDe B Γ O tNext (fnO B Po) := bd_next fun σ f h s => ⟨R, O, hp, s.toM.1, s.toM.2, hr f⟩
theorem bd_retO {nx bk ct : L2.St → Hp → Hp → Prop} (he : EvS B Γ O te R) (hp : Po R O) : BDe B Γ O (tSeq (tRet te) u) ⟨nx, (fnO B Po).rt, bk, ct⟩ := fun L σ f h s l D p =>
  he σ f h s _ fun v f1 h1 e rv => p.rt v f1 h1 (l.trans e.ff) ⟨R, O, hp, (s.ext e).toM.1, (s.ext e).toM.2, rv⟩
theorem bd_retNO {nx bk ct : L2.St → Hp → Hp → Prop} (hp : Po R O) (hr : ∀ f, R.p .non f) : BDe B Γ O (tSeq tRetN u) ⟨nx, (fnO B Po).rt, bk, ct⟩ := fun L σ f h s l D p => p.rt .non f h l ⟨R, O, hp, s.toM.1, s.toM.2, hr f⟩
/-- behind a call that may have changed all our own objects -/
theorem Sta.called (s : Sta B Γ O σ f h) (e : ExtM (O.map (·.1)) f h f' h') (w : OwnOk (O.map (·.1)) h O' f' h') : Sta B Γ O' σ f' h' where
  ff := s.ff.trans e.ff
  fh := e.fh
  hh := fun a o q n => by
    by_cases ha : a ∈ O.map (·.1)
    · obtain ⟨⟨p, T⟩, hp, rfl⟩ := List.mem_map.mp ha
      obtain ⟨_, g2, _⟩ := s.ow p T hp
      rcases g2 with g2 | g2
      · rw [g2] at q; cases q
      · exact absurd g2 n
    · exact e.hh a o (s.hh a o q n) ha
  th := fun a n => e.th a (s.th a n)
  nf := fun a n z => e.nf a (s.th a n) (s.nf a n z)
  ok := s.ok.mono e.ff
  ow := fun p T hp => by
    obtain ⟨g1, g2, g3⟩ := w.ow p T hp
    refine ⟨g1, ?_, g3⟩
    rcases g2 with g2 | g2
    · cases hb : B.h p with
      | none => exact .inl rfl
      | some o => exact absurd g2 (s.th p (by rw [hb]; exact fun z => nomatch z))
    · obtain ⟨⟨p', T'⟩, hp', e'⟩ := List.mem_map.mp g2
      cases e'
      exact (s.ow _ T' hp').2.1
  nd := w.nd
theorem Sta.own (s : Sta B Γ O σ f h) : OwnOk (O.map (·.1)) h O f h := ⟨fun p T hp => ⟨(s.ow p T hp).1, .inr (List.mem_map.mpr ⟨_, hp, rfl⟩), (s.ow p T hp).2.2⟩, s.nd⟩
/-- o.m(..), o our own instance; what comes back is kept under a name -/
theorem ev_methO {fs : List (Str × RP)} {p : Addr} (j : Nat) (ho : EvD Γ to (own p)) (hj : O[j]? = some (p, insO C fs)) (hl : fs.lookup m = none) (ha : EvAS B Γ O t Rs) (hS : S (D.own p :: Rs) O Po) {Q : V → Hp → Prop} (s : Sta B Γ O σ f h)
    (k : ∀ v f' h' R O', Po R O' → Same f f' → Sta B Γ O' σ f' h' → R.p v f' → Q v h') : tMeth C m (spO S) [] E to t σ h Q :=
  ho σ f h s.fh s.ok _ fun v f1 h1 e1 rv => by
    cases rv
    have s1 := s.ext e1
    obtain ⟨o, hp, dx, fvs, rfl, hr⟩ := s1.get hj
    refine ⟨p, dx, fvs, rfl, hp, hr.none hl, ha σ f1 h1 s1 _ fun vs f2 h2 e2 rs => ?_⟩
    have s2 := s1.ext e2
    rw [List.append_nil]
    refine ⟨_, O, Po, f2, hS, s2.fh, ⟨_, vs, rfl, rfl, rs⟩, s2.own, fun v f' H' R O' hp e3 w rv => ?_⟩
    exact k v f' H' R O' hp ((e1.trans e2).ff.trans e3.ff) (s2.called e3 w) rv
theorem bd_methO {fs : List (Str × RP)} {p : Addr} (j : Nat) (ho : EvD Γ to (own p)) (hj : O[j]? = some (p, insO C fs)) (hl : fs.lookup m = none) (ha : EvAS B Γ O t Rs) (hS : S (D.own p :: Rs) O Po)
    (k : ∀ R O', Po R O' → BDe B Γ O' u P) : BDe B Γ O (tSeq (tDrop (tMeth C m (spO S) [] E to t)) u) P := fun L σ f h s l D q =>
  ev_methO j ho hj hl ha hS s fun v f' h' R O' hp e s' rv => k R O' hp L σ f' h' s' (l.trans e) D q
theorem bd_setMO {fs : List (Str × RP)} {p : Addr} (j : Nat) (ho : EvD Γ to (own p)) (hj : O[j]? = some (p, insO C fs)) (hl : fs.lookup m = none) (ha : EvAS B Γ O t Rs) (hS : S (D.own p :: Rs) O Po)
    (k : ∀ R O', Po R O' → BDe B (Γ.set i (some R)) O' u P) : BDe B Γ O (tSeq (tAsg (tMeth C m (spO S) [] E to t) (gName i)) u) P := fun L σ f h s l D q =>
  ev_methO j ho hj hl ha hS s fun v f' h' R O' hp e s' rv => k R O' hp L _ f' h' (s'.set rv) (l.trans e) D q

/-- the heap with a new instance -/
theorem sta_make {x dx : Addr} (s : Sta B Γ [] σ f h) (hx : h x = none) (hdx : h dx = none) : Sta B Γ [(x, insO C [])] σ f (upd (upd h dx (.own x)) x (.ins C dx [])) := by
  have fx : f x = none := s.fh.free hx
  have hh2 : Same h (upd (upd h dx (.own x)) x (.ins C dx [])) := fun b o e => by
    rw [upd_ne (ne_of_none e hx), upd_ne (ne_of_none e hdx)]
    exact e
  have hb : B.h x = none := by
    cases hb : B.h x with
    | none => rfl
    | some o => exact absurd hx (s.th x (by rw [hb]; exact fun z => nomatch z))
  have hw : ∀ p T, (p, T) ∈ [(x, insO C [])] → f p = none ∧ (B.h p = none ∨ p ∈ B.m) ∧ ∃ o, upd (upd h dx (.own x)) x (.ins C dx []) p = some o ∧ T.q o f := fun p T hp => by
    rcases List.mem_cons.mp hp with z | z
    · cases z
      exact ⟨fx, .inl hb, _, upd_same, dx, [], rfl, rfl⟩
    · cases z
  exact ⟨s.ff, s.fh.trans hh2, fun a o q n => hh2 _ _ (s.hh a o q n), fun a n z => s.th a n (hh2.free z), s.nf, s.ok, hw, by simp⟩
/-- a new instance of a class of the text, our own -/
theorem bd_make (ha : EvAS B Γ [] t Rs) (hS : ∀ x, ∃ Po, S (D.own x :: Rs) [(x, insO C [])] Po ∧ ∀ R O', Po R O' → R = rep () ∧ BDe B (Γ.set i (some (D.own x))) O' u P) : BDe B Γ [] (tSeq (tAsg (tMake C (spO S) [] E t) (gName i)) u) P := fun L σ f h s l D q => by
  refine ha σ f h s _ fun vs f1 h1 e1 rs => ?_
  intro x dx hx hdx hne
  have s1 := s.ext e1
  rw [List.append_nil]
  obtain ⟨Po, hS, k⟩ := hS x
  have s2 := sta_make (C := C) s1 hx hdx
  refine ⟨_, _, Po, f1, hS, s2.fh, ⟨_, vs, rfl, rfl, rs⟩, s2.own, fun v f' H' R O' hp e3 w rv => ?_⟩
  obtain ⟨rfl, k⟩ := k R O' hp
  cases rep_unit rv
  have s3 := s2.called e3 w
  exact ⟨rfl, k L _ f' H' (s3.set (R := own_ x) rfl) ((l.trans e1.ff).trans e3.ff) D q⟩
/-- .. that stands from now on -/
theorem ev_make {fs : List (Str × RP)} (ha : EvA Γ t Rs) (hS : ∀ x, ∃ Po, S (D.own x :: Rs) [(x, insO C [])] Po ∧ ∀ R O', Po R O' → R = rep () ∧ O' = [(x, insO C fs)]) : EvD Γ (tMake C (spO S) [] E t) (insR C fs) := fun σ f h s ok Q q => by
  refine ha σ f h s ok _ fun vs f1 h1 e1 rs => ?_
  intro x dx hx hdx hne
  rw [List.append_nil]
  obtain ⟨Po, hS, k⟩ := hS x
  have s1 : Sta ⟨f1, h1, []⟩ Γ [] σ f1 h1 := ⟨.refl _, e1.fh, fun _ _ e _ => e, fun _ n => n, fun _ _ e => e, ok.mono e1.ff, fun _ _ z => (nomatch z), List.nodup_nil⟩
  have s2 := sta_make (C := C) s1 hx hdx
  refine ⟨_, _, Po, f1, hS, s2.fh, ⟨_, vs, rfl, rfl, rs⟩, s2.own, fun v f' H' R O' hp e3 w rv => ?_⟩
  obtain ⟨rfl, rfl⟩ := k R O' hp
  cases rep_unit rv
  have s3 := s2.called e3 w
  obtain ⟨o, ho, ht⟩ := s3.get (i := 0) rfl
  obtain ⟨s4, k4⟩ := s3.freeze (i := 0) rfl ho rfl
  obtain ⟨dx', fvs, rfl, hr⟩ := ht
  have E := s4.toExt rfl
  exact ⟨rfl, q _ _ H' (e1.trans E) ⟨x, dx', fvs, rfl, upd_same, hr.mono k4⟩⟩
/-! fields of our own instances -/
def putR (n : Str) (R : RP) : List (Str × RP) → List (Str × RP)
  | [] => [(n, R)]
  | (g, x) :: r => if g = n then (g, R) :: r else (g, x) :: putR n R r
theorem RepF.put {n : Str} {R : RP} {v : V} {H : Hp} (hv : R.p v H) : ∀ {fs : List (Str × RP)} {fvs : List (Str × V)}, RepF fs fvs H → RepF (putR n R fs) (putF n v fvs) H
  | [], _, h => by cases h; exact ⟨v, [], rfl, hv, rfl⟩
  | (g, x) :: r, _, ⟨w, r', e, h1, h2⟩ => by
    subst e
    unfold putR putF
    by_cases c : g = n
    · rw [if_pos c, if_pos c]
      exact ⟨v, r', rfl, hv, h2⟩
    · rw [if_neg c, if_neg c]
      exact ⟨w, _, rfl, h1, RepF.put hv h2⟩
theorem RepF.length {H : Hp} : ∀ {fs : List (Str × RP)} {fvs : List (Str × V)}, RepF fs fvs H → fvs.length = fs.length
  | [], _, h => by cases h; rfl
  | (g, x) :: r, _, ⟨w, r', e, h1, h2⟩ => by subst e; simp [RepF.length h2]
/-- self.n = e -/
theorem bd_setF {fs : List (Str × RP)} {p : Addr} {n : Str} (j : Nat) (he : EvS B Γ O te R) (ho : EvD Γ to (D.own p)) (hj : O[j]? = some (p, insO C fs)) (hc : Cls K C) (hn : NoAttr K C n) (hz : fs.length < 1000)
    (k : BDe B Γ (O.set j (p, insO C (putR n R fs))) u P) : BDe B Γ O (tSeq (sFld K to te n) u) P := fun L σ f h s l D q =>
  he σ f h s _ fun y f1 h1 e1 ry => ho σ f1 h1 e1.fh (s.ext e1).ok _ fun v f2 h2 e2 rv => by
    cases rv
    have s2 := (s.ext e1).ext e2
    obtain ⟨o, hp, dx, fvs, rfl, hr⟩ := s2.get hj
    refine ⟨p, C, dx, fvs, rfl, hp, hc, hn, by rw [hr.length]; exact hz, ?_⟩
    exact k L σ f2 _ (s2.put hj ⟨dx, _, rfl, hr.put (R.mono ry e2.ff)⟩) ((l.trans e1.ff).trans e2.ff) D q
/-- self.n = e, a new object of our own -/
theorem bd_setFO {fs : List (Str × RP)} {p : Addr} {n : Str} {T : OT} (j : Nat) (he : EvNS B Γ O te T) (ho : EvD Γ to (D.own p)) (hj : O[j]? = some (p, insO C fs)) (hc : Cls K C) (hn : NoAttr K C n) (hz : fs.length < 1000)
    (k : ∀ p', BDe B Γ (((p', T) :: O).set (j + 1) (p, insO C (putR n (D.own p') fs))) u P) : BDe B Γ O (tSeq (sFld K to te n) u) P := fun L σ f h s l D q =>
  he σ f h s _ fun p' o f1 h1 e1 nn nf ho' ht => ho σ f1 h1 e1.fh (s.ext e1).ok _ fun v f2 h2 e2 rv => by
    cases rv
    have s1 := s.ext e1
    have hb : B.h p' = none := by
      cases hb : B.h p' with
      | none => rfl
      | some o' => exact absurd nn (s.th p' (by rw [hb]; exact fun z => nomatch z))
    have s1' : Sta B Γ ((p', T) :: O) σ f1 h1 := by
      refine ⟨s1.ff, s1.fh, s1.hh, s1.th, s1.nf, s1.ok, fun p2 T2 hm => ?_, ?_⟩
      · rcases List.mem_cons.mp hm with z | z
        · cases z
          exact ⟨nf, .inl hb, o, ho', ht⟩
        · exact s1.ow p2 T2 z
      · rw [List.map_cons, List.nodup_cons]
        refine ⟨fun z => ?_, s1.nd⟩
        obtain ⟨⟨p2, T2⟩, z1, z2⟩ := List.mem_map.mp z
        obtain ⟨_, _, o2, h3, _⟩ := s.ow p2 T2 z1
        cases z2
        rw [nn] at h3
        cases h3
    have s2 := s1'.ext e2
    have hj' : ((p', T) :: O)[j + 1]? = some (p, insO C fs) := hj
    obtain ⟨o2, hp, dx, fvs, rfl, hr⟩ := s2.get hj'
    refine ⟨p, C, dx, fvs, rfl, hp, hc, hn, by rw [hr.length]; exact hz, ?_⟩
    exact k p' L σ f2 _ (s2.put hj' ⟨dx, _, rfl, hr.put (R := own_ p') rfl⟩) ((l.trans e1.ff).trans e2.ff) D q
theorem es_fld {fs : List (Str × RP)} {p : Addr} {n : Str} (j : Nat) (ho : EvD Γ to (D.own p)) (hj : O[j]? = some (p, insO C fs)) (hc : Cls K C) (hn : NoAttr K C n) (hl : fs.lookup n = some R) : EvS B Γ O (tFld K to n) R := fun σ f h s Q q =>
  ho σ f h s.fh s.ok _ fun v f1 h1 e rv => by
    cases rv
    obtain ⟨o, hp, dx, fvs, rfl, hr⟩ := (s.ext e).get hj
    obtain ⟨v', l, rv⟩ := hr.get hl
    exact ⟨p, C, dx, fvs, v', rfl, hp, hc, hn, l, q v' f1 h1 e rv⟩
theorem es_op {Ra Rb : RP} {r : R2} (ha : EvS B Γ O ta Ra) (hb : EvS B Γ O te Rb) (hr : R2D r Ra Rb R) : EvS B Γ O (tOp r ta te) R := fun σ f h s Q q =>
  ha σ f h s _ fun x f1 h1 e1 rx => hb σ f1 h1 (s.ext e1) _ fun y f2 h2 e2 ry => hr x y f2 h2 e2.fh (Ra.mono rx e2.ff) ry _ fun v f3 h3 e3 rv => q v f3 h3 ((e1.trans e2).trans e3) rv
theorem es_callX {S : Spec} {SE : List RP → Addr → Prop} (ha : EvAS B Γ O t Rs) (hS : S Rs R) : EvS B Γ O (tCall (spX S SE) [] E t) R := fun σ f h s Q q =>
  ha σ f h s _ fun vs f1 h1 e rs => by
    rw [List.append_nil]
    exact ⟨Rs, f1, e.fh, rs, .inl ⟨R, hS, fun v f' H' e2 rv => q v f' H' (e.trans e2) rv⟩⟩
theorem es_call {S : Spec} (ha : EvAS B Γ O t Rs) (hS : S Rs R) : EvS B Γ O (tCall (spD S) [] E t) R := fun σ f h s Q q =>
  ha σ f h s _ fun vs f1 h1 e rs => by
    rw [List.append_nil]
    exact ⟨Rs, R, f1, hS, e.fh, rs, fun v f' H' e2 rv => q v f' H' (e.trans e2) rv⟩
/-- .append and [i] = .. of an object that a field names -/
theorem bd_appS {α : Type} {_ : ToPy α} {xs : List α} {a : α} {p : Addr} (j : Nat) (ho : EvS B Γ O to (D.own p)) (hj : O[j]? = some (p, oL xs)) (he : EvS B Γ O te (rep a)) (hz : xs.length < 1000000) (k : BDe B Γ (O.set j (p, oL (xs ++ [a]))) u P) :
    BDe B Γ O (tSeq (tDrop (tBM K "list" rAppend to (tCons te tNil))) u) P := fun L σ f h s l D q =>
  ho σ f h s _ fun v f1 h1 e1 rv => by
    cases rv
    have s1 := s.ext e1
    obtain ⟨o, hp, vs, rfl, hr⟩ := s1.get hj
    refine ⟨.inl ⟨rfl, vs, SqL.of1 hp⟩, he σ f1 h1 s1 _ fun y f2 h2 e2 ry => ?_⟩
    have s2 := s1.ext e2
    have hp2 : h2 p = some (.lst vs) := e2.hh _ _ hp
    refine ⟨p, vs, y, rfl, rfl, hp2, ?_, ?_⟩
    · rw [repL_length hr, List.length_map]
      exact Nat.lt_trans hz (by decide)
    · refine k L σ f2 _ (s2.put hj ?_) ((l.trans e1.ff).trans e2.ff) D q
      refine ⟨_, rfl, ?_⟩
      rw [List.map_append]
      exact repL_append (repL_mono e2.ff _ _ hr) (repL_one ry)
theorem bd_setIS {α : Type} {_ : ToPy α} {xs : List α} {a : α} {z : Int} {p : Addr} {ti : TE} (j : Nat) (he : EvS B Γ O te (rep a)) (ho : EvS B Γ O to (D.own p)) (hi : EvS B Γ O ti (rep z)) (hj : O[j]? = some (p, oL xs)) (h0 : 0 ≤ z) (h1 : z < (xs.length : Int))
    (k : BDe B Γ (O.set j (p, oL (xs.set z.toNat a))) u P) : BDe B Γ O (tSeq (tAsg te (gSub to ti rSetL)) u) P := fun L σ f h s l D q =>
  he σ f h s _ fun y f1 hp1 e1 ry => ho σ f1 hp1 (s.ext e1) _ fun v f2 hp2 e2 rv => hi σ f2 hp2 ((s.ext e1).ext e2) _ fun w f3 hp3 e3 rw_ => by
    cases rv
    cases rep_int rw_
    have s3 := ((s.ext e1).ext e2).ext e3
    obtain ⟨o, hp, vs, rfl, hr⟩ := s3.get hj
    refine ⟨p, vs, z, z.toNat, rfl, rfl, hp, ?_, ?_⟩
    · unfold ixN
      rw [if_pos h0, if_pos]
      rw [repL_length hr, List.length_map]
      exact h1
    · refine k L σ f3 _ (s3.put hj ?_) (((l.trans e1.ff).trans e2.ff).trans e3.ff) D q
      refine ⟨_, rfl, ?_⟩
      rw [List.map_set]
      exact repL_set _ hr ((rpD (py a)).mono ry (e2.trans e3).ff)
/-! our own objects that stand from now on: fields that name them -/
theorem map_set_key {p : Addr} {T T' : OT} (hi : O[i]? = some (p, T)) : (O.set i (p, T')).map (·.1) = O.map (·.1) := by
  rw [List.map_set]
  apply List.ext_getElem?
  intro n
  by_cases hn : i = n
  · subst hn
    rw [List.getElem?_set_self (by simpa using (List.getElem?_eq_some_iff.mp hi).1), List.getElem?_map, hi]
    rfl
  · rw [List.getElem?_set_ne hn]
/-- what we know of our own objects may be told otherwise -/
theorem Sta.up (s : Sta B Γ O σ f h) (hk : O'.map (·.1) = O.map (·.1)) (w : ∀ p T', (p, T') ∈ O' → ∃ T, (p, T) ∈ O ∧ ∀ o, h p = some o → T.q o f → T'.q o f) : Sta B Γ O' σ f h :=
  ⟨s.ff, s.fh, s.hh, s.th, s.nf, s.ok, fun p T' hp => by
    obtain ⟨T, h1, h2⟩ := w p T' hp
    obtain ⟨g1, g2, o, g3, g4⟩ := s.ow p T h1
    exact ⟨g1, g2, o, g3, h2 o g3 g4⟩, by rw [hk]; exact s.nd⟩
/-- freezing what was made new here -/
theorem Sta.freeze1 (s : Sta B Γ O σ f h) {p : Addr} {o : HO} {T : OT} (hi : O[i]? = some (p, T)) (ho : h p = some o) (hb : B.h p = none) : Sta B Γ (O.eraseIdx i) σ (upd f p o) h ∧ Same f (upd f p o) := by
  obtain ⟨h1, h2, o1, h3, h4⟩ := s.ow p T (List.mem_of_getElem? hi)
  have k := same_new (o := o) h1
  refine ⟨{ s with ff := s.ff.trans k, fh := ?_, nf := ?_, ok := s.ok.mono k, ow := ?_, nd := ?_ }, k⟩
  · intro a u e
    by_cases hp : a = p
    · subst hp
      rw [upd_same] at e
      cases e
      exact ho
    · rw [upd_ne hp] at e
      exact s.fh a u e
  · intro a n z
    rw [upd_ne (fun y => n (by rw [y]; exact hb))]
    exact s.nf a n z
  · intro p' U hm'
    obtain ⟨j, hj⟩ := List.getElem?_of_mem hm'
    have hj' : O[if j < i then j else j + 1]? = some (p', U) := by
      rw [List.getElem?_eraseIdx] at hj
      split at hj
      · rename_i c; rw [if_pos c]; exact hj
      · rename_i c; rw [if_neg c]; exact hj
    obtain ⟨g1, g2, o2, g3, g4⟩ := s.ow p' U (List.mem_of_getElem? hj')
    have ne : p' ≠ p := fun z => by
      have := nodup_at s.nd hi (z ▸ hj')
      split at this <;> omega
    exact ⟨by rw [upd_ne ne]; exact g1, g2, o2, g3, U.mono g4 k⟩
  · rw [List.eraseIdx_eq_take_drop_succ, List.map_append]
    have nd := s.nd
    rw [← List.take_append_drop i O, List.map_append] at nd
    rw [List.nodup_append] at nd ⊢
    obtain ⟨n1, n2, n3⟩ := nd
    have sub : (List.map (·.1) (O.drop (i + 1))).Sublist (List.map (·.1) (O.drop i)) := by
      refine List.Sublist.map _ ?_
      have : O.drop (i + 1) = (O.drop i).drop 1 := by rw [List.drop_drop]
      rw [this]
      exact List.drop_sublist 1 _
    exact ⟨n1, n2.sublist sub, fun a ha b hb => n3 a ha b (sub.subset hb)⟩
/-- the object at j was made new here: what may change of the base are other objects -/
def Fresh (B : Base) (O : Own) (j : Nat) : Prop := ∀ a ∈ B.m, ∃ k T, O[k]? = some (a, T) ∧ k ≠ j
theorem Fresh.none {p : Addr} {T : OT} (s : Sta B Γ O σ f h) {j : Nat} (hj : O[j]? = some (p, T)) (F : Fresh B O j) : B.h p = none := by
  rcases (s.ow p T (List.mem_of_getElem? hj)).2.1 with z | z
  · exact z
  · obtain ⟨k, T', hk, ne⟩ := F p z
    exact absurd (nodup_at s.nd hk hj) ne
theorem fresh_nil (hm : B.m = []) {j : Nat} : Fresh B O j := fun a h => by rw [hm] at h; cases h
theorem fresh_one {x : Addr} {T : OT} {j : Nat} (k : Nat) (hm : B.m = [x]) (hk : O[k]? = some (x, T)) (ne : k ≠ j) : Fresh B O j := fun a h => by
  rw [hm] at h
  simp at h
  exact ⟨k, T, by rw [h]; exact hk, ne⟩
def Up (p : Addr) (N : RP) (R R' : RP) : Prop := ∀ v f, R.p v f → N.p (.ref p) f → R'.p v f
theorem up_same {p : Addr} {N : RP} : Up p N R R := fun _ _ h _ => h
theorem up_own {p : Addr} {N : RP} : Up p N (D.own p) N := fun v f h n => by cases h; exact n
inductive UpF (p : Addr) (N : RP) : List (Str × RP) → List (Str × RP) → Prop where
  | nil : UpF p N [] []
  | cons {n : Str} {R R' : RP} {fs fs' : List (Str × RP)} (h : Up p N R R') (t : UpF p N fs fs') : UpF p N ((n, R) :: fs) ((n, R') :: fs')
theorem UpF.rep {p : Addr} {N : RP} {fs fs' : List (Str × RP)} (u : UpF p N fs fs') : ∀ {fvs : List (Str × V)}, RepF fs fvs f → N.p (.ref p) f → RepF fs' fvs f := by
  induction u with
  | nil => intro fvs h _; exact h
  | cons hu t ih =>
    rintro fvs ⟨v, r, e, h1, h2⟩ n
    exact ⟨v, r, e, hu v f h1 n, ih h2 n⟩
theorem set_eraseIdx_mem {p q : Addr} {T T' : OT} {j j' : Nat} (hj' : O[j']? = some (q, T)) {a : Addr} {U : OT} (h : (a, U) ∈ (O.set j' (q, T')).eraseIdx j) (ne : j ≠ j') : ((a, U) = (q, T') ∧ (q, T) ∈ O.eraseIdx j) ∨ (a, U) ∈ O.eraseIdx j := by
  obtain ⟨m, hm⟩ := List.getElem?_of_mem h
  rw [List.getElem?_eraseIdx] at hm
  split at hm
  · rename_i c
    by_cases e : j' = m
    · subst e
      rw [List.getElem?_set_self (List.getElem?_eq_some_iff.mp hj').1] at hm
      cases hm
      refine .inl ⟨rfl, List.mem_of_getElem? (i := j') ?_⟩
      rw [List.getElem?_eraseIdx, if_pos c]
      exact hj'
    · rw [List.getElem?_set_ne e] at hm
      refine .inr (List.mem_of_getElem? (i := m) ?_)
      rw [List.getElem?_eraseIdx, if_pos c]
      exact hm
  · rename_i c
    by_cases e : j' = m + 1
    · subst e
      rw [List.getElem?_set_self (List.getElem?_eq_some_iff.mp hj').1] at hm
      cases hm
      refine .inl ⟨rfl, List.mem_of_getElem? (i := m) ?_⟩
      rw [List.getElem?_eraseIdx, if_neg c]
      exact hj'
    · rw [List.getElem?_set_ne e] at hm
      refine .inr (List.mem_of_getElem? (i := m) ?_)
      rw [List.getElem?_eraseIdx, if_neg c]
      exact hm
theorem map_eraseIdx {α β : Type} (g : α → β) : ∀ (l : List α) (j : Nat), (l.eraseIdx j).map g = (l.map g).eraseIdx j
  | [], _ => rfl
  | a :: l, 0 => rfl
  | a :: l, j + 1 => by simp [map_eraseIdx g l j]
/-- a list of ours that a field of an instance of ours names -/
theorem bd_frzF {α : Type} {_ : ToPy α} {xs : List α} {p q : Addr} {fs fs' : List (Str × RP)} (j j' : Nat) (ne : j ≠ j') (hj : O[j]? = some (p, oL xs)) (hj' : O[j']? = some (q, insO C fs)) (F : Fresh B O j) (hu : UpF p (rep xs) fs fs')
    (k : BDe B Γ ((O.set j' (q, insO C fs')).eraseIdx j) u P) : BDe B Γ O u P := fun L σ f h s l D z => by
  obtain ⟨o, ho, vs, rfl, hr⟩ := s.get hj
  obtain ⟨s1, k1⟩ := s.freeze1 hj ho (F.none s hj)
  have N : (rep xs).p (.ref p) (upd f p (.lst vs)) := by
    show repD (.list (xs.map py)) _ _
    simp only [repD]
    exact ⟨p, vs, rfl, upd_same, repL_mono k1 _ _ hr⟩
  refine k L σ _ h (s1.up ?_ fun a T' hm => ?_) (l.trans k1) D z
  · rw [map_eraseIdx, map_eraseIdx, map_set_key hj']
  · rcases set_eraseIdx_mem (p := p) hj' hm ne with ⟨e, m⟩ | m
    · cases e
      exact ⟨_, m, fun o _ ⟨dx, fvs, e, hr⟩ => ⟨dx, fvs, e, hu.rep hr N⟩⟩
    · exact ⟨_, m, fun o _ h => h⟩
/-- an instance of ours stands from now on -/
theorem bd_frzI {p : Addr} {fs : List (Str × RP)} (j i : Nat) (hi : Γ[i]? = some (some (D.own p))) (hj : O[j]? = some (p, insO C fs)) (F : Fresh B O j) (k : BDe B (Γ.set i (some (insR C fs))) (O.eraseIdx j) u P) : BDe B Γ O u P := fun L σ f h s l D q => by
  obtain ⟨o, ho, dx, fvs, rfl, hr⟩ := s.get hj
  obtain ⟨s1, k1⟩ := s.freeze1 hj ho (F.none s hj)
  obtain ⟨v, hv, rv⟩ := s.ok.2 i _ hi
  cases rv
  have z : (insR C fs).p (.ref p) (upd f p (.ins C dx fvs)) := ⟨p, dx, fvs, rfl, upd_same, hr.mono k1⟩
  refine k L σ _ h ?_ (l.trans k1) D q
  have s2 := s1.set (i := i) z
  have e : σ.set i (some (.ref p)) = σ := by
    apply List.ext_getElem?
    intro n
    by_cases hn : i = n
    · subst hn
      rw [List.getElem?_set_self (List.getElem?_eq_some_iff.mp hv).1, hv]
    · rw [List.getElem?_set_ne hn]
  rw [e] at s2
  exact s2
/-- lending an instance of ours: its fields lent -/
inductive LendF (O : Own) : List (Str × RP) → List (Str × RP) → Prop where
  | nil : LendF O [] []
  | cons {n : Str} {R R' : RP} {fs fs' : List (Str × RP)} (h : Lend O R R') (t : LendF O fs fs') : LendF O ((n, R) :: fs) ((n, R') :: fs')
theorem LendF.rep {fs fs' : List (Str × RP)} (u : LendF O fs fs') (sm : Same f (lent O f h)) (w : ∀ p T, (p, T) ∈ O → ∃ o, h p = some o ∧ T.q o f) : ∀ {fvs : List (Str × V)}, RepF fs fvs f → RepF fs' fvs (lent O f h) := by
  induction u with
  | nil => intro fvs h; exact h
  | cons hu t ih =>
    rintro fvs ⟨v, r, e, h1, h2⟩
    exact ⟨v, r, e, hu v f h sm w h1, ih h2⟩
theorem lend_ins {p : Addr} {fs fs' : List (Str × RP)} (j : Nat) (hj : O[j]? = some (p, insO C fs)) (u : LendF O fs fs') : Lend O (D.own p) (insR C fs') := fun v f h s w hv => by
  cases hv
  obtain ⟨o, ho, dx, fvs, rfl, hr⟩ := w p _ (List.mem_of_getElem? hj)
  exact ⟨p, dx, fvs, rfl, by rw [lent_at hj]; exact ho, u.rep s w hr⟩
theorem bd_perm {O' : Own} (hp : O.Perm O') (k : BDe B Γ O' u P) : BDe B Γ O u P := fun L σ f h s l D q =>
  k L σ f h ⟨s.ff, s.fh, s.hh, s.th, s.nf, s.ok, fun p T m => s.ow p T (hp.mem_iff.mpr m), (hp.map _).nodup_iff.mp s.nd⟩ l D q
end
/-! ### the bodies -/
section
variable {P : Program} {w : World} {K : PySem.W.Frag} {mg : Str → Option Value} {base : Heap} {x q : Str} {st : Stmt} {N ps : List Str} {k : Nat} {S : SpecO} {C : Addr} {m : Str} {t : TS}
def RdO (S : SpecO) (N : List Str) (t : TS) : Prop := ∀ Rs O Po, S Rs O Po → ∀ B : Base, B.m = O.map (·.1) → BDe B (startC N Rs) O t (fnO B Po)
theorem run_spO {t : TS} (ev : RdO S N t) {vs : List V} {H : Hp} {Q : VK} {E : XK} (h : spO S vs H Q E) : t { nx := fun _ H' => Q .non H', rt := Q } (L2.start N vs) H := by
  obtain ⟨Rs, O, Po, f, hS, s, a, w, k⟩ := h
  have st : Sta ⟨f, H, O.map (·.1)⟩ (startC N Rs) O (L2.start N vs) f H := ⟨.refl _, s, fun a o e _ => e, fun _ n => n, fun _ _ e => e, ok_start a, w.ow, w.nd⟩
  refine ev Rs O Po hS ⟨f, H, O.map (·.1)⟩ rfl f (L2.start N vs) f H st (.refl _) _ ⟨fun σ f' h' _ z => ?_, fun v f' h' _ z => ?_, fun _ _ _ _ z => z.elim, fun _ _ _ _ z => z.elim⟩
  · obtain ⟨R, O', z1, z2, z3, z4⟩ := z
    exact k .non f' h' R O' z1 z2 z3 z4
  · obtain ⟨R, O', z1, z2, z3, z4⟩ := z
    exact k v f' h' R O' z1 z2 z3 z4
theorem okO (F : Fun K m q st f fd) (sc : FnScope N ps (defScope st)) (hlen : ∀ Rs O Po, S Rs O Po → Rs.length = ps.length)
    (hps : ∀ (f : Addr) (cdv : Value) (A : Around) (outer : List Env) (s : Shared) (H : Hp) (E : XK), Room k (A.deeper (envOfC q (defScope st) s.heap.objs.size f cdv)) → PSs (cx0 P w K mg base N q st f cdv A outer s H E) (defBody st) t)
    (ev : RdO S N t) : FnOk P w K mg base CX0 (k + 1) f fd ps (spO S) :=
  F.ok sc (fun vs H Q E h => by
    obtain ⟨Rs, O, Po, f, hS, _, a, _⟩ := h
    rw [a.length, hlen Rs O Po hS]) fun cdv A outer s H vs Q E hr h => ⟨t, hps f cdv A outer s H E hr, run_spO ev h⟩
theorem okmO (F : DefM K C m q st ps) (sc : FnScope N ps (defScope st)) (hlen : ∀ Rs O Po, S Rs O Po → Rs.length = ps.length)
    (hps : ∀ (f : Addr) (cdv : Value) (A : Around) (outer : List Env) (s : Shared) (H : Hp) (E : XK), Room k (A.deeper (envOfC q (defScope st) s.heap.objs.size f cdv)) → PSs (cx0 P w K mg base N q st f cdv A outer s H E) (defBody st) t)
    (ev : RdO S N t) : Okm P w K mg base CX0 (k + 1) C m ps (spO S) := by
  obtain ⟨f, fd, hF, hm, hb⟩ := F
  exact ⟨f, fd, hm, hb, okO hF sc hlen hps ev⟩
theorem okiO (F : DefI K mg x C st ps) (sc : FnScope N ps (defScope st)) (hlen : ∀ Rs O Po, S Rs O Po → Rs.length = ps.length)
    (hps : ∀ (q : Str) (f : Addr) (cdv : Value) (A : Around) (outer : List Env) (s : Shared) (H : Hp) (E : XK), Room k (A.deeper (envOfC q (defScope st) s.heap.objs.size f cdv)) → PSs (cx0 P w K mg base N q st f cdv A outer s H E) (defBody st) t)
    (ev : RdO S N t) : Oki P w K mg base CX0 (k + 1) x C ps (spO S) := by
  obtain ⟨h1, f, fd, q, hF, hm, hb⟩ := F
  exact ⟨h1, f, fd, hm, hb, okO hF sc hlen (hps q) ev⟩
end
end D
namespace D
open PySem PySem.Spec PyProof.Rows L2
/-- a class and its __init__, by its qualified name -/
def DefJ (K : PySem.W.Frag) (mg : Str → Option Value) (x : Str) (C : Addr) (q : Str) (st : Stmt) (ps : List Str) : Prop := mg x = some (.ref C) ∧ ∃ (f : Addr) (fd : FuncData), Fun K "__init__" q st f fd ∧ Mk K C f ∧ Binds K fd ps []
section
variable {P : Program} {w : World} {K : PySem.W.Frag} {mg : Str → Option Value} {base h : Heap} {x q : Str} {st : Stmt} {N ps : List Str} {k : Nat} {S : SpecO} {C : Addr} {t : TS}
theorem defj_of (X : K.In h) (G : h.Ns mainGlobals mg) (g : PySem.W.nsIn K mainGlobals x = some (some (.ref C))) (d : DefIK K C st q)
    (hb : ∀ (kV doc pm : Value) (an : Option Addr) (cdv ct : Value) (us : List Value), us.length = ps.length → bindArgs (PySem.W.fnOf "__init__" q (defArgs st) (defBody st) (defScope st) .none kV doc pm an cdv ct) ⟨us, []⟩ = pure (ps.zip us)) : DefJ K mg x C q st ps := by
  obtain ⟨f, oc, od, kV, doc, pm, an, cdv, ct, osl, a, b, l, c, k, m1, m2⟩ := d
  have F := fun_mk (st := st) l c k
  exact ⟨PySem.W.mg_of X G g, f, _, F, ⟨m1, a, b, m2⟩, F.binds hb⟩
theorem okjO (F : DefJ K mg x C q st ps) (sc : FnScope N ps (defScope st)) (hlen : ∀ Rs O Po, S Rs O Po → Rs.length = ps.length)
    (hps : ∀ (f : Addr) (cdv : Value) (A : Around) (outer : List Env) (s : Shared) (H : Hp) (E : XK), Room k (A.deeper (envOfC q (defScope st) s.heap.objs.size f cdv)) → PSs (cx0 P w K mg base N q st f cdv A outer s H E) (defBody st) t)
    (ev : RdO S N t) : Oki P w K mg base CX0 (k + 1) x C ps (spO S) := by
  obtain ⟨h1, f, fd, hF, hm, hb⟩ := F
  exact ⟨h1, f, fd, hm, hb, okO hF sc hlen hps ev⟩
end
end D

set_option Elab.async false
set_option linter.all false
set_option maxRecDepth 100000
set_option maxHeartbeats 4000000
namespace D
open PySem PySem.Spec PyProof.Rows L2
open PySem.Sem (wp)
open RZ (nextOf_tuple_item nextOf_tuple_end)
/-! ### zip of a tuple and a list -/
section
variable {prog : Program} {w : World} {A : Around} {E : Value → Shared → Prop} {s : Shared}
theorem zipM_next_item {z TI TO i1 i2 l1 l2 : Addr} {k1 k2 : Nat} {xs ys : Array Value} {x y a b : Value} {Q : Value → Shared → Prop} (D : ZipApart z TI TO i1 i2 l1 l2)
    (hz : IsZip s.heap z TI TO .none) (hTI : IsPair s.heap TI (.ref i1) (.ref i2)) (hTO : IsPair s.heap TO a b)
    (h1 : s.heap.IsTupleIter i1 l1 k1) (h2 : s.heap.IsListIter i2 l2 k2) (hl1 : s.heap.IsTuple l1 xs) (hl2 : s.heap.IsList l2 ys) (hx : xs[k1]? = some x) (hy : ys[k2]? = some y)
    (hQ : ∀ h', IsZip h' z TI TO (rawInt s.heap.objs.size) → IsPair h' TO x y → h'.IsTupleIter i1 l1 (k1 + 1) → h'.IsListIter i2 l2 (k2 + 1) → IsPair h' s.heap.objs.size x y → h'.objs.size = s.heap.objs.size + 1 →
      (∀ c o, c ≠ z → c ≠ TO → c ≠ i1 → c ≠ i2 → s.heap.get? c = some o → h'.get? c = some o) → Q (.ref s.heap.objs.size) { s with heap := h' }) :
    wpAny (model prog w) A (Builtin.«zip.__next__» ⟨[.ref z], []⟩) (fun fin s' => ∃ v, fin = .done (.ret v) ∧ Q v s') E s := by
  show wpAny _ _ (field (.ref z) 2 >>= _) _ _ _
  refine wpAny_bind (wpAny_field hz rfl (x := .bool false) rfl ?_)
  show wpAny _ _ (field (.ref z) 3 >>= _) _ _ _
  refine wpAny_bind (wpAny_field hz rfl (x := .ref TI) rfl ?_)
  refine wpAny_bind (wpAny_seqItems hTI rfl ?_)
  show wpAny _ _ (Builtin.SmallTypes.ownedTupleIsFree (.ref z) >>= _) _ _ _
  refine wpAny_bind ?_
  unfold Builtin.SmallTypes.ownedTupleIsFree
  refine wpAny_bind (wpAny_field hz rfl (x := .none) rfl (wpAny_pure ?_))
  simp only [if_true]
  refine wpAny_bind (wpAny_rule ?_)
  refine wpAny_bind (wpAny_field hz rfl (x := .ref TO) rfl ?_)
  refine wpAny_bind (wpAny_setField_rec hz (by simp) fun h₁ hz₁ hs₁ => ?_)
  replace hz₁ : IsZip h₁ z TI TO .ellipsis := hz₁
  refine wpAny_bind ?_
  simp only [List.zipIdx_cons, List.zipIdx_nil, List.forIn_cons, List.forIn_nil]

  refine wpAny_bind (wpAny_bind (wpAny_onRaise ?_))
  show wpAny _ _ (Builtin.SmallTypes.nextOf (.ref i1) >>= _) _ _ _
  refine wpAny_bind (nextOf_tuple_item (h1.extBut hs₁.extBut D.i1z) (hl1.extBut hs₁.extBut D.l1z) hx fun h₂ h1₂ hs₂ => wpAny_pure ?_)
  have hTO₂ : IsPair h₂ TO a b := hs₂.extBut _ _ D.TOi1 (hs₁.extBut _ _ D.TOz hTO)
  refine wpAny_bind (wpAny_seqItems hTO₂ rfl ?_)
  refine wpAny_bind (wpAny_updateSeq_pair hTO₂ fun h₃ hTO₃ hs₃ => ?_)
  replace hTO₃ : IsPair h₃ TO x b := hTO₃
  refine wpAny_bind (wpAny_letGo (wpAny_pure ?_))

  refine wpAny_bind (wpAny_bind (wpAny_onRaise ?_))
  show wpAny _ _ (Builtin.SmallTypes.nextOf (.ref i2) >>= _) _ _ _
  refine wpAny_bind (wpAny_nextOf_list_item (((h2.extBut hs₁.extBut D.i2z).extBut hs₂.extBut D.i12.symm).extBut hs₃.extBut D.TOi2.symm)
    (((hl2.extBut hs₁.extBut D.l2z).extBut hs₂.extBut D.l2i1).extBut hs₃.extBut D.l2TO) hy fun h₄ h2₄ hs₄ => wpAny_pure ?_)
  have hTO₄ : IsPair h₄ TO x b := hs₄.extBut _ _ D.TOi2 hTO₃
  refine wpAny_bind (wpAny_seqItems hTO₄ rfl ?_)
  refine wpAny_bind (wpAny_updateSeq_pair hTO₄ fun h₅ hTO₅ hs₅ => ?_)
  replace hTO₅ : IsPair h₅ TO x y := hTO₅
  refine wpAny_bind (wpAny_letGo (wpAny_pure (wpAny_pure ?_)))

  refine wpAny_bind (wpAny_seqItems hTO₅ rfl ?_)
  refine wpAny_bind (wpAny_newTuple ?_)
  have hsz : h₅.objs.size = s.heap.objs.size := by rw [hs₅.1, hs₄.1, hs₃.1, hs₂.1, hs₁.1]
  have hz₅ : IsZip h₅ z TI TO .ellipsis := hs₅.extBut _ _ D.TOz.symm (hs₄.extBut _ _ D.i2z.symm (hs₃.extBut _ _ D.TOz.symm (hs₂.extBut _ _ D.i1z.symm hz₁)))
  have hk₅ : ∀ c o, c ≠ z → c ≠ TO → c ≠ i1 → c ≠ i2 → s.heap.get? c = some o → h₅.get? c = some o := fun c o c1 c2 c3 c4 e =>
    hs₅.extBut _ _ c2 (hs₄.extBut _ _ c4 (hs₃.extBut _ _ c2 (hs₂.extBut _ _ c3 (hs₁.extBut _ _ c1 e))))
  have h1₅ : h₅.IsTupleIter i1 l1 (k1 + 1) := ((h1₂.extBut hs₃.extBut D.TOi1.symm).extBut hs₄.extBut D.i12).extBut hs₅.extBut D.TOi1.symm
  have h2₅ : h₅.IsListIter i2 l2 (k2 + 1) := h2₄.extBut hs₅.extBut D.TOi2.symm
  have hzlt : z < h₅.objs.size := Heap.lt_size hz₅
  have hTOlt : TO < h₅.objs.size := Heap.lt_size hTO₅
  have hi1lt : i1 < h₅.objs.size := by obtain ⟨_, e, _⟩ := h1₅; exact Heap.lt_size e
  have hi2lt : i2 < h₅.objs.size := by obtain ⟨_, e, _⟩ := h2₅; exact Heap.lt_size e
  show wpAny _ _ (Builtin.SmallTypes.ownedTupleHandOut (.ref z) (.ref h₅.objs.size) >>= _) _ _ _
  refine wpAny_bind ?_
  unfold Builtin.SmallTypes.ownedTupleHandOut
  have hz₆ : IsZip (h₅.push { cls := .type "tuple", data := .seq #[x, y] }) z TI TO .ellipsis := Heap.get?_push_of_some _ hz₅
  refine wpAny_bind (wpAny_setField_rec hz₆ (by simp) fun h₇ hz₇ hs₇ => ?_)
  replace hz₇ : IsZip h₇ z TI TO (rawInt h₅.objs.size) := hz₇
  refine wpAny_setField_rec hz₇ (by simp) fun h₈ hz₈ hs₈ => ?_
  replace hz₈ : IsZip h₈ z TI TO (rawInt h₅.objs.size) := hz₈
  have up : ∀ c o, c ≠ z → h₅.get? c = some o → h₈.get? c = some o := fun c o c1 e => hs₈.extBut _ _ c1 (hs₇.extBut _ _ c1 (Heap.get?_push_of_some _ e))
  have hT₈ : IsPair h₈ h₅.objs.size x y := hs₈.extBut _ _ (Nat.ne_of_gt hzlt) (hs₇.extBut _ _ (Nat.ne_of_gt hzlt) (Heap.get?_push_size _ rfl))
  have hz8 : h₈.objs.size = h₅.objs.size + 1 := by rw [hs₈.1, hs₇.1, Heap.size_push]
  rw [hsz] at hz₈ hT₈ hz8
  refine wpAny_pure ⟨_, rfl, ?_⟩
  show Q (.ref h₅.objs.size) _
  rw [hsz]
  exact hQ h₈ hz₈ (up _ _ D.TOz hTO₅) (h1₅.at fun o e => up _ o D.i1z e) (h2₅.at fun o e => up _ o D.i2z e) hT₈ hz8 fun c o c1 c2 c3 c4 e => up c o c1 (hk₅ c o c1 c2 c3 c4 e)

theorem zipM_next_end {z TI TO i1 i2 l1 l2 : Addr} {k1 k2 : Nat} {xs ys : Array Value} {a b : Value} {Q : Fin → Shared → Prop} (hh : A.handled = none) (D : ZipApart z TI TO i1 i2 l1 l2)
    (hz : IsZip s.heap z TI TO .none) (hTI : IsPair s.heap TI (.ref i1) (.ref i2)) (hTO : IsPair s.heap TO a b)
    (h1 : s.heap.IsTupleIter i1 l1 k1) (h2 : s.heap.IsListIter i2 l2 k2) (hl1 : s.heap.IsTuple l1 xs) (hl2 : s.heap.IsList l2 ys) (hend : xs[k1]? = none ∨ ys[k2]? = none)
    (hE : ∀ h' e, (∀ c o, c ≠ z → c ≠ TO → c ≠ i1 → c ≠ i2 → s.heap.get? c = some o → h'.get? c = some o) → (∃ o, h'.get? e = some o ∧ o.cls = .type "StopIteration") → E (.ref e) { s with heap := h' }) :
    wpAny (model prog w) A (Builtin.«zip.__next__» ⟨[.ref z], []⟩) Q E s := by
  show wpAny _ _ (field (.ref z) 2 >>= _) _ _ _
  refine wpAny_bind (wpAny_field hz rfl (x := .bool false) rfl ?_)
  show wpAny _ _ (field (.ref z) 3 >>= _) _ _ _
  refine wpAny_bind (wpAny_field hz rfl (x := .ref TI) rfl ?_)
  refine wpAny_bind (wpAny_seqItems hTI rfl ?_)
  show wpAny _ _ (Builtin.SmallTypes.ownedTupleIsFree (.ref z) >>= _) _ _ _
  refine wpAny_bind ?_
  unfold Builtin.SmallTypes.ownedTupleIsFree
  refine wpAny_bind (wpAny_field hz rfl (x := .none) rfl (wpAny_pure ?_))
  simp only [if_true]
  refine wpAny_bind (wpAny_rule ?_)
  refine wpAny_bind (wpAny_field hz rfl (x := .ref TO) rfl ?_)
  refine wpAny_bind (wpAny_setField_rec hz (by simp) fun h₁ hz₁ hs₁ => ?_)
  replace hz₁ : IsZip h₁ z TI TO .ellipsis := hz₁
  refine wpAny_bind ?_
  simp only [List.zipIdx_cons, List.zipIdx_nil, List.forIn_cons, List.forIn_nil]
  refine wpAny_bind (wpAny_bind (wpAny_onRaise ?_))
  show wpAny _ _ (Builtin.SmallTypes.nextOf (.ref i1) >>= _) _ _ _
  cases hx : xs[k1]? with
  | none =>
    refine wpAny_bind (nextOf_tuple_end hh (h1.extBut hs₁.extBut D.i1z) (hl1.extBut hs₁.extBut D.l1z) hx fun h₂ e hs₂ he => ?_)
    obtain ⟨oe, hoe, hce⟩ := he
    have hz₂ : IsZip h₂ z TI TO .ellipsis := hs₂ _ _ D.i1z.symm hz₁
    have hez : e ≠ z := fun x => by subst x; rw [hz₂] at hoe; cases hoe; simp at hce
    refine wpAny_setField_rec hz₂ (by simp) fun h₃ _ hs₃ => hE h₃ e (fun c o c1 _ c3 _ x => hs₃.extBut _ _ c1 (hs₂ _ _ c3 (hs₁.extBut _ _ c1 x))) ⟨oe, hs₃.extBut _ _ hez hoe, hce⟩
  | some x =>
    have hy : ys[k2]? = none := by rcases hend with h | h; rw [hx] at h; cases h; exact h
    refine wpAny_bind (nextOf_tuple_item (h1.extBut hs₁.extBut D.i1z) (hl1.extBut hs₁.extBut D.l1z) hx fun h₂ h1₂ hs₂ => wpAny_pure ?_)
    have hTO₂ : IsPair h₂ TO a b := hs₂.extBut _ _ D.TOi1 (hs₁.extBut _ _ D.TOz hTO)
    refine wpAny_bind (wpAny_seqItems hTO₂ rfl ?_)
    refine wpAny_bind (wpAny_updateSeq_pair hTO₂ fun h₃ hTO₃ hs₃ => ?_)
    refine wpAny_bind (wpAny_letGo (wpAny_pure ?_))
    refine wpAny_bind (wpAny_bind (wpAny_onRaise ?_))
    show wpAny _ _ (Builtin.SmallTypes.nextOf (.ref i2) >>= _) _ _ _
    refine wpAny_bind (wpAny_nextOf_list_end hh (((h2.extBut hs₁.extBut D.i2z).extBut hs₂.extBut D.i12.symm).extBut hs₃.extBut D.TOi2.symm)
      (((hl2.extBut hs₁.extBut D.l2z).extBut hs₂.extBut D.l2i1).extBut hs₃.extBut D.l2TO) hy fun h₄ e hs₄ he => ?_)
    obtain ⟨oe, hoe, hce⟩ := he
    have hz₄ : IsZip h₄ z TI TO .ellipsis := hs₄ _ _ D.i2z.symm (hs₃.extBut _ _ D.TOz.symm (hs₂.extBut _ _ D.i1z.symm hz₁))
    have hez : e ≠ z := fun x => by subst x; rw [hz₄] at hoe; cases hoe; simp at hce
    refine wpAny_setField_rec hz₄ (by simp) fun h₅ _ hs₅ => hE h₅ e (fun c o c1 c2 c3 c4 x => hs₅.extBut _ _ c1 (hs₄ _ _ c4 (hs₃.extBut _ _ c2 (hs₂.extBut _ _ c3 (hs₁.extBut _ _ c1 x))))) ⟨oe, hs₅.extBut _ _ hez hoe, hce⟩

theorem pyNext_zipM_item {z TI TO i1 i2 l1 l2 : Addr} {k1 k2 : Nat} {xs ys : Array Value} {x y a b : Value} {Q : Option Value → Shared → Prop} (D : ZipApart z TI TO i1 i2 l1 l2)
    (hz : IsZip s.heap z TI TO .none) (hTI : IsPair s.heap TI (.ref i1) (.ref i2)) (hTO : IsPair s.heap TO a b)
    (h1 : s.heap.IsTupleIter i1 l1 k1) (h2 : s.heap.IsListIter i2 l2 k2) (hl1 : s.heap.IsTuple l1 xs) (hl2 : s.heap.IsList l2 ys) (hx : xs[k1]? = some x) (hy : ys[k2]? = some y)
    (hQ : ∀ h', IsZip h' z TI TO (rawInt s.heap.objs.size) → IsPair h' TO x y → h'.IsTupleIter i1 l1 (k1 + 1) → h'.IsListIter i2 l2 (k2 + 1) → IsPair h' s.heap.objs.size x y → h'.objs.size = s.heap.objs.size + 1 →
      (∀ c o, c ≠ z → c ≠ TO → c ≠ i1 → c ≠ i2 → s.heap.get? c = some o → h'.get? c = some o) → Q (some (.ref s.heap.objs.size)) { s with heap := h' }) :
    wpAny (model prog w) A (pyNext (.ref z)) Q E s := by
  have hT : s.TypeIs (.ref z) "zip" := ⟨_, hz, rfl⟩
  unfold pyNext
  exact wpAny_bind (wpAny_attempt (wpAny_callSpecial?_slot (name := Str.ofString "__next__") hT F.slot_zip_next
    (wpAny_call_entry F.slot_zip_next hT F.entry_zip_next
      (zipM_next_item D hz hTI hTO h1 h2 hl1 hl2 hx hy fun h' a1 a2 a3 a4 a5 a6 a7 => wpAny_pure (hQ h' a1 a2 a3 a4 a5 a6 a7)) (F.args_zip_next_1 _))))

theorem pyNext_zipM_end {z TI TO i1 i2 l1 l2 : Addr} {k1 k2 : Nat} {xs ys : Array Value} {a b : Value} {Q : Option Value → Shared → Prop} (hh : A.handled = none) (D : ZipApart z TI TO i1 i2 l1 l2)
    (hz : IsZip s.heap z TI TO .none) (hTI : IsPair s.heap TI (.ref i1) (.ref i2)) (hTO : IsPair s.heap TO a b)
    (h1 : s.heap.IsTupleIter i1 l1 k1) (h2 : s.heap.IsListIter i2 l2 k2) (hl1 : s.heap.IsTuple l1 xs) (hl2 : s.heap.IsList l2 ys) (hend : xs[k1]? = none ∨ ys[k2]? = none)
    (hQ : ∀ h', (∀ c o, c ≠ z → c ≠ TO → c ≠ i1 → c ≠ i2 → s.heap.get? c = some o → h'.get? c = some o) → Q none { s with heap := h' }) : wpAny (model prog w) A (pyNext (.ref z)) Q E s := by
  have hT : s.TypeIs (.ref z) "zip" := ⟨_, hz, rfl⟩
  unfold pyNext
  refine wpAny_bind (wpAny_attempt (wpAny_callSpecial?_slot (name := Str.ofString "__next__") hT F.slot_zip_next
    (wpAny_call_entry F.slot_zip_next hT F.entry_zip_next (zipM_next_end hh D hz hTI hTO h1 h2 hl1 hl2 hend fun h' e hk he => ?_) (F.args_zip_next_1 _))))
  obtain ⟨o, ho, hc⟩ := he
  refine wpAny_bind (wpAny_isInstance (T := "StopIteration") (b := true) ⟨o, ho, hc⟩ isSubtype_stop ?_)
  exact wpAny_pure (hQ _ hk)
end
abbrev zipMH1 (h : Heap) (l1 : Addr) : Heap := h.push { cls := .type "tuple_iterator", data := .fields #[.ref l1, .int 0 0] }
abbrev zipMH2 (h : Heap) (l1 l2 : Addr) : Heap := (zipMH1 h l1).push { cls := .type "list_iterator", data := .fields #[.ref l2, .int 0 0] }
abbrev zipMH3 (h : Heap) (l1 l2 : Addr) : Heap := (zipMH2 h l1 l2).push { cls := .type "tuple", data := .seq #[.ref h.objs.size, .ref (zipMH1 h l1).objs.size] }
abbrev zipMH4 (h : Heap) (l1 l2 : Addr) : Heap := (zipMH3 h l1 l2).push { cls := .type "tuple", data := .seq #[.none, .none] }
abbrev zipMH5 (h : Heap) (l1 l2 : Addr) : Heap := (zipMH4 h l1 l2).push { cls := .type "zip", data := .fields #[.none, .bool false, .bool false, .ref (zipMH2 h l1 l2).objs.size, .ref (zipMH3 h l1 l2).objs.size] }

theorem meets_zipM_new (l1 l2 : Addr) (xs ys : Array Value) :
    Meets (Builtin.«zip.__new__» ⟨[.type "zip", .ref l1, .ref l2], []⟩) (fun _ R s => s.heap.IsTuple l1 xs ∧ s.heap.IsList l2 ys ∧
      R (.ok (.ret (.ref (zipMH4 s.heap l1 l2).objs.size))) { s with heap := zipMH5 s.heap l1 l2 }) :=
  .of_wp fun prog w A R s h => by
    obtain ⟨hp, g, d, tk, os⟩ := s; obtain ⟨hl1, hl2, h⟩ := h
    have hsub := sub_zip
    have hL1 : Heap.IsTuple (Shared.heap ⟨hp, g, d, tk, os⟩) l1 xs := hl1
    have hL2 : Heap.IsList (Shared.heap ⟨hp.push { cls := .type "tuple_iterator", data := .fields #[.ref l1, .int 0 0] }, g, d, tk, os⟩) l2 ys := Heap.IsList.push hl2 _
    wp_walk using wpAny_pyIter_tuple hL1, wpAny_pyIter_list hL2
    exact ⟨_, rfl, h⟩

section
variable {prog : Program} {w : World} {A : Around} {E : Value → Shared → Prop} {s : Shared}

theorem call_zipM {l1 l2 : Addr} {xs ys : Array Value} {Q : Value → Shared → Prop} (hl1 : s.heap.IsTuple l1 xs) (hl2 : s.heap.IsList l2 ys)
    (h : ∀ h', IsZip h' (s.heap.objs.size + 4) (s.heap.objs.size + 2) (s.heap.objs.size + 3) .none → IsPair h' (s.heap.objs.size + 2) (.ref s.heap.objs.size) (.ref (s.heap.objs.size + 1)) →
      IsPair h' (s.heap.objs.size + 3) .none .none → h'.IsTupleIter s.heap.objs.size l1 0 → h'.IsListIter (s.heap.objs.size + 1) l2 0 → h'.objs.size = s.heap.objs.size + 5 →
      (∀ c o, s.heap.get? c = some o → h'.get? c = some o) → Q (.ref (s.heap.objs.size + 4)) { s with heap := h' }) :
    wpAny (model prog w) A (call (.type "zip") [.ref l1, .ref l2]) Q E s := by
  refine callType_new F.called_zip (by decide) (F.typeCall_zip_2 _ _) (F.newCall_zip_2 _ _) (fun obj => F.args_object_init_3 obj _ _) F.entry_zip_new
    (meets_zipM_new l1 l2 xs ys) ⟨hl1, hl2, ?_⟩
  have z1 : (zipMH1 s.heap l1).objs.size = s.heap.objs.size + 1 := Heap.size_push ..
  have z2 : (zipMH2 s.heap l1 l2).objs.size = s.heap.objs.size + 2 := by rw [Heap.size_push, z1]
  have z3 : (zipMH3 s.heap l1 l2).objs.size = s.heap.objs.size + 3 := by rw [Heap.size_push, z2]
  have z4 : (zipMH4 s.heap l1 l2).objs.size = s.heap.objs.size + 4 := by rw [Heap.size_push, z3]
  have z5 : (zipMH5 s.heap l1 l2).objs.size = s.heap.objs.size + 5 := by rw [Heap.size_push, z4]
  have g5 : (zipMH5 s.heap l1 l2).get? (zipMH4 s.heap l1 l2).objs.size = some _ := Heap.get?_push_size _ rfl
  have g4 : (zipMH5 s.heap l1 l2).get? (zipMH3 s.heap l1 l2).objs.size = some _ := Heap.get?_push_of_some _ (Heap.get?_push_size _ rfl)
  have g3 : (zipMH5 s.heap l1 l2).get? (zipMH2 s.heap l1 l2).objs.size = some _ := Heap.get?_push_of_some _ (Heap.get?_push_of_some _ (Heap.get?_push_size _ rfl))
  have g2 : (zipMH5 s.heap l1 l2).get? (zipMH1 s.heap l1).objs.size = some _ := Heap.get?_push_of_some _ (Heap.get?_push_of_some _ (Heap.get?_push_of_some _ (Heap.get?_push_size _ rfl)))
  have g1 : (zipMH5 s.heap l1 l2).get? s.heap.objs.size = some _ := Heap.get?_push_of_some _ (Heap.get?_push_of_some _ (Heap.get?_push_of_some _ (Heap.get?_push_of_some _ (Heap.get?_push_size _ rfl))))
  show _ ∧ _
  rw [z2, z3, z4] at g5
  rw [z1, z2] at g3
  rw [z3] at g4
  rw [z1] at g2
  rw [z4]
  exact ⟨⟨_, g5, rfl⟩, h _ g5 g3 g4 ⟨_, g1, rfl, rfl⟩ ⟨_, g2, rfl, rfl⟩ z5 fun c o x =>
    Heap.get?_push_of_some _ (Heap.get?_push_of_some _ (Heap.get?_push_of_some _ (Heap.get?_push_of_some _ (Heap.get?_push_of_some _ x))))⟩
end
/-- the tuple at a and the list at b as they stand at each turn, the items in new pairs -/
def ItzM (K : PySem.W.Frag) (a b : Addr) : It :=
  ⟨fun i H => ∃ (xs ys : List V) (x y : V), SqT K H a xs ∧ SqL K H b ys ∧ xs[i]? = some x ∧ ys[i]? = some y,
    fun i H v H' => ∃ T x y, v = .ref T ∧ H T = none ∧ H' = upd H T (.tup [x, y]) ∧ (∀ xs, SqT K H a xs → xs[i]? = some x) ∧ ∀ ys, SqL K H b ys → ys[i]? = some y,
    fun i H => ∃ xs ys : List V, SqT K H a xs ∧ SqL K H b ys ∧ (xs.length ≤ i ∨ ys.length ≤ i)⟩
theorem turn_zipM {P : Program} {w : World} {K : PySem.W.Frag} {elts : List Expr} {kk : Nat} {tpos : Pos} {a b z TI TO i1 i2 : Addr} (D : ZipApart z TI TO i1 i2 a b) :
    Turn P w K (.Tuple elts kk tpos) (ItzM K a b) [z, TI, TO, i1, i2] z (fun i h => IsZip h z TI TO .none ∧ IsPair h TI (.ref i1) (.ref i2) ∧ (∃ x y, IsPair h TO x y) ∧ h.IsTupleIter i1 a i ∧ h.IsListIter i2 b i) where
  mem := by simp
  obj := fun i h st c hc => by
    obtain ⟨hz, hTI, ⟨x, y, hTO⟩, ⟨o1, e1, _, d1⟩, ⟨o2, e2, _, d2⟩⟩ := st
    have e' : c = z ∨ c = TI ∨ c = TO ∨ c = i1 ∨ c = i2 := by simpa using hc
    rcases e' with q | q | q | q | q
    · rw [q]; exact ⟨_, hz, fun v q => nomatch q⟩
    · rw [q]; exact ⟨_, hTI, fun v q => nomatch q⟩
    · rw [q]; exact ⟨_, hTO, fun v q => nomatch q⟩
    · rw [q]; exact ⟨o1, e1, fun v q => by rw [d1] at q; cases q⟩
    · rw [q]; exact ⟨o2, e2, fun v q => by rw [d2] at q; cases q⟩
  keep := fun i h h' st k => by
    obtain ⟨hz, hTI, ⟨x, y, hTO⟩, h1, h2⟩ := st
    exact ⟨k z (by simp) _ hz, k TI (by simp) _ hTI, ⟨x, y, k TO (by simp) _ hTO⟩, h1.at fun o q => k i1 (by simp) o q, h2.at fun o q => k i2 (by simp) o q⟩
  item := by
    intro X hP hw hK hc i pins s σ H E I hf st hg
    subst hP hw hK
    obtain ⟨hz, hTI, ⟨x0, y0, hTO⟩, h1, h2⟩ := st
    obtain ⟨xs, ys, x, y, hqx, hqy, hx, hy⟩ := hg
    obtain ⟨its, rv, p, _⟩ := I.tuple hqx
    obtain ⟨its2, rv2, p2, _⟩ := I.list hqy
    obtain ⟨u, hu, ru⟩ := rv.get hx
    obtain ⟨u2, hu2, ru2⟩ := rv2.get hy
    have hzl : z < s.heap.objs.size := Heap.lt_size hz
    refine pyNext_zipM_item D hz hTI hTO h1 h2 p p2.isList (x := u) (y := u2) (by simpa using hu) (by simpa using hu2) fun h' z' TO' h1' h2' hT hsz hk => ?_
    refine ⟨_, rfl, wpAny_letOwnedTupleGo_zip (s := { s with heap := h' }) z' fun h'' z'' sb => ?_⟩
    have hT2 : h''.get? s.heap.objs.size = some { cls := .type "tuple", data := .seq #[u, u2] } := (sb.2 _ (Nat.ne_of_gt hzl)).trans hT
    have new : ObjOk X.prog X.w (upd H s.heap.objs.size (.tup [x, y])) h'' s.heap.objs.size (.tup [x, y]) :=
      ⟨by show 2 ≤ sizeLine; decide, [u, u2], .cons ru (.cons ru2 .nil), ⟨_, hT2, rfl, _, rfl⟩⟩
    have I1 : Inv X pins σ (upd H s.heap.objs.size (.tup [x, y])) { s with heap := h'' } :=
      I.turnedNew (t' := s.toks) (ch := [z, TI, TO, i1, i2]) (fun c o hb q => (sb.2 c (fun q' => hb (by simp [q']))).trans (hk c o (fun q' => hb (by simp [q'])) (fun q' => hb (by simp [q'])) (fun q' => hb (by simp [q'])) (fun q' => hb (by simp [q'])) q)) hf (Nat.le_refl _) new
    refine ⟨.ref s.heap.objs.size, _, I1, rfl, ⟨_, x, y, rfl, I.hok.fresh (Nat.le_refl _), rfl, fun l hl => by rw [I.tuple_inj hl hqx]; exact hx, fun l hl => by rw [I.list_inj hl hqy]; exact hy⟩, ⟨z'', ?_, ⟨u, u2, ?_⟩, ?_, ?_⟩, fun c hcm => ?_⟩
    · exact (sb.2 _ D.TIz).trans (hk _ _ D.TIz D.TITO D.TIi1 D.TIi2 hTI)
    · exact (sb.2 _ D.TOz).trans TO'
    · exact h1'.at fun o q => (sb.2 _ D.i1z).trans q
    · exact h2'.at fun o q => (sb.2 _ D.i2z).trans q
    · have hlt : c < s.heap.objs.size := by
        have e' : c = z ∨ c = TI ∨ c = TO ∨ c = i1 ∨ c = i2 := by simpa using hcm
        rcases e' with q | q | q | q | q
        · rw [q]; exact hzl
        · rw [q]; exact Heap.lt_size hTI
        · rw [q]; exact Heap.lt_size hTO
        · rw [q]; obtain ⟨_, e1, _⟩ := h1; exact Heap.lt_size e1
        · rw [q]; obtain ⟨_, e2, _⟩ := h2; exact Heap.lt_size e2
      rw [upd_ne (Nat.ne_of_lt hlt)]
      exact (hf c hcm).1
  done := by
    intro X hP hw hK hc i pins s σ H E I hf st hg
    subst hP hw hK
    obtain ⟨hz, hTI, ⟨x0, y0, hTO⟩, h1, h2⟩ := st
    obtain ⟨xs, ys, hqx, hqy, hend⟩ := hg
    obtain ⟨its, rv, p, _⟩ := I.tuple hqx
    obtain ⟨its2, rv2, p2, _⟩ := I.list hqy
    have l1 := rv.length
    have l2 := rv2.length
    have he : its.toArray[i]? = none ∨ its2.toArray[i]? = none := by
      rcases hend with q | q
      · exact .inl (by simp; omega)
      · exact .inr (by simp; omega)
    exact pyNext_zipM_end (I.ok.hd hc) D hz hTI hTO h1 h2 p p2.isList he fun h' hk => ⟨rfl, I.turnedL (t' := s.toks) (ch := [z, TI, TO, i1, i2]) (fun c o hb q =>
      hk c o (fun q' => hb (by simp [q'])) (fun q' => hb (by simp [q'])) (fun q' => hb (by simp [q'])) (fun q' => hb (by simp [q'])) q) hf⟩
  self := fun A i s Q E st h => wpAny_pyIter_zip st.1 h


/-- zip of two lists, or of a tuple and a list -/
def iZipX (K : PySem.W.Frag) (ta : TA) : TI := fun σ H R => ta σ H fun vs H1 => ∃ a b xs ys, vs = [.ref a, .ref b] ∧ ((SqL K H1 a xs ∧ SqL K H1 b ys ∧ R (Itz K a b) H1) ∨ (SqT K H1 a xs ∧ SqL K H1 b ys ∧ R (ItzM K a b) H1))
theorem pi_zipX {X : Cx} {e e2 : Expr} {ta : TA} {p pos tpos : Pos} {elts : List Expr} {kk : Nat} (hg : Gl X "zip") (hm : X.mg "zip" = none) (ha : PA X [e, e2] ta)
    (hs : starEach [e, e2] X.env = (false, eval e X.env) :: starEach [e2] X.env := by rfl) (hpl : (backTo pos (starEach [e2] X.env)).any (·.1) = false := by rfl) :
    PI X (.Tuple elts kk tpos) (.Call (.Name "zip" p) [e, e2] [] pos) (iZipX X.K ta) := by
  refine ⟨fun pins s σ H R I h => ?_⟩
  refine Call_ (ld_blt I hg hm PyProof.Rows.boot_zip (PyProof.Rows.callWith_type1 (thn (ha.run pos pins s σ H _ I h) fun us s1 ⟨vs, H1, I1, r1, q1⟩ => ?_) hs hpl))
  obtain ⟨a, b, xs, ys, ex, q1⟩ := q1
  subst ex
  cases r1 with
  | cons r rr =>
    cases rr with
    | cons r' rr =>
      cases rr
      cases r
      cases r'
      have fresh5 : ∀ c, c ∈ [s1.heap.objs.size + 4, s1.heap.objs.size + 2, s1.heap.objs.size + 3, s1.heap.objs.size, s1.heap.objs.size + 1] → FpOk X pins H1 c := fun c hcm => by
        have e' : c = s1.heap.objs.size + 4 ∨ c = s1.heap.objs.size + 2 ∨ c = s1.heap.objs.size + 3 ∨ c = s1.heap.objs.size ∨ c = s1.heap.objs.size + 1 := by simpa using hcm
        have hle : s1.heap.objs.size ≤ c := by
          rcases e' with z | z | z | z | z
          · rw [z]; exact Nat.le_add_right _ _
          · rw [z]; exact Nat.le_add_right _ _
          · rw [z]; exact Nat.le_add_right _ _
          · rw [z]; exact Nat.le_refl _
          · rw [z]; exact Nat.le_add_right _ _
        exact I1.fpOk hle (I1.hok.fresh hle)
      rcases q1 with ⟨hqx, hqy, q⟩ | ⟨hqx, hqy, q⟩
      · obtain ⟨its, rv, p1, _⟩ := I1.list hqx
        obtain ⟨its2, rv2, p2, _⟩ := I1.list hqy
        refine call_zip_2 p1.isList p2.isList fun h' hz hTI hTO h1 h2 hsz hk => wpAny_pyIter_zip hz ?_
        have I2 : Inv X pins σ H1 { s1 with heap := h' } := I1.kept (t' := s1.toks) hk
        exact ⟨s1.heap.objs.size + 4, [s1.heap.objs.size + 4, s1.heap.objs.size + 2, s1.heap.objs.size + 3, s1.heap.objs.size, s1.heap.objs.size + 1], _, _, H1, rfl, I2, turn_zip (PySem.W.ktu_apart s1.heap.objs.size a b p1.lt p2.lt), ⟨hz, hTI, ⟨_, _, hTO⟩, h1, h2⟩, fresh5, q⟩
      · obtain ⟨its, rv, p1, _⟩ := I1.tuple hqx
        obtain ⟨its2, rv2, p2, _⟩ := I1.list hqy
        obtain ⟨o1, ho1, _⟩ := id p1
        refine call_zipM (show s1.heap.IsTuple a its.toArray from p1) p2.isList fun h' hz hTI hTO h1 h2 hsz hk => wpAny_pyIter_zip hz ?_
        have I2 : Inv X pins σ H1 { s1 with heap := h' } := I1.kept (t' := s1.toks) hk
        exact ⟨s1.heap.objs.size + 4, [s1.heap.objs.size + 4, s1.heap.objs.size + 2, s1.heap.objs.size + 3, s1.heap.objs.size, s1.heap.objs.size + 1], _, _, H1, rfl, I2, turn_zipM (PySem.W.ktu_apart s1.heap.objs.size a b (Heap.lt_size ho1) p2.lt), ⟨hz, hTI, ⟨_, _, hTO⟩, h1, h2⟩, fresh5, q⟩


section
open ToPy (py)
variable {K : PySem.W.Frag} {Γ : Ctx}
theorem wi_zipXL {α β : Type} {_ : ToPy α} {_ : ToPy β} {xs : List α} {ys : List β} {ta tc : TE} (h : EvD Γ ta (rep xs)) (h2 : EvD Γ tc (rep ys)) (hl : xs.length = ys.length) :
    WiD Γ (iZipX K (tCons ta (tCons tc tNil))) xs.length (fun i => rep (at_ xs i, at_ ys i)) := fun σ f hp s ok Rk q =>
  h σ f hp s ok _ fun v f1 hp1 e1 rv => h2 σ f1 hp1 e1.fh (ok.mono e1.ff) _ fun w f2 hp2 e2 rw_ => by
    have rv := (rep xs).mono rv e2.ff
    obtain ⟨p, vs, rfl, g1, g2⟩ := rep_list rv
    obtain ⟨p', vs', rfl, g1', g2'⟩ := rep_list rw_
    have l1 : vs.length = xs.length := by rw [repL_length g2, List.length_map]
    have l2 : vs'.length = ys.length := by rw [repL_length g2', List.length_map]
    have E := e1.trans e2
    refine ⟨p, p', vs, vs', rfl, .inl ⟨SqL.of1 (E.fh _ _ g1), SqL.of1 (E.fh _ _ g1'), q _ f2 hp2 E ⟨fun i f h hi s0 s1 => ?_, fun i f h x h' hlt s0 s1 y => ?_, fun f h s0 s1 => ?_⟩⟩⟩
    · have a1 : i < vs.length := by omega
      have a2 : i < vs'.length := by omega
      exact ⟨vs, vs', vs[i], vs'[i], SqL.of1 (s1 _ _ (s0 _ _ g1)), SqL.of1 (s1 _ _ (s0 _ _ g1')), by simp [a1], by simp [a2]⟩
    · obtain ⟨T, x1, y1, rfl, hT, rfl, hx1, hx2⟩ := y
      have q1 := hx1 vs (SqL.of1 (s1 _ _ (s0 _ _ g1)))
      have q2 := hx2 vs' (SqL.of1 (s1 _ _ (s0 _ _ g1')))
      refine ⟨_, .new s1 hT, ?_⟩
      have b1 : (xs.map py)[i]? = some (py (at_ xs i)) := by rw [List.getElem?_map, at_some hlt]; rfl
      have b2 : (ys.map py)[i]? = some (py (at_ ys i)) := by rw [List.getElem?_map, at_some (by omega)]; rfl
      obtain ⟨c1, c2, c3⟩ := repL_get g2 b1
      obtain ⟨d1, d2, d3⟩ := repL_get g2' b2
      have z1 : x1 = c1 := Option.some.inj (q1.symm.trans c2)
      have z2 : y1 = d1 := Option.some.inj (q2.symm.trans d2)
      subst z1
      subst z2
      show repD (.tuple [py (at_ xs i), py (at_ ys i)]) _ _
      simp only [repD, repL]
      have k := s0.trans (same_new (o := HO.tup [x1, y1]) (s1.free hT))
      exact ⟨T, _, rfl, upd_same, x1, [y1], rfl, repD_mono k _ _ c3, y1, [], rfl, repD_mono k _ _ d3, rfl⟩
    · exact ⟨vs, vs', SqL.of1 (s1 _ _ (s0 _ _ g1)), SqL.of1 (s1 _ _ (s0 _ _ g1')), .inl (by omega)⟩
theorem wi_zipXT {α β : Type} {_ : ToPy α} {_ : ToPy β} {xs : List α} {ys : List β} {ta tc : TE} (h : EvD Γ ta (rep (Tup.mk xs))) (h2 : EvD Γ tc (rep ys)) (hl : xs.length = ys.length) :
    WiD Γ (iZipX K (tCons ta (tCons tc tNil))) xs.length (fun i => rep (at_ xs i, at_ ys i)) := fun σ f hp s ok Rk q =>
  h σ f hp s ok _ fun v f1 hp1 e1 rv => h2 σ f1 hp1 e1.fh (ok.mono e1.ff) _ fun w f2 hp2 e2 rw_ => by
    have rv := (rep (Tup.mk xs)).mono rv e2.ff
    have rv : repD (.tuple (xs.map py)) v f2 := rv
    simp only [repD] at rv
    obtain ⟨p, vs, rfl, g1, g2⟩ := rv
    obtain ⟨p', vs', rfl, g1', g2'⟩ := rep_list rw_
    have l1 : vs.length = xs.length := by rw [repL_length g2, List.length_map]
    have l2 : vs'.length = ys.length := by rw [repL_length g2', List.length_map]
    have E := e1.trans e2
    refine ⟨p, p', vs, vs', rfl, .inr ⟨SqT.of1 (E.fh _ _ g1), SqL.of1 (E.fh _ _ g1'), q _ f2 hp2 E ⟨fun i f h hi s0 s1 => ?_, fun i f h x h' hlt s0 s1 y => ?_, fun f h s0 s1 => ?_⟩⟩⟩
    · have a1 : i < vs.length := by omega
      have a2 : i < vs'.length := by omega
      exact ⟨vs, vs', vs[i], vs'[i], SqT.of1 (s1 _ _ (s0 _ _ g1)), SqL.of1 (s1 _ _ (s0 _ _ g1')), by simp [a1], by simp [a2]⟩
    · obtain ⟨T, x1, y1, rfl, hT, rfl, hx1, hx2⟩ := y
      have q1 := hx1 vs (SqT.of1 (s1 _ _ (s0 _ _ g1)))
      have q2 := hx2 vs' (SqL.of1 (s1 _ _ (s0 _ _ g1')))
      refine ⟨_, .new s1 hT, ?_⟩
      have b1 : (xs.map py)[i]? = some (py (at_ xs i)) := by rw [List.getElem?_map, at_some hlt]; rfl
      have b2 : (ys.map py)[i]? = some (py (at_ ys i)) := by rw [List.getElem?_map, at_some (by omega)]; rfl
      obtain ⟨c1, c2, c3⟩ := repL_get g2 b1
      obtain ⟨d1, d2, d3⟩ := repL_get g2' b2
      have z1 : x1 = c1 := Option.some.inj (q1.symm.trans c2)
      have z2 : y1 = d1 := Option.some.inj (q2.symm.trans d2)
      subst z1
      subst z2
      show repD (.tuple [py (at_ xs i), py (at_ ys i)]) _ _
      simp only [repD, repL]
      have k := s0.trans (same_new (o := HO.tup [x1, y1]) (s1.free hT))
      exact ⟨T, _, rfl, upd_same, x1, [y1], rfl, repD_mono k _ _ c3, y1, [], rfl, repD_mono k _ _ d3, rfl⟩
    · exact ⟨vs, vs', SqT.of1 (s1 _ _ (s0 _ _ g1)), SqL.of1 (s1 _ _ (s0 _ _ g1')), .inl (by omega)⟩
end
end D

set_option Elab.async false
set_option linter.all false
set_option maxRecDepth 100000
set_option maxHeartbeats 4000000
namespace D
open PySem PySem.Spec PyProof.Rows L2
open ToPy (py)
section
variable {K : PySem.W.Frag} {Γ : Ctx} {te to ta : TE} {R : RP}
theorem inV_ints (x : Int) (xs : List Int) : inV (.int x) (xs.map V.int) = decide (x ∈ xs) := by
  unfold inV
  rw [List.any_map]
  by_cases h : x ∈ xs
  · rw [decide_eq_true h, List.any_eq_true]
    exact ⟨x, h, by simp [eqV]⟩
  · rw [decide_eq_false h, List.any_eq_false]
    intro y hy
    simp only [Function.comp, eqV, beq_iff_eq]
    intro e
    exact h (e ▸ hy)
theorem flat_ints (xs : List Int) : (xs.map V.int).all flatV = true := by
  rw [List.all_map, List.all_eq_true]
  intro x _
  rfl
/-- x in xs -/
theorem s_inI {x : Int} {xs : List Int} : R2D (rInX K) (rep x) (rep xs) (rep (decide (x ∈ xs))) := fun u y f hp s rx ry Q q => by
  cases rep_int rx
  obtain ⟨p, vs, rfl, h1, h2⟩ := rep_list ry
  have e := repL_ints h2
  subst e
  refine .inl ⟨p, _, rfl, .inl (SqL.of1 (s _ _ h1)), rfl, flat_ints xs, ?_⟩
  have e : (if false = true then !inV (.int x) (xs.map V.int) else inV (.int x) (xs.map V.int)) = decide (x ∈ xs) := inV_ints x xs
  rw [e]
  exact q _ f hp (.refl s) (rep_of_bool _ _)
/-- xs.index(x) -/
theorem ev_index {x : Int} {xs : List Int} (ho : EvD Γ to (rep xs)) (he : EvD Γ te (rep x)) (hx : x ∈ xs) : EvD Γ (tBM K "list" (rIndex K) to (tCons te tNil)) (rep ((xs.idxOf x : Nat) : Int)) := fun σ f h s ok Q q =>
  ho σ f h s ok _ fun v f1 h1 e1 rv => by
    obtain ⟨p, vs, rfl, g1, g2⟩ := rep_list rv
    have e := repL_ints g2
    subst e
    refine ⟨.inl ⟨rfl, _, SqL.of1 (e1.fh _ _ g1)⟩, he σ f1 h1 e1.fh (ok.mono e1.ff) _ fun y f2 h2 e2 ry => ?_⟩
    cases rep_int ry
    have hl : xs.idxOf x < xs.length := List.idxOf_lt_length_iff.mpr hx
    refine ⟨p, xs.map V.int, .int x, xs.idxOf x, .int x, rfl, rfl, SqL.of1 (e2.fh _ _ (e2.ff _ _ g1)), rfl, flat_ints xs, ?_, by simp [eqV], fun m z' hm hz => ?_, q _ f2 h2 (e1.trans e2) (rep_of_int _ _)⟩
    · rw [List.getElem?_map, List.getElem?_eq_getElem hl]
      simp
    · rw [List.getElem?_map, List.getElem?_eq_getElem (by omega)] at hz
      simp only [Option.map_some, Option.some.injEq] at hz
      subst hz
      have := List.not_of_lt_findIdx (xs := xs) (p := (· == x)) (i := m) hm
      simp only [eqV]
      simpa using this
/-- list(range(n)) -/
theorem en_listRg {n : Nat} (h : EvD Γ ta (rep (n : Int))) (hn : n ≤ 1000) : EvN Γ (tLstRg (tRg1 ta)) (oL ((List.range n).map fun (i : Nat) => (i : Int))) := fun σ f hp s ok Q q =>
  h σ f hp s ok _ fun v f1 h1 e rv => by
    cases rep_int rv
    refine ⟨(n : Int), rfl, ?_, fun p hp' => q p _ f1 _ (e.trans (.newH e.fh hp')) (e.hh.free hp') (e.fh.free hp') upd_same ⟨_, rfl, ?_⟩⟩
    · exact RgOk.of_le (by omega) (by omega) (by omega) (by omega)
    · have e2 : rgV 0 (n : Int) = ((List.range n).map fun (i : Nat) => (i : Int)).map V.int := by
        unfold rgV
        rw [List.map_map]
        have : ((n : Int) - 0).toNat = n := by omega
        rw [this]
        apply List.map_congr_left
        intro i _
        simp
      rw [e2]
      have e3 : ((List.range n).map fun (i : Nat) => (i : Int)).map (py : Int → PyData) = ((List.range n).map fun (i : Nat) => (i : Int)).map PyData.int := rfl
      rw [e3]
      exact repL_of_ints _ _
end
/-! ### a comprehension over a list of our own -/
structure ItOkO (B : Base) (O : Own) (J : It) (n : Nat) (item : Nat → RP) : Prop where
  go : ∀ i Γ σ f h, i < n → Sta B Γ O σ f h → J.go i h
  yld : ∀ i Γ σ f h x h', i < n → Sta B Γ O σ f h → J.yld i h x h' → ∃ f', Ext f h f' h' ∧ (item i).p x f'
  stop : ∀ Γ σ f h, Sta B Γ O σ f h → J.stop n h
def WiO (B : Base) (Γ : Ctx) (O : Own) (wi : TI) (n : Nat) (item : Nat → RP) : Prop := ∀ σ f h, Sta B Γ O σ f h → ∀ Rk : It → Hp → Prop, (∀ J f' h', Ext f h f' h' → ItOkO B O J n item → Rk J h') → wi σ h Rk
section
variable {B : Base} {K : PySem.W.Frag} {Γ : Ctx} {O : Own} {te tl : TE} {wi : TI} {g : TG} {n : Nat} {item : Nat → RP}
theorem wi_O {α : Type} {_ : ToPy α} {xs : List α} {p : Addr} (j : Nat) (hl : EvS B Γ O tl (own p)) (hj : O[j]? = some (p, oL xs)) (fl : ∀ i, i < xs.length → Flat (rep (at_ xs i))) : WiO B Γ O (iList K tl) xs.length (fun i => rep (at_ xs i)) := fun σ f h s Rk q =>
  hl σ f h s _ fun v f1 h1 e rv => by
    cases rv
    have s1 := s.ext e
    obtain ⟨o, hp, vs, rfl, hr⟩ := s1.get hj
    have at' : ∀ {Γ' : Ctx} {σ : L2.St} {f h : Hp}, Sta B Γ' O σ f h → ∃ vs, h p = some (.lst vs) ∧ repL (xs.map py) vs f := fun s => by
      obtain ⟨o, hp, vs, rfl, hr⟩ := s.get hj
      exact ⟨vs, hp, hr⟩
    refine ⟨p, rfl, ⟨vs, SqL.of1 hp⟩, q _ f1 h1 e ⟨fun i Γ' σ f h hi s => ?_, fun i Γ' σ f h x h' hlt s y => ?_, fun Γ' σ f h s => ?_⟩⟩
    · obtain ⟨vs, hp, hr⟩ := at' s
      have hv : i < vs.length := by rw [repL_length hr, List.length_map]; exact hi
      exact ⟨vs, vs[i], SqL.of1 hp, by simp [hv]⟩
    · obtain ⟨vs, hp, hr⟩ := at' s
      obtain ⟨rfl, y⟩ := y
      have y := y vs (SqL.of1 hp)
      have b1 : (xs.map py)[i]? = some (py (at_ xs i)) := by rw [List.getElem?_map, at_some hlt]; rfl
      obtain ⟨v, h3, h4⟩ := repL_get hr b1
      rw [y] at h3
      cases h3
      exact ⟨f, .refl s.fh, h4⟩
    · obtain ⟨vs, hp, hr⟩ := at' s
      exact ⟨vs, SqL.of1 hp, by rw [repL_length hr, List.length_map]; exact Nat.le_refl _⟩
theorem en_lcO {α : Type} {_ : ToPy α} {vs : List Nat} {val : Nat → α} (hw : WiO B Γ O wi n item) {G' : Nat → Ctx} (ht : ∀ i, i < n → TgL g vs (item i) (wipeC Γ vs) (G' i))
    (he : ∀ i, i < n → EvD (G' i) te (rep (val i))) (hz : n ≤ 100000) : EvNS B Γ O (tLc wi g tYes te vs) (oL ((List.range n).map val)) := fun σ f h s Q q =>
  hw σ f h s _ fun J f1 h1 e J1 D hD => by
    refine ⟨fun i m h' => m = n - i ∧ i ≤ n ∧ ∃ f', Ext f h f' h' ∧ f' D = none ∧ ∃ us, h' D = some (.lst us) ∧ repL (((List.range i).map val).map py) us f', ⟨n, by simp, Nat.zero_le _, f1, ?_, e.fh.free hD, [], upd_same, by simp [repL]⟩, ?_⟩
    · exact ⟨e.ff, e.hh.trans (same_new hD), e.fh.trans (same_new hD), e.nf⟩
    rintro i m h' ⟨rfl, hi, f', E, hf, us, hu, hr⟩
    have s' := s.ext E
    by_cases hlt : i < n
    · refine .inr ⟨J1.go i _ _ f' h' hlt s', fun h2 => ∃ f2, Ext f h f2 h2 ∧ f2 D = none ∧ ∃ us, h2 D = some (.lst us) ∧ repL (((List.range (i + 1)).map val).map py) us f2, fun h2 ⟨f2, b, c⟩ => ⟨n - (i + 1), by omega, rfl, hlt, f2, b, c⟩, fun x h2 y => ?_⟩
      obtain ⟨f2, e2, rx⟩ := J1.yld i _ _ f' h' x h2 hlt s' y
      have ok2 : Ok (wipeC Γ vs) (wipe σ vs) f2 := (s.ok.mono (E.trans e2).ff).wipe vs
      refine ht i hlt _ f2 h2 e2.fh ok2 x rx _ fun σ3 hw3 ok3 => ⟨by rw [hw3]; exact wipe_idem vs vs fun _ z => z, ?_⟩
      have fD2 : f2 D = none := e2.nf D (by rw [hu]; exact fun z => nomatch z) hf
      have hu2 : h2 D = some (.lst us) := e2.hh _ _ hu
      refine (et_yes (Γ := G' i)) σ3 f2 h2 e2.fh ok3 _ fun f3 h3 e3 => ?_
      have fD3 : f3 D = none := e3.nf D (by rw [hu2]; exact fun z => nomatch z) fD2
      have hu3 : h3 D = some (.lst us) := e3.hh _ _ hu2
      have E3 := (E.trans e2).trans e3
      refine iteT (he i hlt σ3 f3 h3 e3.fh (ok3.mono e3.ff) _ fun v f4 h4 e4 rv => ⟨us, e4.hh _ _ hu3, ?_, f4, ?_, e4.nf D (by rw [hu3]; exact fun z => nomatch z) fD3, _, upd_same, ?_⟩)
      · rw [repL_length hr, List.length_map, List.length_map, List.length_range]
        exact Nat.lt_of_le_of_lt (Nat.le_trans (Nat.le_of_lt hlt) hz) (by decide)
      · have E4 := E3.trans e4
        have f4D : f4 D = none := e4.nf D (by rw [hu3]; exact fun z => nomatch z) fD3
        have hD0 : h D = none := e.hh.free hD
        exact ⟨E4.ff, same_upd E4.hh hD0, same_upd E4.fh f4D, E4.nf⟩
      · rw [List.range_succ, List.map_append, List.map_append]
        exact repL_append (repL_mono ((e2.ff.trans e3.ff).trans e4.ff) _ _ hr) (repL_one rv)
    · have e3 : i = n := by omega
      subst e3
      exact .inl ⟨J1.stop _ _ f' h' s', q D _ f' h' E (e.hh.free hD) hf hu ⟨us, rfl, hr⟩⟩
end
section
variable {P : Program} {w : World} {K : PySem.W.Frag} {mg : Str → Option Value} {base : Heap} {x q : Str} {st : Stmt} {N ps : List Str} {k : Nat} {C : Addr} {m : Str}
/-- of a promise that is never asked -/
theorem okm0 (F : DefM K C m q st ps) (sc : FnScope N ps (defScope st)) : Okm P w K mg base CX0 (k + 1) C m ps (spO fun _ _ _ => False) := by
  obtain ⟨f, fd, hF, hm, hb⟩ := F
  refine ⟨f, fd, hm, hb, hF.ok sc (fun vs H Q E h => ?_) fun cdv A outer s H vs Q E hr h => ?_⟩
  · obtain ⟨_, _, _, _, h, _⟩ := h
    exact h.elim
  · obtain ⟨_, _, _, _, h, _⟩ := h
    exact h.elim
theorem okd0 (F : Def K mg x st ps) (sc : FnScope N ps (defScope st)) : Okd P w K mg base CX0 (k + 1) x ps (spD fun _ _ => False) := by
  obtain ⟨f, fd, hF, hm, hb⟩ := F
  refine ⟨f, fd, hm, hF.kp, hb, hF.ok sc (fun vs H Q E h => ?_) fun cdv A outer s H vs Q E hr h => ?_⟩
  · obtain ⟨_, _, _, h, _⟩ := h
    exact h.elim
  · obtain ⟨_, _, _, h, _⟩ := h
    exact h.elim
end
end D

set_option Elab.async false
set_option linter.all false
set_option maxRecDepth 100000
set_option maxHeartbeats 4000000
/-! Layer D: xs[::-1] of lists and tuples. -/
namespace D
open PySem PySem.Spec PyProof.Rows L2
open ToPy (py)
theorem tup_pick_rev (xs : Array Value) : ((List.range xs.size).filterMap fun (k : Nat) => xs[(((xs.size : Int) - 1) + (k : Int) * (-1)).toNat]?).toArray = xs.toList.reverse.toArray := by
  have e : (fun (k : Nat) => xs[(((xs.size : Int) - 1) + (k : Int) * (-1)).toNat]?) = fun k => xs[xs.size - 1 - k]? := by
    funext k
    have : (((xs.size : Int) - 1) + (k : Int) * (-1)).toNat = xs.size - 1 - k := by omega
    rw [this]
  rw [e]
  have z : ((List.range xs.size).map fun k => xs.size - 1 - k).filterMap (xs[·]?) = xs.toList.reverse := by
    rw [PySem.W.krv_range, List.filterMap_reverse, PySem.W.krv_all]
  rw [List.filterMap_map] at z
  exact congrArg _ z
section
variable {prog : Program} {w : World} {A : Around} {E : Value → Shared → Prop} {s : Shared}
theorem sliceApplied_rev {sl : Addr} {n : Nat} {tk : Tok} {Q : Int × Int × Nat → Shared → Prop} (hs : s.heap.IsSliceOf sl .none .none (.int (-1) tk)) (h : Q ((n : Int) - 1, -1, n) s) :
    wpAny (model prog w) A (Builtin.Slice.sliceApplied (.ref sl) (pure (n : Int))) Q E s := by
  obtain ⟨os, hos, hcs, hds⟩ := id hs
  unfold Builtin.Slice.sliceApplied Builtin.Slice.sliceFields
  refine wpAny_bind (wpAny_bind (wpAny_field hos hds (x := .none) rfl (wpAny_bind (wpAny_field hos hds (x := .none) rfl (wpAny_bind (wpAny_field hos hds (x := .int (-1) tk) rfl (wpAny_pure ?_)))))))
  refine wpAny_bind (PyProof.Rows.slicePart_int ?_)
  show wpAny _ _ (if ((-1 : Int) == 0) = true then _ else _) _ _ s
  rw [if_neg (by decide)]
  refine wpAny_bind (slicePart_none (wpAny_bind (slicePart_none (wpAny_bind (wpAny_pure ?_)))))
  show wpAny _ _ (match Builtin.Slice.sliceAdjust none none (-1) (n : Int) with | (lo, hi) => pure (lo, (-1 : Int), Builtin.Slice.slicePlaces lo hi (-1))) _ _ s
  have e : Builtin.Slice.sliceAdjust none none (-1) (n : Int) = ((n : Int) - 1, -1) := by
    unfold Builtin.Slice.sliceAdjust
    simp
  rw [e]
  have e2 : Builtin.Slice.slicePlaces ((n : Int) - 1) (-1) (-1) = n := by
    unfold Builtin.Slice.slicePlaces
    rw [if_neg (by decide)]
    by_cases z : (n : Int) - 1 > -1
    · rw [if_pos z]
      have : ((n : Int) - 1 - -1 - 1) / (- -1) + 1 = (n : Int) := by
        rw [show (- -1 : Int) = 1 by decide, Int.ediv_one]
        omega
      rw [this]
      rfl
    · rw [if_neg z]
      omega
  show wpAny _ _ (pure ((n : Int) - 1, (-1 : Int), Builtin.Slice.slicePlaces ((n : Int) - 1) (-1) (-1))) _ _ s
  rw [e2]
  exact wpAny_pure h
theorem getItem_tuple_rev {t sl : Addr} {items : Array Value} {tk : Tok} {Q : Value → Shared → Prop} (ht : IsTup s.heap t items) (hs : s.heap.IsSliceOf sl .none .none (.int (-1) tk))
    (h : Q (.ref s.heap.objs.size) { s with heap := s.heap.push { cls := .type "tuple", data := .seq items.toList.reverse.toArray } })
    (hsz : items.size ≤ sizeLine) : wpAny (model prog w) A (getItem (.ref t) (.ref sl)) Q E s := by
  have htake : sizeOk (.seq items.toList.reverse.toArray) := by
    show items.toList.reverse.toArray.size ≤ sizeLine
    rw [List.size_toArray, List.length_reverse, Array.length_toList]
    exact hsz
  obtain ⟨os, hos, hcs, hds⟩ := id hs
  have hTs : s.TypeIs (.ref sl) "slice" := ⟨os, hos, hcs⟩
  unfold getItem
  try with_reducible refine wpAny_holding ?_
  first | refine wpAny_bind (wpAny_pure ?_) | skip
  refine wpAny_bind (wpAny_sequenceKey ht.typeIs (by decide) ?_)
  refine wpAny_bind (wpAny_callSpecial?_slot (name := Str.ofString "__getitem__") ht.typeIs PyProof.Rows.slot_tuple_getitem
    (wpAny_call_entry PyProof.Rows.slot_tuple_getitem ht.typeIs entry_tuple_getitem ?_ (args_tuple_getitem _ _)))
  show wpAny _ _ (Builtin.Tuple.tupleItemsOf (.ref t) >>= _) _ _ s
  refine wpAny_bind (tupleItemsOf_ ht ?_)
  refine wpAny_bind (wpAny_typeOf hTs ?_)
  rw [if_pos (by decide)]
  refine wpAny_bind (sliceApplied_rev hs ?_)
  have hno : ¬ ((((items.size : Int) - 1) == 0 && (-1 : Int) == 1 && items.size == items.size) = true) := by
    intro q
    rw [Bool.and_eq_true, Bool.and_eq_true] at q
    exact absurd (eq_of_beq q.1.2) (by decide)
  show wpAny _ _ (if (((items.size : Int) - 1) == 0 && (-1 : Int) == 1 && items.size == items.size) = true then _ else _) _ _ s
  rw [if_neg hno, tup_pick_rev]
  first
    | exact wpAny_bind (m := Builtin.Tuple.tupleExact _) (wpAny_newObj_type (wpAny_pure ⟨_, rfl, wpAny_pure h⟩) htake)
    | exact wpAny_bind (m := Builtin.Tuple.tupleExact _) (wpAny_newObj_type (wpAny_bind (wpAny_pure (wpAny_pure ⟨_, rfl, wpAny_pure h⟩))) htake)
    | exact wpAny_bind (wpAny_bind (m := Builtin.Tuple.tupleExact _) (wpAny_newObj_type (wpAny_pure (wpAny_pure ⟨_, rfl, wpAny_pure h⟩)) htake))
    | exact wpAny_bind (wpAny_bind (m := Builtin.Tuple.tupleExact _) (wpAny_newObj_type (wpAny_pure ⟨_, rfl, wpAny_pure h⟩) htake))
end
/-- t[::-1] -/
def tRevT (K : PySem.W.Frag) (te : TE) : TE := fun σ H Q => te σ H fun x H1 => ∃ a xs, x = .ref a ∧ SqT K H1 a xs ∧ ∀ p, H1 p = none → Q (.ref p) (upd H1 p (.tup xs.reverse))
theorem pe_revT {X : Cx} {e : Expr} {te : TE} {k : Nat} {p1 p2 p3 pos : Pos} (he : PE X e te) : PE X (.Subscript e (.Slice none none (some (.UnaryOp .USub (.Constant (.int 1) k p1) p2)) p3) pos) (tRevT X.K te) := by
  refine ⟨fun pins s σ H Q I h => ?_⟩
  refine Subscript_ (thn (he.run pins s σ H _ I h) fun v s1 ⟨x, H1, I1, r1, q1⟩ => ?_)
  obtain ⟨a, xs, ex, hx, q⟩ := q1
  subst ex
  cases r1
  have hst : PO X (some (.UnaryOp .USub (.Constant (.int 1) k p1) p2)) (tPart (tUn (rU fun i => .int (-i)) (tC (.int 1)))) := po_some (pe_un un_neg pe_int)
  refine wpAny_Slice (thn (po_none.run pins s1 σ H1 (fun o H2 => o = none ∧ H2 = H1) I1 ⟨rfl, rfl⟩) fun vl s2 ⟨l, H2, I2, pl, el, e2⟩ => ?_)
  subst el e2
  refine thn (po_none.run pins s2 σ H2 (fun o H3 => o = none ∧ H3 = H2) I2 ⟨rfl, rfl⟩) fun vu s3 ⟨u, H3, I3, pu, eu, e3⟩ => ?_
  subst eu e3
  refine thn (hst.run pins s3 σ H3 (fun o H4 => o = some (-1) ∧ H4 = H3) I3 ⟨1, rfl, -1, rfl, rfl, rfl⟩) fun vs s4 ⟨o, H4, I4, ps, eo, e4⟩ => ?_
  subst eo e4
  have I5 : Inv X pins σ H4 { s4 with heap := s4.heap.push { cls := .type "slice", data := .fields #[vl, vu, vs] } } := I4.kept (t' := s4.toks) fun b ob q => Heap.get?_push_of_some _ q
  obtain ⟨its, r, ht, hz⟩ := I5.tuple hx
  have hlen := r.length
  show wpAny (model X.prog X.w) X.A (subscriptTail e (.Slice none none (some (.UnaryOp .USub (.Constant (.int 1) k p1) p2)) p3) (.ref a) (.ref s4.heap.objs.size)) (EP X pins σ Q) X.xe { s4 with heap := s4.heap.push { cls := .type "slice", data := .fields #[vl, vu, vs] } }
  cases pl
  cases pu
  cases ps
  refine tail_any (ops := [.ref a, .ref s4.heap.objs.size]) ht.typeIs (PyProof.Rows.slot_tuple_getitem.lookup) ?_ (by with_unfolding_all rfl)
  refine getItem_tuple_rev ht (Heap.IsSliceOf.new _ _ _ _) ?_ (by rw [List.size_toArray]; omega)
  refine ⟨.ref _, _, I5.laid (t' := s4.toks) (o := .tup xs.reverse) (fun b ob q => Heap.get?_push_of_some _ q) (Nat.le_refl _) ?_, rfl, q _ (I5.hok.fresh (Nat.le_refl _))⟩
  exact ⟨by rw [List.length_reverse]; exact hz, _, r.reverse, IsTup.new _ _⟩
def tRevX (K : PySem.W.Frag) (te : TE) : TE := fun σ H Q => tRevL K te σ H Q ∨ tRevT K te σ H Q
theorem pe_revX {X : Cx} {e : Expr} {te : TE} {k : Nat} {p1 p2 p3 pos : Pos} (he : PE X e te) : PE X (.Subscript e (.Slice none none (some (.UnaryOp .USub (.Constant (.int 1) k p1) p2)) p3) pos) (tRevX X.K te) := by
  refine ⟨fun pins s σ H Q I h => ?_⟩
  rcases h with h | h
  · exact (pe_revL he).run pins s σ H Q I h
  · exact (pe_revT he).run pins s σ H Q I h
section
variable {K : PySem.W.Frag} {Γ : Ctx} {te : TE}
theorem repL_rev {H : Hp} : ∀ {ds : List PyData} {vs : List V}, repL ds vs H → repL ds.reverse vs.reverse H := by
  intro ds
  induction ds with
  | nil =>
    intro vs h
    simp only [repL] at h
    subst h
    simp only [List.reverse_nil, repL]
  | cons d ds ih =>
    intro vs h
    simp only [repL] at h
    obtain ⟨v, r, rfl, h1, h2⟩ := h
    rw [List.reverse_cons, List.reverse_cons]
    exact repL_append (ih h2) (repL_one h1)
theorem en_revL {α : Type} {_ : ToPy α} {xs : List α} (h : EvD Γ te (rep xs)) : EvN Γ (tRevX K te) (oL xs.reverse) := fun σ f hp s ok Q q => by
  refine .inl (h σ f hp s ok _ fun v f1 hp1 e1 rv => ?_)
  obtain ⟨p, us, rfl, g1, g2⟩ := rep_list rv
  refine ⟨p, us, rfl, SqL.of1 (e1.fh _ _ g1), fun n hn => q n _ f1 _ (e1.trans (.newH e1.fh hn)) (e1.hh.free hn) (e1.fh.free hn) upd_same ⟨_, rfl, ?_⟩⟩
  rw [List.map_reverse]
  exact repL_rev g2
theorem ev_revL {α : Type} {_ : ToPy α} {xs : List α} (h : EvD Γ te (rep xs)) : EvD Γ (tRevX K te) (rep xs.reverse) := ev_new (en_revL h)
theorem ev_revT {α : Type} {_ : ToPy α} {xs : List α} (h : EvD Γ te (rep (Tup.mk xs))) : EvD Γ (tRevX K te) (rep (Tup.mk xs.reverse)) := fun σ f hp s ok Q q => by
  refine .inr (h σ f hp s ok _ fun v f1 hp1 e1 rv => ?_)
  obtain ⟨p, us, rfl, g1, g2⟩ := rep_tup rv
  refine ⟨p, us, rfl, SqT.of1 (e1.fh _ _ g1), fun n hn => q (.ref n) _ _ (e1.trans (.new e1.fh hn)) ?_⟩
  show repD (.tuple (xs.reverse.map py)) _ _
  simp only [repD]
  refine ⟨n, _, rfl, upd_same, ?_⟩
  rw [List.map_reverse]
  exact repL_mono (same_new (e1.fh.free hn)) _ _ (repL_rev g2)
end
/-! ### for i in range(n), n of our own objects -/
theorem ws_range {B : Base} {Γ : Ctx} {O : Own} {ta : TE} {n : Nat} (h : EvS B Γ O ta (rep (n : Int))) (h1 : n < 2 ^ 62) : WiS B Γ O (iRng1 (tCons ta tNil)) n (fun i => rep (i : Int)) := fun σ f hp s Rk q =>
  h σ f hp s _ fun v f1 hp1 e rv => by
    cases rep_int rv
    refine ⟨(n : Int), rfl, by omega, by omega, q _ f1 hp1 e ⟨fun i f h hi s0 s1 => (by show i < ((n : Int)).toNat; omega), fun i f h x h' hlt s0 s1 y => ?_, fun f h s0 s1 => (by show ((n : Int)).toNat ≤ n; omega)⟩⟩
    obtain ⟨rfl, rfl⟩ := y
    exact ⟨f, .refl s1, by rw [Int.zero_add]; exact rep_of_int _ _⟩
end D

set_option Elab.async false
set_option linter.all false
set_option maxRecDepth 100000
set_option maxHeartbeats 4000000
/-! Layer D: parts of tuples, tuples put together. -/
namespace D
open PySem PySem.Spec PyProof.Rows L2
open ToPy (py)
section
variable {K : PySem.W.Frag} {Γ : Ctx} {te : TE}
theorem repL_nil {ds : List PyData} {H : Hp} (h : repL ds [] H) : ds = [] := by
  have := repL_length h
  exact List.length_eq_zero_iff.mp this.symm
theorem s_catT {ds es : List PyData} (hl : ds.length + es.length ≤ 1000000) : R2D (rAddX K) (rpD (.tuple ds)) (rpD (.tuple es)) (rpD (.tuple (ds ++ es))) := fun x y f hp s rx ry Q q => by
  have rx : repD (.tuple ds) x f := rx
  have ry : repD (.tuple es) y f := ry
  simp only [repD] at rx ry
  obtain ⟨p, vs, rfl, h1, h2⟩ := rx
  obtain ⟨p', vs', rfl, h1', h2'⟩ := ry
  have l1 := repL_length h2
  have l2 := repL_length h2'
  refine .inr (.inr (.inr ⟨p, p', vs, vs', rfl, rfl, SqT.of1 (s _ _ h1), SqT.of1 (s _ _ h1'), ?_, fun e => ?_, fun e1 e2 => ?_, fun e1 e2 n hn => ?_⟩))
  · rw [l1, l2]
    exact Nat.le_trans hl (by decide)
  · subst e
    have := repL_nil h2
    subst this
    refine q (.ref p') f hp (.refl s) ?_
    show repD (.tuple ([] ++ es)) _ _
    simp only [List.nil_append, repD]
    exact ⟨p', vs', rfl, h1', h2'⟩
  · subst e2
    have := repL_nil h2'
    subst this
    refine q (.ref p) f hp (.refl s) ?_
    show repD (.tuple (ds ++ [])) _ _
    simp only [List.append_nil, repD]
    exact ⟨p, vs, rfl, h1, h2⟩
  · refine q (.ref n) _ _ (.new s hn) ?_
    show repD (.tuple (ds ++ es)) _ _
    simp only [repD]
    exact ⟨n, vs ++ vs', rfl, upd_same, repL_mono (same_new (s.free hn)) _ _ (repL_append h2 h2')⟩
theorem ev_cutT {ds : List PyData} {tl th : TO} {lo hi : Option Int} (h : EvD Γ te (rpD (.tuple ds))) (h1 : EvP Γ tl lo) (h2 : EvP Γ th hi) : EvD Γ (tSl (rSlX K) te tl th) (rpD (.tuple (cut ds lo hi))) := fun σ f hp s ok Q q =>
  h σ f hp s ok _ fun v f1 hp1 e1 rv => h1 σ f1 hp1 e1.fh (ok.mono e1.ff) _ fun f2 hp2 e2 => h2 σ f2 hp2 e2.fh (ok.mono (e1.trans e2).ff) _ fun f3 hp3 e3 => by
    have rv := RP.mono (rpD (.tuple ds)) rv (e2.trans e3).ff
    have rv : repD (.tuple ds) v f3 := rv
    simp only [repD] at rv
    obtain ⟨p, us, rfl, g1, g2⟩ := rv
    have E := (e1.trans e2).trans e3
    have l := repL_length g2
    refine .inl (.inr ⟨p, us, rfl, SqT.of1 (E.fh _ _ g1), fun w => ?_, fun w n hn => ?_⟩)
    · refine q (.ref p) f3 hp3 E ?_
      show repD (.tuple (cut ds lo hi)) _ _
      have e : cut ds lo hi = ds := by
        unfold cut
        rw [← l, w.1, w.2, l]
        simp
      rw [e]
      simp only [repD]
      exact ⟨p, us, rfl, g1, g2⟩
    · refine q (.ref n) _ _ (E.trans (.new E.fh hn)) ?_
      show repD (.tuple (cut ds lo hi)) _ _
      simp only [repD]
      refine ⟨n, cutV us lo hi, rfl, upd_same, repL_mono (same_new (E.fh.free hn)) _ _ ?_⟩
      unfold cutV cut
      rw [l]
      exact repL_take _ (repL_drop _ g2)
end
theorem sh_intsT (xs : List Int) : Shd (py (Tup.mk xs)) 1 := shd_tup fun d hd => by
  obtain ⟨x, _, rfl⟩ := List.mem_map.mp hd
  exact shd_int x
end D

set_option Elab.async false
set_option linter.all false
set_option maxRecDepth 100000
set_option maxHeartbeats 4000000
/-! Layer D: data laid anew since a heap; promises that tell of the heap; own objects thawed and frozen. -/
namespace D
open PySem PySem.Spec PyProof.Rows L2
open ToPy (py)
abbrev rIsBl : R2 := L2.rIsB
abbrev rIsNotBl : R2 := L2.rNotB
theorem op_is_bl {X : Cx} : OpR X (compareOp .Is) rIsBl := op_isBl
theorem op_isnot_bl {X : Cx} : OpR X (compareOp .IsNot) rIsNotBl := op_notBl
theorem s_notTrue {b : Bool} : R2D rIsNotBl (rep b) (rep true) (rep (!b)) := fun x y f hp s rx ry Q q => by
  cases rep_bool rx
  cases rep_bool ry
  refine ⟨b, true, rfl, rfl, q _ f hp (.refl s) ?_⟩
  have e : (!decide (b = true)) = !b := by cases b <;> rfl
  rw [e]
  exact rep_of_bool _ _
/-! ### what was laid since -/
def offH (b f : Hp) : Hp := fun a => match b a with | none => f a | some _ => none
theorem off_eq {b f : Hp} {a : Addr} (h : b a = none) : offH b f a = f a := by unfold offH; rw [h]
theorem off_some {b f : Hp} {a : Addr} {o : HO} (h : offH b f a = some o) : b a = none ∧ f a = some o := by
  unfold offH at h
  cases e : b a with
  | none => rw [e] at h; exact ⟨rfl, h⟩
  | some _ => rw [e] at h; cases h
theorem off_same {b f : Hp} : Same (offH b f) f := fun a o e => (off_some e).2
theorem off_mono {b f f' : Hp} (s : Same f f') : Same (offH b f) (offH b f') := fun a o e => by
  obtain ⟨h1, h2⟩ := off_some e
  rw [off_eq h1]
  exact s _ _ h2
def Dom (b h : Hp) : Prop := ∀ a, b a ≠ none → h a ≠ none
theorem Dom.refl (b : Hp) : Dom b b := fun _ n => n
theorem Dom.trans {a b c : Hp} (x : Dom a b) (y : Dom b c) : Dom a c := fun z n => y z (x z n)
theorem Dom.of {f h : Hp} (s : Same f h) : Dom f h := fun a n => by
  cases e : f a with
  | none => exact absurd e n
  | some o => rw [s _ _ e]; exact fun z => nomatch z
theorem Dom.free {b h : Hp} (d : Dom b h) {a : Addr} (n : h a = none) : b a = none := by
  cases e : b a with
  | none => rfl
  | some o => exact absurd n (d a (by rw [e]; exact fun z => nomatch z))
theorem off_anti {b b' f : Hp} (d : Dom b b') : Same (offH b' f) (offH b f) := fun a o e => by
  obtain ⟨h1, h2⟩ := off_some e
  rw [off_eq (d.free h1)]
  exact h2
def nw (b : Hp) (R : RP) : RP := ⟨fun v f => R.p v (offH b f), fun h s => R.mono h (off_mono s)⟩
theorem nw_weak {b f : Hp} {R : RP} {v : V} (h : (nw b R).p v f) : R.p v f := R.mono h off_same
theorem nw_anti {b b' f : Hp} {R : RP} {v : V} (d : Dom b b') (h : (nw b' R).p v f) : (nw b R).p v f := R.mono h (off_anti d)
theorem nw_int {b f : Hp} {i : Int} {v : V} (h : (rep i).p v f) : (nw b (rep i)).p v f := by
  cases rep_int h
  exact rep_of_int _ _
section
variable {B : Base} {Γ Γ' : Ctx} {O O' : Own} {σ : L2.St} {f h f' h' : Hp} {te ta to : TE} {t : TA} {R R' : RP} {Rs : List RP} {u : TS} {P : Post} {i j : Nat} {C : Addr} {E : XK} {K : PySem.W.Frag} {Po : RP → Own → Prop} {m : Str} {b : Hp}
theorem es_imp (he : EvS B Γ O te R) (h : ∀ v f, R.p v f → R'.p v f) : EvS B Γ O te R' := fun σ f hp s Q q => he σ f hp s Q fun v f' h' e rv => q v f' h' e (h v f' rv)
theorem ev_imp (he : EvD Γ te R) (h : ∀ v f, R.p v f → R'.p v f) : EvD Γ te R' := fun σ f hp s ok Q q => he σ f hp s ok Q fun v f' h' e rv => q v f' h' e (h v f' rv)
theorem ev_weak (he : EvD Γ te (nw b R)) : EvD Γ te R := ev_imp he fun _ _ => nw_weak
theorem nw_sub {d : PyData} {ds : List PyData} {i : Int} (h : atI ds i = some d) : R2D (rIx K) (nw b (rpD (.tuple ds))) (rep i) (nw b (rpD d)) := fun x y f hp s rx ry Q q => by
  have rx : repD (.tuple ds) x (offH b f) := rx
  simp only [repD] at rx
  obtain ⟨p, vs, rfl, h1, h2⟩ := rx
  cases rep_int ry
  obtain ⟨j, hj, hg⟩ := Option.bind_eq_some_iff.mp h
  obtain ⟨v, hv, rv⟩ := repL_get h2 hg
  refine .inr (.inl ⟨p, vs, i, v, rfl, rfl, SqT.of1 (s _ _ (off_same _ _ h1)), ?_, q v f hp (.refl s) rv⟩)
  unfold atI
  rw [repL_length h2, hj]
  exact hv
theorem Sta.dom (s : Sta B Γ O σ f h) : Dom B.h h := s.th
/-- a new list of whole numbers -/
theorem repL_anyints {xs : List Int} {vs : List V} {H H' : Hp} (h : repL (xs.map PyData.int) vs H) : repL (xs.map PyData.int) vs H' := by
  have e := repL_ints h
  subst e
  clear h
  induction xs with
  | nil => simp only [List.map_nil, repL]
  | cons a l ih =>
    simp only [List.map_cons, repL, repD]
    exact ⟨_, _, rfl, rfl, ih⟩
theorem nw_list {b f : Hp} {p : Addr} {xs : List Int} {vs : List V} {H : Hp} (hb : b p = none) (hf : f p = some (.lst vs)) (hr : repL (xs.map PyData.int) vs H) : (nw b (rep xs)).p (.ref p) f := by
  show repD (.list (xs.map PyData.int)) _ _
  simp only [repD]
  exact ⟨p, vs, rfl, by rw [off_eq hb]; exact hf, repL_anyints hr⟩
theorem es_newN {xs : List Int} (d : Dom b B.h) (x : EvN Γ te (oL xs)) : EvS B Γ O te (nw b (rep xs)) := fun σ f hp s Q q =>
  x σ f hp s.fh s.ok Q fun p o f' h' e hn fn ho ht => by
    obtain ⟨vs, rfl, hr⟩ := ht
    have hb : b p = none := (d.trans s.dom).free hn
    have k := same_new (o := .lst vs) fn
    refine q (.ref p) (upd f' p (.lst vs)) h' ⟨e.ff.trans k, e.hh, fun a u z => ?_, fun a n z => ?_⟩ (nw_list hb upd_same hr)
    · by_cases hp : a = p
      · subst hp
        rw [upd_same] at z
        cases z
        exact ho
      · rw [upd_ne hp] at z
        exact e.fh a u z
    · have : a ≠ p := fun y => n (by rw [y]; exact hn)
      rw [upd_ne this]
      exact e.nf a n z
theorem bd_frzN {xs : List Int} {p : Addr} (j : Nat) (i : Nat) (hi : Γ[i]? = some (some (own p))) (hj : O[j]? = some (p, oL xs)) (hm : B.m = []) (k : BDe B (Γ.set i (some (nw B.h (rep xs)))) (O.eraseIdx j) u P) : BDe B Γ O u P := fun L σ f h s l D q => by
  obtain ⟨o, ho, vs, rfl, hr⟩ := s.get hj
  obtain ⟨s1, k1⟩ := s.freeze hj ho hm
  obtain ⟨v, hv, rv⟩ := s.ok.2 i _ hi
  cases rv
  have hb : B.h p = none := by
    obtain ⟨_, h2, _⟩ := s.ow p _ (List.mem_of_getElem? hj)
    rcases h2 with h2 | h2
    · exact h2
    · rw [hm] at h2; cases h2
  have z : (nw B.h (rep xs)).p (.ref p) (upd f p (.lst vs)) := nw_list hb upd_same hr
  refine k L σ _ h ?_ (l.trans k1) D q
  have s2 := s1.set (i := i) z
  have e : σ.set i (some (.ref p)) = σ := by
    apply List.ext_getElem?
    intro n
    by_cases hn : i = n
    · subst hn
      rw [List.getElem?_set_self (List.getElem?_eq_some_iff.mp hv).1, hv]
    · rw [List.getElem?_set_ne hn]
  rw [e] at s2
  exact s2
theorem All.repLN {ds : List PyData} : ∀ {vs : List V} {H : Hp}, All (ds.map fun d => nw b (rpD d)) vs H → D.repL ds vs (offH b H) := by
  induction ds with
  | nil => intro vs H h; simp only [D.repL]; exact h
  | cons d ds ih =>
    intro vs H h
    obtain ⟨v, r, e, h1, h2⟩ := h
    simp only [D.repL]
    exact ⟨v, r, e, h1, ih h2⟩
theorem es_tupN {ds : List PyData} (d : Dom b B.h) (x : EvAS B Γ O t (ds.map fun d => nw b (rpD d))) (hl : ds.length ≤ 1000000 := by simp) : EvS B Γ O (tTup t) (nw b (rpD (.tuple ds))) := fun σ f hp s Q q =>
  x σ f hp s _ fun vs f' h' e rs => by
    have r := All.repLN rs
    refine ⟨by rw [repL_length r]; exact Nat.le_trans hl (by decide), fun p hn => q (.ref p) _ _ (e.trans (Ext.new e.fh hn)) ?_⟩
    have hb : b p = none := (d.trans s.dom).free (e.hh.free hn)
    show repD (.tuple ds) _ _
    simp only [repD]
    exact ⟨p, vs, rfl, by rw [off_eq hb]; exact upd_same, repL_mono (off_mono (same_new (e.fh.free hn))) _ _ r⟩
theorem ev_strN {x : Str} : EvD Γ (tC (.str x)) (nw b (rep x)) := ev_c fun H => by show repD (.str x) (.str x) (offH b H); simp [repD]
/-- a new list of whole numbers, made of our own objects -/
theorem es_lendN {xs : List Int} (c : LendC O Γ Γ') (x : EvN Γ' te (oL xs)) : EvS B Γ O te (rep xs) := fun σ f hp s Q q =>
  x σ (lent O f hp) hp (lent_h s) (c.ok (lent_f s) (fun p T m => (s.ow p T m).2.2) s.ok) Q fun p o f' h' e hn fn ho ht => by
    obtain ⟨vs, rfl, hr⟩ := ht
    have fp : f p = none := s.fh.free hn
    have k := same_new (o := .lst vs) fp
    refine q (.ref p) (upd f p (.lst vs)) h' ⟨k, e.hh, fun a u z => ?_, fun a n z => ?_⟩ ?_
    · by_cases hp : a = p
      · subst hp
        rw [upd_same] at z
        cases z
        exact ho
      · rw [upd_ne hp] at z
        exact e.hh _ _ (s.fh a u z)
    · have : a ≠ p := fun y => n (by rw [y]; exact hn)
      rw [upd_ne this]
      exact z
    · show repD (.list (xs.map PyData.int)) _ _
      simp only [repD]
      exact ⟨p, vs, rfl, upd_same, repL_anyints hr⟩
/-! ### promises that tell of the heap at the call -/
def spDH (S : Hp → Spec) : Sp := fun vs H Q E => spD (S H) vs H Q E
def spOH (S : Hp → SpecO) : Sp := fun vs H Q E => spO (S H) vs H Q E
theorem es_callH {S : Hp → Spec} (ha : EvAS B Γ O t Rs) (hS : ∀ H, Dom B.h H → ∃ R', S H Rs R' ∧ ∀ v f, R'.p v f → R.p v f) : EvS B Γ O (tCall (spDH S) [] E t) R := fun σ f h s Q q =>
  ha σ f h s _ fun vs f1 h1 e rs => by
    rw [List.append_nil]
    obtain ⟨R', hS, imp⟩ := hS h1 (s.ext e).dom
    exact ⟨Rs, R', f1, hS, e.fh, rs, fun v f' H' e2 rv => q v f' H' (e.trans e2) (imp _ _ rv)⟩
theorem ev_callH {S : Hp → Spec} (ha : EvA Γ t Rs) (hS : ∀ H, ∃ R', S H Rs R' ∧ ∀ v f, R'.p v f → R.p v f) : EvD Γ (tCall (spDH S) [] E t) R := fun σ f hp s ok Q q =>
  ha σ f hp s ok _ fun vs f1 h1 e rs => by
    rw [List.append_nil]
    obtain ⟨R', hS, imp⟩ := hS h1
    exact ⟨Rs, R', f1, hS, e.fh, rs, fun v f' H' e2 rv => q v f' H' (e.trans e2) (imp _ _ rv)⟩
theorem es_methH {S : Hp → Spec} {fs : List (Str × RP)} (x : EvD Γ ta (insR C fs)) (hl : fs.lookup m = none) (ha : EvA Γ t Rs) (hS : ∀ H, Dom B.h H → ∃ R', S H (insR C fs :: Rs) R' ∧ ∀ v f, R'.p v f → R.p v f) : EvS B Γ O (tMeth C m (spDH S) [] E ta t) R := fun σ f hp s Q q =>
  x σ f hp s.fh s.ok _ fun v f1 h1 e rv => by
    obtain ⟨a, dx, fvs, ev, g1, g2⟩ := id rv
    subst ev
    refine ⟨a, dx, fvs, rfl, e.fh _ _ g1, g2.none hl, ha σ f1 h1 e.fh (s.ok.mono e.ff) _ fun vs f2 h2 e2 rs => ?_⟩
    rw [List.append_nil]
    obtain ⟨R', hS, imp⟩ := hS h2 ((s.ext e).ext e2).dom
    exact ⟨insR C fs :: Rs, R', f2, hS, e2.fh, ⟨_, vs, rfl, RP.mono (insR C fs) rv e2.ff, rs⟩, fun v f' H' e3 rv => q v f' H' ((e.trans e2).trans e3) (imp _ _ rv)⟩
theorem ev_methOH {S : Hp → SpecO} {fs : List (Str × RP)} {p : Addr} (j : Nat) (ho : EvD Γ to (own p)) (hj : O[j]? = some (p, insO C fs)) (hl : fs.lookup m = none) (ha : EvAS B Γ O t Rs) (hS : ∀ H, Dom B.h H → S H (D.own p :: Rs) O Po) {Q : V → Hp → Prop} (s : Sta B Γ O σ f h)
    (k : ∀ v f' h' R O', Po R O' → Same f f' → Sta B Γ O' σ f' h' → R.p v f' → Q v h') : tMeth C m (spOH S) [] E to t σ h Q :=
  ho σ f h s.fh s.ok _ fun v f1 h1 e1 rv => by
    cases rv
    have s1 := s.ext e1
    obtain ⟨o, hp, dx, fvs, rfl, hr⟩ := s1.get hj
    refine ⟨p, dx, fvs, rfl, hp, hr.none hl, ha σ f1 h1 s1 _ fun vs f2 h2 e2 rs => ?_⟩
    have s2 := s1.ext e2
    rw [List.append_nil]
    refine ⟨_, O, Po, f2, hS h2 s2.dom, s2.fh, ⟨_, vs, rfl, rfl, rs⟩, s2.own, fun v f' H' R O' hp e3 w rv => ?_⟩
    exact k v f' H' R O' hp ((e1.trans e2).ff.trans e3.ff) (s2.called e3 w) rv
theorem bd_methOH {S : Hp → SpecO} {fs : List (Str × RP)} {p : Addr} (j : Nat) (ho : EvD Γ to (own p)) (hj : O[j]? = some (p, insO C fs)) (hl : fs.lookup m = none) (ha : EvAS B Γ O t Rs) (hS : ∀ H, Dom B.h H → S H (D.own p :: Rs) O Po)
    (k : ∀ R O', Po R O' → BDe B Γ O' u P) : BDe B Γ O (tSeq (tDrop (tMeth C m (spOH S) [] E to t)) u) P := fun L σ f h s l D q =>
  ev_methOH j ho hj hl ha hS s fun v f' h' R O' hp e s' rv => k R O' hp L σ f' h' s' (l.trans e) D q
theorem bd_setMOH {S : Hp → SpecO} {fs : List (Str × RP)} {p : Addr} (j : Nat) (ho : EvD Γ to (own p)) (hj : O[j]? = some (p, insO C fs)) (hl : fs.lookup m = none) (ha : EvAS B Γ O t Rs) (hS : ∀ H, Dom B.h H → S H (D.own p :: Rs) O Po)
    (k : ∀ R O', Po R O' → BDe B (Γ.set i (some R)) O' u P) : BDe B Γ O (tSeq (tAsg (tMeth C m (spOH S) [] E to t) (gName i)) u) P := fun L σ f h s l D q =>
  ev_methOH j ho hj hl ha hS s fun v f' h' R O' hp e s' rv => k R O' hp L _ f' h' (s'.set rv) (l.trans e) D q
/-- an own instance's fields, known less -/
theorem bd_convI {fs fs' : List (Str × RP)} {p : Addr} (imp : ∀ fvs f, RepF fs fvs f → RepF fs' fvs f) (k : BDe B Γ ((p, insO C fs') :: O) u P) : BDe B Γ ((p, insO C fs) :: O) u P := fun L σ f h s l D q =>
  k L σ f h { s with ow := fun p2 T2 hm => (by
                rcases List.mem_cons.mp hm with z | z
                · cases z
                  obtain ⟨g1, g2, o, g3, dx, fvs, e, hr⟩ := s.ow p _ (List.mem_cons_self ..)
                  exact ⟨g1, g2, o, g3, dx, fvs, e, imp _ _ hr⟩
                · exact s.ow p2 T2 (List.mem_cons_of_mem _ z)), nd := s.nd } l D q
/-- all of ours stands from now on -/
theorem bd_frzAll (c : LendC O Γ Γ') (hm : B.m = []) (k : BDe B Γ' [] u P) : BDe B Γ O u P := fun L σ f h s l D q => by
  have lf := lent_f s
  refine k L σ (lent O f h) h ⟨s.ff.trans lf, lent_h s, s.hh, s.th, fun a n z => ?_, c.ok lf (fun p T m => (s.ow p T m).2.2) s.ok, fun _ _ z => (nomatch z), List.nodup_nil⟩ (l.trans lf) D q
  unfold lent
  rw [if_neg fun m => ?_]
  · exact s.nf a n z
  · obtain ⟨⟨p, T⟩, hp, rfl⟩ := List.mem_map.mp m
    obtain ⟨_, g2, _⟩ := s.ow p T hp
    rcases g2 with g2 | g2
    · exact n g2
    · rw [hm] at g2; cases g2
end
/-! ### the bodies -/
section
variable {P : Program} {w : World} {K : PySem.W.Frag} {mg : Str → Option Value} {base : Heap} {x q : Str} {st : Stmt} {N ps : List Str} {k : Nat} {C : Addr} {m : Str} {t : TS}
theorem run_spDH {S : Hp → Spec} {t : TS} (ev : ∀ B : Base, B.m = [] → ∀ Rs R, S B.h Rs R → BDe B (startC N Rs) [] t (fnP B R)) {vs : List V} {H : Hp} {Q : VK} {E : XK} (h : spDH S vs H Q E) : t { nx := fun _ H' => Q .non H', rt := Q } (L2.start N vs) H := by
  obtain ⟨Rs, R, f, hS, s, a, k⟩ := h
  refine ev ⟨f, H, []⟩ rfl Rs R hS f (L2.start N vs) f H ?_ (.refl _) _ ⟨fun σ f' h' _ z => k .non f' h' z.1 z.2, fun v f' h' _ z => k v f' h' z.1 z.2, fun _ _ _ _ z => z.elim, fun _ _ _ _ z => z.elim⟩
  exact { ff := .refl _, fh := s, hh := fun a o e _ => e, th := fun _ n => n, nf := fun _ _ e => e, ok := ok_start a, ow := fun _ _ z => (nomatch z), nd := List.nodup_nil }
theorem okdH {S : Hp → Spec} (F : Def K mg x st ps) (sc : FnScope N ps (defScope st)) (hlen : ∀ H Rs R, S H Rs R → Rs.length = ps.length)
    (hps : ∀ (f : Addr) (cdv : Value) (A : Around) (outer : List Env) (s : Shared) (H : Hp) (E : XK), Room k (A.deeper (envOfC x (defScope st) s.heap.objs.size f cdv)) → PSs (cx0 P w K mg base N x st f cdv A outer s H E) (defBody st) t)
    (ev : ∀ B : Base, B.m = [] → ∀ Rs R, S B.h Rs R → BDe B (startC N Rs) [] t (fnP B R)) : Okd P w K mg base CX0 (k + 1) x ps (spDH S) := by
  obtain ⟨f, fd, hF, hm, hb⟩ := F
  refine ⟨f, fd, hm, hF.kp, hb, hF.ok sc (fun vs H Q E h => ?_) fun cdv A outer s H vs Q E hr h => ⟨t, hps f cdv A outer s H E hr, run_spDH ev h⟩⟩
  obtain ⟨Rs, R, f, hS, _, a, _⟩ := h
  rw [a.length, hlen _ Rs R hS]
theorem okmH {S : Hp → Spec} (F : DefM K C m q st ps) (sc : FnScope N ps (defScope st)) (hlen : ∀ H Rs R, S H Rs R → Rs.length = ps.length)
    (hps : ∀ (f : Addr) (cdv : Value) (A : Around) (outer : List Env) (s : Shared) (H : Hp) (E : XK), Room k (A.deeper (envOfC q (defScope st) s.heap.objs.size f cdv)) → PSs (cx0 P w K mg base N q st f cdv A outer s H E) (defBody st) t)
    (ev : ∀ B : Base, B.m = [] → ∀ Rs R, S B.h Rs R → BDe B (startC N Rs) [] t (fnP B R)) : Okm P w K mg base CX0 (k + 1) C m ps (spDH S) := by
  obtain ⟨f, fd, hF, hm, hb⟩ := F
  refine ⟨f, fd, hm, hb, hF.ok sc (fun vs H Q E h => ?_) fun cdv A outer s H vs Q E hr h => ⟨t, hps f cdv A outer s H E hr, run_spDH ev h⟩⟩
  obtain ⟨Rs, R, f, hS, _, a, _⟩ := h
  rw [a.length, hlen _ Rs R hS]
def RdOH (S : Hp → SpecO) (N : List Str) (t : TS) : Prop := ∀ B : Base, ∀ Rs O Po, S B.h Rs O Po → B.m = O.map (·.1) → BDe B (startC N Rs) O t (fnO B Po)
theorem run_spOH {S : Hp → SpecO} {t : TS} (ev : RdOH S N t) {vs : List V} {H : Hp} {Q : VK} {E : XK} (h : spOH S vs H Q E) : t { nx := fun _ H' => Q .non H', rt := Q } (L2.start N vs) H := by
  obtain ⟨Rs, O, Po, f, hS, s, a, w, k⟩ := h
  have st : Sta ⟨f, H, O.map (·.1)⟩ (startC N Rs) O (L2.start N vs) f H := ⟨.refl _, s, fun a o e _ => e, fun _ n => n, fun _ _ e => e, ok_start a, w.ow, w.nd⟩
  refine ev ⟨f, H, O.map (·.1)⟩ Rs O Po hS rfl f (L2.start N vs) f H st (.refl _) _ ⟨fun σ f' h' _ ⟨R, O', z1, z2, z3, z4⟩ => k .non f' h' R O' z1 z2 z3 z4, fun v f' h' _ ⟨R, O', z1, z2, z3, z4⟩ => k v f' h' R O' z1 z2 z3 z4, fun _ _ _ _ z => z.elim, fun _ _ _ _ z => z.elim⟩
theorem okmOH {S : Hp → SpecO} (F : DefM K C m q st ps) (sc : FnScope N ps (defScope st)) (hlen : ∀ H Rs O Po, S H Rs O Po → Rs.length = ps.length)
    (hps : ∀ (f : Addr) (cdv : Value) (A : Around) (outer : List Env) (s : Shared) (H : Hp) (E : XK), Room k (A.deeper (envOfC q (defScope st) s.heap.objs.size f cdv)) → PSs (cx0 P w K mg base N q st f cdv A outer s H E) (defBody st) t)
    (ev : RdOH S N t) : Okm P w K mg base CX0 (k + 1) C m ps (spOH S) := by
  obtain ⟨f, fd, hF, hm, hb⟩ := F
  refine ⟨f, fd, hm, hb, hF.ok sc (fun vs H Q E h => ?_) fun cdv A outer s H vs Q E hr h => ⟨t, hps f cdv A outer s H E hr, run_spOH ev h⟩⟩
  obtain ⟨Rs, O, Po, f, hS, _, a, _⟩ := h
  rw [a.length, hlen _ Rs O Po hS]
theorem okm0H (F : DefM K C m q st ps) (sc : FnScope N ps (defScope st)) : Okm P w K mg base CX0 (k + 1) C m ps (spOH fun _ _ _ _ => False) := by
  obtain ⟨f, fd, hF, hm, hb⟩ := F
  refine ⟨f, fd, hm, hb, hF.ok sc (fun vs H Q E h => ?_) fun cdv A outer s H vs Q E hr h => ?_⟩
  · obtain ⟨Rs, O, Po, f, hS, _⟩ := h
    exact hS.elim
  · obtain ⟨Rs, O, Po, f, hS, _⟩ := h
    exact hS.elim
end
/-! ### a block from here on: what held before may be gone back to -/
section
variable {B : Base} {Γ Γ' : Ctx} {O O' : Own} {σ : L2.St} {f h f' h' : Hp} {te : TE} {tt : TT} {R R' : RP} {u t1 t2 : TS} {P : Post} {i j : Nat} {b : Bool}
/-- with the ghost of the base below -/
def BDb (B : Base) (Γ : Ctx) (O : Own) (t : TS) (P : Post) : Prop := ∀ σ f h, Sta B Γ O σ f h → ∀ D : Ends, PostOk B.f P D → t D σ h
theorem bdb_of (k : BDe B Γ O u P) : BDb B Γ O u P := fun σ f h s D p => k B.f σ f h s s.ff D p
theorem bdb_set (he : EvS B Γ O te R) (hr : BDb B (Γ.set i (some R)) O u P) : BDb B Γ O (tSeq (tAsg te (gName i)) u) P := fun σ f h s D p =>
  he σ f h s _ fun v f1 h1 e rv => hr _ f1 h1 ((s.ext e).set rv) D p
theorem bdb_if (hc : EvTS B Γ O tt b) (h1 : b = true → BDb B Γ O (tSeq t1 u) P) (h2 : b = false → BDb B Γ O (tSeq t2 u) P) : BDb B Γ O (tSeq (tIfS tt (tSeq t1 tNext) t2) u) P := fun σ f h s D p =>
  hc σ f h s _ fun f1 hp1 e => by
    have s1 := s.ext e
    cases b with
    | true => exact iteT (h1 rfl σ f1 hp1 s1 D p)
    | false => exact iteF (h2 rfl σ f1 hp1 s1 D p)
theorem bdb_conv (k : ∀ σ f h, Sta B Γ O σ f h → ∃ f2 Γ2 O2, Sta B Γ2 O2 σ f2 h ∧ BDb B Γ2 O2 u P) : BDb B Γ O u P := fun σ f h s D p => by
  obtain ⟨f2, Γ2, O2, s2, k2⟩ := k σ f h s
  exact k2 σ f2 h s2 D p
def bs (B : Base) (R : RP) : RP := ⟨fun v f => R.p v B.f ∧ R.p v f, fun h s => ⟨h.1, R.mono h.2 s⟩⟩
def bsC (B : Base) (Γ : Ctx) : Ctx := Γ.map (Option.map (bs B))
theorem bd_rebase (hm : B.m = []) (k : ∀ f h, Dom B.h h → Same f h → BDb ⟨f, h, []⟩ (bsC ⟨f, h, []⟩ Γ) [] u (fnP ⟨f, h, []⟩ R)) : BDe B Γ [] u (fnP B R) := fun L σ f h s l D p => by
  have E := s.toExt hm
  refine k f h s.dom s.fh σ f h ⟨.refl _, s.fh, fun _ _ e _ => e, fun _ n => n, fun _ _ e => e, ⟨by simp [bsC, s.ok.1], fun i R' e => ?_⟩, fun _ _ z => (nomatch z), List.nodup_nil⟩ D ⟨fun σ' f' h' s' ⟨z1, z2⟩ => p.nx σ' f' h' (l.trans s') ⟨E.trans z1, z2⟩, fun v f' h' s' ⟨z1, z2⟩ => p.rt v f' h' (l.trans s') ⟨E.trans z1, z2⟩, fun _ _ _ _ z => z.elim, fun _ _ _ _ z => z.elim⟩
  have e : (Γ[i]?).map (Option.map (bs ⟨f, h, []⟩)) = some (some R') := by
    rw [← e]
    simp [bsC]
  cases g : Γ[i]? with
  | none => rw [g] at e; cases e
  | some x =>
    cases x with
    | none => rw [g] at e; cases e
    | some R0 =>
      rw [g] at e
      cases e
      obtain ⟨v, h1, h2⟩ := s.ok.2 i R0 g
      exact ⟨v, h1, h2, h2⟩
theorem ev_bs {Γ : Ctx} (he : EvD Γ te (bs B R)) : EvD Γ te R := ev_imp he fun _ _ z => z.2
end
end D

set_option Elab.async false
set_option linter.all false
set_option maxRecDepth 100000
set_option maxHeartbeats 4000000
/-! Layer D: enumerate; results whose lists become our own; lists of objects. -/
namespace D
open PySem PySem.Spec PyProof.Rows L2
open ToPy (py)
section
variable {B : Base} {Γ Γ' : Ctx} {O O' : Own} {σ : L2.St} {f h f' h' : Hp} {te ta to : TE} {t : TA} {R R' X : RP} {Rs : List RP} {u : TS} {P : Post} {i j : Nat} {C : Addr} {E : XK} {K : PySem.W.Frag} {tt : TT}
theorem bd_clear' {α : Type} {_ : ToPy α} {xs : List α} {p : Addr} (j : Nat) (ho : EvD Γ to (own p)) (hj : O[j]? = some (p, oL xs)) (k : BDe B Γ (O.set j (p, oL ([] : List α))) u P) : BDe B Γ O (tSeq (tDrop (tBM0 K "list" rClear to)) u) P := fun L σ f h s l D q =>
  ho σ f h s.fh s.ok _ fun v f1 h1 e1 rv => by
    cases rv
    have s1 := s.ext e1
    obtain ⟨o, hp, vs, rfl, hr⟩ := s1.get hj
    refine ⟨.inl ⟨rfl, vs, SqL.of1 hp⟩, p, vs, rfl, rfl, hp, ?_⟩
    exact k L σ f1 _ (s1.put hj ⟨_, rfl, by simp [repL]⟩) (l.trans e1.ff) D q
/-- xs.extend(ys) -/
theorem bd_extend' {α : Type} {_ : ToPy α} {xs ys : List α} {p : Addr} (j : Nat) (ho : EvD Γ to (own p)) (hj : O[j]? = some (p, oL xs)) (he : EvS B Γ O te (rep ys)) (hz : xs.length + ys.length ≤ 1000000) (k : BDe B Γ (O.set j (p, oL (xs ++ ys))) u P) :
    BDe B Γ O (tSeq (tDrop (tBM K "list" rExtend to (tCons te tNil))) u) P := fun L σ f h s l D q =>
  ho σ f h s.fh s.ok _ fun v f1 h1 e1 rv => by
    cases rv
    have s1 := s.ext e1
    obtain ⟨o, hp, vs, rfl, hr⟩ := s1.get hj
    refine ⟨.inl ⟨rfl, vs, SqL.of1 hp⟩, he σ f1 h1 s1 _ fun y f2 h2 e2 ry => ?_⟩
    have s2 := s1.ext e2
    have hp2 : h2 p = some (.lst vs) := e2.hh _ _ hp
    obtain ⟨b, zs, rfl, g1, g2⟩ := rep_list ry
    refine ⟨p, b, vs, zs, rfl, rfl, hp2, e2.fh _ _ g1, ?_, ?_⟩
    · rw [repL_length hr, repL_length g2, List.length_map, List.length_map]
      exact Nat.le_trans hz (by decide)
    · refine k L σ f2 _ (s2.put hj ⟨_, rfl, ?_⟩) ((l.trans e1.ff).trans e2.ff) D q
      rw [List.map_append]
      exact repL_append (repL_mono e2.ff _ _ hr) g2

theorem wi_enum {α : Type} {_ : ToPy α} {xs : List α} (x : EvD Γ ta (rep xs)) : WiD Γ (iEnum K (tCons ta tNil)) xs.length (fun i => rep ((i : Int), at_ xs i)) := fun σ f hp s ok Rk q =>
  x σ f hp s ok _ fun v f1 hp1 e1 rv => by
    obtain ⟨p, vs, rfl, g1, g2⟩ := rep_list rv
    have l1 : vs.length = xs.length := by rw [repL_length g2, List.length_map]
    refine ⟨p, vs, rfl, SqL.of1 (e1.fh _ _ g1), q _ f1 hp1 e1 ⟨fun i f h hi s0 s1 => ?_, fun i f h x h' hlt s0 s1 y => ?_, fun f h s0 s1 => ?_⟩⟩
    · have a1 : i < vs.length := by omega
      exact ⟨vs, vs[i], SqL.of1 (s1 _ _ (s0 _ _ g1)), by simp [a1]⟩
    · obtain ⟨T, x1, rfl, hT, rfl, hx1⟩ := y
      have q1 := hx1 vs (SqL.of1 (s1 _ _ (s0 _ _ g1)))
      refine ⟨_, .new s1 hT, ?_⟩
      have b1 : (xs.map py)[i]? = some (py (at_ xs i)) := by rw [List.getElem?_map, at_some hlt]; rfl
      obtain ⟨c1, c2, c3⟩ := repL_get g2 b1
      have z1 : x1 = c1 := Option.some.inj (q1.symm.trans c2)
      subst z1
      show repD (.tuple [.int (i : Int), py (at_ xs i)]) _ _
      simp only [repD, repL]
      exact ⟨T, _, rfl, upd_same, _, _, rfl, rfl, _, _, rfl, repD_mono (s0.trans (same_new (s1.free hT))) _ _ c3, rfl⟩
    · exact ⟨vs, SqL.of1 (s1 _ _ (s0 _ _ g1)), by omega⟩
/-! exact things -/
def exV (v : V) : RP := ⟨fun u _ => u = v, fun h _ => h⟩
def exL (vs : List V) : RP := ⟨fun v f => ∃ q, v = .ref q ∧ f q = some (.lst vs), fun ⟨q, e, h⟩ s => ⟨q, e, s _ _ h⟩⟩
def anyR : RP := ⟨fun _ _ => True, fun h _ => h⟩
theorem ev_lstEx1 {v : V} (x : EvD Γ te (exV v)) : EvD Γ (tLst (tCons te tNil)) (exL [v]) := fun σ f hp s ok Q q =>
  x σ f hp s ok _ fun u f1 h1 e ru => by
    cases ru
    exact ⟨(show 1 ≤ sizeLine by decide), fun p hn => q (.ref p) _ _ (e.trans (Ext.new e.fh hn)) ⟨p, rfl, upd_same⟩⟩
theorem ev_lstEx2 {v w : V} (x : EvD Γ te (exV v)) (y : EvD Γ ta (exV w)) : EvD Γ (tLst (tCons te (tCons ta tNil))) (exL [v, w]) := fun σ f hp s ok Q q =>
  x σ f hp s ok _ fun u f1 h1 e ru => y σ f1 h1 e.fh (ok.mono e.ff) _ fun u2 f2 h2 e2 ru2 => by
    cases ru
    cases ru2
    exact ⟨(show 2 ≤ sizeLine by decide), fun p hn => q (.ref p) _ _ ((e.trans e2).trans (Ext.new e2.fh hn)) ⟨p, rfl, upd_same⟩⟩
theorem wi_ex {vs : List V} (x : EvD Γ te (exL vs)) : WiD Γ (iList K te) vs.length (fun i => exV (vs.getD i .non)) := fun σ f hp s ok Rk q =>
  x σ f hp s ok _ fun v f1 h1 e rv => by
    obtain ⟨p, rfl, g1⟩ := rv
    refine ⟨p, rfl, ⟨vs, SqL.of1 (e.fh _ _ g1)⟩, q _ f1 h1 e ⟨fun i f h hi s0 s1 => ?_, fun i f h x h' hlt s0 s1 y => ?_, fun f h s0 s1 => ⟨vs, SqL.of1 (s1 _ _ (s0 _ _ g1)), Nat.le_refl _⟩⟩⟩
    · exact ⟨vs, vs[i], SqL.of1 (s1 _ _ (s0 _ _ g1)), by simp [hi]⟩
    · obtain ⟨rfl, y⟩ := y
      have y := y vs (SqL.of1 (s1 _ _ (s0 _ _ g1)))
      refine ⟨f, .refl s1, ?_⟩
      show x = vs.getD i .non
      rw [List.getD_eq_getElem?_getD, y]
      rfl
/-! a result laid anew, whose lists become our own -/
def EvNw (B : Base) (Γ : Ctx) (O : Own) (te : TE) (X : RP) : Prop := ∀ σ f h, Sta B Γ O σ f h → ∀ Q : VK, (∀ v g h1, Ext f h g h1 → (nw h X).p v g → Q v h1) → te σ h Q
theorem es_nwCall {S : Hp → Spec} (c : LendC O Γ Γ') (ha : EvA Γ' t Rs) (hS : ∀ H, S H Rs (nw H X)) : EvNw B Γ O (tCall (spDH S) [] E t) X := fun σ f h s Q q =>
  ha σ (lent O f h) h (lent_h s) (c.ok (lent_f s) (fun p T m => (s.ow p T m).2.2) s.ok) _ fun vs f1 h1 e rs => by
    rw [List.append_nil]
    refine ⟨Rs, nw h1 X, f1, hS h1, e.fh, rs, fun v f' H' e2 rv => ?_⟩
    have EE := e.trans e2
    have rv : (nw h X).p v f' := nw_anti (Dom.of e.hh) rv
    let g : Hp := fun a => match h a with | some _ => f a | none => f' a
    have g1 : ∀ a, h a = none → g a = f' a := fun a z => by show (match h a with | some _ => f a | none => f' a) = _; rw [z]
    have g2 : ∀ a, h a ≠ none → g a = f a := fun a z => by
      show (match h a with | some _ => f a | none => f' a) = _
      cases y : h a with
      | none => exact absurd y z
      | some _ => rfl
    refine q v g H' ⟨fun a o z => ?_, EE.hh, fun a o z => ?_, fun a n z => by rw [g2 a n]; exact z⟩ ?_
    · rw [g2 a (by rw [s.fh _ _ z]; exact fun y => nomatch y)]
      exact z
    · by_cases n : h a = none
      · rw [g1 a n] at z
        exact EE.fh _ _ z
      · rw [g2 a n] at z
        exact EE.hh _ _ (s.fh _ _ z)
    · refine X.mono rv fun a o z => ?_
      obtain ⟨z1, z2⟩ := off_some z
      rw [off_eq z1, g1 a z1]
      exact z2
def rm (f : Hp) (A : List Addr) : Hp := fun a => if a ∈ A then none else f a
theorem rm_same {f : Hp} {A : List Addr} : Same (rm f A) f := fun a o e => by
  unfold rm at e
  split at e
  · cases e
  · exact e
theorem rm_keep {f : Hp} {A : List Addr} {a : Addr} {o : HO} (h : f a = some o) (n : a ∉ A) : rm f A a = some o := by
  unfold rm
  rw [if_neg n]
  exact h
theorem bd_told {rest : TS} {cond : TT} (hE : EvNw B Γ O te X) (hc : EvTS B (Γ.set i (some X)) O cond false)
    (k : ∀ σ f h v g h2, Sta B Γ O σ f h → Ext f h g h2 → (nw h X).p v g → ∃ (R : RP) (LL : List (Addr × List Int)), (∀ l xs, (l, xs) ∈ LL → h l = none ∧ g l = some (.lst (xs.map V.int))) ∧ (LL.map (·.1)).Nodup ∧ R.p v (rm g (LL.map (·.1))) ∧ BDe B (Γ.set i (some R)) (LL.map (fun x => (x.1, oL x.2)) ++ O) rest P) :
    BDe B Γ O (tSeq (tAsg te (gName i)) (tSeq (tIfS cond (tSeq (tRet (tC (.bl false))) tNext) tNext) rest)) P := fun L σ f h s l D q =>
  hE σ f h s _ fun v g h1 e rv => hc _ g h1 ((s.ext e).set (nw_weak rv)) _ fun g2 h2 e2 => iteF (by
    have EE := e.trans e2
    obtain ⟨R, LL, hL, nd, hR, k⟩ := k σ f h v g2 h2 s EE (RP.mono _ rv e2.ff)
    have bk : Same f (rm g2 (LL.map (·.1))) := fun a o z => by
      refine rm_keep (EE.ff _ _ z) fun m => ?_
      obtain ⟨⟨l, xs⟩, hm, rfl⟩ := List.mem_map.mp m
      have := (hL l xs hm).1
      rw [s.fh _ _ z] at this
      cases this
    have rn : ∀ a, g2 a = none → rm g2 (LL.map (·.1)) a = none := fun a z => by
      unfold rm
      split
      · rfl
      · exact z
    refine k L _ (rm g2 (LL.map (·.1))) h2 ⟨s.ff.trans bk, rm_same.trans EE.fh, fun a o z n => EE.hh _ _ (s.hh a o z n), fun a n z => s.th a n (EE.hh.free z), fun a n z => rn a (EE.nf a (s.th a n) (s.nf a n z)), (s.ok.mono bk).set i hR, fun p T hp => ?_, ?_⟩ (l.trans bk) D q
    · rcases List.mem_append.mp hp with hp | hp
      · obtain ⟨⟨l, xs⟩, hm, e⟩ := List.mem_map.mp hp
        cases e
        obtain ⟨h1, h2⟩ := hL l xs hm
        refine ⟨?_, .inl (s.dom.free h1), _, EE.fh _ _ h2, _, rfl, ?_⟩
        · unfold rm
          rw [if_pos (List.mem_map.mpr ⟨_, hm, rfl⟩)]
        · show repL (xs.map PyData.int) _ _
          have : ∀ ys : List Int, repL (ys.map PyData.int) (ys.map V.int) (rm g2 (LL.map (·.1))) := fun ys => by
            induction ys with
            | nil => simp only [List.map_nil, repL]
            | cons a l ih =>
              simp only [List.map_cons, repL, repD]
              exact ⟨_, _, rfl, rfl, ih⟩
          exact this xs
      · obtain ⟨w1, w2, o, w3, w4⟩ := s.ow p T hp
        exact ⟨rn p (EE.nf p (by rw [w3]; exact fun z => nomatch z) w1), w2, o, EE.hh _ _ w3, T.mono w4 bk⟩
    · rw [List.map_append, List.nodup_append]
      refine ⟨by rw [List.map_map]; exact nd, s.nd, fun a ha b hb z => ?_⟩
      rw [List.map_map] at ha
      obtain ⟨⟨l, xs⟩, hm, rfl⟩ := List.mem_map.mp ha
      obtain ⟨⟨p, T⟩, hp, rfl⟩ := List.mem_map.mp hb
      have h1 := (hL l xs hm).1
      obtain ⟨_, _, o, w3, _⟩ := s.ow p T hp
      have z : l = p := z
      rw [← z, h1] at w3
      cases w3)
end
end D

set_option Elab.async false
set_option linter.all false
set_option maxRecDepth 100000
set_option maxHeartbeats 4000000
/-! Layer D: instances whose making may raise; lists of copies. -/
namespace D
open PySem PySem.Spec PyProof.Rows L2
open ToPy (py)
section
variable {X : Cx} {CX : CXT} {k j : Nat} {f C : Addr} {fd : FuncData} {ps : List Str} {sp : Sp} {ds : List Value} {dvs : List V} {E : XK} {x : Str} {p pos : Pos} {e : Expr} {es : List Expr} {t : TA} {W : WX}
theorem run_makeS {pins : List (Addr × Obj)} {σ : L2.St} {H : Hp} {s : Shared} {Q : VK} {us : List Value} {vs : List V} (M : Mk X.K C f) (F : FnOk X.prog X.w X.K X.mg X.base (L2.CX X.prog X.w) k f fd ps sp) (hr : Room (k + 1) X.A) (hb : Binds X.K fd ps ds) (hd : Vals dvs ds)
    (tk : Takes X W) (I : Inv X pins σ H s) (r : Vals vs us)
    (h : ∀ x dx, H x = none → H dx = none → dx ≠ x → sp (.ref x :: (vs ++ dvs)) (upd (upd H dx (.own x)) x (.ins C dx [])) (fun v H2 => v = .non ∧ Q (.ref x) H2) (WE W σ)) :
    wpAny (model X.prog X.w) X.A (call (.ref C) us) (EP X pins σ Q) X.xe s := by
  have hq := h (s.heap.objs.size + 1) s.heap.objs.size (I.hok.fresh (Nat.le_succ _)) (I.hok.fresh (Nat.le_refl _)) (Nat.ne_of_lt (Nat.lt_succ_self _))
  have I2 := Inv.made (C := C) I
  have r2 : Vals (V.ref (s.heap.objs.size + 1) :: (vs ++ dvs)) (Value.ref (s.heap.objs.size + 1) :: (us ++ ds)) := .cons rfl (r.append hd)
  have hl : (Value.ref (s.heap.objs.size + 1) :: us ++ ds).length = ps.length := by
    have e := r2.length
    rw [F.len _ _ _ _ hq] at e
    exact e.symm
  refine wpAny_call (make_map (f := f) I.kIn M.makes M.init (beq_iff_eq.mp M.fn) (codeAny_mono (F.run _ X.stack _ _ ⟨Value.ref (s.heap.objs.size + 1) :: us, []⟩ (Value.ref (s.heap.objs.size + 1) :: (us ++ ds)) _ _ (WE W σ) (hr.make C us [])
    (I2.env0.make C us []) (hb _ (Value.ref (s.heap.objs.size + 1) :: us) I2.kIn hl) r2 hq) fun r s' hq' => ?_))
  cases r with
  | error e => exact passAt tk σ pins _ _ e s' I2 hq'
  | ok fl =>
    cases fl with
    | ret u =>
      obtain ⟨v, H', I3, rv, ev, q3⟩ := I2.after hq'
      subst ev
      exact ⟨rv, ⟨V.ref (s.heap.objs.size + 1), H', I3, rfl, q3⟩⟩
    | next => exact False.elim hq'
    | brk => exact False.elim hq'
    | cont => exact False.elim hq'
def tMakeS (C : Addr) (sp : Sp) (E : L2.St → XK) (t : TA) : TE := fun σ H Q => t σ H fun vs H1 => ∀ x dx, H1 x = none → H1 dx = none → dx ≠ x →
  sp (.ref x :: (vs ++ [])) (upd (upd H1 dx (.own x)) x (.ins C dx [])) (fun v H2 => v = .non ∧ Q (.ref x) H2) (E σ)
theorem pe_makeW (F : Oki X.prog X.w X.K X.mg X.base (L2.CX X.prog X.w) k x C ps sp) (hr : Room j X.A) (tk : Takes X W) (ha : PA X (e :: es) t) (hk : k + 1 ≤ j := by decide) (hg : Gl X x := by rfl) (hdb : (x == ("__debug__" : Str)) = false := by decide)
    (he : starEach (e :: es) X.env = (false, eval e X.env) :: starEach es X.env := by rfl) (hpl : (backTo pos (starEach es X.env)).any (·.1) = false := by rfl) :
    PE X (.Call (.Name x p) (e :: es) [] pos) (tMakeS C sp (WE W) t) := by
  obtain ⟨h1, f, fd, M, h3, h4⟩ := F
  refine ⟨fun pins s σ H Q I h => ?_⟩
  refine wpAny_Call_Name_kw (ld_glob I hg h1 ?_ hdb)
  refine PySem.W.callWith_K (h₀ := X.base) I.ok.mod.kin M.kp (thn (ha.run pos pins s σ H _ I h) fun us s1 ⟨vs, H1, I1, r, q⟩ => ⟨I1.kIn, ?_⟩) he hpl
  exact run_makeS M h4 (hr.mono hk) h3 .nil tk I1 r q
end
def spOX (S : Hp → SpecO) (SE : List RP → Own → Addr → Prop) : Sp := fun vs H Q E => ∃ Rs O f, Same f H ∧ All Rs vs f ∧ OwnOk (O.map (·.1)) H O f H ∧
  ((∃ Po, S H Rs O Po ∧ ∀ v f' H' R O', Po R O' → ExtM (O.map (·.1)) f H f' H' → OwnOk (O.map (·.1)) H O' f' H' → R.p v f' → Q v H') ∨ (∃ C, SE Rs O C ∧ ∀ f' H', ExtM (O.map (·.1)) f H f' H' → E (.ref C) none H'))
section
variable {P : Program} {w : World} {K : PySem.W.Frag} {mg : Str → Option Value} {base : Heap} {x q : Str} {st : Stmt} {N ps : List Str} {k : Nat} {S : Hp → SpecO} {SE : List RP → Own → Addr → Prop} {C : Addr} {t : XK → TS}
theorem okjOX (F : DefJ K mg x C q st ps) (sc : FnScope N ps (defScope st)) (hlen : ∀ H Rs O Po, S H Rs O Po → Rs.length = ps.length) (hlenE : ∀ Rs O C, SE Rs O C → Rs.length = ps.length)
    (hps : ∀ (f : Addr) (cdv : Value) (A : Around) (outer : List Env) (s : Shared) (H : Hp) (E : XK), Room k (A.deeper (envOfC q (defScope st) s.heap.objs.size f cdv)) → PSs (cxX P w K mg base N q st f cdv A outer s H E) (defBody st) (t E))
    (ev : ∀ (B : Base) (E : XK) Rs O Po, S B.h Rs O Po → B.m = O.map (·.1) → BDe B (startC N Rs) O (t E) (fnO B Po))
    (evE : ∀ (B : Base) (E : XK) Rs O C, SE Rs O C → B.m = O.map (·.1) → (∀ f h, ExtM B.m B.f B.h f h → E (.ref C) none h) → BDe B (startC N Rs) O (t E) noP) : Oki P w K mg base (L2.CX P w) (k + 1) x C ps (spOX S SE) := by
  obtain ⟨h1, f, fd, hF, hm, hb⟩ := F
  refine ⟨h1, f, fd, hm, hb, hF.okX sc (fun vs H Q E h => ?_) fun cdv A outer s H vs Q E hr h => ⟨t E, hps f cdv A outer s H E hr, ?_⟩⟩
  · obtain ⟨Rs, O, f, _, a, _, ⟨Po, hS, _⟩ | ⟨C, hS, _⟩⟩ := h
    · rw [a.length, hlen _ Rs O Po hS]
    · rw [a.length, hlenE Rs O C hS]
  · obtain ⟨Rs, O, f, s0, a, w, z⟩ := h
    have st : Sta ⟨f, H, O.map (·.1)⟩ (startC N Rs) O (L2.start N vs) f H := ⟨.refl _, s0, fun a o e _ => e, fun _ n => n, fun _ _ e => e, ok_start a, w.ow, w.nd⟩
    rcases z with ⟨Po, hS, k⟩ | ⟨C, hS, k⟩
    · exact ev ⟨f, H, O.map (·.1)⟩ E Rs O Po hS rfl f (L2.start N vs) f H st (.refl _) _ ⟨fun σ f' h' _ ⟨R, O', z1, z2, z3, z4⟩ => k .non f' h' R O' z1 z2 z3 z4, fun v f' h' _ ⟨R, O', z1, z2, z3, z4⟩ => k v f' h' R O' z1 z2 z3 z4, fun _ _ _ _ z => z.elim, fun _ _ _ _ z => z.elim⟩
    · exact evE ⟨f, H, O.map (·.1)⟩ E Rs O C hS rfl k f (L2.start N vs) f H st (.refl _) _ ⟨fun σ f' h' _ z => z.elim, fun v f' h' _ z => z.elim, fun _ _ _ _ z => z.elim, fun _ _ _ _ z => z.elim⟩
end
section
variable {B : Base} {Γ Γ' : Ctx} {O O' : Own} {σ : L2.St} {f h f' h' : Hp} {te ta to : TE} {t : TA} {R R' : RP} {Rs : List RP} {u : TS} {P : Post} {i j : Nat} {C C' : Addr} {E : XK} {K : PySem.W.Frag} {b : Hp} {S : Hp → SpecO} {SE : List RP → Own → Addr → Prop}
theorem bd_dropXO (hE : ∀ f' h', ExtM B.m B.f B.h f' h' → E (.ref C) none h') (he : EvX Γ te E C) : BDe B Γ O (tSeq (tDrop te) u) P := fun L σ f h s l D p =>
  he σ f h s.fh s.ok (fun f' h' e => hE f' h' ((s.ext e).toM.1)) _
theorem tbe_makeX (ha : EvA Γ t Rs) (hS : ∀ x, SE (own x :: Rs) [(x, insO C [])] C') : TBe B Γ [] (fun W => tSeq (tDrop (tMakeS C (spOX S SE) (WE W) t)) tNext) C' := fun L σ f h s l D W hW =>
  ha σ f h s.fh s.ok _ fun vs f1 h1 e rs => fun x dx hx hdx hne => by
    have s1 := s.ext e
    have s2 := sta_make (C := C) s1 hx hdx
    rw [List.append_nil]
    refine ⟨own x :: Rs, [(x, insO C [])], f1, s2.fh, ⟨_, vs, rfl, rfl, rs⟩, s2.own, .inr ⟨C', hS x, fun f' H' e2 => ?_⟩⟩
    have s3 := s2.called (O' := []) e2 ⟨fun _ _ z => (nomatch z), List.nodup_nil⟩
    exact hW f' H' s3 ((l.trans e.ff).trans e2.ff)
/-- a list laid since -/
def lnR (b : Hp) (R : RP) : RP := ⟨fun v f => R.p v f ∧ ∃ q, v = .ref q ∧ b q = none, fun h s => ⟨R.mono h.1 s, h.2⟩⟩
theorem es_newL {α : Type} {_ : ToPy α} {xs : List α} (d : Dom b B.h) (x : EvN Γ te (oL xs)) : EvS B Γ O te (lnR b (rep xs)) := fun σ f hp s Q q =>
  x σ f hp s.fh s.ok Q fun p o f' h' e hn fn ho ht => by
    obtain ⟨vs, rfl, hr⟩ := ht
    have hb : b p = none := (d.trans s.dom).free hn
    have k := same_new (o := .lst vs) fn
    refine q (.ref p) (upd f' p (.lst vs)) h' ⟨e.ff.trans k, e.hh, fun a u z => ?_, fun a n z => ?_⟩ ⟨?_, p, rfl, hb⟩
    · by_cases hp : a = p
      · subst hp
        rw [upd_same] at z
        cases z
        exact ho
      · rw [upd_ne hp] at z
        exact e.fh a u z
    · have : a ≠ p := fun y => n (by rw [y]; exact hn)
      rw [upd_ne this]
      exact e.nf a n z
    · show repD (.list (xs.map py)) _ _
      simp only [repD]
      exact ⟨p, vs, rfl, upd_same, repL_mono k _ _ hr⟩
/-! ### [list(x) for x in xs]: copies of our own -/
def ownAt (val : Nat → List PyData) : Nat → List Addr → Own
  | _, [] => []
  | i, l :: ls => (l, oLD (val i)) :: ownAt val (i + 1) ls
theorem ownAt_map (val : Nat → List PyData) : ∀ i ls, (ownAt val i ls).map (·.1) = ls
  | _, [] => rfl
  | i, l :: ls => by
    show l :: _ = _
    rw [ownAt_map val (i + 1) ls]
theorem ownAt_snoc (val : Nat → List PyData) (l : Addr) : ∀ i ls, ownAt val i (ls ++ [l]) = ownAt val i ls ++ [(l, oLD (val (i + ls.length)))]
  | i, [] => rfl
  | i, m :: ls => by
    show (m, _) :: ownAt val (i + 1) (ls ++ [l]) = _
    rw [ownAt_snoc val l (i + 1) ls]
    have e : i + 1 + ls.length = i + (m :: ls).length := by simp; omega
    rw [e]
    rfl
theorem bd_setCopies {n : Nat} {wi : TI} {item : Nat → RP} {g : TG} {vs : List Nat} {val : Nat → List PyData} (hw : WiD Γ wi n item) {G' : Nat → Ctx} (ht : ∀ i, i < n → TgL g vs (item i) (wipeC Γ vs) (G' i))
    (he : ∀ i, i < n → EvN (G' i) te (oLD (val i))) (hz : n ≤ 100000) (k : ∀ ls, ls.length = n → BDe B (Γ.set i (some (exL (ls.map V.ref)))) (ownAt val 0 ls ++ O) u P) :
    BDe B Γ O (tSeq (tAsg (tLc wi g tYes te vs) (gName i)) u) P := fun L σ f h s l D q =>
  hw σ f h s.fh s.ok _ fun J f1 h1 e J1 DD hD => by
    refine ⟨fun i m h' => m = n - i ∧ i ≤ n ∧ ∃ f' ls, Same f1 f' ∧ Ext f h f' h' ∧ f' DD = none ∧ ls.length = i ∧ h' DD = some (.lst (ls.map V.ref)) ∧ Sta B Γ (ownAt val 0 ls ++ O) σ f' h' ∧ (∀ a ∈ ls, a ≠ DD), ⟨n, by simp, Nat.zero_le _, f1, [], .refl _, ⟨e.ff, e.hh.trans (same_new hD), e.fh.trans (same_new hD), e.nf⟩, e.fh.free hD, rfl, upd_same, ?_, by simp⟩, ?_⟩
    · have E : Ext f h f1 (upd h1 DD (.lst [])) := ⟨e.ff, e.hh.trans (same_new hD), e.fh.trans (same_new hD), e.nf⟩
      exact s.ext E
    rintro i m h' ⟨rfl, hi, f', ls, k1, EE, hf, len, hu, st, nD⟩
    by_cases hlt : i < n
    · refine .inr ⟨J1.go i f' h' hlt k1 EE.fh, fun h2 => ∃ f2 ls2, Same f1 f2 ∧ Ext f h f2 h2 ∧ f2 DD = none ∧ ls2.length = i + 1 ∧ h2 DD = some (.lst (ls2.map V.ref)) ∧ Sta B Γ (ownAt val 0 ls2 ++ O) σ f2 h2 ∧ (∀ a ∈ ls2, a ≠ DD), fun h2 ⟨f2, ls2, a, b, c, d, e, f, g⟩ => ⟨n - (i + 1), by omega, rfl, hlt, f2, ls2, a, b, c, d, e, f, g⟩, fun x h2 y => ?_⟩
      obtain ⟨f2, e2, rx⟩ := J1.yld i f' h' x h2 hlt k1 EE.fh y
      have st2 := st.ext e2
      have ok2 : Ok (wipeC Γ vs) (wipe σ vs) f2 := st2.ok.wipe vs
      have hu2 : h2 DD = some (.lst (ls.map V.ref)) := e2.hh _ _ hu
      have fD2 : f2 DD = none := e2.nf DD (by rw [hu]; exact fun z => nomatch z) hf
      refine ht i hlt _ f2 h2 e2.fh ok2 x rx _ fun σ3 hw3 ok3 => ⟨by rw [hw3]; exact wipe_idem vs vs fun _ z => z, ?_⟩
      refine et_yes (Γ := G' i) σ3 f2 h2 e2.fh ok3 _ fun f3 h3 e3 => iteT (he i hlt σ3 f3 h3 e3.fh (ok3.mono e3.ff) _ fun p o f4 h4 e4 hn fn ho htt => ?_)
      have st3 := (st2.ext e3).ext e4
      have hu3 : h3 DD = some (.lst (ls.map V.ref)) := e3.hh _ _ hu2
      have hu4 := e4.hh _ _ hu3
      have fD4 : f4 DD = none := (e3.trans e4).nf DD (by rw [hu2]; exact fun z => nomatch z) fD2
      have pne : p ≠ DD := fun z => by
        rw [z, hu3] at hn
        cases hn
      have E4 : Ext f h f4 h4 := ((EE.trans e2).trans e3).trans e4
      have hD0 : h DD = none := e.hh.free hD
      refine ⟨ls.map V.ref, hu4, by rw [List.length_map, len]; exact Nat.lt_of_lt_of_le hlt (Nat.le_trans hz (by decide)), f4, ls ++ [p], ((k1.trans e2.ff).trans e3.ff).trans e4.ff, ⟨E4.ff, same_upd E4.hh hD0, same_upd E4.fh fD4, E4.nf⟩, fD4, by rw [List.length_append, len]; rfl, by rw [upd_same, List.map_append]; rfl, ?_, ?_⟩
      · have bp : B.h p = none := ((st2.ext e3).dom).free hn
        have nu : ∀ a o, a ≠ DD → h4 a = some o → upd h4 DD (.lst (ls.map V.ref ++ [V.ref p])) a = some o := fun a o n z => by rw [upd_ne n]; exact z
        have bD : B.h DD = none := s.dom.free hD0
        refine ⟨st3.ff, same_upd st3.fh fD4, fun a o z n => ?_, fun a n => ?_, st3.nf, st3.ok, fun p2 T2 hm => ?_, ?_⟩
        · refine nu a o (fun y => ?_) (st3.hh a o z n)
          rw [y, bD] at z
          cases z
        · by_cases y : a = DD
          · rw [y, bD] at n
            exact absurd rfl n
          · rw [upd_ne y]
            exact st3.th a n
        · rw [ownAt_snoc, List.append_assoc] at hm
          have old : (p2, T2) ∈ ownAt val 0 ls ++ O → f4 p2 = none ∧ (B.h p2 = none ∨ p2 ∈ B.m) ∧ ∃ o, upd h4 DD (.lst (ls.map V.ref ++ [V.ref p])) p2 = some o ∧ T2.q o f4 := fun hm => by
            obtain ⟨w1, w2, o2, w3, w4⟩ := st3.ow p2 T2 hm
            refine ⟨w1, w2, o2, nu _ _ (fun y => ?_) w3, w4⟩
            rcases List.mem_append.mp hm with hm | hm
            · have : p2 ∈ (ownAt val 0 ls).map (·.1) := List.mem_map.mpr ⟨_, hm, rfl⟩
              rw [ownAt_map] at this
              exact nD _ this y
            · obtain ⟨_, _, o5, z5, _⟩ := s.ow p2 T2 hm
              rw [y, hD0] at z5
              cases z5
          rcases List.mem_append.mp hm with hm | hm
          · exact old (List.mem_append.mpr (.inl hm))
          · rcases List.mem_append.mp hm with hm | hm
            · simp only [Nat.zero_add, List.mem_singleton] at hm
              cases hm
              exact ⟨fn, .inl bp, o, nu _ _ pne ho, by rw [len]; exact htt⟩
            · exact old (List.mem_append.mpr (.inr hm))
        · have nd := st3.nd
          rw [List.map_append, ownAt_map] at nd
          rw [List.map_append, ownAt_map, List.append_assoc]
          have np : p ∉ ls ++ O.map (·.1) := fun hm => by
            have : p ∈ (ownAt val 0 ls ++ O).map (·.1) := by rw [List.map_append, ownAt_map]; exact hm
            obtain ⟨⟨p3, T3⟩, hp3, rfl⟩ := List.mem_map.mp this
            obtain ⟨_, _, o3, z3, _⟩ := (st2.ext e3).ow p3 T3 hp3
            rw [hn] at z3
            cases z3
          rw [List.nodup_append] at nd ⊢
          obtain ⟨n1, n2, n3⟩ := nd
          refine ⟨n1, ?_, ?_⟩
          · show (p :: O.map (·.1)).Nodup
            rw [List.nodup_cons]
            exact ⟨fun z => np (List.mem_append.mpr (.inr z)), n2⟩
          · intro a ha b hb
            rcases List.mem_append.mp hb with hb | hb
            · rw [List.mem_singleton.mp hb]
              exact fun z => np (List.mem_append.mpr (.inl (z ▸ ha)))
            · exact n3 a ha b hb
      · intro a ha
        rcases List.mem_append.mp ha with ha | ha
        · exact nD a ha
        · rw [List.mem_singleton.mp ha]
          exact pne
    · have e3 : i = n := by omega
      subst e3
      refine .inl ⟨J1.stop f' h' k1 EE.fh, ?_⟩
      -- the list itself stands
      have k2 := same_new (o := .lst (ls.map V.ref)) hf
      have hD0 : h DD = none := e.hh.free hD
      have bD : B.h DD = none := s.dom.free hD0
      have st5 : Sta B Γ (ownAt val 0 ls ++ O) σ (upd f' DD (.lst (ls.map V.ref))) h' := by
        refine ⟨st.ff.trans k2, fun a o z => ?_, st.hh, st.th, fun a n z => ?_, st.ok.mono k2, fun p2 T2 hm => ?_, st.nd⟩
        · by_cases y : a = DD
          · subst y
            rw [upd_same] at z
            cases z
            exact hu
          · rw [upd_ne y] at z
            exact st.fh _ _ z
        · have : a ≠ DD := fun y => n (by rw [y]; exact bD)
          rw [upd_ne this]
          exact st.nf a n z
        · obtain ⟨w1, w2, o2, w3, w4⟩ := st.ow p2 T2 hm
          have : p2 ≠ DD := fun y => by
            rcases List.mem_append.mp hm with hm | hm
            · have : p2 ∈ (ownAt val 0 ls).map (·.1) := List.mem_map.mpr ⟨_, hm, rfl⟩
              rw [ownAt_map] at this
              exact nD _ this y
            · obtain ⟨_, _, o5, z5, _⟩ := s.ow p2 T2 hm
              rw [y, hD0] at z5
              cases z5
          exact ⟨by rw [upd_ne this]; exact w1, w2, o2, w3, T2.mono w4 k2⟩
      exact k ls len L _ _ h' (st5.set (R := exL (ls.map V.ref)) ⟨DD, rfl, upd_same⟩) ((l.trans EE.ff).trans k2) D q
end
end D

set_option Elab.async false
set_option linter.all false
set_option maxRecDepth 100000
set_option maxHeartbeats 4000000
/-! Layer D: a tuple, so many times. -/
namespace L2
open PySem PySem.Spec PyProof.Rows
theorem tuple_mul1 (l : Addr) (items : Array Value) (n : Nat) (dd : Option Addr) (sl : Array (Option Value)) (u : Tok) :
    Meets (Builtin.«tuple.__mul__» ⟨[.ref l, .int 1 u], []⟩) (fun _ R s => s.heap.get? l = some { cls := .type "tuple", dict := dd, data := .seq items n, slots := sl } ∧ R (.ok (.ret (Value.ref l))) s) :=
  .of_wp fun prog w A R s h => by
    obtain ⟨hp, g, d, tk, os⟩ := s
    obtain ⟨hl, h⟩ := h
    have f1 := AutoSeq1.idx_int
    have c1 : (items.isEmpty || (1 : Int) == 1) = true := by simp
    wp_walk using wpAny_loadPart' hl
    repeat (first
      | (refine wpAny_ite_false (decide_eq_false (by decide)) ?_; wp_walk using wpAny_loadPart' hl)
      | (refine wpAny_ite_true (decide_eq_true (by rw [c1])) ?_; wp_walk using wpAny_loadPart' hl))
    exact ⟨_, rfl, h⟩
def rRepT1 (K : PySem.W.Frag) : R2 := fun x y H Q => ∃ l xs, x = .ref l ∧ y = .int 1 ∧ SqT K H l xs ∧ Q (.ref l) H
section
variable {X : Cx}
theorem op_repT1 : OpR X (binaryOp .Mult) (rRepT1 X.K) := by
  intro pins s σ H x y v u Q I rx ry h
  obtain ⟨l, xs, rfl, rfl, hT, q⟩ := h
  cases rx
  obtain ⟨t, rfl⟩ := ry
  obtain ⟨its, r, ⟨⟨cls, dd, data, sl⟩, ho, hc, n, hd⟩, hs⟩ := I.tuple hT
  simp only at hc hd
  subst hc hd
  refine wpAny_binaryOp_repeat_ref (T := "tuple") (U := "int") (by decide) ⟨_, ho, rfl⟩ (fun s' => typeIs_int s' 1 t) noFill_tuple_mul F.fills_int_mul F.slot_int_rmul repeat_tuple F.slot_int_index.lookup
    (call_meets F.slot_int_rmul (typeIs_int s 1 t) F.entry_int_rmul (F.args_int_rmul_2 _ _) (int_rmul_tuple 1 t l its.toArray n dd sl)
      ⟨ho, rfl, ⟨_, ho, rfl⟩, call_meets F.slot_tuple_mul ⟨_, ho, rfl⟩ F.entry_tuple_mul (F.args_tuple_mul_2 _ _) (tuple_mul1 l its.toArray n dd sl t) ⟨ho, ?_⟩⟩)
  exact ⟨.ref l, H, I, rfl, q⟩
end
end L2
namespace D
open PySem PySem.Spec PyProof.Rows L2
open ToPy (py)
def rMulY (K : PySem.W.Frag) : R2 := rOr (rMulX K) (rRepT1 K)
theorem op_mulY {X : Cx} : OpR X (binaryOp .Mult) (rMulY X.K) := op_mulX.or op_repT1
section
variable {K : PySem.W.Frag} {Γ : Ctx}
theorem flat_one (v : V) : ∀ n, (List.replicate n [v]).flatten = List.replicate n v
  | 0 => rfl
  | n + 1 => by
    rw [List.replicate_succ, List.flatten_cons, flat_one v n, List.replicate_succ]
    rfl
theorem repL_rep {d : PyData} {v : V} {H : Hp} (h : repD d v H) : ∀ n, repL (List.replicate n d) (List.replicate n v) H
  | 0 => by simp only [List.replicate_zero, repL]
  | n + 1 => by
    simp only [List.replicate_succ, repL]
    exact ⟨v, _, rfl, h, repL_rep h n⟩
theorem s_repT {d : PyData} {n : Nat} (h1 : 1 ≤ n) (h2 : n ≤ 1000) : R2D (rMulY K) (rpD (.tuple [d])) (rep (n : Int)) (rpD (.tuple (List.replicate n d))) := fun x y f hp s rx ry Q q => by
  have rx : repD (.tuple [d]) x f := rx
  simp only [repD, repL] at rx
  obtain ⟨p, vs, rfl, g1, v, r, rfl, g2, rfl⟩ := rx
  cases rep_int ry
  by_cases e : n = 1
  · subst e
    refine .inr ⟨p, [v], rfl, rfl, SqT.of1 (s _ _ g1), q (.ref p) f hp (.refl s) ?_⟩
    show repD (.tuple [d]) _ _
    simp only [repD, repL]
    exact ⟨p, _, rfl, g1, v, [], rfl, g2, rfl⟩
  · refine .inl (.inr (.inr ⟨p, (n : Int), [v], rfl, rfl, SqT.of1 (s _ _ g1), by simp, by omega, by omega, by simp, fun m hm => ?_⟩))
    rw [Int.toNat_natCast, flat_one]
    refine q (.ref m) _ _ (.new s hm) ?_
    show repD (.tuple (List.replicate n d)) _ _
    simp only [repD]
    exact ⟨m, _, rfl, upd_same, repL_mono (same_new (s.free hm)) _ _ (repL_rep g2 n)⟩
end
end D

set_option Elab.async false
set_option linter.all false
set_option maxRecDepth 100000
set_option maxHeartbeats 4000000
/-! Layer D: texts. -/
namespace L2
open PySem PySem.Spec PyProof.Rows
def rRepS : R2 := fun x y H Q => ∃ (z : Str) (n : Int), x = .str z ∧ y = .int n ∧ z.length = 1 ∧ 1 < n ∧ n ≤ 100000 ∧ Q (.str ⟨(List.replicate n.toNat z.cps).foldl (· ++ ·) #[]⟩) H
theorem fold_size : ∀ (n : Nat) (z : Array Nat) (a : Array Nat), ((List.replicate n z).foldl (· ++ ·) a).size = a.size + n * z.size
  | 0, z, a => by simp
  | n + 1, z, a => by
    rw [List.replicate_succ, List.foldl_cons, fold_size n z (a ++ z), Array.size_append, Nat.succ_mul]
    omega
section
variable {X : Cx}
theorem op_mulZ : OpR X (binaryOp .Mult) rRepS := by
  intro pins s σ H x y v u Q I rx ry h
  obtain ⟨z, n, rfl, rfl, hl, h1, h2, q⟩ := h
  obtain ⟨t, rfl⟩ := rx
  obtain ⟨t', rfl⟩ := ry
  have e1 : (n == 1 || z.length == 0) = false := by
    rw [hl]
    simp
    omega
  have hs : z.cps.size = 1 := hl
  refine P.mul_str (by
    rw [decide_eq_false (by omega : ¬ n < -(2 ^ 63 : Int)), decide_eq_false (by omega : ¬ n ≥ 2 ^ 63)]
    rfl) (fun _ _ => ?_) (fun _ _ => ?_) ?_
  · rw [hl]
    have : (1 : Int) ≤ (2 ^ 63 - 1) / n := by
      apply (Int.le_ediv_iff_mul_le (by omega)).mpr
      omega
    simp only [gt_iff_lt]
    omega
  · rw [hl]
    unfold Builtin.Str.tooLong
    apply decide_eq_false
    have : sizeLine = 16777216 := rfl
    omega
  · rw [if_neg (by omega), if_neg (by rw [e1]; exact Bool.false_ne_true)]
    refine ⟨?_, .str _, H, I.tok _, ⟨_, rfl⟩, q⟩
    show ((List.replicate n.toNat z.cps).foldl (· ++ ·) #[]).size ≤ sizeLine
    rw [fold_size, hs]
    have : sizeLine = 16777216 := rfl
    simp
    omega
def rSplitX : V → List V → Hp → VK → Prop := fun x xs H Q => ∃ a b, x = .str a ∧ xs = [.str b] ∧ (b.length == 0) = false ∧ a.length + 2 ≤ sizeLine ∧ rNewStrs (Txt.split a b) H Q
def rJoinX (K : PySem.W.Frag) : V → List V → Hp → VK → Prop := fun x xs H Q => ∃ a p, ∃ ys : List Str, x = .str a ∧ xs = [.ref p] ∧ (SqL K H p (ys.map V.str) ∨ SqT K H p (ys.map V.str)) ∧ (ys.map (·.length)).sum + ys.length * a.length ≤ 16777216 ∧ Q (.str (Txt.join a ys)) H
def tSplitX (to te : TE) : TE := tM1 rSplitX to te
def tJoinX (K : PySem.W.Frag) (to te : TE) : TE := tM1 (rJoinX K) to te
variable {o e : Expr} {to te : TE}
theorem pe_splitX {apos pos : Pos} (ho : PE X o to) (he : PE X e te) (hs : starEach [e] X.env = [(false, eval e X.env)] := by rfl) (hbase : attributeBase o "split" X.env (eval o X.env) = eval o X.env := by rfl) (hline : (apos.endLine == pos.line) = true := by rfl) :
    PE X (.Call (.Attribute o "split" apos) [e] [] pos) (tSplitX to te) := pe_split ho he hs hbase hline
theorem pe_joinX {apos pos : Pos} (ho : PE X o to) (he : PE X e te) (hs : starEach [e] X.env = [(false, eval e X.env)] := by rfl) (hbase : attributeBase o "join" X.env (eval o X.env) = eval o X.env := by rfl) (hline : (apos.endLine == pos.line) = true := by rfl) :
    PE X (.Call (.Attribute o "join" apos) [e] [] pos) (tJoinX X.K to te) := pe_join ho he hs hbase hline
end
end L2
namespace D
open PySem PySem.Spec PyProof.Rows L2
open ToPy (py)
section
variable {K : PySem.W.Frag} {Γ : Ctx} {te to ta tb : TE} {t : TA} {E : XK} {C : Addr} {R : RP}
theorem szl : sizeLine = 16777216 := rfl
theorem s_repS {z : Str} {n : Int} (hl : z.length = 1) (h1 : 1 < n) (h2 : n ≤ 100000) : R2D rRepS (rep z) (rep n) (rep (⟨(List.replicate n.toNat z.cps).foldl (· ++ ·) #[]⟩ : Str)) := fun x y f hp s rx ry Q q => by
  cases rep_str rx
  cases rep_int ry
  exact ⟨z, n, rfl, rfl, hl, h1, h2, q _ f hp (.refl s) (rep_of_str _ _)⟩
theorem repL_strs : ∀ {xs : List Str} {vs : List V} {H : Hp}, repL (xs.map py) vs H → vs = xs.map V.str
  | [], _, _, h => by simpa only [repL, List.map_nil] using h
  | x :: xs, _, _, h => by
    have h : repL (PyData.str x :: xs.map py) _ _ := h
    simp only [repL, repD] at h
    obtain ⟨v, r, e1, e2, h2⟩ := h
    subst e1 e2
    rw [List.map_cons, ← repL_strs h2]
theorem repL_of_strs : ∀ (xs : List Str) (H : Hp), repL (xs.map py) (xs.map V.str) H
  | [], _ => by simp [repL]
  | x :: xs, H => by
    show repL (PyData.str x :: xs.map py) (V.str x :: xs.map V.str) H
    simp only [repL, repD]
    exact ⟨_, _, rfl, rfl, repL_of_strs xs H⟩
/-- x.split(sep): a new list -/
theorem en_split {x y : Str} (h : EvD Γ to (rep x)) (h2 : EvD Γ te (rep y)) (hy : (y.length == 0) = false) (hl : x.length ≤ 1000000) : EvN Γ (tSplitX to te) (oL (Txt.split x y)) := fun σ f hp s ok Q q =>
  h σ f hp s ok _ fun v f1 h1 e1 rv => by
    cases rep_str rv
    refine ⟨⟨x, rfl⟩, h2 σ f1 h1 e1.fh (ok.mono e1.ff) _ fun u f2 h2 e2 ru => ?_⟩
    cases rep_str ru
    refine ⟨x, y, rfl, rfl, hy, by rw [szl]; omega, fun p hn => ?_⟩
    have E := e1.trans e2
    exact q p _ f2 _ (E.trans (.newH E.fh hn)) (E.hh.free hn) (E.fh.free hn) upd_same ⟨_, rfl, repL_of_strs _ _⟩
theorem ev_split {x y : Str} (h : EvD Γ to (rep x)) (h2 : EvD Γ te (rep y)) (hy : (y.length == 0) = false) (hl : x.length ≤ 1000000) : EvD Γ (tSplitX to te) (rep (Txt.split x y)) := ev_new (en_split h h2 hy hl)
theorem ev_join {x : Str} {ys : List Str} (h : EvD Γ to (rep x)) (h2 : EvD Γ te (rep ys)) (hl : (ys.map (·.length)).sum + ys.length * x.length ≤ 16777216) : EvD Γ (tJoinX K to te) (rep (Txt.join x ys)) := fun σ f hp s ok Q q =>
  h σ f hp s ok _ fun v f1 h1 e1 rv => by
    cases rep_str rv
    refine ⟨⟨x, rfl⟩, h2 σ f1 h1 e1.fh (ok.mono e1.ff) _ fun u f2 h2 e2 ru => ?_⟩
    obtain ⟨p, us, rfl, g1, g2⟩ := rep_list ru
    have e := repL_strs g2
    subst e
    exact ⟨x, p, ys, rfl, rfl, .inl (SqL.of1 (e2.fh _ _ g1)), hl, q _ f2 h2 (e1.trans e2) (rep_of_str _ _)⟩
theorem ev_cutS {z : Str} {tl th : TO} {lo hi : Option Int} (h : EvD Γ te (rep z)) (h1 : EvP Γ tl lo) (h2 : EvP Γ th hi) (hz : z.length ≤ 1000000) : EvD Γ (tSl (rSlX K) te tl th) (rep (cutS z lo hi)) := fun σ f hp s ok Q q =>
  h σ f hp s ok _ fun v f1 hp1 e1 rv => h1 σ f1 hp1 e1.fh (ok.mono e1.ff) _ fun f2 hp2 e2 => h2 σ f2 hp2 e2.fh (ok.mono (e1.trans e2).ff) _ fun f3 hp3 e3 => by
    cases rep_str rv
    exact .inr ⟨z, rfl, by rw [szl]; omega, q _ f3 hp3 ((e1.trans e2).trans e3) (rep_of_str _ _)⟩
theorem s_catS {a b : Str} (h : a.length + b.length ≤ 1000000) : R2D (rAddX K) (rep a) (rep b) (rep (a ++ b)) := fun x y f hp s rx ry Q q => by
  cases rep_str rx
  cases rep_str ry
  exact .inr (.inr (.inl ⟨a, b, rfl, rfl, by rw [szl]; omega, q _ f hp (.refl s) (rep_of_str _ _)⟩))
theorem s_ixStr {z : Str} {i : Int} {k : Nat} (hz : z.length ≤ 1000000) (h : atI z.cps.toList i = some k) : R2D (rIx K) (rep z) (rep i) (rep (⟨#[k]⟩ : Str)) := fun x y f hp s rx ry Q q => by
  cases rep_str rx
  cases rep_int ry
  exact .inr (.inr ⟨z, i, k, rfl, rfl, by rw [szl]; omega, h, q _ f hp (.refl s) (rep_of_str _ _)⟩)
theorem s_ninSg {k : Nat} {z : Str} : R2D (rNinX K) (rep (⟨#[k]⟩ : Str)) (rep z) (rep (!decide (k ∈ z.cps.toList))) := fun x y f hp s rx ry Q q => by
  cases rep_str rx
  cases rep_str ry
  exact .inr ⟨k, z, rfl, rfl, q _ f hp (.refl s) (rep_of_bool _ _)⟩
/-- for c in x -/
theorem wi_str {x : Str} (h : EvD Γ te (rep x)) : WiD Γ (iStr te) x.cps.toList.length (fun i => rep (⟨#[x.cps.toList.getD i 0]⟩ : Str)) := fun σ f hp s ok Rk q =>
  h σ f hp s ok _ fun v f1 h1 e1 rv => by
    cases rep_str rv
    refine ⟨x, rfl, q _ f1 h1 e1 ⟨fun i f' h' hi _ _ => by show i < x.cps.size; simpa using hi, fun i f' h' y h2 hi a b z => ?_, fun f' h' _ _ => by simp [Its]⟩⟩
    obtain ⟨rfl, k, hk, rfl⟩ := z
    refine ⟨f', .refl b, ?_⟩
    have e : x.cps.toList.getD i 0 = k := by
      rw [List.getD_eq_getElem?_getD, Array.getElem?_toList, hk]
      rfl
    rw [e]
    exact rep_of_str _ _
/-- w not in [a, b] -/
theorem s_ninL2 {w a b : Str} : R2D (rNinX K) (rep w) (rep [a, b]) (rep (!(decide (w = a) || decide (w = b)))) := fun u y f hp s rx ry Q q => by
  cases rep_str rx
  obtain ⟨p, vs, rfl, h1, h2⟩ := rep_list ry
  have e := repL_strs h2
  subst e
  refine .inl ⟨p, _, rfl, .inl (SqL.of1 (s _ _ h1)), rfl, rfl, ?_⟩
  have e : (if true = true then !inV (.str w) ([a, b].map V.str) else inV (.str w) ([a, b].map V.str)) = !(decide (w = a) || decide (w = b)) := by
    have q : ∀ a b : Str, (a == b) = decide (b = a) := fun a b => by
      by_cases e : a = b
      · subst e; simp
      · rw [decide_eq_false (fun z => e z.symm)]; exact beq_eq_false_iff_ne.mpr e
    simp [inV, eqV, q]
  rw [e]
  exact q _ f hp (.refl s) (rep_of_bool _ _)
/-- None in xs -/
def optV : Option Int → V
  | none => .non
  | some i => .int i
theorem repL_opts : ∀ {xs : List (Option Int)} {vs : List V} {H : Hp}, repL (xs.map py) vs H → vs = xs.map optV
  | [], _, _, h => by simpa only [repL, List.map_nil] using h
  | none :: xs, _, _, h => by
    have h : repL (PyData.none :: xs.map py) _ _ := h
    simp only [repL, repD] at h
    obtain ⟨v, r, e1, e2, h2⟩ := h
    subst e1 e2
    rw [List.map_cons, ← repL_opts h2]
    rfl
  | some x :: xs, _, _, h => by
    have h : repL (PyData.int x :: xs.map py) _ _ := h
    simp only [repL, repD] at h
    obtain ⟨v, r, e1, e2, h2⟩ := h
    subst e1 e2
    rw [List.map_cons, ← repL_opts h2]
    rfl
theorem inV_opts : ∀ xs : List (Option Int), inV .non (xs.map optV) = decide (none ∈ xs)
  | [] => by simp [inV]
  | none :: xs => by simp [inV, eqV, optV]
  | some x :: xs => by
    have e : inV .non ((some x :: xs).map optV) = inV .non (xs.map optV) := by
      simp [inV, eqV, optV]
    rw [e, inV_opts xs]
    simp
theorem flatv_opts : ∀ xs : List (Option Int), (xs.map optV).all flatV = true
  | [] => rfl
  | none :: xs => by
    rw [List.map_cons, List.all_cons, flatv_opts xs]
    rfl
  | some x :: xs => by
    rw [List.map_cons, List.all_cons, flatv_opts xs]
    rfl
theorem s_inNone {xs : List (Option Int)} : R2D (rInX K) (rep ()) (rep xs) (rep (decide (none ∈ xs))) := fun u y f hp s rx ry Q q => by
  cases rep_unit rx
  obtain ⟨p, vs, rfl, h1, h2⟩ := rep_list ry
  have e := repL_opts h2
  subst e
  refine .inl ⟨p, _, rfl, .inl (SqL.of1 (s _ _ h1)), rfl, ?_, ?_⟩
  · exact flatv_opts xs
  · have e : (if false = true then !inV .non (xs.map optV) else inV .non (xs.map optV)) = decide (none ∈ xs) := inV_opts xs
    rw [e]
    exact q _ f hp (.refl s) (rep_of_bool _ _)
/-! ### what raises within an expression -/
def EvAX (Γ : Ctx) (t : TA) (E : XK) (C : Addr) : Prop := ∀ σ f h, Same f h → Ok Γ σ f → (∀ f' h', Ext f h f' h' → E (.ref C) none h') → ∀ Q, t σ h Q
theorem exa_here {tr : TA} (h : EvX Γ te E C) : EvAX Γ (tCons te tr) E C := fun σ f hp s ok q Q => h σ f hp s ok q _
theorem exa_next {tr : TA} (h : EvD Γ te R) (h2 : EvAX Γ tr E C) : EvAX Γ (tCons te tr) E C := fun σ f hp s ok q Q =>
  h σ f hp s ok _ fun v f1 h1 e1 _ => h2 σ f1 h1 e1.fh (ok.mono e1.ff) (fun f' h' e => q f' h' (e1.trans e)) _
theorem ex_tup (h : EvAX Γ t E C) : EvX Γ (tTup t) E C := fun σ f hp s ok q Q => h σ f hp s ok q _
/-- a comprehension whose item at k raises -/
theorem ex_lc {wi : TI} {g : TG} {n : Nat} {item : Nat → RP} {vs : List Nat} (hw : WiD Γ wi n item) {G' : Nat → Ctx} (ht : ∀ i, i < n → TgL g vs (item i) (wipeC Γ vs) (G' i)) (k : Nat) (hk : k < n) {val : Nat → RP}
    (he : ∀ i, i < k → EvD (G' i) te (val i)) (hx : EvX (G' k) te E C) (hz : n ≤ 100000) : EvX Γ (tLc wi g tYes te vs) E C := fun σ f h s ok q Q =>
  hw σ f h s ok _ fun J f1 h1 e J1 D hD => by
    refine ⟨fun i m h' => m = n - i ∧ i ≤ k ∧ ∃ f', Same f1 f' ∧ Ext f h f' h' ∧ f' D = none ∧ ∃ us, h' D = some (.lst us) ∧ us.length = i, ⟨n, by simp, Nat.zero_le _, f1, .refl _, ?_, e.fh.free hD, [], upd_same, rfl⟩, ?_⟩
    · exact ⟨e.ff, e.hh.trans (same_new hD), e.fh.trans (same_new hD), e.nf⟩
    rintro i m h' ⟨rfl, hi, f', k1, E1, hf, us, hu, hr⟩
    have hlt : i < n := by omega
    refine .inr ⟨J1.go i f' h' hlt k1 E1.fh, fun h2 => i < k ∧ ∃ f2, Same f1 f2 ∧ Ext f h f2 h2 ∧ f2 D = none ∧ ∃ us, h2 D = some (.lst us) ∧ us.length = i + 1, fun h2 ⟨hk2, f2, a, b, c⟩ => ⟨n - (i + 1), by omega, rfl, hk2, f2, a, b, c⟩, fun x h2 y => ?_⟩
    obtain ⟨f2, e2, rx⟩ := J1.yld i f' h' x h2 hlt k1 E1.fh y
    have ok2 : Ok (wipeC Γ vs) (wipe σ vs) f2 := (ok.mono (E1.trans e2).ff).wipe vs
    refine ht i hlt _ f2 h2 e2.fh ok2 x rx _ fun σ3 hw3 ok3 => ⟨by rw [hw3]; exact wipe_idem vs vs fun _ z => z, ?_⟩
    refine et_yes (Γ := G' i) σ3 f2 h2 e2.fh ok3 _ fun f3 h3 e3 => ?_
    have fD2 : f2 D = none := e2.nf D (by rw [hu]; exact fun z => nomatch z) hf
    have hu2 : h2 D = some (.lst us) := e2.hh _ _ hu
    have fD3 : f3 D = none := e3.nf D (by rw [hu2]; exact fun z => nomatch z) fD2
    have hu3 : h3 D = some (.lst us) := e3.hh _ _ hu2
    have k3 := (k1.trans e2.ff).trans e3.ff
    have E3 := (E1.trans e2).trans e3
    by_cases hik : i < k
    · refine iteT (he i hik σ3 f3 h3 e3.fh (ok3.mono e3.ff) _ fun v f4 h4 e4 rv => ⟨us, e4.hh _ _ hu3, ?_, hik, f4, k3.trans e4.ff, ?_, e4.nf D (by rw [hu3]; exact fun z => nomatch z) fD3, _, upd_same, ?_⟩)
      · rw [hr, szl]
        omega
      · have E4 := E3.trans e4
        have f4D : f4 D = none := e4.nf D (by rw [hu3]; exact fun z => nomatch z) fD3
        have hD0 : h D = none := e.hh.free hD
        have kk : Same h (upd h4 D (.lst (us ++ [v]))) := same_upd E4.hh hD0
        exact ⟨E4.ff, kk, same_upd E4.fh f4D, E4.nf⟩
      · rw [List.length_append, hr]
        rfl
    · have : i = k := by omega
      subst this
      exact iteT (hx σ3 f3 h3 e3.fh (ok3.mono e3.ff) (fun f' h' e' => q f' h' (E3.trans e')) _)
/-! ### a text that is only bounded -/
def strR (n : Nat) : RP := ⟨fun v _ => ∃ y : Str, v = .str y ∧ y.length ≤ n, fun h _ => h⟩
theorem ev_strR {y : Str} {n : Nat} (h : EvD Γ te (rep y)) (hl : y.length ≤ n) : EvD Γ te (strR n) := ev_imp h fun v f rv => ⟨y, rep_str rv, hl⟩
/-- some text in a slot: which, is settled -/
theorem bd_some {B : Base} {O : Own} {i n : Nat} {u : TS} {P : Post} (hi : Γ[i]? = some (some (strR n))) (k : ∀ y : Str, y.length ≤ n → BDe B (Γ.set i (some (rep y))) O u P) : BDe B Γ O u P := fun L σ f h s l D q => by
  obtain ⟨v, hv, y, rfl, hl⟩ := s.ok.2 i _ hi
  refine k y hl L σ f h ?_ l D q
  have ok2 : Ok (Γ.set i (some (rep y))) σ f := by
    have z := s.ok.set (R := rep y) (v := .str y) i (rep_of_str _ _)
    have e : σ.set i (some (.str y)) = σ := by
      apply List.ext_getElem?
      intro j
      by_cases hj : i = j
      · subst hj
        rw [List.getElem?_set_self (by
          have := List.getElem?_eq_some_iff.mp hv
          exact this.1), hv]
      · rw [List.getElem?_set_ne hj]
    rw [e] at z
    exact z
  exact ⟨s.ff, s.fh, s.hh, s.th, s.nf, ok2, s.ow, s.nd⟩
end
end D

set_option Elab.async false
set_option linter.all false
set_option maxRecDepth 100000
set_option maxHeartbeats 4000000
/-! Layer D: a comprehension whose item's call may raise. -/
namespace L2
open PySem PySem.Spec PyProof.Rows
/-- what is asked behind a comprehension's block, its own frame known -/
def cpX (M : Model) (A : Around) (E : Value → Shared → Prop) (use : Option (Value → Sem Unit)) (Q : Value → Shared → Prop) (acc : Value) (ce : Env) : Result → Shared → Prop
  | .ok _, s1 => match use with
    | none => ∃ m, s1.heap.Ns ce.locals m ∧ ∀ g, Heap.SameBut ce.locals s1.heap g → Q acc { s1 with heap := g }
    | some u => wpAny M A (u acc) (fun _ s2 => ∃ m, s2.heap.Ns ce.locals m ∧ ∀ g, Heap.SameBut ce.locals s2.heap g → Q .none { s2 with heap := g }) E s1
  | .error x, s1 => ∃ m, s1.heap.Ns ce.locals m ∧ ∀ g, Heap.SameBut ce.locals s1.heap g →
      wpAny M A (passOn "comprehension.variables-let-go" x ce : Sem Value) (fun _ _ => False) E { s1 with heap := g }
section
variable {M : Model} {A : Around} {E : Value → Shared → Prop} {s : Shared} {env : Env}
theorem comp_freeX {e : Expr} {sc : Scope} {pos : Pos} {mk fst : Sem Value} {g : Comprehension} {gs : List Comprehension} {cl : List (Str × Addr)} {use : Option (Value → Sem Unit)} {Q : Value → Shared → Prop}
    (h1 : clausesOf e = g :: gs) (h2 : ∀ x, foldedSetIterable g.iter env x = pure x) (h3 : closureFor sc env = pure cl) (h4 : sc.kind = .function) (h5 : ∀ x ∈ sc.names, x.2 = .local → sc.names.lookup x.1 = some .local)
    (h : wpAny M A fst (fun x s1 => wpAny M A (pyIter x) (fun it s2 => wpAny M A mk (fun acc s3 => wpAny M A (newFunctionEnv sc env.globals cl [] env.qual none .none (some env))
      (fun ce s4 => codeAny M A (.compStart e 0 it acc { ce with scope := relabel sc env }) (cpX M A E use Q acc { ce with scope := relabel sc env }) s4) E s3) E s2) E s1) E s) :
    wpAny M A (comprehension e sc env pos mk false fst use) Q E s := by
  unfold comprehension
  rw [h3, h1]
  have keep : ∀ {α : Type} {t : Sem α} {P P' : α → Shared → Prop} {z : Shared}, wpAny M A t P E z → (∀ a z', P a z' → P' a z') → wpAny M A t P' E z := fun a b => wpAny_mono a b fun _ _ y => y
  refine wpAny_bind (keep h fun x s1 g1 => wpAny_bind (wpAny_standAt (wpAny_bind (wpAny_of_eq (h2 x) ?_))))
  refine wpAny_bind (wpAny_holding (keep g1 fun it s2 g2 => wpAny_standIf (wpAny_bind (keep g2 fun acc s3 g3 => ?_))))
  refine wpAny_bind (wpAny_pure (wpAny_bind (keep g3 fun ce s4 g4 => ?_)))
  dsimp only
  generalize hce : ({ ce with scope := relabel sc env } : Env) = c2 at g4
  have kd : ∀ x ∈ (sc.names.filter fun x => (x.2 == .local || x.2 == .cell) && x.1 != (".0" : Str)).reverse, x.2 = .local → c2.kindOf x.1 = some .local := fun x hx hl => by
    rw [← hce]
    exact lookup_relabel_local (h5 x (List.mem_filter.mp (List.mem_reverse.mp hx)).1 hl)
  have kk : c2.scope.kind = .function := by
    rw [← hce]
    exact h4
  have hl2 : ({ ce with scope := relabel sc env } : Env).locals = c2.locals := by rw [hce]
  refine wpAny_holding (wpAny_bind (wpAny_attempt (wpAny_holding (wpAny_run ?_))))
  have g5 := g4
  rw [← hce] at g5
  refine codeAny_mono g5 fun r s5 hr => ?_
  rw [hce] at hr
  cases r with
  | ok f =>
    cases use with
    | none =>
      obtain ⟨m, hn, hr⟩ := hr
      refine wpAny_bind (wpAny_holding ?_)
      rw [← hce] at hn kd kk hr
      exact wpAny_comp_letGo kk _ s5 m kd hn fun h' m' _ sb => wpAny_pure (hr h' sb)
    | some u =>
      refine wpAny_bind (wpAny_rule (wpAny_bind (wpAny_holding (keep hr fun _ s6 hr6 => ?_))))
      obtain ⟨m, hn, hr7⟩ := hr6
      rw [← hce] at hn kd kk hr7
      refine wpAny_bind (wpAny_comp_letGo kk _ s6 m (fun x hx hl => ?_) hn fun h' m' _ sb => wpAny_pure (hr7 h' sb))
      rcases List.mem_append.mp hx with z | z
      · exact kd x (List.mem_of_mem_drop z) hl
      · exact kd x (List.mem_of_mem_take z) hl
  | error x =>
    obtain ⟨m, hn, hr⟩ := hr
    rw [← hce] at hn kd kk hr
    have fin := wpAny_comp_letGo (M := M) (A := A) (E := E) (cellsOf := fun vs => vs.flatMap fun (n, k) => if k == .cell then ((({ ce with scope := relabel sc env } : Env).cells.lookup n).map Value.ref).toList else []) kk _ s5 m kd hn
      (Q := fun _ z => wpAny M A (passOn "comprehension.variables-let-go" x { ce with scope := relabel sc env } : Sem Value) Q E z) fun h' m' _ sb => wpAny_mono (hr h' sb) (fun _ _ f => f.elim) fun _ _ y => y
    cases use <;> exact wpAny_bind (wpAny_holding fin)
end
theorem frameOf_congr {e1 e2 : Env} (h : e1.frame = e2.frame) : PySem.frameOf e1 = PySem.frameOf e2 := by
  unfold PySem.frameOf
  rw [h]
theorem note_congr {e1 e2 : Env} (h : e1.frame = e2.frame) (x : Value) : noteFrame x e1 = noteFrame x e2 := by
  unfold noteFrame
  rw [h, frameOf_congr h]
theorem ff_change {h h' B B' : Heap} {C : Addr} (hB : B.get? C ≠ none) (hb : ∀ b, B.get? b = none → B'.get? b = none) (k : ∀ b, b ≠ C → h'.get? b = h.get? b) : ∀ {l : List Env}, h.FunFrames B l → h'.FunFrames B' l
  | [], _ => trivial
  | env :: r, ⟨h1, ⟨L, o, f1, f2, f3, f4⟩, h3⟩ => ⟨h1, ⟨L, o, f1, hb L f2, (k L fun z => hB (z ▸ f2)).trans f3, f4⟩, ff_change hB hb k h3⟩
section
variable {X : Cx} {pins : List (Addr × Obj)} {σ : St} {H3 : Hp} {s3 : Shared} {E : XK}
/-- what a call within the block lets out, behind the block -/
theorem comp_out {scope : Scope} {ce : Env} {fp : List Addr} {use : Option (Value → Sem Unit)} {Qf : Value → Shared → Prop} {acc : Value} (hs : X.stack = X.env :: X.outer) (hf : X.env.frame = some X.env.locals) (tk : Takes X (fun cls d _ H => E cls d H))
    (I3 : Inv X pins σ H3 s3) (hfr : ce.frame = X.env.frame) (hC : ce.locals = s3.heap.objs.size) (f3 : ∀ b ∈ fp, FpOk X pins H3 b) (σ' : St) :
    PassesAt (L2.CX X.prog X.w) ((X.blk s3 H3 scope ce fp).wish (notedBy (model X.prog X.w) X.A ce fun e s' => cpX (model X.prog X.w) X.A X.xe use Qf acc ce (.error e) s')) σ' E := by
  intro pins' H' s e s' I c
  have x := XE.of_call (W := fun cls d _ H => E cls d H) (σ := σ') I (fun _ _ _ h => h) c
  obtain ⟨a0, B0, H0, cls0, d0, e0, fl0, _⟩ := c
  obtain ⟨a, B, sI, pins2, σ2, H2, cls, d, e1, J, nb, up, sky, na, os, ag, w⟩ := x
  rw [e0] at e1
  cases e1
  have J : Inv (X.blk s3 H3 scope ce fp) pins2 σ2 H2 sI := J.unwish
  have fl : HandSPX.FlyingZ B X.stack a0 (Zc cls d) s'.heap := by
    obtain ⟨_, _, _, oe0, vs0, T0, oT0, ts0, he0, _, hd0, h10, _, _, hT0, hdT0, h30⟩ := fl0
    rcases sky with ⟨_, _, _, oe, vs, he, hz, hd, h1⟩ | fl | ⟨_, _, _, oe, vs, T, oT, ts, he, hz, hd, h1, _, _, hT, hdT, h3⟩
    · rw [he0] at he
      cases he
      rw [hd0] at hd
      cases hd
      rw [h10] at h1
      cases h1
    · exact fl
    · rw [he0] at he
      cases he
      rw [hd0] at hd
      cases hd
      rw [h10] at h1
      cases h1
      rw [hT0] at hT
      cases hT
      rw [hdT0] at hdT
      cases hdT
      rw [h30] at h3
      simp [rawInt] at h3
  have hA : X.A.frames = some (X.env :: X.outer) := by
    have z : X.A.frames = some X.stack := J.ok.frames
    rw [z, hs]
  have nC : H2 ce.locals = none := J.free
  have fC : FpOk X pins H2 ce.locals := I3.fpOk (by rw [hC]; exact Nat.le_refl _) nC
  have I7 : Inv X pins σ H2 sI := I3.call' (ch := fp) J.os J.base J.hok J.bare fun b hb => ⟨(f3 b hb).2.2.2.1, (f3 b hb).2.1, (f3 b hb).2.2.2.2.1, (f3 b hb).2.2.2.2.2⟩
  have cfr : ce.locals ∉ frs X.stack := by
    rw [hs]
    intro z
    obtain ⟨v, hv, q⟩ := List.mem_filterMap.mp z
    rcases List.mem_cons.mp hv with rfl | hv
    · rw [hf] at q
      injection q with q
      exact fC.2.1 q.symm
    · exact fC.2.2.1 (List.mem_filterMap.mpr ⟨v, hv, q⟩)
  show wpAny _ _ (noteFrame e ce) _ _ _
  subst e0
  rw [note_congr hfr]
  rw [hs] at fl
  refine HandSPX.looks_onZ Zc.steady hA hf fl fun h1 held up1 => ?_
  obtain ⟨m, ⟨o, es, ep, ho, r⟩, _⟩ := J.loc
  have hB : B.get? ce.locals = some o := nb _ _ ho cfr
  refine ⟨m, ⟨o, es, ep, held.1 _ _ hB, r⟩, fun g sb => ?_⟩
  have hid : ∀ {b : Addr} {o : Obj} {h : Heap}, (PySem.W.hideAll h [ce.locals]).get? b = some o → b ≠ ce.locals := fun {b o h} q z => by
    subst z
    rw [PySem.W.hideAll_none [ce.locals] (List.mem_singleton.mpr rfl)] at q
    cases q
  have hno : ∀ {b : Addr}, B.get? b = none → (PySem.W.hideAll B [ce.locals]).get? b = none := fun {b} q => by
    cases z : (PySem.W.hideAll B [ce.locals]).get? b with
    | none => rfl
    | some o' =>
      rw [PySem.W.of_hideAll _ z] at q
      cases q
  have held2 : HandSPX.HeldZ (PySem.W.hideAll B [ce.locals]) (X.env :: X.outer) a0 (Zc cls d) X.env.locals g := by
    obtain ⟨k1, k2, k3, oe, vs, T, oT, ts, he, hz, hd, h1', hT0, hTe, hT, hdT, h3'⟩ := held
    have ane : a0 ≠ ce.locals := fun z => by
      rw [z, hB] at k2
      cases k2
    have tne : T ≠ ce.locals := fun z => by
      rw [z, hB] at hT0
      cases hT0
    exact ⟨fun b o q => (sb.2 b (hid q)).trans (k1 _ _ (PySem.W.of_hideAll _ q)), hno k2, ff_change (C := ce.locals) (by rw [hB]; exact fun z => nomatch z) (fun b => hno) (fun b hb => sb.2 b hb) k3,
      oe, vs, T, oT, ts, (sb.2 _ ane).trans he, hz, hd, h1', hno hT0, hTe, (sb.2 _ tne).trans hT, hdT, h3'⟩
  have hid2 : ∀ b o, sI.heap.get? b = some o → b ≠ ce.locals → (PySem.W.hideAll sI.heap [ce.locals]).get? b = some o := fun b o q n => PySem.W.hideAll_get _ q (fun z => n (List.mem_singleton.mp z))
  have I8 : Inv X pins σ H2 { sI with heap := PySem.W.hideAll sI.heap [ce.locals] } := I7.turned (it := ce.locals) (t' := sI.toks) (fun b o n q => hid2 b o q n) fC.1 fC.2.1 fC.2.2.2.1 fC.2.2.2.2.1 fC.2.2.2.2.2
  obtain ⟨oe, vs, T, oT, ts, he, hz, hd, h1', hT0, hTe, hT, hdT, h3'⟩ := held2.2.2.2
  unfold PySem.passOn
  refine wpAny_bind (wpAny_field (s := { s' with heap := g }) he hd h1' ?_)
  rw [if_neg (show ¬ ((Value.ref T == Value.none) = true) from by simp)]
  have fin : wpAny (model X.prog X.w) X.A (setFlight (.ref a0) ce.frame) (fun _ s4 => wpAny (model X.prog X.w) X.A (throw (.ref a0) : Sem Value) (fun _ _ => False) X.xe s4) X.xe { s' with heap := g } := by
    rw [hfr, hf]
    refine HandSPX.setFlight_onZ (s := { s' with heap := g }) held2 fun h4 held4 up4 => wpAny_throw (tk _ _ ?_)
    refine ⟨a0, PySem.W.hideAll B [ce.locals], { sI with heap := PySem.W.hideAll sI.heap [ce.locals] }, pins, σ, H2, cls, d, rfl, I8, fun b o q hb => ?_, fun b o q hnf => ?_, .inr (.inr (by rw [hs]; exact held4)), na, os, ag, w⟩
    · exact PySem.W.hideAll_get _ (nb b o (PySem.W.of_hideAll _ q) hb) fun z => hid q (List.mem_singleton.mp z)
    · obtain ⟨sl1, q1⟩ := up b o (PySem.W.of_hideAll _ q) hnf
      obtain ⟨sl2, q2⟩ := up1 b _ q1 hnf
      have q3 := (sb.2 b (hid q)).trans q2
      obtain ⟨sl4, q4⟩ := up4 b _ q3 hnf
      exact ⟨sl4, q4⟩
  first
  | exact wpAny_bind (wpAny_pure (wpAny_bind fin))
  | exact wpAny_bind fin
end
section
variable {X : Cx} {E : XK}
/-- a comprehension's block whose item may let a call's exception out -/
theorem lc_coreX {pins : List (Addr × Obj)} {s : Shared} {σ : St} {H : Hp} {Q : VK} {elt tg iter : Expr} {ifs : List Expr} {scope : Scope} {own : List (Str × Nat)} {pos pos2 : Pos} {wi : TI} {g : TG} {tt : TT} {te : TE} {use : Option (Value → Sem Unit)} {Qf : Value → Shared → Prop}
    (hst : X.stack = X.env :: X.outer) (hf : X.env.frame = some X.env.locals) (tk : Takes X (fun cls d _ H => E cls d H)) (hc : X.calm = true) (hN : X.N.Nodup) (I : Inv X pins σ H s) (hi : PI X tg iter wi) (ok : BlkOk X.N X.env.scope scope own)
    (hg : ∀ (s : Shared) (H : Hp) (C : Addr) (cl : List (Str × Addr)) (fp : List Addr), PG (X.blk s H scope (compEnvC scope cl C X.env) fp) tg g)
    (ht : ∀ (s : Shared) (H : Hp) (C : Addr) (cl : List (Str × Addr)) (fp : List Addr), PTs (X.blk s H scope (compEnvC scope cl C X.env) fp) ifs tt)
    (he : ∀ (s : Shared) (H : Hp) (C : Addr) (cl : List (Str × Addr)) (fp : List Addr) (xe : Value → Shared → Prop), (∀ σ, PassesAt (L2.CX X.prog X.w) ((X.blk s H scope (compEnvC scope cl C X.env) fp).wish xe) σ E) → PE ((X.blk s H scope (compEnvC scope cl C X.env) fp).wish xe) elt te)
    (hsf : ∀ x, foldedSetIterable iter X.env x = pure x) (h : tLc wi g tt te (own.map (·.2)) σ H Q)
    (hR : ∀ D (ce : Env) s' m H', Inv X pins σ H' s' → Q (.ref D) H' → s'.heap.Ns ce.locals m → FpOk X pins H' ce.locals → cpX (model X.prog X.w) X.A X.xe use Qf (.ref D) ce (.ok .next) s') :
    wpAny (model X.prog X.w) X.A (comprehension (.ListComp elt [⟨tg, iter, ifs, 0⟩] scope pos) scope X.env pos2 (newList []) false (eval iter X.env) use) Qf X.xe s := by
  have hclo : ∀ y ∈ scope.names, y.2 = .free → ∃ c, X.env.cells.lookup y.1 = some c := fun y hy e =>
    (ok.free y hy e).elim (fun k => I.ok.has _ (.inl k)) fun k => I.ok.has _ (.inr k)
  refine comp_freeX (use := use) rfl hsf (closure_ok hclo) ok.kind (fun y hy e => by rw [ok.uniq y hy, e]) ?_
  refine thn (hi.run pins s σ H _ I h) fun xv s1 hx => thn hx ?_
  rintro itv s2 ⟨it, fp, tn, J, H2, rfl, I2, T, st2, f2, q⟩
  refine wpAny_newObj_type (newEnv_comp ?_) (by show 0 ≤ sizeLine; decide)
  obtain ⟨D, hD⟩ : ∃ D, D = s2.heap.objs.size := ⟨_, rfl⟩
  rw [← hD]
  obtain ⟨W, ⟨m0, w0⟩, turn⟩ := q D (I2.hok.fresh (Nat.le_of_eq hD.symm))
  obtain ⟨s3, hs3⟩ : ∃ s3 : Shared, s3 = { s2 with heap := s2.heap.push { cls := .type "list", data := .seq ([] : List Value).toArray } } := ⟨_, rfl⟩
  have h3 : s3.heap = s2.heap.push { cls := .type "list", data := .seq ([] : List Value).toArray } := by rw [hs3]
  have old3 : ∀ b o, s2.heap.get? b = some o → s3.heap.get? b = some o := fun b o e => by
    rw [h3]
    exact Heap.get?_push_of_some _ e
  have I3 : Inv X pins σ (upd H2 D (.lst [])) s3 := by
    rw [hs3]
    refine I2.laid (t' := s2.toks) (fun b o e => Heap.get?_push_of_some _ e) (Nat.le_of_eq hD.symm) ⟨Nat.zero_le _, [], 0, .nil, ?_⟩
    rw [hD]
    exact Heap.get?_push_size _ rfl
  have f3 : ∀ b ∈ fp, FpOk X pins (upd H2 D (.lst [])) b ∧ b < s3.heap.objs.size := fun b hb => by
    obtain ⟨o, e, _⟩ := T.obj _ _ st2 b hb
    have lt := Heap.lt_size e
    have ne : b ≠ D := by
      rw [hD]
      exact Nat.ne_of_lt lt
    refine ⟨⟨by rw [upd_ne ne]; exact (f2 b hb).1, (f2 b hb).2⟩, ?_⟩
    rw [h3, Heap.size_push]
    exact Nat.lt_succ_of_lt lt
  have st3 : tn 0 s3.heap := T.keep _ _ _ st2 fun b _ o e => old3 b o e
  have I4 := block_start I3 ok hN f3
  rw [← hs3] at *
  obtain ⟨ce, hce⟩ : ∃ ce : Env, ce = compEnvC scope (cellsFrom (s3.heap.objs.size + 1) scope.names (cloFrom X.env.cells scope.names [])) s3.heap.objs.size X.env := ⟨_, rfl⟩
  have cL : ce.locals = s3.heap.objs.size := by rw [hce]; rfl
  have cF : ce.frame = X.env.frame := by rw [hce]; rfl
  obtain ⟨H3, hH3⟩ : ∃ H3 : Hp, H3 = upd H2 D (.lst []) := ⟨_, rfl⟩
  obtain ⟨xe, hxe⟩ : ∃ xe : Value → Shared → Prop, xe = notedBy (model X.prog X.w) X.A ce fun e s' => cpX (model X.prog X.w) X.A X.xe use Qf (.ref D) ce (.error e) s' := ⟨_, rfl⟩
  have f4 : ∀ b ∈ fp, FpOk X pins H3 b := fun b hb => by rw [hH3]; exact (f3 b hb).1
  have I3' : Inv X pins σ H3 s3 := by rw [hH3]; exact I3
  have out := comp_out (scope := scope) (use := use) (Qf := Qf) (acc := .ref D) hst hf tk I3' cF cL f4
  rw [← hxe, hce] at out
  have pg := hg s3 H3 s3.heap.objs.size (cellsFrom (s3.heap.objs.size + 1) scope.names (cloFrom X.env.cells scope.names [])) fp
  have pt := ht s3 H3 s3.heap.objs.size (cellsFrom (s3.heap.objs.size + 1) scope.names (cloFrom X.env.cells scope.names [])) fp
  have pe := he s3 H3 s3.heap.objs.size (cellsFrom (s3.heap.objs.size + 1) scope.names (cloFrom X.env.cells scope.names [])) fp xe out
  rw [← hce] at pg pt pe I4
  rw [← hH3] at I4 w0
  show codeAny _ _ (.compStart (.ListComp elt [⟨tg, iter, ifs, 0⟩] scope pos) 0 (.ref it) (.ref D) (compEnvC scope (cellsFrom (s3.heap.objs.size + 1) scope.names (cloFrom X.env.cells scope.names [])) s3.heap.objs.size X.env))
    (cpX (model X.prog X.w) X.A X.xe use Qf (.ref D) (compEnvC scope (cellsFrom (s3.heap.objs.size + 1) scope.names (cloFrom X.env.cells scope.names [])) s3.heap.objs.size X.env)) { s3 with heap := pushCells (s3.heap.push { cls := .type "dict", data := .dict #[] }) scope.names }
  rw [← hce]
  obtain ⟨s4, hs4⟩ : ∃ s4 : Shared, s4 = { s3 with heap := pushCells (s3.heap.push { cls := .type "dict", data := .dict #[] }) scope.names } := ⟨_, rfl⟩
  rw [← hs4] at I4 ⊢
  have st4 : tn 0 s4.heap := T.keep _ _ _ st3 fun b _ o e => by
    rw [hs4]
    exact pushCells_keeps _ _ _ _ (Heap.get?_push_of_some _ e)
  have fB : ∀ {σ' : St} {H' : Hp} {s' : Shared}, Inv (X.blk s3 H3 scope ce fp) [] σ' H' s' → (∀ b ∈ fp, H' b = none) → ∀ b ∈ fp, FpOk (X.blk s3 H3 scope ce fp) [] H' b := fun I' hn b hb =>
    ⟨hn b hb, (I'.ok.exf b hb).1, I'.ok.exfs b hb, .inl hb, fun x c e => (I'.ok.exf b hb).2 x c e, fun p hp => nomatch (show p ∈ ([] : List (Addr × Obj)) from hp)⟩
  have loop : codeAny (model X.prog X.w) X.A (.compLoop (.ListComp elt [⟨tg, iter, ifs, 0⟩] scope pos) 0 (.ref it) (.ref D) ce) (cpX (model X.prog X.w) X.A X.xe use Qf (.ref D) ce) s4 := by
    refine compLoop_any (fun n z => ∃ i H', Inv (X.blk s3 H3 scope ce fp) [] (wipe σ (own.map (·.2))) H' z ∧ tn i z.heap ∧ (∀ b ∈ fp, H' b = none) ∧ W i n H') ?_ m0 ⟨0, H3, I4, st4, fun b hb => (f4 b hb).1, w0⟩
    rintro n s5 ⟨i, H5, I5, st5, n5, w5⟩
    rcases turn i n H5 w5 with ⟨stop, qq⟩ | ⟨go, Nx, hNx, step⟩
    · refine thnF (T.done (X.blk s3 H3 scope ce fp) rfl rfl rfl hc i [] s5 _ H5 (fun _ _ => False) I5 (fB I5 n5) st5 stop) ?_
      rintro r s6 ⟨rfl, I6⟩
      have nC : H5 ce.locals = none := I6.free
      obtain ⟨m, hn, _⟩ := I6.loc
      exact hR D ce s6 m H5 (I3'.call' (ch := fp) I6.os I6.base I6.hok I6.bare fun b hb => ⟨(f4 b hb).2.2.2.1, (f4 b hb).2.1, (f4 b hb).2.2.2.2.1, (f4 b hb).2.2.2.2.2⟩) qq hn (I3'.fpOk (by rw [cL]; exact Nat.le_refl _) nC)
    · refine thnF (T.item (X.blk s3 H3 scope ce fp) rfl rfl rfl hc i [] s5 _ H5 (fun _ _ => False) I5 (fB I5 n5) st5 go) ?_
      rintro r s6 ⟨u, rfl, h6⟩
      refine thnF h6 ?_
      rintro _ s7 ⟨x, H7, I7, r7, y7, st7, n7⟩
      refine thnF (pg.run _ s7 _ H7 x u _ (I7.pinned (fB I7 n7) (T.obj _ _ st7)) r7 (step x H7 y7)) ?_
      rintro _ s8 ⟨σ8, H8, I8, hw8, q8⟩
      refine thnF (pt.run _ s8 σ8 H8 _ I8 q8) ?_
      rintro b s9 ⟨H9, I9, q9⟩
      have back : ∀ {z : Shared} {H' : Hp}, Inv (X.blk s3 H3 scope ce fp) ([] ++ pinsAt fp s7.heap) σ8 H' z → Nx H' → ∃ m, m < n ∧ ∃ i H', Inv (X.blk s3 H3 scope ce fp) [] (wipe σ (own.map (·.2))) H' z ∧ tn i z.heap ∧ (∀ b ∈ fp, H' b = none) ∧ W i m H' := fun {z H'} I' nx => by
        obtain ⟨m', hm, w'⟩ := hNx H' nx
        have still : ∀ b ∈ fp, ∀ o, s7.heap.get? b = some o → z.heap.get? b = some o ∧ H' b = none := fun b hb o e => by
          have p := I'.pin (b, o) (List.mem_append_right _ (List.mem_append_right _ (mem_pinsAt hb e)))
          exact ⟨p.1, p.2.1⟩
        refine ⟨m', hm, i + 1, H', (I'.unpinned (pins := [])).weak (by rw [← hw8, wipe_length]) (fun j v e => (wipe_some (by rw [hw8]; exact e)).1), T.keep _ _ _ st7 fun b hb o e => (still b hb o e).1, fun b hb => ?_, w'⟩
        obtain ⟨o, e, _⟩ := T.obj _ _ st7 b hb
        exact (still b hb o e).2
      cases b with
      | false => exact back I9 (by simpa using q9)
      | true =>
        have q9 : te σ8 H9 fun y H4 => ∃ acc, H4 D = some (.lst acc) ∧ acc.length < sizeLine ∧ Nx (upd H4 D (.lst (acc ++ [y]))) := by simpa using q9
        have ev := pe.run _ s9 σ8 H9 _ (I9.wish xe) q9
        rw [hxe] at ev
        show wpAny _ _ (eval elt ce) _ _ _
        refine thn ev ?_
        rintro z s10 ⟨yv, H10, I10, r10, acc, hD10, hz10, nx⟩
        rw [← hxe] at I10
        exact app_ok (X := X.blk s3 H3 scope ce fp) I10.unwish hD10 hz10 r10 fun s11 I11 => back I11 nx
  exact codeAny_compStart_list loop (T.self X.A 0 _ _ _ st4 loop)
theorem pe_lcX {elt tg iter : Expr} {ifs : List Expr} {scope : Scope} {own : List (Str × Nat)} {pos : Pos} {wi : TI} {g : TG} {tt : TT} {te : TE} (hst : X.stack = X.env :: X.outer) (hf : X.env.frame = some X.env.locals) (tk : Takes X (fun cls d _ H => E cls d H)) (hc : X.calm = true) (hN : X.N.Nodup) (hi : PI X tg iter wi) (ok : BlkOk X.N X.env.scope scope own)
    (hg : ∀ (s : Shared) (H : Hp) (C : Addr) (cl : List (Str × Addr)) (fp : List Addr), PG (X.blk s H scope (compEnvC scope cl C X.env) fp) tg g)
    (ht : ∀ (s : Shared) (H : Hp) (C : Addr) (cl : List (Str × Addr)) (fp : List Addr), PTs (X.blk s H scope (compEnvC scope cl C X.env) fp) ifs tt)
    (he : ∀ (s : Shared) (H : Hp) (C : Addr) (cl : List (Str × Addr)) (fp : List Addr) (xe : Value → Shared → Prop), (∀ σ, PassesAt (L2.CX X.prog X.w) ((X.blk s H scope (compEnvC scope cl C X.env) fp).wish xe) σ E) → PE ((X.blk s H scope (compEnvC scope cl C X.env) fp).wish xe) elt te)
    (hsf : ∀ x, foldedSetIterable iter X.env x = pure x := by intro _; rfl) :
    PE X (.ListComp elt [⟨tg, iter, ifs, 0⟩] scope pos) (tLc wi g tt te (own.map (·.2))) := by
  refine ⟨fun pins s σ H Q I h => ?_⟩
  rw [eval_ListComp]
  refine lc_coreX hst hf tk hc hN I hi ok hg ht he hsf h fun D ce s' m H' I' q hn f => ⟨m, hn, fun g sb => ?_⟩
  exact ⟨.ref D, H', I'.turned (t' := s'.toks) (fun b o hb e => (sb.2 b hb).trans e) f.1 f.2.1 f.2.2.2.1 f.2.2.2.2.1 f.2.2.2.2.2, rfl, q⟩
theorem ps_setLcX {i : Nat} {y : Str} {py : Pos} {elt tg iter : Expr} {ifs : List Expr} {scope : Scope} {own : List (Str × Nat)} {pos spos : Pos} {wi : TI} {g : TG} {tt : TT} {te : TE} (hst : X.stack = X.env :: X.outer) (hf : X.env.frame = some X.env.locals) (tk : Takes X (fun cls d _ H => E cls d H)) (hc : X.calm = true) (hN : X.N.Nodup)
    (hy : X.N[i]? = some y) (hyl : X.env.scope.names.lookup y = some .local) (hsw : swapsWith (.ListComp elt [⟨tg, iter, ifs, 0⟩] scope pos) (some (.Name y py)) spos.line X.env = pure true) (hi : PI X tg iter wi) (ok : BlkOk X.N X.env.scope scope own)
    (hg : ∀ (s : Shared) (H : Hp) (C : Addr) (cl : List (Str × Addr)) (fp : List Addr), PG (X.blk s H scope (compEnvC scope cl C X.env) fp) tg g)
    (ht : ∀ (s : Shared) (H : Hp) (C : Addr) (cl : List (Str × Addr)) (fp : List Addr), PTs (X.blk s H scope (compEnvC scope cl C X.env) fp) ifs tt)
    (he : ∀ (s : Shared) (H : Hp) (C : Addr) (cl : List (Str × Addr)) (fp : List Addr) (xe : Value → Shared → Prop), (∀ σ, PassesAt (L2.CX X.prog X.w) ((X.blk s H scope (compEnvC scope cl C X.env) fp).wish xe) σ E) → PE ((X.blk s H scope (compEnvC scope cl C X.env) fp).wish xe) elt te)
    (hsf : ∀ x, foldedSetIterable iter X.env x = pure x := by intro _; rfl) :
    PS X (.Assign [.Name y py] (.ListComp elt [⟨tg, iter, ifs, 0⟩] scope pos) spos) (tAsg (tLc wi g tt te (own.map (·.2))) (gName i)) := by
  refine ⟨fun pins s σ H D I h => ?_⟩
  rw [exec_Assign_Name_used _ _ _ _ hsw]
  refine wpAny_bind (wpAny_standAt (wpAny_bind ?_))
  have h : tLc wi g tt te (own.map (·.2)) σ H (fun x H1 => gName i x σ H1 D.nx) := h
  show wpAny _ X.A (do let _ ← comprehension (.ListComp elt [⟨tg, iter, ifs, 0⟩] scope pos) scope X.env (firstIterPos [⟨tg, iter, ifs, 0⟩] pos) (newList []) false (eval iter X.env) (some (assign (.Name y py) X.env))) _ _ s
  refine wpAny_bind (thn (lc_coreX (Qf := fun _ z => SP X pins D .next z) hst hf tk hc hN I hi ok hg ht he hsf h ?_) fun _ s' hq => wpAny_pure (wpAny_pure hq))
  intro L ce s' m H' I' q hn f
  show wpAny _ _ (assign (.Name y py) X.env (.ref L)) _ _ _
  refine wpAny_assign_Name (store_ok2 (v := V.ref L) I' hN hy (.inl hyl) rfl ?_ (.inr hyl))
  rintro s2 I2 ⟨a, sb, ha⟩
  have ne : ce.locals ≠ a := by
    rcases ha with z | z
    · rw [z]
      exact f.2.1
    · exact fun e => f.2.2.2.2.1 y a z e.symm
  refine ⟨m, hn.sameBut sb ne, fun g sb3 => ?_⟩
  exact ⟨_, H', I2.turned (t' := s2.toks) (fun b o hb e => (sb3.2 b hb).trans e) f.1 f.2.1 f.2.2.2.1 f.2.2.2.2.1 f.2.2.2.2.2, q⟩
end
end L2
namespace D
open PySem PySem.Spec PyProof.Rows L2
/-- a call that may raise, where what a call lets out passes -/
theorem pe_callEP {X : Cx} {k j : Nat} {x : Str} {ps : List Str} {sp : Sp} {p pos : Pos} {e : Expr} {es : List Expr} {t : TA} {E : XK} (F : Okd X.prog X.w X.K X.mg X.base (L2.CX X.prog X.w) k x ps sp) (hr : Room j X.A) (px : ∀ σ, PassesAt (L2.CX X.prog X.w) X σ E) (ha : PA X (e :: es) t) (hk : k ≤ j := by decide) (hg : Gl X x := by rfl) (hdb : (x == ("__debug__" : Str)) = false := by decide)
    (he : starEach (e :: es) X.env = (false, eval e X.env) :: starEach es X.env := by rfl) (hpl : (backTo pos (starEach es X.env)).any (·.1) = false := by rfl) :
    PE X (.Call (.Name x p) (e :: es) [] pos) (tCallE sp E t) := by
  obtain ⟨f, fd, h1, h2, h3, h4⟩ := F
  exact pe_callS (E := fun _ => E) h4 (hr.mono hk) hg h1 h2 h3 px ha hdb he hpl
end D

set_option Elab.async false
set_option linter.all false
set_option maxRecDepth 100000
set_option maxHeartbeats 4000000
namespace D
open PySem PySem.Spec PyProof.Rows L2
open ToPy (py)
/-! ### k02: words that write numbers, texts that write rows (no program) -/
abbrev Row := T3 (Tup Int) Str Int
abbrev FIGS : Str := "0123456789"
theorem figs_eq : FIGS.cps.toList = [48, 49, 50, 51, 52, 53, 54, 55, 56, 57] := by decide +kernel
theorem zero_eq : ("0" : Str) = ⟨#[48]⟩ := by decide +kernel
def figs (w : Str) : Str := if decide (cutS w none (some 1) = "-") = true then cutS w (some 1) none else w
def allFig (F : Str) : Bool := F.cps.toList.all fun k => decide (k ∈ FIGS.cps.toList)
def headS (F : Str) : Str := ⟨#[F.cps.toList.getD 0 0]⟩
def okW (w : Str) : Bool := decide (0 < (figs w).length) && allFig (figs w) && !(decide (headS (figs w) = "0") && (decide (1 < (figs w).length) || !decide (figs w = w)))
def valW (w : Str) : Int := ((NumText.digitsVal (figs w).cps.toList : Nat) : Int)
def sgnW (w : Str) : Int := if figs w = w then valW w else 0 - valW w
def numP (w : Str) : Option Int := if okW w = true ∧ (figs w).length ≤ 4 then some (sgnW w) else none
def numL (w : Str) (m : Int) : Option Int := if okW w = true ∧ (figs w).length ≤ 6 ∧ valW w ≤ m then some (sgnW w) else none
theorem len_cps (x : Str) : x.length = x.cps.toList.length := by simp [Str.length]
theorem figs_len (w : Str) : (figs w).length ≤ w.length := by
  unfold figs
  split
  · exact cutS_length _ _ _
  · exact Nat.le_refl _
theorem allFig_digits {F : Str} (h : allFig F = true) : NumText.AllDigits F.cps.toList := fun k hk => by
  have z := List.all_eq_true.mp h k hk
  rw [decide_eq_true_eq, figs_eq] at z
  simp only [List.mem_cons, List.not_mem_nil, or_false] at z
  omega
theorem intText_figs {F : Str} (h : allFig F = true) (h0 : 0 < F.length) (h1 : F.length ≤ 4300) : intText? F = some ((NumText.digitsVal F.cps.toList : Nat) : Int) := by
  refine intText_digits (allFig_digits h) ?_ h1
  intro e
  rw [len_cps, e] at h0
  exact absurd h0 (by simp)
theorem fold_bound : ∀ (cs : List Nat) (a : Nat), NumText.AllDigits cs → a * 10 ^ cs.length ≤ cs.foldl (fun acc c => acc * 10 + (c - 48)) a ∧ cs.foldl (fun acc c => acc * 10 + (c - 48)) a < (a + 1) * 10 ^ cs.length
  | [], a, _ => by simp
  | c :: cs, a, h => by
    obtain ⟨h1, h2⟩ := fold_bound cs (a * 10 + (c - 48)) h.tail
    have hc := h.head
    rw [List.foldl_cons, List.length_cons]
    have e1 : a * 10 ^ (cs.length + 1) = (a * 10) * 10 ^ cs.length := by rw [Nat.pow_succ]; rw [Nat.mul_comm (10 ^ cs.length) 10, Nat.mul_assoc]
    have e2 : (a + 1) * 10 ^ (cs.length + 1) = (a * 10 + 10) * 10 ^ cs.length := by
      rw [Nat.pow_succ, Nat.mul_comm (10 ^ cs.length) 10, ← Nat.mul_assoc, Nat.succ_mul]
    constructor
    · rw [e1]
      exact Nat.le_trans (Nat.mul_le_mul_right _ (by omega)) h1
    · rw [e2]
      exact Nat.lt_of_lt_of_le h2 (Nat.mul_le_mul_right _ (by omega))
theorem pow_mono {a b : Nat} (h : a ≤ b) : 10 ^ a ≤ 10 ^ b := Nat.pow_le_pow_right (by decide) h
/-- at most so many figures: below that power of ten -/
theorem val_lt {F : Str} {n : Nat} (h : allFig F = true) (hl : F.length ≤ n) : NumText.digitsVal F.cps.toList < 10 ^ n := by
  have z := (fold_bound F.cps.toList 0 (allFig_digits h)).2
  rw [Nat.zero_add, Nat.one_mul, ← len_cps] at z
  exact Nat.lt_of_lt_of_le z (pow_mono hl)
/-- more figures, no nought ahead: from that power of ten on -/
theorem val_ge {F : Str} {n : Nat} (h : allFig F = true) (h0 : headS F ≠ "0") (hl : n < F.length) : 10 ^ n ≤ NumText.digitsVal F.cps.toList := by
  have d := allFig_digits h
  rw [len_cps] at hl
  have h0' : F.cps.toList.getD 0 0 ≠ 48 := fun z => h0 (by unfold headS; rw [z, zero_eq])
  generalize F.cps.toList = cs at *
  cases cs with
  | nil => simp at hl
  | cons c cs =>
    have hc := d.head
    have h0' : c ≠ 48 := h0'
    have z := (fold_bound cs (0 * 10 + (c - 48)) d.tail).1
    have e : NumText.digitsVal (c :: cs) = cs.foldl (fun acc c => acc * 10 + (c - 48)) (0 * 10 + (c - 48)) := rfl
    rw [e]
    refine Nat.le_trans ?_ z
    refine Nat.le_trans (pow_mono (a := n) (b := cs.length) (by simp at hl; omega)) ?_
    exact Nat.le_mul_of_pos_left _ (by omega)
theorem val_nn (w : Str) : 0 ≤ valW w := by unfold valW; omega
theorem okW_all {w : Str} (h : okW w = true) : allFig (figs w) = true := by
  simp only [okW, Bool.and_eq_true] at h
  exact h.1.2
theorem okW_pos {w : Str} (h : okW w = true) : 0 < (figs w).length := by
  simp only [okW, Bool.and_eq_true, decide_eq_true_eq] at h
  exact h.1.1
theorem okW_head {w : Str} (h : okW w = true) (hl : 1 < (figs w).length) : headS (figs w) ≠ "0" := fun z => by
  simp [okW, z, hl] at h
/-- the two readings of a word -/
theorem num_agree {w : Str} {m : Int} (h0 : 0 ≤ m) (hm : m < 10000) : numL w m = (numP w).bind fun v => if -m ≤ v ∧ v ≤ m then some v else none := by
  unfold numL numP
  by_cases hk : okW w = true
  · by_cases hl : (figs w).length ≤ 4
    · rw [if_pos (⟨hk, hl⟩ : okW w = true ∧ (figs w).length ≤ 4)]
      show _ = if -m ≤ sgnW w ∧ sgnW w ≤ m then some (sgnW w) else none
      have v0 := val_nn w
      by_cases hv : valW w ≤ m
      · rw [if_pos ⟨hk, by omega, hv⟩, if_pos]
        unfold sgnW
        split <;> omega
      · rw [if_neg (fun z => hv z.2.2), if_neg]
        unfold sgnW
        split <;> omega
    · rw [if_neg (fun z => hl z.2 : ¬ (okW w = true ∧ (figs w).length ≤ 4))]
      rw [if_neg]
      · rfl
      · rintro ⟨_, h6, hv⟩
        have z := val_ge (okW_all hk) (okW_head hk (by omega)) (n := 4) (by omega)
        have : (10000 : Int) ≤ valW w := by unfold valW; omega
        omega
  · rw [if_neg (fun z => hk z.1), if_neg (fun z => hk z.1)]
    rfl
/-! rows -/
abbrev wordsOf (t : Str) : List Str := Txt.split t " "
def wAt (ws : List Str) (k : Nat) : Str := ws.getD k ""
def valsP (ws : List Str) : List Int := (ws.take (ws.length - 2)).map fun w => (numP w).getD 0
def rowOf (ws : List Str) (b : Int) : Row := ⟨⟨valsP ws⟩, wAt ws (ws.length - 2), b⟩
def three5 (ws : List Str) : Prop := 3 ≤ ws.length ∧ ws.length ≤ 5
instance (ws : List Str) : Decidable (three5 ws) := inferInstanceAs (Decidable (_ ∧ _))
def rowP (ws : List Str) : Option Row :=
  if three5 ws then
    if none ∈ (ws.take (ws.length - 2)).map numP then none
    else match numP (wAt ws (ws.length - 1)) with
      | none => none
      | some b => if isRow (py (rowOf ws b)) ((ws.length : Int) - 2) = true then some (rowOf ws b) else none
  else none
def wordIn (w : Str) : Bool := decide (w = "most") || decide (w = "least")
def rowL (ws : List Str) : Option Row :=
  if three5 ws ∧ wordIn (wAt ws (ws.length - 2)) = true then
    if none ∈ (ws.take (ws.length - 2)).map (numL · 50) then none
    else match numL (wAt ws (ws.length - 1)) 2000 with
      | none => none
      | some b => some ⟨⟨(ws.take (ws.length - 2)).map fun w => (numL w 50).getD 0⟩, wAt ws (ws.length - 2), b⟩
  else none
theorem isRow_eq (ns : List Int) (w : Str) (b many : Int) : isRow (py (⟨⟨ns⟩, w, b⟩ : Row)) many = (((decide ((ns.length : Int) = many) && ns.all fun x => decide (-50 ≤ x) && decide (x ≤ 50)) && wordIn w) && (decide (-2000 ≤ b) && decide (b ≤ 2000))) := by
  show (((decide (((ns.map PyData.int).length : Int) = many) && (ns.map PyData.int).all (betw · (-50) 50)) && wordOk (.str w)) && betw (.int b) (-2000) 2000) = _
  rw [List.length_map, List.all_map]
  rfl
theorem row_agree (ws : List Str) : rowL ws = rowP ws := by
  unfold rowL rowP
  by_cases h : three5 ws
  rotate_left
  · rw [if_neg (fun z => h z.1), if_neg h]
  rw [if_pos h]
  have lw : (ws.take (ws.length - 2)).length = ws.length - 2 := by rw [List.length_take]; omega
  have h2 : 3 ≤ ws.length := h.1
  by_cases hw : wordIn (wAt ws (ws.length - 2)) = true
  rotate_left
  · rw [if_neg (fun z => hw z.2)]
    have hw := Bool.eq_false_iff.mpr hw
    split
    · rfl
    split
    · rfl
    · rw [if_neg]
      rw [rowOf, isRow_eq, hw]
      simp
  rw [if_pos ⟨h, hw⟩]
  by_cases hA : ∀ w ∈ ws.take (ws.length - 2), ∃ v, numP w = some v ∧ -50 ≤ v ∧ v ≤ 50
  · have eL : ∀ w ∈ ws.take (ws.length - 2), numL w 50 = numP w := fun w hx => by
      obtain ⟨v, e, h1, h2⟩ := hA w hx
      rw [num_agree (by decide) (by decide), e]
      exact if_pos ⟨h1, h2⟩
    have eM : (ws.take (ws.length - 2)).map (numL · 50) = (ws.take (ws.length - 2)).map numP := List.map_congr_left eL
    have eV : ((ws.take (ws.length - 2)).map fun w => (numL w 50).getD 0) = valsP ws := List.map_congr_left fun w hx => by rw [eL w hx]
    have nn : none ∉ (ws.take (ws.length - 2)).map numP := fun z => by
      obtain ⟨w, hx, e⟩ := List.mem_map.mp z
      obtain ⟨v, e2, _⟩ := hA w hx
      rw [e] at e2
      cases e2
    rw [eM, if_neg nn, if_neg nn, eV, num_agree (by decide) (by decide)]
    have vl : (valsP ws).length = ws.length - 2 := by rw [valsP, List.length_map, lw]
    have va : ((valsP ws).all fun x => decide (-50 ≤ x) && decide (x ≤ 50)) = true := by
      rw [List.all_eq_true]
      intro x hx
      obtain ⟨w, hx2, rfl⟩ := List.mem_map.mp hx
      obtain ⟨v, e, h1, h2⟩ := hA w hx2
      rw [e]
      simp [h1, h2]
    have vd : decide (((valsP ws).length : Int) = (ws.length : Int) - 2) = true := decide_eq_true (by omega)
    cases hb : numP (wAt ws (ws.length - 1)) with
    | none => rfl
    | some b =>
      show (match (if -2000 ≤ b ∧ b ≤ 2000 then some b else none) with | none => none | some b => some (rowOf ws b)) = if isRow (py (rowOf ws b)) ((ws.length : Int) - 2) = true then some (rowOf ws b) else none
      have e : isRow (py (rowOf ws b)) ((ws.length : Int) - 2) = (decide (-2000 ≤ b) && decide (b ≤ 2000)) := by
        rw [rowOf, isRow_eq, hw, va, vd]
        simp
      rw [e]
      by_cases hc : -2000 ≤ b ∧ b ≤ 2000
      · rw [if_pos hc, if_pos (by simp [hc])]
      · rw [if_neg hc, if_neg (by simpa using fun z => by omega)]
  · have hA : ∃ w ∈ ws.take (ws.length - 2), ¬ ∃ v, numP w = some v ∧ -50 ≤ v ∧ v ≤ 50 := by
      apply Classical.byContradiction
      intro z
      exact hA fun w hx => Classical.byContradiction fun y => z ⟨w, hx, y⟩
    obtain ⟨w, hx, hn⟩ := hA
    have eL : numL w 50 = none := by
      rw [num_agree (by decide) (by decide)]
      cases e : numP w with
      | none => rfl
      | some v => exact if_neg fun z => hn ⟨v, e, z.1, z.2⟩
    rw [if_pos (List.mem_map.mpr ⟨w, hx, eL⟩)]
    split
    · rfl
    rename_i nn
    split
    · rfl
    · rw [if_neg]
      rw [rowOf, isRow_eq]
      have va : ((valsP ws).all fun x => decide (-50 ≤ x) && decide (x ≤ 50)) = false := by
        cases e : numP w with
        | none => exact absurd (List.mem_map.mpr ⟨w, hx, e⟩) nn
        | some v =>
          rw [List.all_eq_false]
          refine ⟨v, List.mem_map.mpr ⟨w, hx, by rw [e]; rfl⟩, fun z => hn ⟨v, e, ?_⟩⟩
          simpa using z
      rw [va]
      simp
theorem rowP_word {ws : List Str} {r : Row} (h : rowP ws = some r) : r.b = "most" ∨ r.b = "least" := by
  rw [← row_agree] at h
  unfold rowL at h
  split at h
  · rename_i z
    split at h
    · cases h
    split at h
    · cases h
    · cases h
      simpa [wordIn] using z.2
  · cases h
/-! lengths -/
theorem spl_mem (S : List Nat) : ∀ (l : List Nat) (k : Nat) (acc p : List Nat), p ∈ TL.spl S k acc l → p.length ≤ acc.length + l.length
  | [], k, acc, p, h => by
    rw [TL.spl_nil] at h
    rw [List.mem_singleton.mp h]
    simp
  | c :: r, 0, acc, p, h => by
    cases hp : TL.pre S (c :: r) with
    | true =>
      rw [TL.spl_hit hp] at h
      rcases List.mem_cons.mp h with rfl | h
      · omega
      · have := spl_mem S r _ _ p h
        simp only [List.length_nil, List.length_cons] at this ⊢
        omega
    | false =>
      rw [TL.spl_miss hp] at h
      have := spl_mem S r _ _ p h
      simp only [List.length_append, List.length_cons, List.length_nil] at this ⊢
      omega
  | c :: r, k + 1, acc, p, h => by
    have := spl_mem S r k acc p h
    simp only [List.length_cons]
    omega
theorem sp_tl : TL.tl (" " : Str) ≠ [] := by decide +kernel
theorem words_map (t : Str) : (wordsOf t).map TL.tl = TL.spl (TL.tl " ") 0 [] (TL.tl t) := TL.split_spl t " " sp_tl (TL.kind_ok (by decide +kernel))
theorem words_len (t : Str) : ∀ w ∈ wordsOf t, w.length ≤ t.length := fun w hw => by
  have h : TL.tl w ∈ (wordsOf t).map TL.tl := List.mem_map.mpr ⟨w, hw, rfl⟩
  rw [words_map] at h
  have := spl_mem _ _ _ _ _ h
  rw [TL.len_tl, TL.len_tl]
  simpa using this
theorem words_many (t : Str) : (wordsOf t).length ≤ t.length + 2 := Nat.le_trans (PyProof.Rows.split_le t " ") (by omega)
theorem spl_pos (S : List Nat) : ∀ (l : List Nat) (k : Nat) (acc : List Nat), 0 < (TL.spl S k acc l).length
  | [], k, acc => by rw [TL.spl_nil]; simp
  | c :: r, 0, acc => by
    cases hp : TL.pre S (c :: r) with
    | true => rw [TL.spl_hit hp]; simp
    | false => rw [TL.spl_miss hp]; exact spl_pos S r _ _
  | c :: r, k + 1, acc => spl_pos S r k acc
theorem words_pos (t : Str) : 0 < (wordsOf t).length := by
  have h := congrArg List.length (words_map t)
  rw [List.length_map] at h
  rw [h]
  exact spl_pos _ _ _ _
theorem sum_le {n : Nat} : ∀ {xs : List Nat}, (∀ x ∈ xs, x ≤ n) → xs.sum ≤ xs.length * n
  | [], _ => by simp
  | x :: xs, h => by
    rw [List.sum_cons, List.length_cons, Nat.succ_mul]
    have := sum_le (xs := xs) fun y hy => h y (List.mem_cons_of_mem _ hy)
    have := h x (List.mem_cons_self ..)
    omega
theorem join_len (y : Str) : ∀ ws : List Str, (Txt.join y ws).length ≤ (ws.map (·.length)).sum + ws.length * y.length := by
  have key : ∀ ws : List Str, (TL.joinL (TL.tl y) (ws.map TL.tl)).length ≤ (ws.map (·.length)).sum + ws.length * y.length := by
    intro ws
    induction ws with
    | nil => simp [TL.joinL]
    | cons w ws ih =>
      cases ws with
      | nil =>
        show (TL.tl w).length ≤ _
        rw [← TL.len_tl]
        simp
      | cons v ws =>
        show (TL.tl w ++ (TL.tl y ++ TL.joinL (TL.tl y) ((v :: ws).map TL.tl))).length ≤ _
        rw [List.length_append, List.length_append, ← TL.len_tl, ← TL.len_tl]
        have e1 : ((w :: v :: ws).map (·.length)).sum = w.length + ((v :: ws).map (·.length)).sum := by rw [List.map_cons, List.sum_cons]
        have e2 : (w :: v :: ws).length * y.length = (v :: ws).length * y.length + y.length := by rw [List.length_cons, Nat.succ_mul]
        rw [e1, e2]
        omega
  intro ws
  have e := key ws
  rw [← TL.tl_join, ← TL.join_eq, ← TL.len_tl] at e
  exact e
theorem join_two (w v : Str) (ws : List Str) : 0 < (Txt.join " " (w :: v :: ws)).length := by
  rw [TL.len_tl, TL.join_eq, TL.tl_join]
  show 0 < (TL.tl w ++ (TL.tl " " ++ TL.joinL (TL.tl " ") ((v :: ws).map TL.tl))).length
  rw [List.length_append, List.length_append]
  have : 0 < (TL.tl (" " : Str)).length := by decide +kernel
  omega
abbrev strI (i : Int) : Str := (toString i : Str)
theorem strI_len {i : Int} (h : i.natAbs < 10 ^ 9) : (strI i).length ≤ 10 := by
  show (Str.ofString (toString i)).length ≤ 10
  cases i with
  | ofNat n =>
    have := TL.numL_len (n := n) (k := 9) (by decide) (by simpa using h)
    rw [← TL.tl_num, ← TL.len_tl] at this
    exact Nat.le_trans this (by decide)
  | negSucc n =>
    have z := TL.numL_len (n := n + 1) (k := 9) (by decide) (by simpa [Int.natAbs_negSucc] using h)
    rw [← TL.tl_num, ← TL.len_tl, PyProof.Rows.ofString_length] at z
    rw [PyProof.Rows.ofString_length]
    show ("-" ++ toString (n + 1)).toList.length ≤ 10
    rw [String.toList_append, List.length_append]
    have e : (toString (((n + 1 : Nat) : Int))) = toString (n + 1) := rfl
    rw [e] at z
    have : ("-" : String).toList.length = 1 := by decide
    omega
def wordsR (r : Row) : List Str := r.a.l.map strI ++ [r.b, strI r.c]
def shownF (r : Row) : Str := Txt.join " " (wordsR r)
structure RowOk (r : Row) : Prop where
  n1 : 1 ≤ r.a.l.length
  n3 : r.a.l.length ≤ 3
  nb : ∀ x ∈ r.a.l, x.natAbs < 10 ^ 9
  wb : r.b = "most" ∨ r.b = "least"
  cb : r.c.natAbs < 10 ^ 9
theorem wordsR_len {r : Row} (h : RowOk r) : (∀ w ∈ wordsR r, w.length ≤ 10) ∧ (wordsR r).length ≤ 5 := by
  constructor
  · intro w hw
    unfold wordsR at hw
    simp only [List.mem_append, List.mem_cons, List.not_mem_nil, or_false] at hw
    rcases hw with hw | hw | hw
    · obtain ⟨x, hx, rfl⟩ := List.mem_map.mp hw
      exact strI_len (h.nb x hx)
    · rw [hw]
      rcases h.wb with e | e <;> rw [e] <;> decide +kernel
    · rw [hw]
      exact strI_len h.cb
  · have := h.n3
    simp [wordsR]
    omega
theorem one_sp : (" " : Str).length = 1 := by decide +kernel
theorem sumR {r : Row} (h : RowOk r) : ((wordsR r).map (·.length)).sum + (wordsR r).length * (" " : Str).length ≤ 60 := by
  obtain ⟨h1, h2⟩ := wordsR_len h
  have z := sum_le (n := 10) (xs := (wordsR r).map (·.length)) fun x hx => by
    obtain ⟨w, hw, rfl⟩ := List.mem_map.mp hx
    exact h1 w hw
  rw [List.length_map] at z
  rw [one_sp]
  omega
theorem shown_len {r : Row} (h : RowOk r) : (shownF r).length ≤ 60 := Nat.le_trans (join_len _ _) (sumR h)
theorem shown_pos {r : Row} (h : RowOk r) : 1 ≤ (shownF r).length := by
  unfold shownF wordsR
  have := h.n1
  cases e : r.a.l with
  | nil => rw [e] at this; simp at this
  | cons x xs =>
    cases xs with
    | nil => exact join_two _ _ _
    | cons y ys => exact join_two _ _ _
end D

set_option Elab.async false
set_option linter.all false
set_option maxRecDepth 100000
set_option maxHeartbeats 4000000
namespace D
open PySem PySem.Spec PyProof.Rows L2
open ToPy (py)
local macro_rules | `(tactic| walk_at "side") => `(tactic| first | assumption | omega | (refine Int.emod_nonneg _ ?_; omega) | (refine Int.emod_lt_of_pos _ ?_; omega) | (simp at *; omega) | (simp; done) | decide | skip)
local macro_rules | `(tactic| walk_at "d") => `(tactic| first
  | with_reducible exact ev_int | with_reducible exact ev_str | with_reducible exact ev_bl | with_reducible exact ev_non
  | exact ev_var rfl
  | with_reducible exact ev_ty
  | with_reducible exact ev_cls
  | ((with_reducible apply ev_op) <;> walk_at "d")
  | ((with_reducible apply ev_un) <;> walk_at "d")
  | ((with_reducible apply ev_call) <;> walk_at "d")
  | ((with_reducible apply ev_callX) <;> walk_at "d")
  | ((with_reducible apply ev_cb) <;> walk_at "d")
  | with_reducible exact ea_nil
  | ((with_reducible apply ea_cons) <;> walk_at "d")
  | with_reducible exact s_add
  | with_reducible exact s_sub
  | with_reducible exact s_lt
  | with_reducible exact s_le
  | with_reducible exact s_gt
  | with_reducible exact s_ge
  | with_reducible exact s_eqI
  | with_reducible exact s_neI
  | with_reducible exact s_eqS
  | with_reducible exact s_neS
  | with_reducible exact s_neB
  | exact s_eqSame (sh_ints2 _) | exact s_neSame (sh_ints2 _) | exact s_eqSame (sh_ints _) | exact s_neSame (sh_ints _)
  | ((with_reducible apply s_mod) <;> walk_at "side")
  | walk_at "div" | walk_at "mul"
  | ((with_reducible apply s_catL) <;> walk_at "side")
  | ((with_reducible apply s_repL) <;> walk_at "side")
  | with_reducible exact s_fst
  | with_reducible exact s_snd
  | with_reducible exact s_t0
  | with_reducible exact s_t1
  | with_reducible exact s_t2
  | ((with_reducible apply s_last) <;> walk_at "side")
  | ((with_reducible apply s_ixS) <;> walk_at "side")
  | ((with_reducible apply s_ix) <;> walk_at "side")
  | ((with_reducible apply s_ixT) <;> walk_at "side")
  | with_reducible exact s_negI
  | with_reducible exact c_len
  | with_reducible exact c_lI
  | with_reducible exact c_tI
  | with_reducible exact c_pI
  | with_reducible exact c_t3I
  | with_reducible exact c_sI
  | with_reducible exact c_iI
  | with_reducible exact c_iB
  | with_reducible exact c_lenP
  | with_reducible exact c_len3
  | with_reducible exact c_isInt
  | with_reducible exact c_isBool
  | with_reducible exact c_isStr
  | with_reducible exact c_isList
  | with_reducible exact c_isTup
  | with_reducible exact c_lenTup
  | with_reducible exact c_lenScr
  | with_reducible exact c_listD
  | with_reducible exact c_listTD
  | with_reducible exact c_tup
  | with_reducible exact c_abs
  | with_reducible exact c_min2
  | with_reducible exact c_max2
  | with_reducible exact c_intB
  | with_reducible exact c_sum
  | ((with_reducible apply c_min) <;> walk_at "side")
  | ((with_reducible apply c_max) <;> walk_at "side")
  | ((with_reducible apply et_val) <;> walk_at "d")
  | ((with_reducible apply et_test) <;> walk_at "d")
  | ((with_reducible apply et_not) <;> walk_at "d")
  | ((with_reducible apply et_and) <;> (try with_reducible intro _) <;> walk_at "d")
  | ((with_reducible apply et_or) <;> (try with_reducible intro _) <;> walk_at "d")
  | ((with_reducible apply ev_and) <;> (try with_reducible intro _) <;> walk_at "d")
  | ((with_reducible apply ev_or) <;> (try with_reducible intro _) <;> walk_at "d")
  | ((with_reducible apply ev_chain) <;> (try with_reducible intro _) <;> walk_at "d")
  | ((with_reducible apply ev_not) <;> walk_at "d")
  | ((with_reducible apply ev_pair) <;> walk_at "d")
  | ((with_reducible apply ev_t3) <;> walk_at "d")
  | ((with_reducible apply ev_lst1) <;> walk_at "d")
  | ((with_reducible apply ev_lst2) <;> walk_at "d")
  | ((with_reducible apply ev_lst3) <;> walk_at "d")
  | ((with_reducible apply ev_lst4) <;> walk_at "d")
  | ((with_reducible apply ev_cut) <;> walk_at "d")
  | ((with_reducible apply ep_some) <;> walk_at "d")
  | ((with_reducible apply EvD.s) <;> walk_at "d")
  | ((with_reducible apply EvT.s) <;> walk_at "d")
  | ((with_reducible apply EvN.s) <;> walk_at "d")
  | ((with_reducible apply en_lst1) <;> walk_at "d")
  | ((with_reducible apply en_lst2) <;> walk_at "d")
  | ((with_reducible apply en_lst3) <;> walk_at "d")
  | ((with_reducible apply en_lst4) <;> walk_at "d")
  | ((with_reducible apply en_cut) <;> walk_at "d")
  | with_reducible exact ev_lst0
  | with_reducible exact ep_none
  | with_reducible exact en_lst0
  | ((with_reducible apply wi_L) <;> walk_at "d")
  | ((with_reducible apply wi_T) <;> walk_at "d")
  | ((with_reducible apply wi_zip) <;> walk_at "d")
  | ((with_reducible apply WiD.s) <;> walk_at "d")
  | ((with_reducible apply wi_range) <;> walk_at "side")
  | exact spec_cell (by omega) (by omega)
  | skip)
local macro_rules | `(tactic| walk_at "div") => `(tactic| first
  | exact s_div ⟨by omega, by omega⟩
  | exact s_divW (wd_div (by first | assumption | omega) (by assumption))
  | with_reducible apply s_div)
local macro_rules | `(tactic| walk_at "mul") => `(tactic| first
  | exact s_mul (Or.inl ⟨by omega, by omega⟩) | exact s_mul (Or.inr ⟨by omega, by omega⟩)
  | exact s_mulW (wd_mul (by assumption) (by assumption))
  | with_reducible apply s_mulW)
local macro_rules | `(tactic| walk_at "fg") => `(tactic| repeat (first | exact Fg.nil | apply Fg.same | apply Fg.drop | (refine Fg.eq ?_ ?_; rotate_left)))
local macro_rules | `(tactic| walk_at "end") => `(tactic| exact bd_turnE trivial rfl (by walk_at "fg"))
local macro_rules | `(tactic| walk_at "range") => `(tactic| (apply WiD.s; apply wi_range; (walk_at "d"); omega; omega))
local macro_rules | `(tactic| walk_at "app") => `(tactic| (refine' bd_appR 0 ?_ rfl ?_ ?_ ?_ ?_; (walk_at "d"); (walk_at "d"); rotate_right))
local macro_rules | `(tactic| walk_at "lend") => `(tactic| repeat (first | exact LendC.nil | apply LendC.no | (apply LendC.one; (exact lend_list 0 rfl)) | (apply LendC.one; (exact lend_same))))
/-! ### k02: readings -/
def S_shown (K : PySem.W.Frag) (c : Cs) : Spec := fun Rs R => ∃ r : Row, Rs = [rep r] ∧ RowOk r ∧ R = rep (shownF r)
def S_number_in (K : PySem.W.Frag) (c : Cs) : Spec := fun Rs R => ∃ (w : Str) (v : Int), Rs = [rep w] ∧ w.length ≤ 100000 ∧ numP w = some v ∧ R = rep v
def SE_number_in (K : PySem.W.Frag) (c : Cs) : List RP → Addr → Prop := fun Rs C => ∃ w : Str, Rs = [rep w] ∧ w.length ≤ 100000 ∧ numP w = none ∧ C = c.BadText
def badT (d : PyData) : Prop := (∃ t : Str, d = .str t ∧ t.length ≤ 100000 ∧ rowP (wordsOf t) = none) ∨ isi d "str" = false
def S_read (K : PySem.W.Frag) (c : Cs) : Spec := fun Rs R => ∃ (t : Str) (r : Row), Rs = [rep t] ∧ t.length ≤ 100000 ∧ rowP (wordsOf t) = some r ∧ R = rep r
def SE_read (K : PySem.W.Frag) (c : Cs) : List RP → Addr → Prop := fun Rs C => ∃ d : PyData, Rs = [rpD d] ∧ badT d ∧ C = c.BadText
def n_shown : List Str := ["row", "words", "number"]
def t_shown (K : PySem.W.Frag) (c : Cs) : TS := (tSeq (tAsg (tLc (iTup K (tOp (rIx K) (tVar 0) (tC (.int 0)))) (gName 2) tYes (tCB rStrX (tCons (tVar 2) tNil)) [2]) (gName 1))
  (tSeq (tRet (tJoinX K (tC (.str " ")) (tOp (rAddX K) (tVar 1) (tLst (tCons (tOp (rIx K) (tVar 0) (tC (.int 1))) (tCons (tCB rStrX (tCons (tOp (rIx K) (tVar 0) (tC (.int 2))) tNil)) tNil))))))
  tNext))
def n_number_in : List Str := ["word", "figures", "sign"]
def t_number_in (K : PySem.W.Frag) (c : Cs) (E : XK) : TS := (tSeq (tAsg (tVar 0) (gName 1))
  (tSeq (tIfS (tTest (tOp (rEqX K) (tSl (rSlX K) (tVar 0) tNoPart (tPart (tC (.int 1)))) (tC (.str "-")))) (tSeq (tAsg (tSl (rSlX K) (tVar 0) (tPart (tC (.int 1))) tNoPart) (gName 1))
  tNext) tNext)
  (tSeq (tIfS (tNot (tTest (tChain rLeI rLeI (tC (.int 1)) (tCB (rLenX K) (tCons (tVar 1) tNil)) (tC (.int 4))))) (tSeq (tRaiseC E c.BadText)
  tNext) tNext)
  (tSeq (tFor (iStr (tVar 1)) (gName 2) (tSeq (tIfS (tTest (tOp (rNinX K) (tVar 2) (tC (.str "0123456789")))) (tSeq (tRaiseC E c.BadText)
  tNext) tNext)
  tNext))
  (tSeq (tIfS (tAnd (tTest (tOp (rEqX K) (tOp (rIx K) (tVar 1) (tC (.int 0))) (tC (.str "0")))) (tOr (tTest (tOp rGtI (tCB (rLenX K) (tCons (tVar 1) tNil)) (tC (.int 1)))) (tTest (tOp (rNeX K) (tVar 1) (tVar 0))))) (tSeq (tRaiseC E c.BadText)
  tNext) tNext)
  (tSeq (tIfS (tTest (tOp (rNeX K) (tVar 1) (tVar 0))) (tSeq (tRet (tOp rSubI (tC (.int 0)) (tCB rIntX (tCons (tVar 1) tNil))))
  tNext) tNext)
  (tSeq (tRet (tCB rIntX (tCons (tVar 1) tNil)))
  tNext)))))))
def n_read : List Str := ["text", "words", "many", "numbers", "row", "word"]
def t_read (K : PySem.W.Frag) (c : Cs) (E : XK) : TS := (tSeq (tIfS (tNot (tB (tCB (rIsi K) (tCons (tVar 0) (tCons (tC (.ty "str")) tNil))))) (tSeq (tRaiseC E c.BadText)
  tNext) tNext)
  (tSeq (tAsg (tSplitX (tVar 0) (tC (.str " "))) (gName 1))
  (tSeq (tAsg (tOp rSubI (tCB (rLenX K) (tCons (tVar 1) tNil)) (tC (.int 2))) (gName 2))
  (tSeq (tIfS (tNot (tTest (tChain rLeI rLeI (tC (.int 1)) (tVar 2) (tC (.int 3))))) (tSeq (tRaiseC E c.BadText)
  tNext) tNext)
  (tSeq (tAsg (tLc (iList K (tSl (rSlX K) (tVar 1) tNoPart (tPart (tVar 2)))) (gName 5) tYes (tCallE (spX (S_number_in K c) (SE_number_in K c)) E (tCons (tVar 5) tNil)) [5]) (gName 3))
  (tSeq (tAsg (tTup (tCons (tCB (rTupX K) (tCons (tVar 3) tNil)) (tCons (tOp (rIx K) (tVar 1) (tVar 2)) (tCons (tCallE (spX (S_number_in K c) (SE_number_in K c)) E (tCons (tOp (rIx K) (tVar 1) (tOp (rAddX K) (tVar 2) (tC (.int 1)))) tNil)) tNil)))) (gName 4))
  (tSeq (tIfS (tNot (tB (tCall (spD (S_is_row K c)) [] E0 (tCons (tVar 4) (tCons (tVar 2) tNil))))) (tSeq (tRaiseC E c.BadText)
  tNext) tNext)
  (tSeq (tRet (tVar 4))
  tNext))))))))
section
variable {K : PySem.W.Frag} {c : Cs}
theorem log_lt {i : Int} (h : i.natAbs < 10 ^ 9) : i.natAbs.log2 < 1920 := by
  by_cases e : i.natAbs = 0
  · rw [e]
    decide
  · refine (Nat.log2_lt e).mpr (Nat.lt_trans h ?_)
    exact Nat.lt_of_lt_of_le (by decide : 10 ^ 9 < 2 ^ 30) (Nat.pow_le_pow_right (by decide) (by decide))
theorem map_rl {α β : Type} [ToPy α] (xs : List α) (g : α → β) : (List.range xs.length).map (fun i => g (at_ xs i)) = xs.map g := by
  apply List.ext_getElem?
  intro i
  by_cases hi : i < xs.length
  · rw [List.getElem?_map, List.getElem?_map, List.getElem?_range hi]
    simp [at_some hi]
  · rw [List.getElem?_eq_none (by simpa using hi), List.getElem?_eq_none (by simpa using hi)]
theorem ev_words {Γ : Ctx} {wi : TI} {j : Nat} {tb tc : TE} {r : Row} (hr : RowOk r) (hw : WiD Γ wi r.a.l.length (fun i => rep (at_ r.a.l i))) (hj : j < Γ.length) (h1 : EvD Γ tb (rep r.b)) (h2 : EvD Γ tc (rep r.c)) :
    EvD Γ (tOp (rAddX K) (tLc wi (gName j) tYes (tCB rStrX (tCons (tVar j) tNil)) [j]) (tLst (tCons tb (tCons (tCB rStrX (tCons tc tNil)) tNil)))) (rep (wordsR r)) := by
  have n3 := hr.n3
  have s1 : ∀ {R : RP} {Γ : Ctx}, j < Γ.length → (Γ.set j (some R))[j]? = some (some R) := fun {R Γ} h => by
    rw [List.getElem?_set, if_pos rfl, if_pos h]
  refine ev_op (Ra := rep (r.a.l.map strI)) (Rb := rep [r.b, strI r.c]) ?_ (ev_lst2 h1 (ev_cb (ea_cons h2 ea_nil) (c_str (log_lt hr.cb)))) (s_catL (by simp; omega))
  rw [← map_rl r.a.l strI]
  apply ev_lc (α := Str) (n := r.a.l.length) (item := fun i => rep (at_ r.a.l i)) (val := fun i => strI (at_ r.a.l i)) hw
  · intro i hi
    exact tl_name (by simp)
  · intro i hi
    exact ev_cb (ea_cons (ev_var (s1 (by simpa [wipeC] using hj))) ea_nil) (c_str (log_lt (hr.nb _ (at_mem hi))))
  · omega
theorem rd_shown : ∀ Rs R, S_shown K c Rs R → ∀ B : Base, B.m = [] → BDe B (startC n_shown Rs) [] (t_shown K c) (fnP B R) := by
  rintro _ _ ⟨r, rfl, hr, rfl⟩ B hm
  have n3 := hr.n3
  apply bd_set (R := rep (r.a.l.map strI))
  · apply EvD.s
    rw [← map_rl r.a.l strI]
    apply ev_lc (α := Str) (n := r.a.l.length) (item := fun i => rep (at_ r.a.l i)) (val := fun i => strI (at_ r.a.l i))
    · exact wi_T (ev_op (ev_var rfl) ev_int s_t0)
    · intro i hi
      exact tl_name (by simp)
    · intro i hi
      exact ev_cb (ea_cons (ev_var rfl) ea_nil) (c_str (log_lt (hr.nb _ (at_mem hi))))
    · omega
  apply bd_retR hm
  apply EvD.s
  refine ev_join (x := " ") (ys := wordsR r) ev_str ?_ (Nat.le_trans (sumR hr) (by decide))
  exact ev_op (Ra := rep (r.a.l.map strI)) (Rb := rep [r.b, strI r.c]) (ev_var rfl) (ev_lst2 (ev_op (ev_var rfl) ev_int s_t1) (ev_cb (ea_cons (ev_op (ev_var rfl) ev_int s_t2) ea_nil) (c_str (log_lt hr.cb)))) (s_catL (by simp; omega))
/-! number_in -/
theorem at_head {F : Str} (h : 0 < F.length) : atI F.cps.toList 0 = some (F.cps.toList.getD 0 0) := by
  rw [len_cps] at h
  generalize F.cps.toList = cs at *
  cases cs with
  | nil => simp at h
  | cons a cs =>
    unfold atI ixN
    rw [if_pos (by decide), if_pos (by simp)]
    rfl
theorem not_all {F : Str} {i : Nat} (h : i < F.cps.toList.length) (z : decide (F.cps.toList.getD i 0 ∈ FIGS.cps.toList) = false) : allFig F = false := by
  unfold allFig
  rw [List.all_eq_false]
  refine ⟨F.cps.toList.getD i 0, ?_, by rw [z]; exact Bool.false_ne_true⟩
  rw [List.getD_eq_getElem?_getD, List.getElem?_eq_getElem h]
  exact List.getElem_mem _
theorem all_of {F : Str} (h : ∀ i, i < F.cps.toList.length → decide (F.cps.toList.getD i 0 ∈ FIGS.cps.toList) = true) : allFig F = true := by
  unfold allFig
  rw [List.all_eq_true]
  intro k hk
  obtain ⟨i, hi, e⟩ := List.getElem_of_mem hk
  have := h i hi
  rw [List.getD_eq_getElem?_getD, List.getElem?_eq_getElem hi] at this
  rw [← e]
  exact this
theorem num_core {w : Str} {B : Base} {E : XK} {P : Post} (hl : w.length ≤ 100000) (hm : B.m = []) (hE : numP w = none → Raises B E c.BadText) (hP : ∀ v, numP w = some v → ∀ u f h, Ext B.f B.h f h → (rep v).p u f → P.rt u f h) :
    BDe B (startC n_number_in [rep w]) [] (t_number_in K c E) P := by
  have fl := figs_len w
  apply bd_set (R := rep w)
  · exact EvD.s (ev_var rfl)
  apply bd_ifset (b := decide (cutS w none (some 1) = "-")) (a := cutS w (some 1) none) (c := w)
  · exact EvT.s (et_test (ev_op (ev_cutS (ev_var rfl) ep_none (ep_some ev_int) (by omega)) ev_str s_eqS))
  · intro _
    exact EvD.s (ev_cutS (ev_var rfl) (ep_some ev_int) ep_none (by omega))
  · rfl
  show BDe B ([some (rep w), some (rep (figs w)), none]) [] _ _
  generalize hF : figs w = F at *
  have ln : EvD [some (rep w), some (rep F), none] (tCB (rLenX K) (tCons (tVar 1) tNil)) (rep (F.length : Int)) := ev_cb (ea_cons (ev_var rfl) ea_nil) (c_lenS (by omega))
  by_cases h1 : 1 ≤ F.length ∧ F.length ≤ 4
  rotate_left
  · apply bd_ifr (b := true)
    · apply EvT.s
      refine et_eq (et_not (et_test (ev_chain (Rb := rep (F.length : Int)) ev_int ln ev_int s_le fun _ => s_le))) ?_
      simp
      omega
    · intro _
      refine bd_raise hm (hE ?_)
      unfold numP
      rw [if_neg]
      rintro ⟨a, b⟩
      have := okW_pos a
      rw [hF] at this b
      omega
    · intro h
      cases h
  apply bd_ifr (b := false)
  · apply EvT.s
    refine et_eq (et_not (et_test (ev_chain (Rb := rep (F.length : Int)) ev_int ln ev_int s_le fun _ => s_le))) ?_
    simp
    omega
  · intro h
    cases h
  intro _
  apply bd_forE (n := F.cps.toList.length) (item := fun i => rep (⟨#[F.cps.toList.getD i 0]⟩ : Str)) (fun _ => [some (rep w), some (rep F), none]) (fun _ => []) (fun i => ∀ j, j < i → decide (F.cps.toList.getD j 0 ∈ FIGS.cps.toList) = true)
  · exact WiD.s (wi_str (ev_var rfl))
  · walk_at "fg"
  · rfl
  · intro j hj
    omega
  · intro i hi
    exact tg_name
  · intro i hi Fi
    apply bd_ifr (b := !decide (F.cps.toList.getD i 0 ∈ FIGS.cps.toList))
    · exact EvT.s (et_test (ev_op (ev_var rfl) ev_str s_ninSg))
    · intro hb
      simp only [Bool.not_eq_true'] at hb
      refine bd_raise hm (hE ?_)
      unfold numP
      rw [if_neg]
      rintro ⟨a, _⟩
      have := okW_all a
      rw [hF, not_all hi hb] at this
      cases this
    · intro hb
      simp only [Bool.not_eq_false'] at hb
      refine bd_turnE ?_ rfl (by walk_at "fg")
      intro j hj
      by_cases e : j = i
      · rw [e]
        exact hb
      · exact Fi j (by omega)
  intro Fi
  have hA : allFig F = true := all_of Fi
  have neF : ∀ {b : Bool}, (!decide (F = w)) = b → EvT [some (rep w), some (rep F), none] (tTest (tOp (rNeX K) (tVar 1) (tVar 0))) b := fun e => et_eq (et_test (ev_op (ev_var rfl) (ev_var rfl) s_neS)) e
  apply bd_ifr (b := decide (headS F = "0") && (decide (1 < F.length) || !decide (F = w)))
  · apply EvT.s
    apply et_and
    · exact et_test (ev_op (ev_op (ev_var rfl) ev_int (s_ixStr (by omega) (at_head (by omega)))) ev_str s_eqS)
    · intro _
      apply et_or
      · refine et_eq (et_test (ev_op ln ev_int s_gt)) ?_
        exact decide_eq_decide.mpr (by omega)
      · intro _
        exact neF rfl
  · intro hb
    refine bd_raise hm (hE ?_)
    unfold numP
    rw [if_neg]
    rintro ⟨a, _⟩
    simp only [okW, hF, hb, Bool.not_true, Bool.and_false] at a
    cases a
  intro hb
  have hk : okW w = true := by
    simp only [okW, hF, hb, hA, decide_eq_true (show 0 < F.length by omega), Bool.not_false, Bool.and_self]
  have hv : valW w = ((NumText.digitsVal F.cps.toList : Nat) : Int) := by rw [valW, hF]
  have ei : EvD [some (rep w), some (rep F), none] (tCB rIntX (tCons (tVar 1) tNil)) (rep (valW w)) := by
    rw [hv]
    exact ev_cb (ea_cons (ev_var rfl) ea_nil) (c_intS (intText_figs hA (by omega) (by omega)) (by omega))
  have hn : numP w = some (sgnW w) := if_pos ⟨hk, by rw [hF]; omega⟩
  by_cases hw : F = w
  · apply bd_ifr (b := false)
    · exact EvT.s (neF (by simp [hw]))
    · intro h
      cases h
    intro _
    refine bd_ret (EvD.s ei) hm fun v f h e r => hP _ hn v f h e ?_
    rw [sgnW, hF, if_pos hw]
    exact r
  · apply bd_ifr (b := true)
    · exact EvT.s (neF (by simp [hw]))
    · intro _
      refine bd_ret (EvD.s (ev_op ev_int ei s_sub)) hm fun v f h e r => hP _ hn v f h e ?_
      rw [sgnW, hF, if_neg hw]
      exact r
    · intro h
      cases h
theorem rd_number_in : ∀ Rs R, S_number_in K c Rs R → ∀ (B : Base) (E : XK), B.m = [] → BDe B (startC n_number_in Rs) [] (t_number_in K c E) (fnP B R) := by
  rintro _ _ ⟨w, v, rfl, hl, hv, rfl⟩ B E hm
  refine num_core hl hm (fun z => ?_) fun v' e u f h x r => ⟨x, ?_⟩
  · rw [hv] at z
    cases z
  · rw [hv] at e
    cases e
    exact r
theorem rd_number_inX : ∀ Rs C, SE_number_in K c Rs C → ∀ (B : Base) (E : XK), B.m = [] → Raises B E C → BDe B (startC n_number_in Rs) [] (t_number_in K c E) noP := by
  rintro _ _ ⟨w, rfl, hl, hv, rfl⟩ B E hm hE
  refine num_core hl hm (fun _ => hE) fun v e => ?_
  rw [hv] at e
  cases e
/-! read -/
theorem at_wAt {ws : List Str} {k : Nat} {z : Int} (h : k < ws.length) (e : z = (k : Int)) : ix ws z = wAt ws k := by
  subst e
  unfold ix wAt
  rw [Int.toNat_natCast, List.getD_eq_getElem?_getD, List.getD_eq_getElem?_getD, List.getElem?_eq_getElem h]
  rfl
theorem take_at {ws : List Str} {n i : Nat} (h : i < n) (hn : n ≤ ws.length) : at_ (ws.take n) i = at_ ws i := by
  unfold at_
  rw [List.getD_eq_getElem?_getD, List.getD_eq_getElem?_getD, List.getElem?_take, if_pos h]
theorem cut_to {ws : List Str} {k : Nat} (h : k ≤ ws.length) : cut ws none (some (k : Int)) = ws.take k := by
  unfold cut
  have e1 : HT.sIx ws.length 0 none = 0 := rfl
  have e2 : HT.sIx ws.length ws.length (some (k : Int)) = k := by
    show (if (k : Int) < 0 then ((k : Int) + (ws.length : Int)).toNat else min (k : Int).toNat ws.length) = k
    rw [if_neg (by omega)]
    omega
  rw [e1, e2]
  simp
theorem first_none : ∀ ws : List Str, none ∈ ws.map numP → ∃ k, k < ws.length ∧ (∀ i, i < k → (numP (at_ ws i)).isSome = true) ∧ numP (at_ ws k) = none
  | [], h => by simp at h
  | w :: ws, h => by
    cases e : numP w with
    | none => exact ⟨0, by simp, fun i hi => by omega, e⟩
    | some v =>
      rw [List.map_cons, e] at h
      have h : none ∈ ws.map numP := by simpa using h
      obtain ⟨k, h1, h2, h3⟩ := first_none ws h
      refine ⟨k + 1, by simp; omega, fun i hi => ?_, h3⟩
      cases i with
      | zero =>
        show (numP w).isSome = true
        rw [e]
        rfl
      | succ i => exact h2 i (by omega)
theorem is_some_get {o : Option Int} (h : o.isSome = true) : o = some (o.getD 0) := by
  cases o with
  | none => cases h
  | some v => rfl
theorem read_core {t : Str} {B : Base} {E : XK} {P : Post} (hl : t.length ≤ 100000) (hm : B.m = []) (hE : rowP (wordsOf t) = none → Raises B E c.BadText) (hP : ∀ r, rowP (wordsOf t) = some r → ∀ u f h, Ext B.f B.h f h → (rep r).p u f → P.rt u f h) :
    BDe B (startC n_read [rep t]) [] (t_read K c E) P := by
  have wl := words_len t
  have wm := words_many t
  apply bd_ifr (b := false)
  · exact EvT.s (et_eq (et_not (et_val (ev_cb (ea_cons (ev_var rfl) (ea_cons ev_ty ea_nil)) c_sI))) rfl)
  · intro h
    cases h
  intro _
  apply bd_set (R := rep (wordsOf t))
  · exact EvD.s (ev_split (ev_var rfl) ev_str (by decide +kernel) (by omega))
  generalize wordsOf t = ws at *
  apply bd_set (R := rep ((ws.length : Int) - 2))
  · exact EvD.s (ev_op (ev_cb (ea_cons (ev_var rfl) ea_nil) c_len) ev_int s_sub)
  by_cases h3 : three5 ws
  rotate_left
  · apply bd_ifr (b := true)
    · apply EvT.s
      refine et_eq (et_not (et_test (ev_chain (Rb := rep ((ws.length : Int) - 2)) ev_int (ev_var rfl) ev_int s_le fun _ => s_le))) ?_
      unfold three5 at h3
      simp
      omega
    · intro _
      exact bd_raise hm (hE (if_neg h3))
    · intro h
      cases h
  have l3 : 3 ≤ ws.length := h3.1
  have l5 : ws.length ≤ 5 := h3.2
  apply bd_ifr (b := false)
  · apply EvT.s
    refine et_eq (et_not (et_test (ev_chain (Rb := rep ((ws.length : Int) - 2)) ev_int (ev_var rfl) ev_int s_le fun _ => s_le))) ?_
    simp
    omega
  · intro h
    cases h
  intro _
  have lw : (ws.take (ws.length - 2)).length = ws.length - 2 := by rw [List.length_take]; omega
  have ec : cut ws none (some ((ws.length : Int) - 2)) = ws.take (ws.length - 2) := by
    have e : (ws.length : Int) - 2 = ((ws.length - 2 : Nat) : Int) := by omega
    rw [e, cut_to (by omega)]
  have mem : ∀ w ∈ ws.take (ws.length - 2), w.length ≤ 100000 := fun w hw => by
    have := wl w (List.mem_of_mem_take hw)
    omega
  show BDe B [some (rep t), some (rep ws), some (rep ((ws.length : Int) - 2)), none, none, none] [] _ _
  have wi : WiD [some (rep t), some (rep ws), some (rep ((ws.length : Int) - 2)), none, none, none] (iList K (tSl (rSlX K) (tVar 1) tNoPart (tPart (tVar 2)))) (ws.take (ws.length - 2)).length (fun i => rep (at_ (ws.take (ws.length - 2)) i)) := by
    refine wi_L ?_
    rw [← ec]
    exact (en_cut (xs := ws) (ev_var rfl) ep_none (ep_some (ev_var rfl))).evD
  by_cases hn : none ∈ (ws.take (ws.length - 2)).map numP
  · obtain ⟨k, k1, k2, k3⟩ := first_none _ hn
    refine bd_setX hm (hE ?_) ?_
    · unfold rowP
      rw [if_pos h3, if_pos hn]
    refine ex_lc wi (G' := fun i => wipeC [some (rep t), some (rep ws), some (rep ((ws.length : Int) - 2)), none, none, some (rep (at_ (ws.take (ws.length - 2)) i))] []) (fun i hi => tl_name (by simp)) k k1 (val := fun i => rep ((numP (at_ (ws.take (ws.length - 2)) i)).getD 0)) (fun i hi => ?_) ?_ (by omega)
    · exact ev_callE (ea_cons (ev_var rfl) ea_nil) ⟨_, _, rfl, mem _ (at_mem (by omega)), is_some_get (k2 i hi), rfl⟩
    · exact ex_callE (ea_cons (ev_var rfl) ea_nil) ⟨_, rfl, mem _ (at_mem k1), k3, rfl⟩
  have all : ∀ w ∈ ws.take (ws.length - 2), numP w = some ((numP w).getD 0) := fun w hw => by
    cases e : numP w with
    | none => exact absurd (List.mem_map.mpr ⟨w, hw, e⟩) hn
    | some v => rfl
  apply bd_set (R := rep (valsP ws))
  · apply EvD.s
    unfold valsP
    rw [← map_rl (ws.take (ws.length - 2)) fun w => (numP w).getD 0]
    apply ev_lc (α := Int) (val := fun i => (numP (at_ (ws.take (ws.length - 2)) i)).getD 0) wi
    · intro i hi
      exact tl_name (by simp)
    · intro i hi
      exact ev_callE (ea_cons (ev_var rfl) ea_nil) ⟨_, _, rfl, mem _ (at_mem hi), all _ (at_mem hi), rfl⟩
    · omega
  show BDe B [some (rep t), some (rep ws), some (rep ((ws.length : Int) - 2)), some (rep (valsP ws)), none, none] [] _ _
  generalize hG : [some (rep t), some (rep ws), some (rep ((ws.length : Int) - 2)), some (rep (valsP ws)), none, none] = G
  have v1 : EvD G (tVar 1) (rep ws) := by rw [← hG]; exact ev_var rfl
  have v2 : EvD G (tVar 2) (rep ((ws.length : Int) - 2)) := by rw [← hG]; exact ev_var rfl
  have v3 : EvD G (tVar 3) (rep (valsP ws)) := by rw [← hG]; exact ev_var rfl
  have e1 : EvD G (tOp (rIx K) (tVar 1) (tVar 2)) (rep (wAt ws (ws.length - 2))) := by
    rw [← at_wAt (z := (ws.length : Int) - 2) (k := ws.length - 2) (by omega) (by omega)]
    exact ev_op v1 v2 (s_ix (by omega) (by omega))
  have e2 : EvD G (tOp (rIx K) (tVar 1) (tOp (rAddX K) (tVar 2) (tC (.int 1)))) (rep (wAt ws (ws.length - 1))) := by
    rw [← at_wAt (z := (ws.length : Int) - 2 + 1) (k := ws.length - 1) (by omega) (by omega)]
    exact ev_op v1 (ev_op v2 ev_int s_add) (s_ix (by omega) (by omega))
  have m2 : (wAt ws (ws.length - 1)).length ≤ 100000 := by
    have : wAt ws (ws.length - 1) ∈ ws := by
      unfold wAt
      rw [List.getD_eq_getElem?_getD, List.getElem?_eq_getElem (by omega)]
      exact List.getElem_mem _
    have := wl _ this
    omega
  have eT : EvD G (tCB (rTupX K) (tCons (tVar 3) tNil)) (rep (Tup.mk (valsP ws))) := ev_cb (ea_cons v3 ea_nil) c_tup
  cases hb : numP (wAt ws (ws.length - 1)) with
  | none =>
    refine bd_setX hm (hE ?_) (ex_tup (exa_next eT (exa_next e1 (exa_here (ex_callE (ea_cons e2 ea_nil) ⟨_, rfl, m2, hb, rfl⟩)))))
    unfold rowP
    rw [if_pos h3, if_neg hn, hb]
  | some b =>
    have hr : rowP ws = if isRow (py (rowOf ws b)) ((ws.length : Int) - 2) = true then some (rowOf ws b) else none := by
      unfold rowP
      rw [if_pos h3, if_neg hn, hb]
    apply bd_set (R := rep (rowOf ws b))
    · exact EvD.s (ev_t3 eT e1 (ev_callE (ea_cons e2 ea_nil) ⟨_, _, rfl, m2, hb, rfl⟩))
    subst hG
    apply bd_ifr (b := !isRow (py (rowOf ws b)) ((ws.length : Int) - 2))
    · exact EvT.s (et_not (et_val (ev_call (ea_cons (ev_var rfl) (ea_cons (ev_var rfl) ea_nil)) ⟨_, _, rfl, rfl⟩)))
    · intro h
      simp only [Bool.not_eq_true'] at h
      refine bd_raise hm (hE ?_)
      rw [hr, if_neg (by rw [h]; exact Bool.false_ne_true)]
    · intro h
      simp only [Bool.not_eq_false'] at h
      refine bd_ret (EvD.s (ev_var rfl)) hm fun v f hp x r => hP _ ?_ v f hp x r
      rw [hr, if_pos h]
theorem rd_read : ∀ Rs R, S_read K c Rs R → ∀ (B : Base) (E : XK), B.m = [] → BDe B (startC n_read Rs) [] (t_read K c E) (fnP B R) := by
  rintro _ _ ⟨t, r, rfl, hl, hr, rfl⟩ B E hm
  refine read_core hl hm (fun z => ?_) fun r' e u f h x y => ⟨x, ?_⟩
  · rw [hr] at z
    cases z
  · rw [hr] at e
    cases e
    exact y
theorem rd_readX : ∀ Rs C, SE_read K c Rs C → ∀ (B : Base) (E : XK), B.m = [] → Raises B E C → BDe B (startC n_read Rs) [] (t_read K c E) noP := by
  rintro _ _ ⟨d, rfl, h, rfl⟩ B E hm hE
  rcases h with ⟨t, rfl, hl, hr⟩ | h
  · refine read_core hl hm (fun _ => hE) fun r e => ?_
    rw [hr] at e
    cases e
  · apply bd_ifr (b := true)
    · refine EvT.s (et_eq (et_not (et_val (ev_cb (ea_cons (ev_var rfl) (ea_cons ev_ty ea_nil)) c_isStr))) ?_)
      rw [h]
      rfl
    · intro _
      exact bd_raise hm hE
    · intro z
      cases z
end
end D

set_option Elab.async false
set_option linter.all false
set_option maxRecDepth 100000
set_option maxHeartbeats 4000000
namespace D
open PySem PySem.Spec PyProof.Rows L2
open ToPy (py)
local macro_rules | `(tactic| walk_at "side") => `(tactic| first | assumption | omega | (refine Int.emod_nonneg _ ?_; omega) | (refine Int.emod_lt_of_pos _ ?_; omega) | (simp at *; omega) | (simp; done) | decide | skip)
local macro_rules | `(tactic| walk_at "d") => `(tactic| first
  | with_reducible exact ev_int | with_reducible exact ev_str | with_reducible exact ev_bl | with_reducible exact ev_non
  | exact ev_var rfl
  | with_reducible exact ev_ty
  | with_reducible exact ev_cls
  | ((with_reducible apply ev_op) <;> walk_at "d")
  | ((with_reducible apply ev_un) <;> walk_at "d")
  | ((with_reducible apply ev_call) <;> walk_at "d")
  | ((with_reducible apply ev_callX) <;> walk_at "d")
  | ((with_reducible apply ev_cb) <;> walk_at "d")
  | with_reducible exact ea_nil
  | ((with_reducible apply ea_cons) <;> walk_at "d")
  | with_reducible exact s_add
  | with_reducible exact s_sub
  | with_reducible exact s_lt
  | with_reducible exact s_le
  | with_reducible exact s_gt
  | with_reducible exact s_ge
  | with_reducible exact s_eqI
  | with_reducible exact s_neI
  | with_reducible exact s_eqS
  | with_reducible exact s_neS
  | with_reducible exact s_neB
  | exact s_eqSame (sh_ints2 _) | exact s_neSame (sh_ints2 _) | exact s_eqSame (sh_ints _) | exact s_neSame (sh_ints _)
  | ((with_reducible apply s_mod) <;> walk_at "side")
  | walk_at "div" | walk_at "mul"
  | ((with_reducible apply s_catL) <;> walk_at "side")
  | ((with_reducible apply s_repL) <;> walk_at "side")
  | with_reducible exact s_fst
  | with_reducible exact s_snd
  | with_reducible exact s_t0
  | with_reducible exact s_t1
  | with_reducible exact s_t2
  | ((with_reducible apply s_last) <;> walk_at "side")
  | ((with_reducible apply s_ixS) <;> walk_at "side")
  | ((with_reducible apply s_ix) <;> walk_at "side")
  | ((with_reducible apply s_ixT) <;> walk_at "side")
  | with_reducible exact s_negI
  | with_reducible exact c_len
  | with_reducible exact c_lI
  | with_reducible exact c_tI
  | with_reducible exact c_pI
  | with_reducible exact c_t3I
  | with_reducible exact c_sI
  | with_reducible exact c_iI
  | with_reducible exact c_iB
  | with_reducible exact c_lenP
  | with_reducible exact c_len3
  | with_reducible exact c_isInt
  | with_reducible exact c_isBool
  | with_reducible exact c_isStr
  | with_reducible exact c_isList
  | with_reducible exact c_isTup
  | with_reducible exact c_lenTup
  | with_reducible exact c_lenScr
  | with_reducible exact c_listD
  | with_reducible exact c_listTD
  | with_reducible exact c_tup
  | with_reducible exact c_abs
  | with_reducible exact c_min2
  | with_reducible exact c_max2
  | with_reducible exact c_intB
  | with_reducible exact c_sum
  | ((with_reducible apply c_min) <;> walk_at "side")
  | ((with_reducible apply c_max) <;> walk_at "side")
  | ((with_reducible apply et_val) <;> walk_at "d")
  | ((with_reducible apply et_test) <;> walk_at "d")
  | ((with_reducible apply et_not) <;> walk_at "d")
  | ((with_reducible apply et_and) <;> (try with_reducible intro _) <;> walk_at "d")
  | ((with_reducible apply et_or) <;> (try with_reducible intro _) <;> walk_at "d")
  | ((with_reducible apply ev_and) <;> (try with_reducible intro _) <;> walk_at "d")
  | ((with_reducible apply ev_or) <;> (try with_reducible intro _) <;> walk_at "d")
  | ((with_reducible apply ev_chain) <;> (try with_reducible intro _) <;> walk_at "d")
  | ((with_reducible apply ev_not) <;> walk_at "d")
  | ((with_reducible apply ev_pair) <;> walk_at "d")
  | ((with_reducible apply ev_t3) <;> walk_at "d")
  | ((with_reducible apply ev_lst1) <;> walk_at "d")
  | ((with_reducible apply ev_lst2) <;> walk_at "d")
  | ((with_reducible apply ev_lst3) <;> walk_at "d")
  | ((with_reducible apply ev_lst4) <;> walk_at "d")
  | ((with_reducible apply ev_cut) <;> walk_at "d")
  | ((with_reducible apply ep_some) <;> walk_at "d")
  | ((with_reducible apply EvD.s) <;> walk_at "d")
  | ((with_reducible apply EvT.s) <;> walk_at "d")
  | ((with_reducible apply EvN.s) <;> walk_at "d")
  | ((with_reducible apply en_lst1) <;> walk_at "d")
  | ((with_reducible apply en_lst2) <;> walk_at "d")
  | ((with_reducible apply en_lst3) <;> walk_at "d")
  | ((with_reducible apply en_lst4) <;> walk_at "d")
  | ((with_reducible apply en_cut) <;> walk_at "d")
  | with_reducible exact ev_lst0
  | with_reducible exact ep_none
  | with_reducible exact en_lst0
  | ((with_reducible apply wi_L) <;> walk_at "d")
  | ((with_reducible apply wi_T) <;> walk_at "d")
  | ((with_reducible apply wi_zip) <;> walk_at "d")
  | ((with_reducible apply WiD.s) <;> walk_at "d")
  | ((with_reducible apply wi_range) <;> walk_at "side")
  | exact spec_cell (by omega) (by omega)
  | skip)
local macro_rules | `(tactic| walk_at "div") => `(tactic| first
  | exact s_div ⟨by omega, by omega⟩
  | exact s_divW (wd_div (by first | assumption | omega) (by assumption))
  | with_reducible apply s_div)
local macro_rules | `(tactic| walk_at "mul") => `(tactic| first
  | exact s_mul (Or.inl ⟨by omega, by omega⟩) | exact s_mul (Or.inr ⟨by omega, by omega⟩)
  | exact s_mulW (wd_mul (by assumption) (by assumption))
  | with_reducible apply s_mulW)
local macro_rules | `(tactic| walk_at "fg") => `(tactic| repeat (first | exact Fg.nil | apply Fg.same | apply Fg.drop | (refine Fg.eq ?_ ?_; rotate_left)))
local macro_rules | `(tactic| walk_at "end") => `(tactic| exact bd_turnE trivial rfl (by walk_at "fg"))
local macro_rules | `(tactic| walk_at "range") => `(tactic| (apply WiD.s; apply wi_range; (walk_at "d"); omega; omega))
local macro_rules | `(tactic| walk_at "app") => `(tactic| (refine' bd_appR 0 ?_ rfl ?_ ?_ ?_ ?_; (walk_at "d"); (walk_at "d"); rotate_right))
local macro_rules | `(tactic| walk_at "lend") => `(tactic| repeat (first | exact LendC.nil | apply LendC.no | (apply LendC.one; (exact lend_list 0 rfl)) | (apply LendC.one; (exact lend_same))))
local macro_rules | `(tactic| walk_at "lend") => `(tactic| repeat (first | exact LendC.nil | apply LendC.no | (apply LendC.one; (exact lend_list 0 rfl)) | (apply LendC.one; (exact lend_same))))
/-! ### k02: the law's own -/
def S_law_whole (K : PySem.W.Frag) (c : Cs) : Spec := fun Rs R => ∃ x : Int, Rs = [rep x] ∧ R = rep true
def S_law_number_in (K : PySem.W.Frag) (c : Cs) : Spec := fun Rs R => ∃ (w : Str) (m : Int), Rs = [rep w, rep m] ∧ w.length ≤ 100000 ∧ R = rep (numL w m)
def S_law_read (K : PySem.W.Frag) (c : Cs) : Spec := fun Rs R => ∃ t : Str, Rs = [rep t] ∧ t.length ≤ 100000 ∧ R = rep (rowL (wordsOf t))
def S_law_odd (K : PySem.W.Frag) (c : Cs) : Spec := fun Rs R => ∃ cell : Int, Rs = [rep cell] ∧ 0 ≤ cell ∧ R = strR 100000
def S_law_text (K : PySem.W.Frag) (c : Cs) : Spec := fun Rs R => ∃ (x : Str) (k cell : Int), Rs = [rep x, rep k, rep cell] ∧ 1 ≤ x.length ∧ x.length ≤ 100 ∧ 0 ≤ cell ∧ R = strR 100000
def S_law_refused (K : PySem.W.Frag) (c : Cs) : Spec := fun Rs R => ∃ d : PyData, Rs = [rpD d] ∧ badT d ∧ R = rep true
def n_law_cell_at : List Str := ["_law_script", "_law_k", "_law_cell"]
def t_law_cell_at (K : PySem.W.Frag) (c : Cs) : TS := (tSeq (tAsg (tC (.int 0)) (gName 2))
  (tSeq (tIfS (tTest (tOp rGtI (tCB (rLenX K) (tCons (tVar 0) tNil)) (tC (.int 0)))) (tSeq (tAsg (tOp (rIx K) (tVar 0) (tOp rModI (tVar 1) (tCB (rLenX K) (tCons (tVar 0) tNil)))) (gName 2))
  tNext) tNext)
  (tSeq (tRet (tOp rModI (tOp (rMulX K) (tOp (rAddX K) (tVar 2) (tOp (rMulX K) (tC (.int 17)) (tVar 1))) (tC (.int 48271))) (tC (.int 1000003))))
  tNext)))
def n_law_whole : List Str := ["_law_found"]
def t_law_whole (K : PySem.W.Frag) (c : Cs) : TS := (tSeq (tRet (tAndV (tCB (rIsi K) (tCons (tVar 0) (tCons (tC (.ty "int")) tNil))) (tNotV (tCB (rIsi K) (tCons (tVar 0) (tCons (tC (.ty "bool")) tNil))))))
  tNext)
def n_law_number_in : List Str := ["_law_word", "_law_most", "_law_figures", "_law_sign", "_law_found"]
def t_law_number_in (K : PySem.W.Frag) (c : Cs) : TS := (tSeq (tAsg (tVar 0) (gName 2))
  (tSeq (tIfS (tTest (tOp (rEqX K) (tSl (rSlX K) (tVar 0) tNoPart (tPart (tC (.int 1)))) (tC (.str "-")))) (tSeq (tAsg (tSl (rSlX K) (tVar 0) (tPart (tC (.int 1))) tNoPart) (gName 2))
  tNext) tNext)
  (tSeq (tIfS (tOr (tTest (tOp (rEqX K) (tVar 2) (tC (.str "")))) (tTest (tOp rGtI (tCB (rLenX K) (tCons (tVar 2) tNil)) (tC (.int 6))))) (tSeq (tRet (tC .non))
  tNext) tNext)
  (tSeq (tFor (iStr (tVar 2)) (gName 3) (tSeq (tIfS (tTest (tOp (rNinX K) (tVar 3) (tC (.str "0123456789")))) (tSeq (tRet (tC .non))
  tNext) tNext)
  tNext))
  (tSeq (tIfS (tAnd (tTest (tOp (rEqX K) (tOp (rIx K) (tVar 2) (tC (.int 0))) (tC (.str "0")))) (tOr (tTest (tOp rGtI (tCB (rLenX K) (tCons (tVar 2) tNil)) (tC (.int 1)))) (tTest (tOp (rNeX K) (tVar 2) (tVar 0))))) (tSeq (tRet (tC .non))
  tNext) tNext)
  (tSeq (tAsg (tCB rIntX (tCons (tVar 2) tNil)) (gName 4))
  (tSeq (tIfS (tTest (tOp rGtI (tVar 4) (tVar 1))) (tSeq (tRet (tC .non))
  tNext) tNext)
  (tSeq (tIfS (tTest (tOp (rNeX K) (tVar 2) (tVar 0))) (tSeq (tAsg (tOp rSubI (tC (.int 0)) (tVar 4)) (gName 4))
  tNext) tNext)
  (tSeq (tRet (tVar 4))
  tNext)))))))))
def n_law_read : List Str := ["_law_text_here", "_law_words", "_law_numbers", "_law_bound", "_law_word"]
def t_law_read (K : PySem.W.Frag) (c : Cs) : TS := (tSeq (tAsg (tSplitX (tVar 0) (tC (.str " "))) (gName 1))
  (tSeq (tIfS (tOr (tNot (tTest (tChain rLeI rLeI (tC (.int 3)) (tCB (rLenX K) (tCons (tVar 1) tNil)) (tC (.int 5))))) (tTest (tOp (rNinX K) (tOp (rIx K) (tVar 1) (tUn rNegI (tC (.int 2)))) (tLst (tCons (tC (.str "most")) (tCons (tC (.str "least")) tNil)))))) (tSeq (tRet (tC .non))
  tNext) tNext)
  (tSeq (tAsg (tLc (iList K (tSl (rSlX K) (tVar 1) tNoPart (tPart (tUn rNegI (tC (.int 2)))))) (gName 4) tYes (tCall (spD (S_law_number_in K c)) [] E0 (tCons (tVar 4) (tCons (tC (.int 50)) tNil))) [4]) (gName 2))
  (tSeq (tAsg (tCall (spD (S_law_number_in K c)) [] E0 (tCons (tOp (rIx K) (tVar 1) (tUn rNegI (tC (.int 1)))) (tCons (tC (.int 2000)) tNil))) (gName 3))
  (tSeq (tIfS (tOr (tTest (tOp (rInX K) (tC .non) (tVar 2))) (tTest (tOp rIsNo (tVar 3) (tC .non)))) (tSeq (tRet (tC .non))
  tNext) tNext)
  (tSeq (tRet (tTup (tCons (tCB (rTupX K) (tCons (tVar 2) tNil)) (tCons (tOp (rIx K) (tVar 1) (tUn rNegI (tC (.int 2)))) (tCons (tVar 3) tNil)))))
  tNext))))))
def n_law_odd : List Str := ["_law_cell", "_law_some"]
def t_law_odd (K : PySem.W.Frag) (c : Cs) : TS := (tSeq (tAsg (tLst (tCons (tC (.str "")) (tCons (tC (.str " ")) (tCons (tC (.str "1 most")) (tCons (tC (.str "most 3")) (tCons (tC (.str "1 2 3 4 most 5")) (tCons (tC (.str "1 more 2")) (tCons (tC (.str "51 most 0")) (tCons (tC (.str "-51 most 0")) (tCons (tC (.str "1 most 2001")) tNil)))))))))) (gName 1))
  (tSeq (tAsg (tOp (rAddX K) (tVar 1) (tLst (tCons (tC (.str "1 least -2001")) (tCons (tC (.str "-0 most 1")) (tCons (tC (.str "01 most 1")) (tCons (tC (.str "1 most -0")) (tCons (tC (.str "1  most 2")) (tCons (tC (.str " 1 most 2")) (tCons (tC (.str "1 most 2 ")) tNil))))))))) (gName 1))
  (tSeq (tAsg (tOp (rAddX K) (tVar 1) (tLst (tCons (tC (.str "+1 most 2")) (tCons (tC (.str "1 MOST 2")) (tCons (tC (.str "1 most 2.0")) (tCons (tC (.str "1\tmost 2")) (tCons (tC (.str "1 most 2\n")) (tCons (tC (.str "--1 most 2")) tNil)))))))) (gName 1))
  (tSeq (tAsg (tOp (rAddX K) (tVar 1) (tLst (tCons (tOp (rAddX K) (tOp rRepS (tC (.str "9")) (tC (.int 4400))) (tC (.str " most 0"))) (tCons (tOp (rAddX K) (tC (.str "1 least -")) (tOp rRepS (tC (.str "8")) (tC (.int 4400)))) tNil)))) (gName 1))
  (tSeq (tRet (tOp (rIx K) (tVar 1) (tOp rModI (tVar 0) (tC (.int 24)))))
  tNext)))))
def n_law_text : List Str := ["_law_text_here", "_law_kind", "_law_cell", "_law_place", "_law_words", "_law_one", "_law_other", "_law_kept"]
def t_law_text (K : PySem.W.Frag) (c : Cs) : TS := (tSeq (tAsg (tOp rModI (tVar 2) (tOp (rAddX K) (tCB (rLenX K) (tCons (tVar 0) tNil)) (tC (.int 1)))) (gName 3))
  (tSeq (tIfS (tTest (tOp (rEqX K) (tVar 1) (tC (.int 1)))) (tSeq (tRet (tOp (rAddX K) (tOp (rAddX K) (tSl (rSlX K) (tVar 0) tNoPart (tPart (tVar 3))) (tOp (rIx K) (tC (.str "0123456789- +.\n\tem")) (tOp rModI (tOp rDivI (tVar 2) (tC (.int 97))) (tC (.int 18))))) (tSl (rSlX K) (tVar 0) (tPart (tVar 3)) tNoPart)))
  tNext) tNext)
  (tSeq (tIfS (tTest (tOp (rEqX K) (tVar 1) (tC (.int 2)))) (tSeq (tAsg (tOp rModI (tVar 2) (tCB (rLenX K) (tCons (tVar 0) tNil))) (gName 3))
  (tSeq (tRet (tOp (rAddX K) (tSl (rSlX K) (tVar 0) tNoPart (tPart (tVar 3))) (tSl (rSlX K) (tVar 0) (tPart (tOp (rAddX K) (tVar 3) (tC (.int 1)))) tNoPart)))
  tNext)) tNext)
  (tSeq (tIfS (tTest (tOp (rEqX K) (tVar 1) (tC (.int 3)))) (tSeq (tAsg (tSplitX (tVar 0) (tC (.str " "))) (gName 4))
  (tSeq (tAsg (tOp rModI (tVar 2) (tCB (rLenX K) (tCons (tVar 4) tNil))) (gName 5))
  (tSeq (tAsg (tOp rModI (tOp rDivI (tVar 2) (tC (.int 97))) (tCB (rLenX K) (tCons (tVar 4) tNil))) (gName 6))
  (tSeq (tAsg (tOp (rIx K) (tVar 4) (tVar 5)) (gName 7))
  (tSeq (tAsg (tOp (rIx K) (tVar 4) (tVar 6)) (gSub (tVar 4) (tVar 5) rSetL))
  (tSeq (tAsg (tVar 7) (gSub (tVar 4) (tVar 6) rSetL))
  (tSeq (tRet (tJoinX K (tC (.str " ")) (tVar 4)))
  tNext))))))) tNext)
  (tSeq (tIfS (tTest (tOp (rEqX K) (tVar 1) (tC (.int 4)))) (tSeq (tRet (tCall (spD (S_law_odd K c)) [] E0 (tCons (tVar 2) tNil)))
  tNext) tNext)
  (tSeq (tRet (tVar 0))
  tNext))))))
def n_law_refused : List Str := ["_law_text_here", "e"]
def t_law_refused (K : PySem.W.Frag) (c : Cs) : TS := (tSeq (tTry K c.BadText 1 (fun W => (tSeq (tDrop (tCallS (spX (S_read K c) (SE_read K c)) (WE W) (tCons (tVar 0) tNil)))
  tNext)) (fun a => (tSeq (tIfS (tOr (tB (tCB (rIsE K c.BadText a) (tCons (tVar 1) (tCons (tC (.ref c.BadPoint)) tNil)))) (tOr (tB (tCB (rIsE K c.BadText a) (tCons (tVar 1) (tCons (tC (.ref c.BadBox)) tNil)))) (tB (tCB (rIsE K c.BadText a) (tCons (tVar 1) (tCons (tC (.ref c.BadWeights)) tNil)))))) (tSeq (tRet (tC (.bl false)))
  tNext) tNext)
  (tSeq (tIfS (tOr (tB (tCB (rIsE K c.BadText a) (tCons (tVar 1) (tCons (tC (.ref c.NoTurn)) tNil)))) (tB (tCB (rIsE K c.BadText a) (tCons (tVar 1) (tCons (tC (.ref c.BadProblem)) tNil))))) (tSeq (tRet (tC (.bl false)))
  tNext) tNext)
  (tSeq (tRet (tAndV (tCB (rIsE K c.BadText a) (tCons (tVar 1) (tCons (tC (.ref c.CutError)) tNil))) (tCB (rIsE K c.BadText a) (tCons (tVar 1) (tCons (tC (.ty "ValueError")) tNil)))))
  tNext)))))
  (tSeq (tRet (tC (.bl false)))
  tNext))
def n_law : List Str := ["_law_script", "_law_many", "_law_numbers", "_law_last", "_law_row", "_law_words", "_law_told", "_law_kind", "_law_text_here", "_law_due", "_law_found", "_law_k", "_law_number"]
def t_law (K : PySem.W.Frag) (c : Cs) : TS := (tSeq (tAsg (tOp (rAddX K) (tC (.int 1)) (tOp rModI (tCall (spD (S_law_cell_at K c)) [] E0 (tCons (tVar 0) (tCons (tC (.int 0)) tNil))) (tC (.int 3)))) (gName 1))
  (tSeq (tAsg (tLc (iRng1 (tCons (tVar 1) tNil)) (gName 11) tYes (tOp rSubI (tOp rModI (tCall (spD (S_law_cell_at K c)) [] E0 (tCons (tVar 0) (tCons (tOp (rAddX K) (tC (.int 1)) (tVar 11)) tNil))) (tC (.int 101))) (tC (.int 50))) [11]) (gName 2))
  (tSeq (tAsg (tCall (spD (S_law_cell_at K c)) [] E0 (tCons (tVar 0) (tCons (tC (.int 4)) tNil))) (gName 3))
  (tSeq (tAsg (tTup (tCons (tCB (rTupX K) (tCons (tVar 2) tNil)) (tCons (tOp (rIx K) (tLst (tCons (tC (.str "most")) (tCons (tC (.str "least")) tNil))) (tOp rModI (tVar 3) (tC (.int 2)))) (tCons (tOp rSubI (tOp rModI (tOp rDivI (tVar 3) (tC (.int 2))) (tC (.int 4001))) (tC (.int 2000))) tNil)))) (gName 4))
  (tSeq (tAsg (tOp (rAddX K) (tLc (iList K (tVar 2)) (gName 12) tYes (tCB rStrX (tCons (tVar 12) tNil)) [12]) (tLst (tCons (tOp (rIx K) (tVar 4) (tC (.int 1))) (tCons (tCB rStrX (tCons (tOp (rIx K) (tVar 4) (tC (.int 2))) tNil)) tNil)))) (gName 5))
  (tSeq (tAsg (tCall (spD (S_shown K c)) [] E0 (tCons (tVar 4) tNil)) (gName 6))
  (tSeq (tIfS (tOr (tNot (tB (tCB (rIsi K) (tCons (tVar 6) (tCons (tC (.ty "str")) tNil))))) (tTest (tOp (rNeX K) (tVar 6) (tJoinX K (tC (.str " ")) (tVar 5))))) (tSeq (tRet (tC (.bl false)))
  tNext) tNext)
  (tSeq (tAsg (tOp rModI (tCall (spD (S_law_cell_at K c)) [] E0 (tCons (tVar 0) (tCons (tC (.int 5)) tNil))) (tC (.int 8))) (gName 7))
  (tSeq (tIfS (tTest (tOp (rEqX K) (tVar 7) (tC (.int 5)))) (tSeq (tRet (tCall (spD (S_law_refused K c)) [] E0 (tCons (tOp (rIx K) (tLst (tCons (tC .non) (tCons (tC (.int 5)) (tCons (tVar 4) (tCons (tLst (tCons (tVar 6) tNil)) tNil))))) (tOp rModI (tOp rDivI (tCall (spD (S_law_cell_at K c)) [] E0 (tCons (tVar 0) (tCons (tC (.int 5)) tNil))) (tC (.int 8))) (tC (.int 4)))) tNil)))
  tNext) tNext)
  (tSeq (tAsg (tCall (spD (S_law_text K c)) [] E0 (tCons (tVar 6) (tCons (tVar 7) (tCons (tOp rModI (tOp (rMulX K) (tCall (spD (S_law_cell_at K c)) [] E0 (tCons (tVar 0) (tCons (tC (.int 6)) tNil))) (tC (.int 48271))) (tC (.int 1000003))) tNil)))) (gName 8))
  (tSeq (tAsg (tCall (spD (S_law_read K c)) [] E0 (tCons (tVar 8) tNil)) (gName 9))
  (tSeq (tIfS (tTest (tOp rIsNo (tVar 9) (tC .non))) (tSeq (tRet (tCall (spD (S_law_refused K c)) [] E0 (tCons (tVar 8) tNil)))
  tNext) tNext)
  (tSeq (tAsg (tCall (spX (S_read K c) (SE_read K c)) [] E0 (tCons (tVar 8) tNil)) (gName 10))
  (tSeq (tIfS (tOr (tNot (tB (tCB (rIsi K) (tCons (tVar 10) (tCons (tC (.ty "tuple")) tNil))))) (tOr (tTest (tOp (rNeX K) (tCB (rLenX K) (tCons (tVar 10) tNil)) (tC (.int 3)))) (tOr (tNot (tB (tCB (rIsi K) (tCons (tOp (rIx K) (tVar 10) (tC (.int 0))) (tCons (tC (.ty "tuple")) tNil))))) (tTest (tOp (rNeX K) (tVar 10) (tVar 9)))))) (tSeq (tRet (tC (.bl false)))
  tNext) tNext)
  (tSeq (tRet (tAndV (tCall (spD (S_law_whole K c)) [] E0 (tCons (tOp (rIx K) (tVar 10) (tC (.int 2))) tNil)) (tOp (rEqX K) (tLc (iTup K (tOp (rIx K) (tVar 10) (tC (.int 0)))) (gName 12) (tNot (tB (tCall (spD (S_law_whole K c)) [] E0 (tCons (tVar 12) tNil)))) (tVar 12) [12]) (tLst tNil))))
  tNext)))))))))))))))
section
variable {K : PySem.W.Frag} {c : Cs}
theorem rd_law_cell_at : ∀ Rs R, S_law_cell_at K c Rs R → ∀ B : Base, B.m = [] → BDe B (startC n_law_cell_at Rs) [] (t_law_cell_at K c) (fnP B R) := by
  rintro _ _ ⟨ns, k, rfl, h0, h1, rfl⟩ B hm
  apply bd_set
  · walk_at "d"
  apply bd_ifset (a := ix ns (k % ns.length)) (c := (0:Int))
  · walk_at "d"
  · intro h
    simp at h
    walk_at "d"
  · rfl
  apply bd_retE hm
  · walk_at "d"
  simp [cellAt]
theorem rd_law_whole : ∀ Rs R, S_law_whole K c Rs R → ∀ B : Base, B.m = [] → BDe B (startC n_law_whole Rs) [] (t_law_whole K c) (fnP B R) := by
  rintro _ _ ⟨x, rfl, rfl⟩ B hm
  apply bd_retE (a := true && !false) hm
  · walk_at "d"
  · rfl
theorem rd_law_number_in : ∀ Rs R, S_law_number_in K c Rs R → ∀ B : Base, B.m = [] → BDe B (startC n_law_number_in Rs) [] (t_law_number_in K c) (fnP B R) := by
  rintro _ _ ⟨w, m, rfl, hl, rfl⟩ B hm
  have fl := figs_len w
  have none_ : ∀ {Γ : Ctx} {u : TS} {nx bk ct : L2.St → Hp → Hp → Prop}, numL w m = none → BDe B Γ [] (tSeq (tRet (tC .non)) u) ⟨nx, (fnP B (rep (numL w m))).rt, bk, ct⟩ := fun e => by
    rw [e]
    exact bd_retR hm (EvD.s ev_non)
  apply bd_set (R := rep w)
  · exact EvD.s (ev_var rfl)
  apply bd_ifset (b := decide (cutS w none (some 1) = "-")) (a := cutS w (some 1) none) (c := w)
  · exact EvT.s (et_test (ev_op (ev_cutS (ev_var rfl) ep_none (ep_some ev_int) (by omega)) ev_str s_eqS))
  · intro _
    exact EvD.s (ev_cutS (ev_var rfl) (ep_some ev_int) ep_none (by omega))
  · rfl
  show BDe B ([some (rep w), some (rep m), some (rep (figs w)), none, none]) [] _ _
  generalize hF : figs w = F at *
  generalize hG : [some (rep w), some (rep m), some (rep F), none, none] = G
  have v0 : EvD G (tVar 0) (rep w) := by rw [← hG]; exact ev_var rfl
  have v2 : EvD G (tVar 2) (rep F) := by rw [← hG]; exact ev_var rfl
  have ln : EvD G (tCB (rLenX K) (tCons (tVar 2) tNil)) (rep (F.length : Int)) := ev_cb (ea_cons v2 ea_nil) (c_lenS (by omega))
  have e0 : decide (F = "") = decide (F.length = 0) := decide_eq_decide.mpr ⟨fun z => by rw [z]; decide +kernel, fun z => by
    rw [len_cps] at z
    apply TL.ext_tl
    have z : F.cps.toList = [] := List.length_eq_zero_iff.mp z
    show F.cps.toList = _
    rw [z]
    decide +kernel⟩
  by_cases h1 : 1 ≤ F.length ∧ F.length ≤ 6
  rotate_left
  · apply bd_ifr (b := true)
    · apply EvT.s
      refine et_eq (et_or (et_test (ev_op v2 ev_str s_eqS)) fun _ => et_test (ev_op ln ev_int s_gt)) ?_
      rw [e0]
      simp
      omega
    · intro _
      refine none_ ?_
      unfold numL
      rw [if_neg]
      rintro ⟨a, b, _⟩
      have := okW_pos a
      rw [hF] at this b
      omega
    · intro h
      cases h
  apply bd_ifr (b := false)
  · apply EvT.s
    refine et_eq (et_or (et_test (ev_op v2 ev_str s_eqS)) fun _ => et_test (ev_op ln ev_int s_gt)) ?_
    rw [e0]
    simp
    omega
  · intro h
    cases h
  intro _
  apply bd_forE (n := F.cps.toList.length) (item := fun i => rep (⟨#[F.cps.toList.getD i 0]⟩ : Str)) (fun _ => G) (fun _ => []) (fun i => ∀ j, j < i → decide (F.cps.toList.getD j 0 ∈ FIGS.cps.toList) = true)
  · exact WiD.s (wi_str v2)
  · subst hG
    walk_at "fg"
  · rfl
  · intro j hj
    omega
  · intro i hi
    exact tg_name
  · intro i hi Fi
    subst hG
    apply bd_ifr (b := !decide (F.cps.toList.getD i 0 ∈ FIGS.cps.toList))
    · exact EvT.s (et_test (ev_op (ev_var rfl) ev_str s_ninSg))
    · intro hb
      simp only [Bool.not_eq_true'] at hb
      refine none_ ?_
      unfold numL
      rw [if_neg]
      rintro ⟨a, _⟩
      have := okW_all a
      rw [hF, not_all hi hb] at this
      cases this
    · intro hb
      simp only [Bool.not_eq_false'] at hb
      refine bd_turnE ?_ rfl (by walk_at "fg")
      intro j hj
      by_cases e : j = i
      · rw [e]
        exact hb
      · exact Fi j (by omega)
  intro Fi
  have hA : allFig F = true := all_of Fi
  apply bd_ifr (b := decide (headS F = "0") && (decide (1 < F.length) || !decide (F = w)))
  · apply EvT.s
    apply et_and
    · exact et_test (ev_op (ev_op v2 ev_int (s_ixStr (by omega) (at_head (by omega)))) ev_str s_eqS)
    · intro _
      apply et_or
      · refine et_eq (et_test (ev_op ln ev_int s_gt)) ?_
        exact decide_eq_decide.mpr (by omega)
      · intro _
        exact et_test (ev_op v2 v0 s_neS)
  · intro hb
    refine none_ ?_
    unfold numL
    rw [if_neg]
    rintro ⟨a, _⟩
    simp only [okW, hF, hb, Bool.not_true, Bool.and_false] at a
    cases a
  intro hb
  have hk : okW w = true := by
    simp only [okW, hF, hb, hA, decide_eq_true (show 0 < F.length by omega), Bool.not_false, Bool.and_self]
  have hv : valW w = ((NumText.digitsVal F.cps.toList : Nat) : Int) := by rw [valW, hF]
  apply bd_set (R := rep (valW w))
  · rw [hv]
    exact EvD.s (ev_cb (ea_cons v2 ea_nil) (c_intS (intText_figs hA (by omega) (by omega)) (by omega)))
  subst hG
  apply bd_ifr (b := decide (m < valW w))
  · exact EvT.s (et_test (ev_op (ev_var rfl) (ev_var rfl) s_gt))
  · intro h
    have h : m < valW w := by simpa using h
    refine none_ ?_
    unfold numL
    rw [if_neg]
    rintro ⟨_, _, a⟩
    omega
  intro h
  have h : ¬ m < valW w := by simpa using h
  have hn : numL w m = some (sgnW w) := if_pos ⟨hk, by rw [hF]; omega, by omega⟩
  rw [hn]
  apply bd_ifset (b := !decide (F = w)) (a := 0 - valW w) (c := valW w)
  · exact EvT.s (et_test (ev_op (ev_var rfl) (ev_var rfl) s_neS))
  · intro _
    exact EvD.s (ev_op ev_int (ev_var rfl) s_sub)
  · rfl
  have e : rep (some (sgnW w)) = rep (if (!decide (F = w)) = true then 0 - valW w else valW w) := by
    have : sgnW w = if (!decide (F = w)) = true then 0 - valW w else valW w := by
      rw [sgnW, hF]
      by_cases hw : F = w
      · rw [if_pos hw, decide_eq_true hw]
        rfl
      · rw [if_neg hw, decide_eq_false hw]
        rfl
    rw [← this]
    rfl
  rw [e]
  exact bd_retR hm (EvD.s (ev_var rfl))
theorem atI_neg {ws : List Str} {k : Nat} (h0 : 0 < k) (h : k ≤ ws.length) : atI ws (-(k : Int)) = some (wAt ws (ws.length - k)) := by
  unfold atI ixN wAt
  rw [if_neg (by omega), if_pos (by omega)]
  show ws[(-(k : Int) + ws.length).toNat]? = _
  have e : (-(k : Int) + ws.length).toNat = ws.length - k := by omega
  rw [e, List.getD_eq_getElem?_getD, List.getElem?_eq_getElem (by omega)]
  rfl
theorem s_neg2 {ws : List Str} {k : Nat} (h0 : 0 < k) (h : k ≤ ws.length) : R2D (rIx K) (rep ws) (rep (-(k : Int))) (rep (wAt ws (ws.length - k))) := s_ixD (by rw [atI_map, atI_neg h0 h]; rfl)
theorem cut_neg {ws : List Str} (h : 2 ≤ ws.length) : cut ws none (some (-2)) = ws.take (ws.length - 2) := by
  unfold cut
  have e1 : HT.sIx ws.length 0 none = 0 := rfl
  have e2 : HT.sIx ws.length ws.length (some (-2)) = ws.length - 2 := by
    show (if (-2 : Int) < 0 then ((-2 : Int) + (ws.length : Int)).toNat else min (-2 : Int).toNat ws.length) = ws.length - 2
    rw [if_pos (by decide)]
    omega
  rw [e1, e2]
  simp
theorem py_opts : ∀ {os : List (Option Int)}, none ∉ os → os.map py = (os.map fun o => o.getD 0).map PyData.int
  | [], _ => rfl
  | none :: os, h => absurd (List.mem_cons_self ..) h
  | some x :: os, h => by
    rw [List.map_cons, List.map_cons, List.map_cons, py_opts fun z => h (List.mem_cons_of_mem _ z)]
    rfl
theorem wAt_mem {ws : List Str} {k : Nat} (h : k < ws.length) : wAt ws k ∈ ws := by
  unfold wAt
  rw [List.getD_eq_getElem?_getD, List.getElem?_eq_getElem h]
  exact List.getElem_mem _
theorem rd_law_read : ∀ Rs R, S_law_read K c Rs R → ∀ B : Base, B.m = [] → BDe B (startC n_law_read Rs) [] (t_law_read K c) (fnP B R) := by
  rintro _ _ ⟨t, rfl, hl, rfl⟩ B hm
  have wl := words_len t
  have wm := words_many t
  have none_ : ∀ {Γ : Ctx} {u : TS} {nx bk ct : L2.St → Hp → Hp → Prop}, rowL (wordsOf t) = none → BDe B Γ [] (tSeq (tRet (tC .non)) u) ⟨nx, (fnP B (rep (rowL (wordsOf t)))).rt, bk, ct⟩ := fun e => by
    rw [e]
    exact bd_retR hm (EvD.s ev_non)
  apply bd_set (R := rep (wordsOf t))
  · exact EvD.s (ev_split (ev_var rfl) ev_str (by decide +kernel) (by omega))
  generalize wordsOf t = ws at *
  have ln : EvD [some (rep t), some (rep ws), none, none, none] (tCB (rLenX K) (tCons (tVar 1) tNil)) (rep (ws.length : Int)) := ev_cb (ea_cons (ev_var rfl) ea_nil) c_len
  by_cases h3 : three5 ws
  rotate_left
  · apply bd_ifr (b := true)
    · apply EvT.s
      refine et_orT ?_
      refine et_eq (et_not (et_test (ev_chain (Rb := rep (ws.length : Int)) ev_int ln ev_int s_le fun _ => s_le))) ?_
      unfold three5 at h3
      simp
      omega
    · intro _
      exact none_ (if_neg fun z => h3 z.1)
    · intro h
      cases h
  have l3 : 3 ≤ ws.length := h3.1
  have l5 : ws.length ≤ 5 := h3.2
  have e2 : ∀ {Γ : Ctx}, EvD Γ (tVar 1) (rep ws) → EvD Γ (tOp (rIx K) (tVar 1) (tUn rNegI (tC (.int 2)))) (rep (wAt ws (ws.length - 2))) := fun h => ev_op h (ev_un ev_int s_negI) (s_neg2 (k := 2) (by decide) (by omega))
  apply bd_ifr (b := !wordIn (wAt ws (ws.length - 2)))
  · apply EvT.s
    refine et_orF ?_ ?_
    · refine et_eq (et_not (et_test (ev_chain (Rb := rep (ws.length : Int)) ev_int ln ev_int s_le fun _ => s_le))) ?_
      simp
      omega
    · exact et_test (ev_op (e2 (ev_var rfl)) (ev_lst2 ev_str ev_str) s_ninL2)
  · intro h
    simp only [Bool.not_eq_true'] at h
    refine none_ (if_neg fun z => ?_)
    rw [h] at z
    exact Bool.false_ne_true z.2
  intro hw
  simp only [Bool.not_eq_false'] at hw
  have lw : (ws.take (ws.length - 2)).length = ws.length - 2 := by rw [List.length_take]; omega
  have mem : ∀ w ∈ ws.take (ws.length - 2), w.length ≤ 100000 := fun w hw => by
    have := wl w (List.mem_of_mem_take hw)
    omega
  apply bd_set (R := rep ((ws.take (ws.length - 2)).map (numL · 50)))
  · apply EvD.s
    rw [← map_rl (ws.take (ws.length - 2)) (numL · 50)]
    apply ev_lc (α := Option Int) (item := fun i => rep (at_ (ws.take (ws.length - 2)) i)) (val := fun i => numL (at_ (ws.take (ws.length - 2)) i) 50)
    · refine wi_L ?_
      rw [← cut_neg (by omega)]
      exact (en_cut (xs := ws) (ev_var rfl) ep_none (ep_some (ev_un ev_int s_negI))).evD
    · intro i hi
      exact tl_name (by simp)
    · intro i hi
      exact ev_call (ea_cons (ev_var rfl) (ea_cons ev_int ea_nil)) ⟨_, _, rfl, mem _ (at_mem hi), rfl⟩
    · omega
  apply bd_set (R := rep (numL (wAt ws (ws.length - 1)) 2000))
  · apply EvD.s
    refine ev_call (ea_cons (ev_op (ev_var rfl) (ev_un ev_int s_negI) (s_neg2 (ws := ws) (k := 1) (by decide) (by omega))) (ea_cons ev_int ea_nil)) ⟨_, _, rfl, ?_, rfl⟩
    have := wl _ (wAt_mem (ws := ws) (k := ws.length - 1) (by omega))
    omega
  generalize hO : (ws.take (ws.length - 2)).map (numL · 50) = os
  by_cases hn : none ∈ os
  · apply bd_ifr (b := true)
    · refine EvT.s (et_orT (et_eq (et_test (ev_op ev_non (ev_var rfl) s_inNone)) (decide_eq_true hn)))
    · intro _
      refine none_ ?_
      unfold rowL
      rw [if_pos ⟨h3, hw⟩, hO, if_pos hn]
    · intro h
      cases h
  have inN : ∀ {Γ : Ctx}, Γ[2]? = some (some (rep os)) → EvT Γ (tTest (tOp (rInX K) (tC .non) (tVar 2))) false := fun h => et_eq (et_test (ev_op ev_non (ev_var h) s_inNone)) (decide_eq_false hn)
  have hr : rowL ws = match numL (wAt ws (ws.length - 1)) 2000 with | none => none | some b => some ⟨⟨(ws.take (ws.length - 2)).map fun w => (numL w 50).getD 0⟩, wAt ws (ws.length - 2), b⟩ := by
    unfold rowL
    rw [if_pos ⟨h3, hw⟩, hO, if_neg hn] <;> rfl
  have ev : ((ws.take (ws.length - 2)).map fun w => (numL w 50).getD 0) = os.map fun o => o.getD 0 := by
    rw [← hO, List.map_map]
    rfl
  rw [ev] at hr
  cases hb : numL (wAt ws (ws.length - 1)) 2000 with
  | none =>
    rw [hb] at hr
    apply bd_ifr (b := true)
    · exact EvT.s (et_orF (inN rfl) (et_test (ev_op (ev_var (R := rep ()) rfl) ev_non s_isYes)))
    · intro _
      exact none_ hr
    · intro h
      cases h
  | some b =>
    rw [hb] at hr
    apply bd_ifr (b := false)
    · refine EvT.s (et_orF (inN rfl) (et_test (ev_op (ev_var (R := rep b) rfl) ev_non (s_isNo fun v f r => ?_))))
      cases rep_int r
      exact fun z => nomatch z
    · intro h
      cases h
    intro _
    rw [hr]
    apply bd_retR hm
    have e : rep (some (⟨⟨os.map fun o => o.getD 0⟩, wAt ws (ws.length - 2), b⟩ : Row)) = rep (⟨⟨os⟩, wAt ws (ws.length - 2), b⟩ : T3 (Tup (Option Int)) Str Int) := by
      show rpD (.tuple [.tuple ((os.map fun o => o.getD 0).map PyData.int), .str _, .int _]) = rpD (.tuple [.tuple (os.map py), .str _, .int _])
      rw [py_opts hn]
    rw [e]
    exact EvD.s (ev_t3 (ev_cb (ea_cons (ev_var rfl) ea_nil) c_tup) (e2 (ev_var rfl)) (ev_var rfl))
/-! odd texts -/
def oddA : List Str := ["", " ", "1 most", "most 3", "1 2 3 4 most 5", "1 more 2", "51 most 0", "-51 most 0", "1 most 2001"]
def oddB : List Str := ["1 least -2001", "-0 most 1", "01 most 1", "1 most -0", "1  most 2", " 1 most 2", "1 most 2 "]
def oddC : List Str := ["+1 most 2", "1 MOST 2", "1 most 2.0", "1\tmost 2", "1 most 2\n", "--1 most 2"]
def many (z : Str) : Str := ⟨(List.replicate (4400 : Int).toNat z.cps).foldl (· ++ ·) #[]⟩
theorem many_len {z : Str} (h : z.length = 1) : (many z).length = 4400 := by
  have h : z.cps.size = 1 := h
  show ((List.replicate (4400 : Int).toNat z.cps).foldl (· ++ ·) #[]).size = 4400
  rw [fold_size, h]
  simp
def oddD : List Str := [many "9" ++ " most 0", "1 least -" ++ many "8"]
theorem app_len (a b : Str) : (a ++ b).length = a.length + b.length := by
  rw [TL.len_tl, TL.len_tl, TL.len_tl, TL.tl_append, List.length_append]
theorem len9 : (many "9").length = 4400 := many_len (by decide +kernel)
theorem len8 : (many "8").length = 4400 := many_len (by decide +kernel)
theorem odd_len : ∀ x ∈ ((oddA ++ oddB) ++ oddC) ++ oddD, x.length ≤ 100000 := by
  intro x hx
  have hA : ∀ x ∈ (oddA ++ oddB) ++ oddC, x.length ≤ 100 := by decide +kernel
  rcases List.mem_append.mp hx with h | h
  · exact Nat.le_trans (hA x h) (by decide)
  · simp only [oddD, List.mem_cons, List.not_mem_nil, or_false] at h
    rcases h with rfl | rfl
    · rw [app_len, len9]
      have : (" most 0" : Str).length = 7 := by decide +kernel
      omega
    · rw [app_len, len8]
      have : ("1 least -" : Str).length = 9 := by decide +kernel
      omega
theorem rd_law_odd : ∀ Rs R, S_law_odd K c Rs R → ∀ B : Base, B.m = [] → BDe B (startC n_law_odd Rs) [] (t_law_odd K c) (fnP B R) := by
  rintro _ _ ⟨cell, rfl, h0, rfl⟩ B hm
  have c0 := Int.emod_nonneg cell (b := 24) (by omega)
  have c1 := Int.emod_lt_of_pos cell (b := 24) (by omega)
  have lA : oddA.length = 9 := rfl
  have lB : oddB.length = 7 := rfl
  have lC : oddC.length = 6 := rfl
  have lD : oddD.length = 2 := rfl
  apply bd_set (R := rep oddA)
  · exact EvD.s (en_lst (ds := oddA.map py) (hl := by decide) (ea_cons ev_str (ea_cons ev_str (ea_cons ev_str (ea_cons ev_str (ea_cons ev_str (ea_cons ev_str (ea_cons ev_str (ea_cons ev_str (ea_cons ev_str ea_nil)))))))))).evD
  apply bd_set (R := rep (oddA ++ oddB))
  · exact EvD.s (ev_op (ev_var rfl) (en_lst (ds := oddB.map py) (hl := by decide) (ea_cons ev_str (ea_cons ev_str (ea_cons ev_str (ea_cons ev_str (ea_cons ev_str (ea_cons ev_str (ea_cons ev_str ea_nil)))))))).evD (s_catL (xs := oddA) (ys := oddB) (by omega)))
  apply bd_set (R := rep ((oddA ++ oddB) ++ oddC))
  · exact EvD.s (ev_op (ev_var rfl) (en_lst (ds := oddC.map py) (hl := by decide) (ea_cons ev_str (ea_cons ev_str (ea_cons ev_str (ea_cons ev_str (ea_cons ev_str (ea_cons ev_str ea_nil))))))).evD (s_catL (xs := oddA ++ oddB) (ys := oddC) (by rw [List.length_append]; omega)))
  have mul : ∀ {Γ : Ctx} {z : Str}, z.length = 1 → EvD Γ (tOp rRepS (tC (.str z)) (tC (.int 4400))) (rep (many z)) := fun h => ev_op ev_str ev_int (s_repS h (by decide) (by decide))
  apply bd_set (R := rep (((oddA ++ oddB) ++ oddC) ++ oddD))
  · apply EvD.s
    refine ev_op (ev_var rfl) (ev_lst2 (a := many "9" ++ " most 0") (b := "1 least -" ++ many "8") ?_ ?_) (s_catL (xs := (oddA ++ oddB) ++ oddC) (ys := oddD) (by rw [List.length_append, List.length_append]; omega))
    · refine ev_op (mul (by decide +kernel)) ev_str (s_catS ?_)
      rw [len9]
      have : (" most 0" : Str).length = 7 := by decide +kernel
      omega
    · refine ev_op ev_str (mul (by decide +kernel)) (s_catS ?_)
      rw [len8]
      have : ("1 least -" : Str).length = 9 := by decide +kernel
      omega
  have ll : ((((oddA ++ oddB) ++ oddC) ++ oddD).length : Int) = 24 := by
    rw [List.length_append, List.length_append, List.length_append, lA, lB, lC, lD]
    rfl
  apply bd_retR hm
  apply EvD.s
  refine ev_strR (y := ix (((oddA ++ oddB) ++ oddC) ++ oddD) (cell % 24)) ?_ (odd_len _ (ix_mem c0 (by omega)))
  exact ev_op (ev_var rfl) (ev_op (ev_var rfl) ev_int (s_mod (by decide))) (s_ix (by omega) (by omega))
/-! texts changed -/
theorem one_len {k : Nat} : (⟨#[k]⟩ : Str).length = 1 := rfl
abbrev SIGNS : Str := "0123456789- +.\n\tem"
theorem signs_len : SIGNS.cps.toList.length = 18 := by decide +kernel
theorem at_signs {xs : List Nat} {k : Int} (h0 : 0 ≤ k) (h1 : k < (xs.length : Int)) : atI xs k = some (xs.getD k.toNat 0) := by
  unfold atI ixN
  rw [if_pos h0, if_pos h1]
  show xs[k.toNat]? = _
  rw [List.getD_eq_getElem?_getD, List.getElem?_eq_getElem (by omega : k.toNat < xs.length)]
  rfl
theorem set_mem {ws : List Str} {a : Str} {k : Nat} {n : Nat} (h : ∀ w ∈ ws, w.length ≤ n) (ha : a.length ≤ n) : ∀ w ∈ ws.set k a, w.length ≤ n := fun w hw => by
  rcases List.mem_or_eq_of_mem_set hw with z | rfl
  · exact h w z
  · exact ha
theorem rd_law_text : ∀ Rs R, S_law_text K c Rs R → ∀ B : Base, B.m = [] → BDe B (startC n_law_text Rs) [] (t_law_text K c) (fnP B R) := by
  rintro _ _ ⟨x, k, cell, rfl, l1, l2, h0, rfl⟩ B hm
  have g0 := Int.emod_nonneg cell (b := (x.length : Int) + 1) (by omega)
  have g1 := Int.emod_lt_of_pos cell (b := (x.length : Int) + 1) (by omega)
  have ln : ∀ {Γ : Ctx}, Γ[0]? = some (some (rep x)) → EvD Γ (tCB (rLenX K) (tCons (tVar 0) tNil)) (rep (x.length : Int)) := fun h => ev_cb (ea_cons (ev_var h) ea_nil) (c_lenS (by omega))
  apply bd_set (R := rep (cell % ((x.length : Int) + 1)))
  · exact EvD.s (ev_op (ev_var rfl) (ev_op (ln rfl) ev_int s_add) (s_mod (by omega)))
  apply bd_ifr (b := decide (k = 1))
  · walk_at "d"
  · intro _
    apply bd_retR hm
    apply EvD.s
    have q0 := Int.emod_nonneg (cell / 97) (b := 18) (by omega)
    have q1 := Int.emod_lt_of_pos (cell / 97) (b := 18) (by omega)
    have cl := fun lo hi => cutS_length x lo hi
    have z1 := cl none (some (cell % ((x.length : Int) + 1)))
    have z2 := cl (some (cell % ((x.length : Int) + 1))) none
    have zs : SIGNS.length = 18 := by rw [len_cps]; exact signs_len
    refine ev_strR (ev_op (ev_op (ev_cutS (ev_var rfl) ep_none (ep_some (ev_var rfl)) (by omega)) (ev_op ev_str (ev_op (ev_op (ev_var rfl) ev_int (s_div ⟨by decide, by decide⟩)) ev_int (s_mod (by decide))) (s_ixStr (z := SIGNS) (by omega) (at_signs q0 (by rw [signs_len]; omega)))) (s_catS ?_)) (ev_cutS (ev_var rfl) (ep_some (ev_var rfl)) ep_none (by omega)) (s_catS ?_)) ?_
    · rw [one_len]
      omega
    · rw [app_len, one_len]
      omega
    · rw [app_len, app_len, one_len]
      omega
  intro _
  apply bd_ifr (b := decide (k = 2))
  · walk_at "d"
  · intro _
    apply bd_set (R := rep (cell % (x.length : Int)))
    · exact EvD.s (ev_op (ev_var rfl) (ln rfl) (s_mod (by omega)))
    apply bd_retR hm
    apply EvD.s
    have cl := fun lo hi => cutS_length x lo hi
    have z1 := cl none (some (cell % (x.length : Int)))
    have z2 := cl (some (cell % (x.length : Int) + 1)) none
    refine ev_strR (ev_op (ev_cutS (ev_var rfl) ep_none (ep_some (ev_var rfl)) (by omega)) (ev_cutS (ev_var rfl) (ep_some (ev_op (ev_var rfl) ev_int s_add)) ep_none (by omega)) (s_catS ?_)) ?_
    · omega
    · rw [app_len]
      omega
  intro _
  apply bd_ifr (b := decide (k = 3))
  · walk_at "d"
  · intro _
    have wl : ∀ w ∈ wordsOf x, w.length ≤ 100 := fun w hw => Nat.le_trans (words_len x w hw) l2
    have wm := words_many x
    have wp := words_pos x
    apply bd_own (T := oL (wordsOf x))
    · exact EvN.s (en_split (ev_var rfl) ev_str (by decide +kernel) (by omega))
    intro p
    generalize wordsOf x = ws at *
    have a0 := Int.emod_nonneg cell (b := (ws.length : Int)) (by omega)
    have a1 := Int.emod_lt_of_pos cell (b := (ws.length : Int)) (by omega)
    have b0 := Int.emod_nonneg (cell / 97) (b := (ws.length : Int)) (by omega)
    have b1 := Int.emod_lt_of_pos (cell / 97) (b := (ws.length : Int)) (by omega)
    have step : ∀ {G Γ' : Ctx} {O : Own} {te : TE} {R : RP}, LendC O G Γ' → EvD Γ' te R → Flat R → EvS B G O te R := fun a b c => ev_lend a b c
    have m1 : ∀ w ∈ ws.set (cell % (ws.length : Int)).toNat (ix ws (cell / 97 % (ws.length : Int))), w.length ≤ 100 := set_mem wl (wl _ (ix_mem b0 (by omega)))
    have m2 : ∀ w ∈ (ws.set (cell % (ws.length : Int)).toNat (ix ws (cell / 97 % (ws.length : Int)))).set (cell / 97 % (ws.length : Int)).toNat (ix ws (cell % (ws.length : Int))), w.length ≤ 100 := set_mem m1 (wl _ (ix_mem a0 (by omega)))
    apply bd_set (R := rep (cell % (ws.length : Int)))
    · refine step (Γ' := [some (rep x), some (rep k), some (rep cell), some (rep (cell % ((x.length : Int) + 1))), some (rep ws), none, none, none]) ?_ (ev_op (ev_var rfl) (ev_cb (ea_cons (ev_var rfl) ea_nil) c_len) (s_mod (by omega))) (flat_int _)
      walk_at "lend"
    apply bd_set (R := rep (cell / 97 % (ws.length : Int)))
    · refine step (Γ' := [some (rep x), some (rep k), some (rep cell), some (rep (cell % ((x.length : Int) + 1))), some (rep ws), some (rep (cell % (ws.length : Int))), none, none]) ?_ (ev_op (ev_op (ev_var rfl) ev_int (s_div ⟨by decide, by decide⟩)) (ev_cb (ea_cons (ev_var rfl) ea_nil) c_len) (s_mod (by omega))) (flat_int _)
      walk_at "lend"
    apply bd_set (R := rep (ix ws (cell % (ws.length : Int))))
    · refine step (Γ' := [some (rep x), some (rep k), some (rep cell), some (rep (cell % ((x.length : Int) + 1))), some (rep ws), some (rep (cell % (ws.length : Int))), some (rep (cell / 97 % (ws.length : Int))), none]) ?_ (ev_op (ev_var rfl) (ev_var rfl) (s_ix a0 a1)) (flat_str _)
      walk_at "lend"
    apply bd_setI (α := Str) (xs := ws) (a := ix ws (cell / 97 % (ws.length : Int))) (z := cell % (ws.length : Int)) (p := p) 0
    · refine step (Γ' := [some (rep x), some (rep k), some (rep cell), some (rep (cell % ((x.length : Int) + 1))), some (rep ws), some (rep (cell % (ws.length : Int))), some (rep (cell / 97 % (ws.length : Int))), some (rep (ix ws (cell % (ws.length : Int))))]) ?_ (ev_op (ev_var rfl) (ev_var rfl) (s_ix b0 b1)) (flat_str _)
      walk_at "lend"
    · exact ev_var rfl
    · exact EvD.s (ev_var rfl)
    · rfl
    · exact a0
    · exact a1
    apply bd_setI (α := Str) (xs := ws.set (cell % (ws.length : Int)).toNat (ix ws (cell / 97 % (ws.length : Int)))) (a := ix ws (cell % (ws.length : Int))) (z := cell / 97 % (ws.length : Int)) (p := p) 0
    · exact EvD.s (ev_var rfl)
    · exact ev_var rfl
    · exact EvD.s (ev_var rfl)
    · rfl
    · exact b0
    · rw [List.length_set]
      exact b1
    apply bd_retR hm
    have e1 : ((ws.set (cell % (ws.length : Int)).toNat (ix ws (cell / 97 % (ws.length : Int)))).set (cell / 97 % (ws.length : Int)).toNat (ix ws (cell % (ws.length : Int)))).length = ws.length := by rw [List.length_set, List.length_set]
    generalize (ws.set (cell % (ws.length : Int)).toNat (ix ws (cell / 97 % (ws.length : Int)))).set (cell / 97 % (ws.length : Int)).toNat (ix ws (cell % (ws.length : Int))) = us at *
    have su := sum_le (n := 100) (xs := us.map (·.length)) fun x hx => by
      obtain ⟨w, hw, rfl⟩ := List.mem_map.mp hx
      exact m2 w hw
    rw [List.length_map] at su
    have sm : (us.map (·.length)).sum + us.length * (" " : Str).length ≤ 100000 := by
      rw [one_sp]
      omega
    refine step (Γ' := [some (rep x), some (rep k), some (rep cell), some (rep (cell % ((x.length : Int) + 1))), some (rep us), some (rep (cell % (ws.length : Int))), some (rep (cell / 97 % (ws.length : Int))), some (rep (ix ws (cell % (ws.length : Int))))]) ?_ (ev_strR (ev_join ev_str (ev_var rfl) (Nat.le_trans sm (by decide))) (Nat.le_trans (join_len _ _) sm)) (fun v H H' z => z)
    walk_at "lend"
  intro _
  apply bd_ifr (b := decide (k = 4))
  · walk_at "d"
  · intro _
    apply bd_retR hm
    exact EvD.s (ev_call (ea_cons (ev_var rfl) ea_nil) ⟨cell, rfl, h0, rfl⟩)
  intro _
  apply bd_retR hm
  exact EvD.s (ev_strR (ev_var rfl) (by omega))
end
structure KE (K : PySem.W.Frag) (C : Addr) (no : List Addr) (base : Addr) : Prop where
  ex : PySem.W.exmOne K (.ref C) (.ref C) = some true
  no : ∀ a ∈ no, PySem.W.kitOne K (.ref C) (.ref a) = some false
  cut : PySem.W.kitOne K (.ref C) (.ref base) = some true
  ve : PySem.W.kitOne K (.ref C) (.type "ValueError") = some true
section
variable {K : PySem.W.Frag} {c : Cs}
theorem rd_law_refused (ke : KE K c.BadText [c.BadProblem, c.BadPoint, c.BadBox, c.BadWeights, c.NoTurn] c.CutError) : ∀ Rs R, S_law_refused K c Rs R → ∀ B : Base, B.m = [] → BDe B (startC n_law_refused Rs) [] (t_law_refused K c) (fnP B R) := by
  rintro _ _ ⟨d, rfl, h, rfl⟩ B hm
  apply bd_try
  · exact tbe_drop (ea_cons (ev_var rfl) ea_nil) ⟨d, rfl, h, rfl⟩
  · exact ke.ex
  intro a
  apply bd_ifr (b := false)
  · exact EvT.s (et_eq (a := false || (false || false)) (et_or (et_val (ev_isE rfl (ke.no _ (by simp)))) fun _ => et_or (et_val (ev_isE rfl (ke.no _ (by simp)))) fun _ => et_val (ev_isE rfl (ke.no _ (by simp)))) rfl)
  · intro h
    cases h
  intro _
  apply bd_ifr (b := false)
  · exact EvT.s (et_eq (a := false || false) (et_or (et_val (ev_isE rfl (ke.no _ (by simp)))) fun _ => et_val (ev_isE rfl (ke.no _ (by simp)))) rfl)
  · intro h
    cases h
  intro _
  exact bd_retR hm (EvD.s (ev_eq (a := true && true) (ev_and (ev_isE rfl ke.cut) fun _ => ev_isET rfl ke.ve) rfl))
/-! the law -/
def numsN (ns : List Int) : List Int := (List.range (1 + cellAt ns 0 % 3).toNat).map fun (k : Nat) => cellAt ns (1 + (k : Int)) % 101 - 50
def rowN (ns : List Int) : Row := ⟨⟨numsN ns⟩, ix ["most", "least"] (cellAt ns 4 % 2), cellAt ns 4 / 2 % 4001 - 2000⟩
theorem rowN_ok (ns : List Int) : RowOk (rowN ns) := by
  have c0 := Int.emod_nonneg (cellAt ns 0) (b := 3) (by omega)
  have c1 := Int.emod_lt_of_pos (cellAt ns 0) (b := 3) (by omega)
  have d0 := Int.emod_nonneg (cellAt ns 4) (b := 2) (by omega)
  have d1 := Int.emod_lt_of_pos (cellAt ns 4) (b := 2) (by omega)
  refine ⟨?_, ?_, fun x hx => ?_, ?_, ?_⟩
  · simp only [rowN, numsN, List.length_map, List.length_range]
    omega
  · simp only [rowN, numsN, List.length_map, List.length_range]
    omega
  · obtain ⟨k, _, rfl⟩ := List.mem_map.mp hx
    have h1 := Int.emod_nonneg (cellAt ns (1 + (k : Int))) (b := 101) (by omega)
    have h2 := Int.emod_lt_of_pos (cellAt ns (1 + (k : Int))) (b := 101) (by omega)
    simp only [Nat.reducePow]
    omega
  · have e : cellAt ns 4 % 2 = 0 ∨ cellAt ns 4 % 2 = 1 := by omega
    rcases e with e | e
    · left
      show ix _ (cellAt ns 4 % 2) = _
      rw [e]
      rfl
    · right
      show ix _ (cellAt ns 4 % 2) = _
      rw [e]
      rfl
  · have h1 := Int.emod_nonneg (cellAt ns 4 / 2) (b := 4001) (by omega)
    have h2 := Int.emod_lt_of_pos (cellAt ns 4 / 2) (b := 4001) (by omega)
    show (cellAt ns 4 / 2 % 4001 - 2000).natAbs < _
    simp only [Nat.reducePow]
    omega
theorem shd_rowT (r : Row) (h : r.b = "most" ∨ r.b = "least") : Shd (py r) 2 := by
  refine shd_tup (ds := [.tuple (r.a.l.map PyData.int), .str r.b, .int r.c]) fun d hd => ?_
  simp only [List.mem_cons, List.not_mem_nil, or_false] at hd
  rcases hd with rfl | rfl | rfl
  · refine shd_tup fun d hd => ?_
    obtain ⟨x, _, rfl⟩ := List.mem_map.mp hd
    exact shd_int x
  · refine (shd_str ?_).mono (Nat.zero_le 1)
    rcases h with e | e <;> rw [e] <;> decide +kernel
  · exact (shd_int _).mono (Nat.zero_le 1)
theorem rowP_len {ws : List Str} {r : Row} (h : rowP ws = some r) : r.a.l.length ≤ 3 := by
  unfold rowP at h
  split at h
  · rename_i z
    split at h
    · cases h
    split at h
    · cases h
    · split at h
      · cases h
        have := z.2
        simp only [rowOf, valsP, List.length_map, List.length_take]
        omega
      · cases h
  · cases h
theorem ev_noWholeT {Γ : Ctx} {tl : TE} {j : Nat} {x : List Int} (h : EvD Γ tl (rep (Tup.mk x))) (hg : j < Γ.length) (hx : x.length ≤ 1000) : EvD Γ (tOp (rEqX K) (tLc (iTup K tl) (gName j) (tNot (tB (tCall (spD (S_law_whole K c)) [] E0 (tCons (tVar j) tNil)))) (tVar j) [j]) (tLst tNil)) (rep true) := by
  refine ev_op (Ra := rep ([] : List Int)) ?_ (ev_lst0 (α := Int)) (s_eqSame (shL (xs := ([] : List Int)) (n := 0) fun x hx => nomatch hx))
  have z : ((List.range x.length).filter fun _ => !true).map (at_ x) = [] := by simp
  rw [← z]
  have s1 : ∀ {R : RP} {Γ : Ctx}, j < Γ.length → (Γ.set j (some R))[j]? = some (some R) := fun {R Γ} h => by
    rw [List.getElem?_set, if_pos rfl, if_pos h]
  apply ev_lcIf (α := Int) (n := x.length) (item := fun i => rep (at_ x i)) (val := at_ x) (keep := fun _ => !true)
  · exact wi_T h
  · intro i hi
    exact tl_name (by simp)
  · intro i hi
    exact et_not (et_val (ev_call (ea_cons (ev_var (s1 (by simpa [wipeC] using hg))) ea_nil) ⟨_, rfl, rfl⟩))
  · intro i hi _
    exact ev_var (s1 (by simpa [wipeC] using hg))
  · omega
theorem rd_law : ∀ Rs R, S_law K c Rs R → ∀ B : Base, B.m = [] → BDe B (startC n_law Rs) [] (t_law K c) (fnP B R) := by
  rintro _ _ ⟨ns, rfl, hl, rfl⟩ B hm
  have k := rowN_ok ns
  have a0 := Int.emod_nonneg (cellAt ns 0) (b := 3) (by omega)
  have a1 := Int.emod_lt_of_pos (cellAt ns 0) (b := 3) (by omega)
  have d0 := Int.emod_nonneg (cellAt ns 4) (b := 2) (by omega)
  have d1 := Int.emod_lt_of_pos (cellAt ns 4) (b := 2) (by omega)
  have cell : ∀ {Γ : Ctx} {i : Int}, Γ[0]? = some (some (scr K ns)) → 0 ≤ i → i < 1000 → EvD Γ (tCall (spD (S_law_cell_at K c)) [] E0 (tCons (tVar 0) (tCons (tC (.int i)) tNil))) (rep (cellAt ns i)) := fun h h0 h1 => ev_call (ea_cons (ev_var h) (ea_cons ev_int ea_nil)) (spec_cell h0 h1)
  apply bd_set (R := rep (1 + cellAt ns 0 % 3))
  · exact EvD.s (ev_op ev_int (ev_op (cell rfl (by decide) (by decide)) ev_int (s_mod (by decide))) s_add)
  apply bd_set (R := rep (numsN ns))
  · apply EvD.s
    apply ev_lc (α := Int) (n := (1 + cellAt ns 0 % 3).toNat) (item := fun i => rep (i : Int)) (val := fun (k : Nat) => cellAt ns (1 + (k : Int)) % 101 - 50)
    · exact wi_range (ev_var rfl) (by omega) (by omega)
    · intro i hi
      exact tl_name (by decide)
    · intro i hi
      exact ev_op (ev_op (ev_call (ea_cons (ev_var rfl) (ea_cons (ev_op ev_int (ev_var rfl) s_add) ea_nil)) (spec_cell (by omega) (by omega))) ev_int (s_mod (by decide))) ev_int s_sub
    · omega
  apply bd_set (R := rep (cellAt ns 4))
  · exact EvD.s (cell rfl (by decide) (by decide))
  apply bd_set (R := rep (rowN ns))
  · apply EvD.s
    apply ev_t3
    · exact ev_cb (ea_cons (ev_var rfl) ea_nil) c_tup
    · exact ev_op (ev_lst2 ev_str ev_str) (ev_op (ev_var rfl) ev_int (s_mod (by decide))) (s_ix (xs := [("most" : Str), ("least" : Str)]) d0 (by simpa using d1))
    · exact ev_op (ev_op (ev_op (ev_var rfl) ev_int (s_div ⟨by decide, by decide⟩)) ev_int (s_mod (by decide))) ev_int s_sub
  generalize hr : rowN ns = r at k
  have hn : numsN ns = r.a.l := by rw [← hr]; rfl
  rw [hn]
  apply bd_set (R := rep (wordsR r))
  · exact EvD.s (ev_words k (wi_L (ev_var rfl)) (by simp [startC, n_law]) (ev_op (ev_var rfl) ev_int s_t1) (ev_op (ev_var rfl) ev_int s_t2))
  apply bd_set (R := rep (shownF r))
  · exact EvD.s (ev_call (ea_cons (ev_var rfl) ea_nil) ⟨r, rfl, k, rfl⟩)
  have sl := shown_len k
  have sp := shown_pos k
  apply bd_ifr (b := false)
  · apply EvT.s
    refine et_orF (et_eq (et_not (et_val (ev_cb (ea_cons (ev_var rfl) (ea_cons ev_ty ea_nil)) c_sI))) rfl) ?_
    refine et_eq (et_test (ev_op (ev_var rfl) (ev_join (x := " ") (ys := wordsR r) ev_str (ev_var rfl) (Nat.le_trans (sumR k) (by decide))) s_neS)) ?_
    rw [decide_eq_true (show shownF r = Txt.join " " (wordsR r) from rfl)]
    rfl
  · intro h
    cases h
  intro _
  apply bd_set (R := rep (cellAt ns 5 % 8))
  · exact EvD.s (ev_op (cell rfl (by decide) (by decide)) ev_int (s_mod (by decide)))
  apply bd_ifr (b := decide (cellAt ns 5 % 8 = 5))
  · walk_at "d"
  · intro _
    apply bd_retR hm
    apply EvD.s
    have q0 := Int.emod_nonneg (cellAt ns 5 / 8) (b := 4) (by omega)
    have q1 := Int.emod_lt_of_pos (cellAt ns 5 / 8) (b := 4) (by omega)
    obtain ⟨d, hd, hb⟩ : ∃ d : PyData, atI [PyData.none, .int 5, py r, .list [.str (shownF r)]] (cellAt ns 5 / 8 % 4) = some d ∧ isi d "str" = false := by
      have e : cellAt ns 5 / 8 % 4 = 0 ∨ cellAt ns 5 / 8 % 4 = 1 ∨ cellAt ns 5 / 8 % 4 = 2 ∨ cellAt ns 5 / 8 % 4 = 3 := by omega
      rcases e with e | e | e | e <;> rw [e] <;> exact ⟨_, rfl, rfl⟩
    refine ev_call (ea_cons (ev_op (en_lst (ds := [PyData.none, .int 5, py r, .list [.str (shownF r)]]) (ea_cons ev_non (ea_cons ev_int (ea_cons (ev_var rfl) (ea_cons (ev_lst1 (α := Str) (a := shownF r) (ev_var rfl)) ea_nil))))).evD (ev_op (ev_op (cell rfl (by decide) (by decide)) ev_int (s_div ⟨by decide, by decide⟩)) ev_int (s_mod (by decide))) (s_ixD hd)) ea_nil) ⟨d, rfl, .inr hb, rfl⟩
  intro _
  have x0 := cell_pos ns 6
  have x1 := cell_lt ns 6
  have y0 := Int.emod_nonneg (cellAt ns 6 * 48271) (b := 1000003) (by omega)
  apply bd_set (R := strR 100000)
  · apply EvD.s
    refine ev_call (ea_cons (ev_var rfl) (ea_cons (ev_var rfl) (ea_cons (ev_op (ev_op (cell rfl (by decide) (by decide)) ev_int (s_mul (.inl ⟨by omega, by omega⟩))) ev_int (s_mod (by decide))) ea_nil))) ⟨shownF r, _, _, rfl, sp, by omega, y0, rfl⟩
  refine bd_some (i := 8) (n := 100000) rfl fun t lt => ?_
  apply bd_set (R := rep (rowL (wordsOf t)))
  · exact EvD.s (ev_call (ea_cons (ev_var rfl) ea_nil) ⟨t, rfl, lt, rfl⟩)
  cases hR : rowL (wordsOf t) with
  | none =>
    have hP : rowP (wordsOf t) = none := by rw [← row_agree, hR]
    apply bd_ifr (b := true)
    · exact EvT.s (et_test (ev_op (ev_var (R := rep ()) rfl) ev_non s_isYes))
    · intro _
      apply bd_retR hm
      exact EvD.s (ev_call (ea_cons (ev_var rfl) ea_nil) ⟨.str t, rfl, .inl ⟨t, rfl, lt, hP⟩, rfl⟩)
    · intro h
      cases h
  | some q =>
    have hP : rowP (wordsOf t) = some q := by rw [← row_agree, hR]
    have ql := rowP_len hP
    apply bd_ifr (b := false)
    · refine EvT.s (et_test (ev_op (ev_var (R := rep q) rfl) ev_non (s_isNo fun v f z => ?_)))
      have z : repD (.tuple [.tuple (q.a.l.map PyData.int), .str q.b, .int q.c]) v f := z
      simp only [repD] at z
      obtain ⟨p, vs, rfl, _⟩ := z
      exact fun z => nomatch z
    · intro h
      cases h
    intro _
    apply bd_set (R := rep q)
    · exact EvD.s (ev_callX (ea_cons (ev_var rfl) ea_nil) ⟨t, q, rfl, lt, hP, rfl⟩)
    apply bd_ifr (b := false)
    · apply EvT.s
      refine et_orF (et_eq (et_not (et_val (ev_cb (ea_cons (ev_var rfl) (ea_cons ev_ty ea_nil)) c_t3I))) rfl) ?_
      refine et_orF (et_eq (et_test (ev_op (ev_cb (ea_cons (ev_var rfl) ea_nil) (c_lenT (ds := [.tuple (q.a.l.map PyData.int), .str q.b, .int q.c]))) ev_int s_neI)) rfl) ?_
      refine et_orF (et_eq (et_not (et_val (ev_cb (ea_cons (ev_op (ev_var rfl) ev_int (s_t0 (x := q))) (ea_cons ev_ty ea_nil)) c_tI))) rfl) ?_
      exact et_test (ev_op (ev_var rfl) (ev_var (R := rep q) rfl) (s_neSame (shd_rowT q (rowP_word hP))))
    · intro h
      cases h
    intro _
    apply bd_retE (a := true && true) hm
    · apply EvD.s
      apply ev_and (a := true) (b := true)
      · exact ev_call (ea_cons (ev_op (ev_var rfl) ev_int (s_t2 (x := q))) ea_nil) ⟨_, rfl, rfl⟩
      · intro _
        exact ev_noWholeT (ev_op (ev_var rfl) ev_int (s_t0 (x := q))) (by simp [startC, n_law]) (show q.a.l.length ≤ 1000 by omega)
    · rfl
end
end D

set_option Elab.async false
set_option linter.all false
set_option maxRecDepth 100000
set_option maxHeartbeats 4000000
namespace D
open PySem PySem.Spec PyProof.Rows L2
open ToPy (py)
def top (i : Nat) : Stmt := PySem.Challenge.pw_wholecut_k02_rows_written.main.body.getD i (.Pass ⟨0, 0, 0, 0⟩)
abbrev s_between : Stmt := top 12
abbrev s_are_between : Stmt := top 13
abbrev s_is_row : Stmt := top 14
abbrev s_shown : Stmt := top 18
abbrev s_number_in : Stmt := top 19
abbrev s_read : Stmt := top 20
abbrev s_law_cell_at : Stmt := top 22
abbrev s_law_whole : Stmt := top 23
abbrev s_law_number_in : Stmt := top 24
abbrev s_law_read : Stmt := top 25
abbrev s_law_odd : Stmt := top 26
abbrev s_law_text : Stmt := top 27
abbrev s_law_refused : Stmt := top 28
abbrev s_law : Stmt := top 29
structure Txt (K : PySem.W.Frag) (mg : Str → Option Value) (c : Cs) : Prop where
  b_bool : mg "bool" = none
  b_int : mg "int" = none
  b_isinstance : mg "isinstance" = none
  b_len : mg "len" = none
  b_range : mg "range" = none
  b_str : mg "str" = none
  b_tuple : mg "tuple" = none
  b_ValueError : mg "ValueError" = none
  g_FIGURES : ∃ t, mg "FIGURES" = some (.str "0123456789" t)
  g_GREATEST : ∃ t, mg "GREATEST" = some (.int 50 t)
  g_GREATEST_BOUND : ∃ t, mg "GREATEST_BOUND" = some (.int 2000 t)
  g_MOST_FIGURES : ∃ t, mg "MOST_FIGURES" = some (.int 4 t)
  g_MOST_UNKNOWNS : ∃ t, mg "MOST_UNKNOWNS" = some (.int 3 t)
  g_BadProblem : mg "BadProblem" = some (.ref c.BadProblem)
  g_BadPoint : mg "BadPoint" = some (.ref c.BadPoint)
  g_BadBox : mg "BadBox" = some (.ref c.BadBox)
  g_BadWeights : mg "BadWeights" = some (.ref c.BadWeights)
  g_NoTurn : mg "NoTurn" = some (.ref c.NoTurn)
  g_BadText : mg "BadText" = some (.ref c.BadText)
  g_CutError : mg "CutError" = some (.ref c.CutError)
  x_BadText : PySem.W.excIn K c.BadText [.type "ValueError", .type "Exception", .type "BaseException", .type "object"] "ValueError.__new__" = true
  k_BadText : PySem.W.keepIn K (.ref c.BadText) = true
  bx_BadText : PySem.W.subIn K (.ref c.BadText) (.type "BaseException") = some true
  tx_BadText : PySem.W.typeIn K (.ref c.BadText) = some (.type "type")
  ec_BadText : ExcC K c.BadText
  ke_BadText : KE K c.BadText [c.BadProblem, c.BadPoint, c.BadBox, c.BadWeights, c.NoTurn] c.CutError
  d_between : Def K mg "between" s_between ["thing", "low", "high"]
  d_are_between : Def K mg "are_between" s_are_between ["things", "many", "low", "high"]
  d_is_row : Def K mg "is_row" s_is_row ["row", "many"]
  d_shown : Def K mg "shown" s_shown ["row"]
  d_number_in : Def K mg "number_in" s_number_in ["word"]
  d_read : Def K mg "read" s_read ["text"]
  d_law_cell_at : Def K mg "_law_cell_at" s_law_cell_at ["_law_script", "_law_k"]
  d_law_whole : Def K mg "_law_whole" s_law_whole ["_law_found"]
  d_law_number_in : Def K mg "_law_number_in" s_law_number_in ["_law_word", "_law_most"]
  d_law_read : Def K mg "_law_read" s_law_read ["_law_text_here"]
  d_law_odd : Def K mg "_law_odd" s_law_odd ["_law_cell"]
  d_law_text : Def K mg "_law_text" s_law_text ["_law_text_here", "_law_kind", "_law_cell"]
  d_law_refused : Def K mg "_law_refused" s_law_refused ["_law_text_here"]
  d_law : Def K mg "law" s_law ["_law_script"]

theorem sc_between : FnScope n_between ["thing", "low", "high"] (defScope s_between) := ⟨rfl, rfl, rfl, by decide +kernel, rfl, by decide +kernel, by decide +kernel⟩
theorem ps_between {P : Program} {w : World} {K : PySem.W.Frag} {mg : Str → Option Value} {base : Heap} {c : Cs} (T : Txt K mg c)  (f : Addr) (cdv : Value) (A : Around) (outer : List Env) (s : Shared) (H : Hp) (E : XK) (hr : Room 0 (A.deeper (envOfC "between" (defScope s_between) s.heap.objs.size f cdv))) :
    PSs (cx0 P w K mg base n_between "between" s_between f cdv A outer s H E) (defBody s_between) (t_between K c) := by
  unfold t_between
  exact (pss_cons (ps_ret (pe_and (pe_callB call_isi (by rfl) T.b_isinstance b_isi (pa_cons (pv 0) (pa_cons (pe_bltn (v := .ty "int") (by rfl) T.b_int b_int rfl) pa_nil))) (pe_and (pe_not (pe_callB call_isi (by rfl) T.b_isinstance b_isi (pa_cons (pv 0) (pa_cons (pe_bltn (v := .ty "bool") (by rfl) T.b_bool b_bool rfl) pa_nil)))) (pe_one (pe_chain op_leX op_leX (pv 1) (pv 0) (pv 2))))))
  pss_nil)
theorem ok_between {P : Program} {w : World} {K : PySem.W.Frag} {mg : Str → Option Value} {base : Heap} {c : Cs} (T : Txt K mg c) : Okd P w K mg base CX0 1 "between" ["thing", "low", "high"] (spD (S_between K c)) :=
  okd T.d_between sc_between (by intro Rs R h; first | ((rcases h with ⟨_, _, _, rfl, _⟩ | ⟨_, _, _, rfl, _⟩) <;> rfl) | (rcases h with ⟨_, rfl, _⟩; rfl) | (rcases h with ⟨_, _, rfl, _⟩; rfl) | (rcases h with ⟨_, _, _, rfl, _⟩; rfl) | (rcases h with ⟨_, _, _, _, rfl, _⟩; rfl) | (rcases h with ⟨_, _, _, _, _, rfl, _⟩; rfl) | (rcases h with ⟨_, _, _, _, _, _, rfl, _⟩; rfl) | (rcases h with ⟨_, _, _, _, _, _, _, rfl, _⟩; rfl) | (rcases h with ⟨_, _, _, _, _, _, _, _, rfl, _⟩; rfl)) (fun f cdv A outer s H E hr => ps_between T  f cdv A outer s H E hr) (rd_between )
theorem sc_are_between : FnScope n_are_between ["things", "many", "low", "high"] (defScope s_are_between) := ⟨rfl, rfl, rfl, by decide +kernel, rfl, by decide +kernel, by decide +kernel⟩
theorem ps_are_between {P : Program} {w : World} {K : PySem.W.Frag} {mg : Str → Option Value} {base : Heap} {c : Cs} (T : Txt K mg c) (O_between : Okd P w K mg base CX0 1 "between" ["thing", "low", "high"] (spD (S_between K c))) (f : Addr) (cdv : Value) (A : Around) (outer : List Env) (s : Shared) (H : Hp) (E : XK) (hr : Room 1 (A.deeper (envOfC "are_between" (defScope s_are_between) s.heap.objs.size f cdv))) :
    PSs (cx0 P w K mg base n_are_between "are_between" s_are_between f cdv A outer s H E) (defBody s_are_between) (t_are_between K c) := by
  unfold t_are_between
  exact (pss_cons (ps_if (pt_cmpR (op_neX hr.units) (pe_callB call_lenX (by rfl) T.b_len b_len (pa_cons (pv 0) pa_nil)) (pv 1) (nomark _)) (pss_cons (ps_ret pe_bl)
  pss_nil) pss_nil)
  (pss_cons (ps_for PassesOwn.never rfl (pi_lt (pv 0)) (pg_name (i := 4) sc_are_between.nd rfl (by first | exact Or.inl rfl | exact Or.inr rfl)) (pss_cons (ps_if (pt_not (pt_val (pe_callD O_between hr pass0 (pa_cons (pv 4) (pa_cons (pv 2) (pa_cons (pv 3) pa_nil)))))) (pss_cons (ps_ret pe_bl)
  pss_nil) pss_nil)
  pss_nil))
  (pss_cons (ps_ret pe_bl)
  pss_nil)))
theorem ok_are_between {P : Program} {w : World} {K : PySem.W.Frag} {mg : Str → Option Value} {base : Heap} {c : Cs} (T : Txt K mg c) : Okd P w K mg base CX0 2 "are_between" ["things", "many", "low", "high"] (spD (S_are_between K c)) :=
  okd T.d_are_between sc_are_between (by intro Rs R h; first | ((rcases h with ⟨_, _, _, rfl, _⟩ | ⟨_, _, _, rfl, _⟩) <;> rfl) | (rcases h with ⟨_, rfl, _⟩; rfl) | (rcases h with ⟨_, _, rfl, _⟩; rfl) | (rcases h with ⟨_, _, _, rfl, _⟩; rfl) | (rcases h with ⟨_, _, _, _, rfl, _⟩; rfl) | (rcases h with ⟨_, _, _, _, _, rfl, _⟩; rfl) | (rcases h with ⟨_, _, _, _, _, _, rfl, _⟩; rfl) | (rcases h with ⟨_, _, _, _, _, _, _, rfl, _⟩; rfl) | (rcases h with ⟨_, _, _, _, _, _, _, _, rfl, _⟩; rfl)) (fun f cdv A outer s H E hr => ps_are_between T (ok_between T) f cdv A outer s H E hr) (rd_are_between )
theorem sc_is_row : FnScope n_is_row ["row", "many"] (defScope s_is_row) := ⟨rfl, rfl, rfl, by decide +kernel, rfl, by decide +kernel, by decide +kernel⟩
theorem ps_is_row {P : Program} {w : World} {K : PySem.W.Frag} {mg : Str → Option Value} {base : Heap} {c : Cs} (T : Txt K mg c) (O_between : Okd P w K mg base CX0 1 "between" ["thing", "low", "high"] (spD (S_between K c))) (O_are_between : Okd P w K mg base CX0 2 "are_between" ["things", "many", "low", "high"] (spD (S_are_between K c))) (f : Addr) (cdv : Value) (A : Around) (outer : List Env) (s : Shared) (H : Hp) (E : XK) (hr : Room 2 (A.deeper (envOfC "is_row" (defScope s_is_row) s.heap.objs.size f cdv))) :
    PSs (cx0 P w K mg base n_is_row "is_row" s_is_row f cdv A outer s H E) (defBody s_is_row) (t_is_row K c) := by
  unfold t_is_row
  exact (pss_cons (ps_if (PW.pt (pw_or (pt_not (pt_val (pe_callB call_isi (by rfl) T.b_isinstance b_isi (pa_cons (pv 0) (pa_cons (pe_bltn (v := .ty "tuple") (by rfl) T.b_tuple b_tuple rfl) pa_nil))))) (pw_or (pt_cmpR (op_neX hr.units) (pe_callB call_lenX (by rfl) T.b_len b_len (pa_cons (pv 0) pa_nil)) pe_int (nomark _)) (pw_or1 (pt_not (pt_val (pe_callB call_isi (by rfl) T.b_isinstance b_isi (pa_cons (pe_ix ix_seq (pv 0) pe_int (fun _ _ => rfl)) (pa_cons (pe_bltn (v := .ty "tuple") (by rfl) T.b_tuple b_tuple rfl) pa_nil))))))))) (pss_cons (ps_ret pe_bl)
  pss_nil) pss_nil)
  (pss_cons (ps_if (PW.pt (pw_or (pt_not (pt_val (pe_callD O_are_between hr pass0 (pa_cons (pe_ix ix_seq (pv 0) pe_int (fun _ _ => rfl)) (pa_cons (pv 1) (pa_cons (pe_un un_neg (pe_globI T.g_GREATEST)) (pa_cons (pe_globI T.g_GREATEST) pa_nil))))))) (pw_or1 (pt_not (pt_val (pe_callB call_isi (by rfl) T.b_isinstance b_isi (pa_cons (pe_ix ix_seq (pv 0) pe_int (fun _ _ => rfl)) (pa_cons (pe_bltn (v := .ty "str") (by rfl) T.b_str b_str rfl) pa_nil)))))))) (pss_cons (ps_ret pe_bl)
  pss_nil) pss_nil)
  (pss_cons (ps_ret (pe_and (pe_cmpR op_inX (pe_ix ix_seq (pv 0) pe_int (fun _ _ => rfl)) (pe_tup (pa_cons pe_str (pa_cons pe_str pa_nil))) rfl) (pe_one (pe_callD O_between hr pass0 (pa_cons (pe_ix ix_seq (pv 0) pe_int (fun _ _ => rfl)) (pa_cons (pe_un un_neg (pe_globI T.g_GREATEST_BOUND)) (pa_cons (pe_globI T.g_GREATEST_BOUND) pa_nil)))))))
  pss_nil)))
theorem ok_is_row {P : Program} {w : World} {K : PySem.W.Frag} {mg : Str → Option Value} {base : Heap} {c : Cs} (T : Txt K mg c) : Okd P w K mg base CX0 3 "is_row" ["row", "many"] (spD (S_is_row K c)) :=
  okd T.d_is_row sc_is_row (by intro Rs R h; first | ((rcases h with ⟨_, _, _, rfl, _⟩ | ⟨_, _, _, rfl, _⟩) <;> rfl) | (rcases h with ⟨_, rfl, _⟩; rfl) | (rcases h with ⟨_, _, rfl, _⟩; rfl) | (rcases h with ⟨_, _, _, rfl, _⟩; rfl) | (rcases h with ⟨_, _, _, _, rfl, _⟩; rfl) | (rcases h with ⟨_, _, _, _, _, rfl, _⟩; rfl) | (rcases h with ⟨_, _, _, _, _, _, rfl, _⟩; rfl) | (rcases h with ⟨_, _, _, _, _, _, _, rfl, _⟩; rfl) | (rcases h with ⟨_, _, _, _, _, _, _, _, rfl, _⟩; rfl)) (fun f cdv A outer s H E hr => ps_is_row T (ok_between T) (ok_are_between T) f cdv A outer s H E hr) (rd_is_row )
theorem sc_shown : FnScope n_shown ["row"] (defScope s_shown) := ⟨rfl, rfl, rfl, by decide +kernel, rfl, by decide +kernel, by decide +kernel⟩
theorem ps_shown {P : Program} {w : World} {K : PySem.W.Frag} {mg : Str → Option Value} {base : Heap} {c : Cs} (T : Txt K mg c)  (f : Addr) (cdv : Value) (A : Around) (outer : List Env) (s : Shared) (H : Hp) (E : XK) (hr : Room 0 (A.deeper (envOfC "shown" (defScope s_shown) s.heap.objs.size f cdv))) :
    PSs (cx0 P w K mg base n_shown "shown" s_shown f cdv A outer s H E) (defBody s_shown) (t_shown K c) := by
  unfold t_shown
  exact (pss_cons (ps_setLc (i := 1) (own := [("number", 2)]) (g := (gName 2)) (tt := tYes) rfl sc_shown.nd rfl rfl (sw_true rfl rfl rfl (by decide +kernel)) (pi_tup (pe_ix ix_seq (pv 0) pe_int (fun _ _ => rfl))) (blkOk_by (N := n_shown) (sc := defScope s_shown) (by decide +kernel)) (fun _ _ _ _ _ => (pg_name (i := 2) sc_shown.nd rfl (by first | exact Or.inl rfl | exact Or.inr rfl))) (fun _ _ _ _ _ => pts_nil) (fun _ _ _ _ _ => (pe_callTy call_strX (by rfl) T.b_str b_str (pa_cons (pv 2) pa_nil))))
  (pss_cons (ps_ret (pe_joinX pe_str (pe_op op_addX (pv 1) (pe_lst (pa_cons (pe_ix ix_seq (pv 0) pe_int (fun _ _ => rfl)) (pa_cons (pe_callTy call_strX (by rfl) T.b_str b_str (pa_cons (pe_ix ix_seq (pv 0) pe_int (fun _ _ => rfl)) pa_nil)) pa_nil))))))
  pss_nil))
theorem ok_shown {P : Program} {w : World} {K : PySem.W.Frag} {mg : Str → Option Value} {base : Heap} {c : Cs} (T : Txt K mg c) : Okd P w K mg base CX0 1 "shown" ["row"] (spD (S_shown K c)) :=
  okd T.d_shown sc_shown (by intro Rs R h; first | ((rcases h with ⟨_, _, _, rfl, _⟩ | ⟨_, _, _, rfl, _⟩) <;> rfl) | (rcases h with ⟨_, rfl, _⟩; rfl) | (rcases h with ⟨_, _, rfl, _⟩; rfl) | (rcases h with ⟨_, _, _, rfl, _⟩; rfl) | (rcases h with ⟨_, _, _, _, rfl, _⟩; rfl) | (rcases h with ⟨_, _, _, _, _, rfl, _⟩; rfl) | (rcases h with ⟨_, _, _, _, _, _, rfl, _⟩; rfl) | (rcases h with ⟨_, _, _, _, _, _, _, rfl, _⟩; rfl) | (rcases h with ⟨_, _, _, _, _, _, _, _, rfl, _⟩; rfl)) (fun f cdv A outer s H E hr => ps_shown T  f cdv A outer s H E hr) (rd_shown )
theorem sc_number_in : FnScope n_number_in ["word"] (defScope s_number_in) := ⟨rfl, rfl, rfl, by decide +kernel, rfl, by decide +kernel, by decide +kernel⟩
theorem ps_number_in {P : Program} {w : World} {K : PySem.W.Frag} {mg : Str → Option Value} {base : Heap} {c : Cs} (T : Txt K mg c)  (f : Addr) (cdv : Value) (A : Around) (outer : List Env) (s : Shared) (H : Hp) (E : XK) (hr : Room 0 (A.deeper (envOfC "number_in" (defScope s_number_in) s.heap.objs.size f cdv))) :
    PSs (cxX P w K mg base n_number_in "number_in" s_number_in f cdv A outer s H E) (defBody s_number_in) (t_number_in K c E) := by
  unfold t_number_in
  exact (pss_cons (ps_set (i := 1) sc_number_in.nd rfl (by first | exact Or.inl rfl | exact Or.inr rfl) (pv 0))
  (pss_cons (ps_if (pt_cmpR (op_eqX hr.units) (pe_slice sl_X (pv 0) po_none (po_some pe_int)) pe_str (nomark _)) (pss_cons (ps_set (i := 1) sc_number_in.nd rfl (by first | exact Or.inl rfl | exact Or.inr rfl) (pe_slice sl_X (pv 0) (po_some pe_int) po_none))
  pss_nil) pss_nil)
  (pss_cons (ps_if (pt_not (pt_chain op_leX op_leX pe_int (pe_callB call_lenX (by rfl) T.b_len b_len (pa_cons (pv 1) pa_nil)) (pe_globI T.g_MOST_FIGURES))) (pss_cons (ps_raise rfl (takes_of rfl rfl rfl rfl) (pmk_own PySem.F.excBase_ValueError T.x_BadText T.g_BadText T.k_BadText (raises_own T.bx_BadText T.tx_BadText) (by exact rfl)))
  pss_nil) pss_nil)
  (pss_cons (ps_for (passes_of rfl) rfl (pi_str (pv 1)) (pg_name (i := 2) sc_number_in.nd rfl (by first | exact Or.inl rfl | exact Or.inr rfl)) (pss_cons (ps_if (pt_cmpR op_ninX (pv 2) (pe_globS T.g_FIGURES) rfl) (pss_cons (ps_raise rfl (takes_of rfl rfl rfl rfl) (pmk_own PySem.F.excBase_ValueError T.x_BadText T.g_BadText T.k_BadText (raises_own T.bx_BadText T.tx_BadText) (by exact rfl)))
  pss_nil) pss_nil)
  pss_nil))
  (pss_cons (ps_if (PW.pt (pw_and (pt_cmpR (op_eqX hr.units) (pe_ix ix_seq (pv 1) pe_int (fun _ _ => rfl)) pe_str (nomark _)) (pw_and1 (PW.pt (pw_or (pt_cmpR op_gtX (pe_callB call_lenX (by rfl) T.b_len b_len (pa_cons (pv 1) pa_nil)) pe_int (nomark _)) (pw_or1 (pt_cmpR (op_neX hr.units) (pv 1) (pv 0) (nomark _)))))))) (pss_cons (ps_raise rfl (takes_of rfl rfl rfl rfl) (pmk_own PySem.F.excBase_ValueError T.x_BadText T.g_BadText T.k_BadText (raises_own T.bx_BadText T.tx_BadText) (by exact rfl)))
  pss_nil) pss_nil)
  (pss_cons (ps_if (pt_cmpR (op_neX hr.units) (pv 1) (pv 0) (nomark _)) (pss_cons (ps_ret (pe_op op_subX pe_int (pe_callTy call_intX (by rfl) T.b_int b_int (pa_cons (pv 1) pa_nil))))
  pss_nil) pss_nil)
  (pss_cons (ps_ret (pe_callTy call_intX (by rfl) T.b_int b_int (pa_cons (pv 1) pa_nil)))
  pss_nil)))))))
theorem ok_number_in {P : Program} {w : World} {K : PySem.W.Frag} {mg : Str → Option Value} {base : Heap} {c : Cs} (T : Txt K mg c) : Okd P w K mg base (L2.CX P w) 1 "number_in" ["word"] (spX (S_number_in K c) (SE_number_in K c)) :=
  okdX T.d_number_in sc_number_in (by intro Rs R h; first | ((rcases h with ⟨_, _, _, rfl, _⟩ | ⟨_, _, _, rfl, _⟩) <;> rfl) | (rcases h with ⟨_, rfl, _⟩; rfl) | (rcases h with ⟨_, _, rfl, _⟩; rfl) | (rcases h with ⟨_, _, _, rfl, _⟩; rfl) | (rcases h with ⟨_, _, _, _, rfl, _⟩; rfl) | (rcases h with ⟨_, _, _, _, _, rfl, _⟩; rfl) | (rcases h with ⟨_, _, _, _, _, _, rfl, _⟩; rfl) | (rcases h with ⟨_, _, _, _, _, _, _, rfl, _⟩; rfl) | (rcases h with ⟨_, _, _, _, _, _, _, _, rfl, _⟩; rfl)) (by intro Rs R h; first | ((rcases h with ⟨_, _, _, rfl, _⟩ | ⟨_, _, _, rfl, _⟩) <;> rfl) | (rcases h with ⟨_, rfl, _⟩; rfl) | (rcases h with ⟨_, _, rfl, _⟩; rfl) | (rcases h with ⟨_, _, _, rfl, _⟩; rfl) | (rcases h with ⟨_, _, _, _, rfl, _⟩; rfl) | (rcases h with ⟨_, _, _, _, _, rfl, _⟩; rfl) | (rcases h with ⟨_, _, _, _, _, _, rfl, _⟩; rfl) | (rcases h with ⟨_, _, _, _, _, _, _, rfl, _⟩; rfl) | (rcases h with ⟨_, _, _, _, _, _, _, _, rfl, _⟩; rfl)) (fun f cdv A outer s H E hr => ps_number_in T  f cdv A outer s H E hr) (rd_number_in ) (rd_number_inX )
theorem sc_read : FnScope n_read ["text"] (defScope s_read) := ⟨rfl, rfl, rfl, by decide +kernel, rfl, by decide +kernel, by decide +kernel⟩
theorem ps_read {P : Program} {w : World} {K : PySem.W.Frag} {mg : Str → Option Value} {base : Heap} {c : Cs} (T : Txt K mg c) (O_is_row : Okd P w K mg base CX0 3 "is_row" ["row", "many"] (spD (S_is_row K c))) (O_number_in : Okd P w K mg base (L2.CX P w) 1 "number_in" ["word"] (spX (S_number_in K c) (SE_number_in K c))) (f : Addr) (cdv : Value) (A : Around) (outer : List Env) (s : Shared) (H : Hp) (E : XK) (hr : Room 3 (A.deeper (envOfC "read" (defScope s_read) s.heap.objs.size f cdv))) :
    PSs (cxX P w K mg base n_read "read" s_read f cdv A outer s H E) (defBody s_read) (t_read K c E) := by
  unfold t_read
  exact (pss_cons (ps_if (pt_not (pt_val (pe_callB call_isi (by rfl) T.b_isinstance b_isi (pa_cons (pv 0) (pa_cons (pe_bltn (v := .ty "str") (by rfl) T.b_str b_str rfl) pa_nil))))) (pss_cons (ps_raise rfl (takes_of rfl rfl rfl rfl) (pmk_own PySem.F.excBase_ValueError T.x_BadText T.g_BadText T.k_BadText (raises_own T.bx_BadText T.tx_BadText) (by exact rfl)))
  pss_nil) pss_nil)
  (pss_cons (ps_set (i := 1) sc_read.nd rfl (by first | exact Or.inl rfl | exact Or.inr rfl) (pe_splitX (pv 0) pe_str))
  (pss_cons (ps_set (i := 2) sc_read.nd rfl (by first | exact Or.inl rfl | exact Or.inr rfl) (pe_op op_subX (pe_callB call_lenX (by rfl) T.b_len b_len (pa_cons (pv 1) pa_nil)) pe_int))
  (pss_cons (ps_if (pt_not (pt_chain op_leX op_leX pe_int (pv 2) (pe_globI T.g_MOST_UNKNOWNS))) (pss_cons (ps_raise rfl (takes_of rfl rfl rfl rfl) (pmk_own PySem.F.excBase_ValueError T.x_BadText T.g_BadText T.k_BadText (raises_own T.bx_BadText T.tx_BadText) (by exact rfl)))
  pss_nil) pss_nil)
  (pss_cons (ps_setLcX (i := 3) (own := [("word", 5)]) (g := (gName 5)) (tt := tYes) rfl rfl (takes_of rfl rfl rfl rfl) rfl sc_read.nd rfl rfl (sw_true rfl rfl rfl (by decide +kernel)) (pi_list (pe_slice sl_X (pv 1) po_none (po_some (pv 2)))) (blkOk_by (N := n_read) (sc := defScope s_read) (by decide +kernel)) (fun _ _ _ _ _ => (pg_name (i := 5) sc_read.nd rfl (by first | exact Or.inl rfl | exact Or.inr rfl))) (fun _ _ _ _ _ => pts_nil) (fun _ _ _ _ _ _ px => (pe_callEP O_number_in hr px (pa_cons (pv 5) pa_nil))))
  (pss_cons (ps_set (i := 4) sc_read.nd rfl (by first | exact Or.inl rfl | exact Or.inr rfl) (pe_tup (pa_cons (pe_callTy call_tupX (by rfl) T.b_tuple b_tuple (pa_cons (pv 3) pa_nil)) (pa_cons (pe_ix ix_seq (pv 1) (pv 2) (fun _ _ => rfl)) (pa_cons (pe_callE O_number_in hr (takes_of rfl rfl rfl rfl) (pa_cons (pe_ix ix_seq (pv 1) (pe_op op_addX (pv 2) pe_int) (fun _ _ => rfl)) pa_nil)) pa_nil)))))
  (pss_cons (ps_if (pt_not (pt_val (pe_callD O_is_row hr pass0 (pa_cons (pv 4) (pa_cons (pv 2) pa_nil))))) (pss_cons (ps_raise rfl (takes_of rfl rfl rfl rfl) (pmk_own PySem.F.excBase_ValueError T.x_BadText T.g_BadText T.k_BadText (raises_own T.bx_BadText T.tx_BadText) (by exact rfl)))
  pss_nil) pss_nil)
  (pss_cons (ps_ret (pv 4))
  pss_nil))))))))
theorem ok_read {P : Program} {w : World} {K : PySem.W.Frag} {mg : Str → Option Value} {base : Heap} {c : Cs} (T : Txt K mg c) : Okd P w K mg base (L2.CX P w) 4 "read" ["text"] (spX (S_read K c) (SE_read K c)) :=
  okdX T.d_read sc_read (by intro Rs R h; first | ((rcases h with ⟨_, _, _, rfl, _⟩ | ⟨_, _, _, rfl, _⟩) <;> rfl) | (rcases h with ⟨_, rfl, _⟩; rfl) | (rcases h with ⟨_, _, rfl, _⟩; rfl) | (rcases h with ⟨_, _, _, rfl, _⟩; rfl) | (rcases h with ⟨_, _, _, _, rfl, _⟩; rfl) | (rcases h with ⟨_, _, _, _, _, rfl, _⟩; rfl) | (rcases h with ⟨_, _, _, _, _, _, rfl, _⟩; rfl) | (rcases h with ⟨_, _, _, _, _, _, _, rfl, _⟩; rfl) | (rcases h with ⟨_, _, _, _, _, _, _, _, rfl, _⟩; rfl)) (by intro Rs R h; first | ((rcases h with ⟨_, _, _, rfl, _⟩ | ⟨_, _, _, rfl, _⟩) <;> rfl) | (rcases h with ⟨_, rfl, _⟩; rfl) | (rcases h with ⟨_, _, rfl, _⟩; rfl) | (rcases h with ⟨_, _, _, rfl, _⟩; rfl) | (rcases h with ⟨_, _, _, _, rfl, _⟩; rfl) | (rcases h with ⟨_, _, _, _, _, rfl, _⟩; rfl) | (rcases h with ⟨_, _, _, _, _, _, rfl, _⟩; rfl) | (rcases h with ⟨_, _, _, _, _, _, _, rfl, _⟩; rfl) | (rcases h with ⟨_, _, _, _, _, _, _, _, rfl, _⟩; rfl)) (fun f cdv A outer s H E hr => ps_read T (ok_is_row T) (ok_number_in T) f cdv A outer s H E hr) (rd_read ) (rd_readX )
theorem sc_law_cell_at : FnScope n_law_cell_at ["_law_script", "_law_k"] (defScope s_law_cell_at) := ⟨rfl, rfl, rfl, by decide +kernel, rfl, by decide +kernel, by decide +kernel⟩
theorem ps_law_cell_at {P : Program} {w : World} {K : PySem.W.Frag} {mg : Str → Option Value} {base : Heap} {c : Cs} (T : Txt K mg c)  (f : Addr) (cdv : Value) (A : Around) (outer : List Env) (s : Shared) (H : Hp) (E : XK) (hr : Room 0 (A.deeper (envOfC "_law_cell_at" (defScope s_law_cell_at) s.heap.objs.size f cdv))) :
    PSs (cx0 P w K mg base n_law_cell_at "_law_cell_at" s_law_cell_at f cdv A outer s H E) (defBody s_law_cell_at) (t_law_cell_at K c) := by
  unfold t_law_cell_at
  exact (pss_cons (ps_set (i := 2) sc_law_cell_at.nd rfl (by first | exact Or.inl rfl | exact Or.inr rfl) pe_int)
  (pss_cons (ps_if (pt_cmpR op_gtX (pe_callB call_lenX (by rfl) T.b_len b_len (pa_cons (pv 0) pa_nil)) pe_int (nomark _)) (pss_cons (ps_set (i := 2) sc_law_cell_at.nd rfl (by first | exact Or.inl rfl | exact Or.inr rfl) (pe_ix ix_seq (pv 0) (pe_op op_modX (pv 1) (pe_callB call_lenX (by rfl) T.b_len b_len (pa_cons (pv 0) pa_nil))) (fun _ _ => rfl)))
  pss_nil) pss_nil)
  (pss_cons (ps_ret (pe_op op_modX (pe_op op_mulX (pe_op op_addX (pv 2) (pe_op op_mulX pe_int (pv 1))) pe_int) pe_int))
  pss_nil)))
theorem ok_law_cell_at {P : Program} {w : World} {K : PySem.W.Frag} {mg : Str → Option Value} {base : Heap} {c : Cs} (T : Txt K mg c) : Okd P w K mg base CX0 1 "_law_cell_at" ["_law_script", "_law_k"] (spD (S_law_cell_at K c)) :=
  okd T.d_law_cell_at sc_law_cell_at (by intro Rs R h; first | ((rcases h with ⟨_, _, _, rfl, _⟩ | ⟨_, _, _, rfl, _⟩) <;> rfl) | (rcases h with ⟨_, rfl, _⟩; rfl) | (rcases h with ⟨_, _, rfl, _⟩; rfl) | (rcases h with ⟨_, _, _, rfl, _⟩; rfl) | (rcases h with ⟨_, _, _, _, rfl, _⟩; rfl) | (rcases h with ⟨_, _, _, _, _, rfl, _⟩; rfl) | (rcases h with ⟨_, _, _, _, _, _, rfl, _⟩; rfl) | (rcases h with ⟨_, _, _, _, _, _, _, rfl, _⟩; rfl) | (rcases h with ⟨_, _, _, _, _, _, _, _, rfl, _⟩; rfl)) (fun f cdv A outer s H E hr => ps_law_cell_at T  f cdv A outer s H E hr) (rd_law_cell_at )
theorem sc_law_whole : FnScope n_law_whole ["_law_found"] (defScope s_law_whole) := ⟨rfl, rfl, rfl, by decide +kernel, rfl, by decide +kernel, by decide +kernel⟩
theorem ps_law_whole {P : Program} {w : World} {K : PySem.W.Frag} {mg : Str → Option Value} {base : Heap} {c : Cs} (T : Txt K mg c)  (f : Addr) (cdv : Value) (A : Around) (outer : List Env) (s : Shared) (H : Hp) (E : XK) (hr : Room 0 (A.deeper (envOfC "_law_whole" (defScope s_law_whole) s.heap.objs.size f cdv))) :
    PSs (cx0 P w K mg base n_law_whole "_law_whole" s_law_whole f cdv A outer s H E) (defBody s_law_whole) (t_law_whole K c) := by
  unfold t_law_whole
  exact (pss_cons (ps_ret (pe_and (pe_callB call_isi (by rfl) T.b_isinstance b_isi (pa_cons (pv 0) (pa_cons (pe_bltn (v := .ty "int") (by rfl) T.b_int b_int rfl) pa_nil))) (pe_one (pe_not (pe_callB call_isi (by rfl) T.b_isinstance b_isi (pa_cons (pv 0) (pa_cons (pe_bltn (v := .ty "bool") (by rfl) T.b_bool b_bool rfl) pa_nil)))))))
  pss_nil)
theorem ok_law_whole {P : Program} {w : World} {K : PySem.W.Frag} {mg : Str → Option Value} {base : Heap} {c : Cs} (T : Txt K mg c) : Okd P w K mg base CX0 1 "_law_whole" ["_law_found"] (spD (S_law_whole K c)) :=
  okd T.d_law_whole sc_law_whole (by intro Rs R h; first | ((rcases h with ⟨_, _, _, rfl, _⟩ | ⟨_, _, _, rfl, _⟩) <;> rfl) | (rcases h with ⟨_, rfl, _⟩; rfl) | (rcases h with ⟨_, _, rfl, _⟩; rfl) | (rcases h with ⟨_, _, _, rfl, _⟩; rfl) | (rcases h with ⟨_, _, _, _, rfl, _⟩; rfl) | (rcases h with ⟨_, _, _, _, _, rfl, _⟩; rfl) | (rcases h with ⟨_, _, _, _, _, _, rfl, _⟩; rfl) | (rcases h with ⟨_, _, _, _, _, _, _, rfl, _⟩; rfl) | (rcases h with ⟨_, _, _, _, _, _, _, _, rfl, _⟩; rfl)) (fun f cdv A outer s H E hr => ps_law_whole T  f cdv A outer s H E hr) (rd_law_whole )
theorem sc_law_number_in : FnScope n_law_number_in ["_law_word", "_law_most"] (defScope s_law_number_in) := ⟨rfl, rfl, rfl, by decide +kernel, rfl, by decide +kernel, by decide +kernel⟩
theorem ps_law_number_in {P : Program} {w : World} {K : PySem.W.Frag} {mg : Str → Option Value} {base : Heap} {c : Cs} (T : Txt K mg c)  (f : Addr) (cdv : Value) (A : Around) (outer : List Env) (s : Shared) (H : Hp) (E : XK) (hr : Room 0 (A.deeper (envOfC "_law_number_in" (defScope s_law_number_in) s.heap.objs.size f cdv))) :
    PSs (cx0 P w K mg base n_law_number_in "_law_number_in" s_law_number_in f cdv A outer s H E) (defBody s_law_number_in) (t_law_number_in K c) := by
  unfold t_law_number_in
  exact (pss_cons (ps_set (i := 2) sc_law_number_in.nd rfl (by first | exact Or.inl rfl | exact Or.inr rfl) (pv 0))
  (pss_cons (ps_if (pt_cmpR (op_eqX hr.units) (pe_slice sl_X (pv 0) po_none (po_some pe_int)) pe_str (nomark _)) (pss_cons (ps_set (i := 2) sc_law_number_in.nd rfl (by first | exact Or.inl rfl | exact Or.inr rfl) (pe_slice sl_X (pv 0) (po_some pe_int) po_none))
  pss_nil) pss_nil)
  (pss_cons (ps_if (PW.pt (pw_or (pt_cmpR (op_eqX hr.units) (pv 2) pe_str (nomark _)) (pw_or1 (pt_cmpR op_gtX (pe_callB call_lenX (by rfl) T.b_len b_len (pa_cons (pv 2) pa_nil)) pe_int (nomark _))))) (pss_cons (ps_ret pe_non)
  pss_nil) pss_nil)
  (pss_cons (ps_for PassesOwn.never rfl (pi_str (pv 2)) (pg_name (i := 3) sc_law_number_in.nd rfl (by first | exact Or.inl rfl | exact Or.inr rfl)) (pss_cons (ps_if (pt_cmpR op_ninX (pv 3) pe_str rfl) (pss_cons (ps_ret pe_non)
  pss_nil) pss_nil)
  pss_nil))
  (pss_cons (ps_if (PW.pt (pw_and (pt_cmpR (op_eqX hr.units) (pe_ix ix_seq (pv 2) pe_int (fun _ _ => rfl)) pe_str (nomark _)) (pw_and1 (PW.pt (pw_or (pt_cmpR op_gtX (pe_callB call_lenX (by rfl) T.b_len b_len (pa_cons (pv 2) pa_nil)) pe_int (nomark _)) (pw_or1 (pt_cmpR (op_neX hr.units) (pv 2) (pv 0) (nomark _)))))))) (pss_cons (ps_ret pe_non)
  pss_nil) pss_nil)
  (pss_cons (ps_set (i := 4) sc_law_number_in.nd rfl (by first | exact Or.inl rfl | exact Or.inr rfl) (pe_callTy call_intX (by rfl) T.b_int b_int (pa_cons (pv 2) pa_nil)))
  (pss_cons (ps_if (pt_cmpR op_gtX (pv 4) (pv 1) (nomark _)) (pss_cons (ps_ret pe_non)
  pss_nil) pss_nil)
  (pss_cons (ps_if (pt_cmpR (op_neX hr.units) (pv 2) (pv 0) (nomark _)) (pss_cons (ps_set (i := 4) sc_law_number_in.nd rfl (by first | exact Or.inl rfl | exact Or.inr rfl) (pe_op op_subX pe_int (pv 4)))
  pss_nil) pss_nil)
  (pss_cons (ps_ret (pv 4))
  pss_nil)))))))))
theorem ok_law_number_in {P : Program} {w : World} {K : PySem.W.Frag} {mg : Str → Option Value} {base : Heap} {c : Cs} (T : Txt K mg c) : Okd P w K mg base CX0 1 "_law_number_in" ["_law_word", "_law_most"] (spD (S_law_number_in K c)) :=
  okd T.d_law_number_in sc_law_number_in (by intro Rs R h; first | ((rcases h with ⟨_, _, _, rfl, _⟩ | ⟨_, _, _, rfl, _⟩) <;> rfl) | (rcases h with ⟨_, rfl, _⟩; rfl) | (rcases h with ⟨_, _, rfl, _⟩; rfl) | (rcases h with ⟨_, _, _, rfl, _⟩; rfl) | (rcases h with ⟨_, _, _, _, rfl, _⟩; rfl) | (rcases h with ⟨_, _, _, _, _, rfl, _⟩; rfl) | (rcases h with ⟨_, _, _, _, _, _, rfl, _⟩; rfl) | (rcases h with ⟨_, _, _, _, _, _, _, rfl, _⟩; rfl) | (rcases h with ⟨_, _, _, _, _, _, _, _, rfl, _⟩; rfl)) (fun f cdv A outer s H E hr => ps_law_number_in T  f cdv A outer s H E hr) (rd_law_number_in )
theorem sc_law_read : FnScope n_law_read ["_law_text_here"] (defScope s_law_read) := ⟨rfl, rfl, rfl, by decide +kernel, rfl, by decide +kernel, by decide +kernel⟩
theorem ps_law_read {P : Program} {w : World} {K : PySem.W.Frag} {mg : Str → Option Value} {base : Heap} {c : Cs} (T : Txt K mg c) (O_law_number_in : Okd P w K mg base CX0 1 "_law_number_in" ["_law_word", "_law_most"] (spD (S_law_number_in K c))) (f : Addr) (cdv : Value) (A : Around) (outer : List Env) (s : Shared) (H : Hp) (E : XK) (hr : Room 1 (A.deeper (envOfC "_law_read" (defScope s_law_read) s.heap.objs.size f cdv))) :
    PSs (cx0 P w K mg base n_law_read "_law_read" s_law_read f cdv A outer s H E) (defBody s_law_read) (t_law_read K c) := by
  unfold t_law_read
  exact (pss_cons (ps_set (i := 1) sc_law_read.nd rfl (by first | exact Or.inl rfl | exact Or.inr rfl) (pe_splitX (pv 0) pe_str))
  (pss_cons (ps_if (PW.pt (pw_or (pt_not (pt_chain op_leX op_leX pe_int (pe_callB call_lenX (by rfl) T.b_len b_len (pa_cons (pv 1) pa_nil)) pe_int)) (pw_or1 (pt_cmpR op_ninX (pe_ix ix_seq (pv 1) (pe_un un_neg pe_int) (fun _ _ => rfl)) (pe_lst (pa_cons pe_str (pa_cons pe_str pa_nil))) rfl)))) (pss_cons (ps_ret pe_non)
  pss_nil) pss_nil)
  (pss_cons (ps_setLc (i := 2) (own := [("_law_word", 4)]) (g := (gName 4)) (tt := tYes) rfl sc_law_read.nd rfl rfl (sw_true rfl rfl rfl (by decide +kernel)) (pi_list (pe_slice sl_X (pv 1) po_none (po_some (pe_un un_neg pe_int)))) (blkOk_by (N := n_law_read) (sc := defScope s_law_read) (by decide +kernel)) (fun _ _ _ _ _ => (pg_name (i := 4) sc_law_read.nd rfl (by first | exact Or.inl rfl | exact Or.inr rfl))) (fun _ _ _ _ _ => pts_nil) (fun _ _ _ _ _ => (pe_callD O_law_number_in hr pass0 (pa_cons (pv 4) (pa_cons pe_int pa_nil)))))
  (pss_cons (ps_set (i := 3) sc_law_read.nd rfl (by first | exact Or.inl rfl | exact Or.inr rfl) (pe_callD O_law_number_in hr pass0 (pa_cons (pe_ix ix_seq (pv 1) (pe_un un_neg pe_int) (fun _ _ => rfl)) (pa_cons pe_int pa_nil))))
  (pss_cons (ps_if (PW.pt (pw_or (pt_cmpR op_inX pe_non (pv 2) rfl) (pw_or1 (pt_cmpR op_isNo (pv 3) pe_non (nomark _))))) (pss_cons (ps_ret pe_non)
  pss_nil) pss_nil)
  (pss_cons (ps_ret (pe_tup (pa_cons (pe_callTy call_tupX (by rfl) T.b_tuple b_tuple (pa_cons (pv 2) pa_nil)) (pa_cons (pe_ix ix_seq (pv 1) (pe_un un_neg pe_int) (fun _ _ => rfl)) (pa_cons (pv 3) pa_nil)))))
  pss_nil))))))
theorem ok_law_read {P : Program} {w : World} {K : PySem.W.Frag} {mg : Str → Option Value} {base : Heap} {c : Cs} (T : Txt K mg c) : Okd P w K mg base CX0 2 "_law_read" ["_law_text_here"] (spD (S_law_read K c)) :=
  okd T.d_law_read sc_law_read (by intro Rs R h; first | ((rcases h with ⟨_, _, _, rfl, _⟩ | ⟨_, _, _, rfl, _⟩) <;> rfl) | (rcases h with ⟨_, rfl, _⟩; rfl) | (rcases h with ⟨_, _, rfl, _⟩; rfl) | (rcases h with ⟨_, _, _, rfl, _⟩; rfl) | (rcases h with ⟨_, _, _, _, rfl, _⟩; rfl) | (rcases h with ⟨_, _, _, _, _, rfl, _⟩; rfl) | (rcases h with ⟨_, _, _, _, _, _, rfl, _⟩; rfl) | (rcases h with ⟨_, _, _, _, _, _, _, rfl, _⟩; rfl) | (rcases h with ⟨_, _, _, _, _, _, _, _, rfl, _⟩; rfl)) (fun f cdv A outer s H E hr => ps_law_read T (ok_law_number_in T) f cdv A outer s H E hr) (rd_law_read )
theorem sc_law_odd : FnScope n_law_odd ["_law_cell"] (defScope s_law_odd) := ⟨rfl, rfl, rfl, by decide +kernel, rfl, by decide +kernel, by decide +kernel⟩
theorem ps_law_odd {P : Program} {w : World} {K : PySem.W.Frag} {mg : Str → Option Value} {base : Heap} {c : Cs} (T : Txt K mg c)  (f : Addr) (cdv : Value) (A : Around) (outer : List Env) (s : Shared) (H : Hp) (E : XK) (hr : Room 0 (A.deeper (envOfC "_law_odd" (defScope s_law_odd) s.heap.objs.size f cdv))) :
    PSs (cx0 P w K mg base n_law_odd "_law_odd" s_law_odd f cdv A outer s H E) (defBody s_law_odd) (t_law_odd K c) := by
  unfold t_law_odd
  exact (pss_cons (ps_set (i := 1) sc_law_odd.nd rfl (by first | exact Or.inl rfl | exact Or.inr rfl) (pe_lst (pa_cons pe_str (pa_cons pe_str (pa_cons pe_str (pa_cons pe_str (pa_cons pe_str (pa_cons pe_str (pa_cons pe_str (pa_cons pe_str (pa_cons pe_str pa_nil)))))))))))
  (pss_cons (ps_set (i := 1) sc_law_odd.nd rfl (by first | exact Or.inl rfl | exact Or.inr rfl) (pe_op op_addX (pv 1) (pe_lst (pa_cons pe_str (pa_cons pe_str (pa_cons pe_str (pa_cons pe_str (pa_cons pe_str (pa_cons pe_str (pa_cons pe_str pa_nil))))))))))
  (pss_cons (ps_set (i := 1) sc_law_odd.nd rfl (by first | exact Or.inl rfl | exact Or.inr rfl) (pe_op op_addX (pv 1) (pe_lst (pa_cons pe_str (pa_cons pe_str (pa_cons pe_str (pa_cons pe_str (pa_cons pe_str (pa_cons pe_str pa_nil)))))))))
  (pss_cons (ps_set (i := 1) sc_law_odd.nd rfl (by first | exact Or.inl rfl | exact Or.inr rfl) (pe_op op_addX (pv 1) (pe_lst (pa_cons (pe_op op_addX (pe_op op_mulZ pe_str pe_int) pe_str) (pa_cons (pe_op op_addX pe_str (pe_op op_mulZ pe_str pe_int)) pa_nil)))))
  (pss_cons (ps_ret (pe_ix ix_seq (pv 1) (pe_op op_modX (pv 0) pe_int) (fun _ _ => rfl)))
  pss_nil)))))
theorem ok_law_odd {P : Program} {w : World} {K : PySem.W.Frag} {mg : Str → Option Value} {base : Heap} {c : Cs} (T : Txt K mg c) : Okd P w K mg base CX0 1 "_law_odd" ["_law_cell"] (spD (S_law_odd K c)) :=
  okd T.d_law_odd sc_law_odd (by intro Rs R h; first | ((rcases h with ⟨_, _, _, rfl, _⟩ | ⟨_, _, _, rfl, _⟩) <;> rfl) | (rcases h with ⟨_, rfl, _⟩; rfl) | (rcases h with ⟨_, _, rfl, _⟩; rfl) | (rcases h with ⟨_, _, _, rfl, _⟩; rfl) | (rcases h with ⟨_, _, _, _, rfl, _⟩; rfl) | (rcases h with ⟨_, _, _, _, _, rfl, _⟩; rfl) | (rcases h with ⟨_, _, _, _, _, _, rfl, _⟩; rfl) | (rcases h with ⟨_, _, _, _, _, _, _, rfl, _⟩; rfl) | (rcases h with ⟨_, _, _, _, _, _, _, _, rfl, _⟩; rfl)) (fun f cdv A outer s H E hr => ps_law_odd T  f cdv A outer s H E hr) (rd_law_odd )
theorem sc_law_text : FnScope n_law_text ["_law_text_here", "_law_kind", "_law_cell"] (defScope s_law_text) := ⟨rfl, rfl, rfl, by decide +kernel, rfl, by decide +kernel, by decide +kernel⟩
theorem ps_law_text {P : Program} {w : World} {K : PySem.W.Frag} {mg : Str → Option Value} {base : Heap} {c : Cs} (T : Txt K mg c) (O_law_odd : Okd P w K mg base CX0 1 "_law_odd" ["_law_cell"] (spD (S_law_odd K c))) (f : Addr) (cdv : Value) (A : Around) (outer : List Env) (s : Shared) (H : Hp) (E : XK) (hr : Room 1 (A.deeper (envOfC "_law_text" (defScope s_law_text) s.heap.objs.size f cdv))) :
    PSs (cx0 P w K mg base n_law_text "_law_text" s_law_text f cdv A outer s H E) (defBody s_law_text) (t_law_text K c) := by
  unfold t_law_text
  exact (pss_cons (ps_set (i := 3) sc_law_text.nd rfl (by first | exact Or.inl rfl | exact Or.inr rfl) (pe_op op_modX (pv 2) (pe_op op_addX (pe_callB call_lenX (by rfl) T.b_len b_len (pa_cons (pv 0) pa_nil)) pe_int)))
  (pss_cons (ps_if (pt_cmpR (op_eqX hr.units) (pv 1) pe_int (nomark _)) (pss_cons (ps_ret (pe_op op_addX (pe_op op_addX (pe_slice sl_X (pv 0) po_none (po_some (pv 3))) (pe_ix ix_seq pe_str (pe_op op_modX (pe_op op_divX (pv 2) pe_int) pe_int) (fun _ _ => rfl))) (pe_slice sl_X (pv 0) (po_some (pv 3)) po_none)))
  pss_nil) pss_nil)
  (pss_cons (ps_if (pt_cmpR (op_eqX hr.units) (pv 1) pe_int (nomark _)) (pss_cons (ps_set (i := 3) sc_law_text.nd rfl (by first | exact Or.inl rfl | exact Or.inr rfl) (pe_op op_modX (pv 2) (pe_callB call_lenX (by rfl) T.b_len b_len (pa_cons (pv 0) pa_nil))))
  (pss_cons (ps_ret (pe_op op_addX (pe_slice sl_X (pv 0) po_none (po_some (pv 3))) (pe_slice sl_X (pv 0) (po_some (pe_op op_addX (pv 3) pe_int)) po_none)))
  pss_nil)) pss_nil)
  (pss_cons (ps_if (pt_cmpR (op_eqX hr.units) (pv 1) pe_int (nomark _)) (pss_cons (ps_set (i := 4) sc_law_text.nd rfl (by first | exact Or.inl rfl | exact Or.inr rfl) (pe_splitX (pv 0) pe_str))
  (pss_cons (ps_set (i := 5) sc_law_text.nd rfl (by first | exact Or.inl rfl | exact Or.inr rfl) (pe_op op_modX (pv 2) (pe_callB call_lenX (by rfl) T.b_len b_len (pa_cons (pv 4) pa_nil))))
  (pss_cons (ps_set (i := 6) sc_law_text.nd rfl (by first | exact Or.inl rfl | exact Or.inr rfl) (pe_op op_modX (pe_op op_divX (pv 2) pe_int) (pe_callB call_lenX (by rfl) T.b_len b_len (pa_cons (pv 4) pa_nil))))
  (pss_cons (ps_set (i := 7) sc_law_text.nd rfl (by first | exact Or.inl rfl | exact Or.inr rfl) (pe_ix ix_seq (pv 4) (pv 5) (fun _ _ => rfl)))
  (pss_cons (ps_asg (pe_ix ix_seq (pv 4) (pv 6) (fun _ _ => rfl)) (pg_sub (pv 4) (pv 5) set_list))
  (pss_cons (ps_asg (pv 7) (pg_sub (pv 4) (pv 6) set_list))
  (pss_cons (ps_ret (pe_joinX pe_str (pv 4)))
  pss_nil))))))) pss_nil)
  (pss_cons (ps_if (pt_cmpR (op_eqX hr.units) (pv 1) pe_int (nomark _)) (pss_cons (ps_ret (pe_callD O_law_odd hr pass0 (pa_cons (pv 2) pa_nil)))
  pss_nil) pss_nil)
  (pss_cons (ps_ret (pv 0))
  pss_nil))))))
theorem ok_law_text {P : Program} {w : World} {K : PySem.W.Frag} {mg : Str → Option Value} {base : Heap} {c : Cs} (T : Txt K mg c) : Okd P w K mg base CX0 2 "_law_text" ["_law_text_here", "_law_kind", "_law_cell"] (spD (S_law_text K c)) :=
  okd T.d_law_text sc_law_text (by intro Rs R h; first | ((rcases h with ⟨_, _, _, rfl, _⟩ | ⟨_, _, _, rfl, _⟩) <;> rfl) | (rcases h with ⟨_, rfl, _⟩; rfl) | (rcases h with ⟨_, _, rfl, _⟩; rfl) | (rcases h with ⟨_, _, _, rfl, _⟩; rfl) | (rcases h with ⟨_, _, _, _, rfl, _⟩; rfl) | (rcases h with ⟨_, _, _, _, _, rfl, _⟩; rfl) | (rcases h with ⟨_, _, _, _, _, _, rfl, _⟩; rfl) | (rcases h with ⟨_, _, _, _, _, _, _, rfl, _⟩; rfl) | (rcases h with ⟨_, _, _, _, _, _, _, _, rfl, _⟩; rfl)) (fun f cdv A outer s H E hr => ps_law_text T (ok_law_odd T) f cdv A outer s H E hr) (rd_law_text )
theorem sc_law_refused : FnScope n_law_refused ["_law_text_here"] (defScope s_law_refused) := ⟨rfl, rfl, rfl, by decide +kernel, rfl, by decide +kernel, by decide +kernel⟩
theorem ps_law_refused {P : Program} {w : World} {K : PySem.W.Frag} {mg : Str → Option Value} {base : Heap} {c : Cs} (T : Txt K mg c) (O_read : Okd P w K mg base (L2.CX P w) 4 "read" ["text"] (spX (S_read K c) (SE_read K c))) (f : Addr) (cdv : Value) (A : Around) (outer : List Env) (s : Shared) (H : Hp) (E : XK) (hr : Room 4 (A.deeper (envOfC "_law_refused" (defScope s_law_refused) s.heap.objs.size f cdv))) :
    PSs (cx0 P w K mg base n_law_refused "_law_refused" s_law_refused f cdv A outer s H E) (defBody s_law_refused) (t_law_refused K c) := by
  unfold t_law_refused
  exact (pss_cons (ps_tryD (i := 1) (tb := fun W => (tSeq (tDrop (tCallS (spX (S_read K c) (SE_read K c)) (WE W) (tCons (tVar 0) tNil)))
  tNext)) (ts := fun a => (tSeq (tIfS (tOr (tB (tCB (rIsE K c.BadText a) (tCons (tVar 1) (tCons (tC (.ref c.BadPoint)) tNil)))) (tOr (tB (tCB (rIsE K c.BadText a) (tCons (tVar 1) (tCons (tC (.ref c.BadBox)) tNil)))) (tB (tCB (rIsE K c.BadText a) (tCons (tVar 1) (tCons (tC (.ref c.BadWeights)) tNil)))))) (tSeq (tRet (tC (.bl false)))
  tNext) tNext)
  (tSeq (tIfS (tOr (tB (tCB (rIsE K c.BadText a) (tCons (tVar 1) (tCons (tC (.ref c.NoTurn)) tNil)))) (tB (tCB (rIsE K c.BadText a) (tCons (tVar 1) (tCons (tC (.ref c.BadProblem)) tNil))))) (tSeq (tRet (tC (.bl false)))
  tNext) tNext)
  (tSeq (tRet (tAndV (tCB (rIsE K c.BadText a) (tCons (tVar 1) (tCons (tC (.ref c.CutError)) tNil))) (tCB (rIsE K c.BadText a) (tCons (tVar 1) (tCons (tC (.ty "ValueError")) tNil)))))
  tNext)))) T.g_BadText T.ec_BadText (fun W pn xe tk => (pss_cons (ps_expr (pe_callW O_read hr tk (pa_cons (pv 0) pa_nil)))
  pss_nil)) (fun a oe pn hz hf => (pss_cons (ps_if (PW.pt (pw_or (pt_val (pe_isEC T.ec_BadText hz hf (pv 1) T.g_BadPoint T.b_isinstance)) (pw_or (pt_val (pe_isEC T.ec_BadText hz hf (pv 1) T.g_BadBox T.b_isinstance)) (pw_or1 (pt_val (pe_isEC T.ec_BadText hz hf (pv 1) T.g_BadWeights T.b_isinstance)))))) (pss_cons (ps_ret pe_bl)
  pss_nil) pss_nil)
  (pss_cons (ps_if (PW.pt (pw_or (pt_val (pe_isEC T.ec_BadText hz hf (pv 1) T.g_NoTurn T.b_isinstance)) (pw_or1 (pt_val (pe_isEC T.ec_BadText hz hf (pv 1) T.g_BadProblem T.b_isinstance))))) (pss_cons (ps_ret pe_bl)
  pss_nil) pss_nil)
  (pss_cons (ps_ret (pe_and (pe_isEC T.ec_BadText hz hf (pv 1) T.g_CutError T.b_isinstance) (pe_one (pe_isET T.ec_BadText hz hf (pv 1) T.b_ValueError b_VE T.b_isinstance))))
  pss_nil)))) (hN := sc_law_refused.nd))
  (pss_cons (ps_ret pe_bl)
  pss_nil))
theorem ok_law_refused {P : Program} {w : World} {K : PySem.W.Frag} {mg : Str → Option Value} {base : Heap} {c : Cs} (T : Txt K mg c) : Okd P w K mg base CX0 5 "_law_refused" ["_law_text_here"] (spD (S_law_refused K c)) :=
  okd T.d_law_refused sc_law_refused (by intro Rs R h; first | ((rcases h with ⟨_, _, _, rfl, _⟩ | ⟨_, _, _, rfl, _⟩) <;> rfl) | (rcases h with ⟨_, rfl, _⟩; rfl) | (rcases h with ⟨_, _, rfl, _⟩; rfl) | (rcases h with ⟨_, _, _, rfl, _⟩; rfl) | (rcases h with ⟨_, _, _, _, rfl, _⟩; rfl) | (rcases h with ⟨_, _, _, _, _, rfl, _⟩; rfl) | (rcases h with ⟨_, _, _, _, _, _, rfl, _⟩; rfl) | (rcases h with ⟨_, _, _, _, _, _, _, rfl, _⟩; rfl) | (rcases h with ⟨_, _, _, _, _, _, _, _, rfl, _⟩; rfl)) (fun f cdv A outer s H E hr => ps_law_refused T (ok_read T) f cdv A outer s H E hr) (rd_law_refused T.ke_BadText)
theorem sc_law : FnScope n_law ["_law_script"] (defScope s_law) := ⟨rfl, rfl, rfl, by decide +kernel, rfl, by decide +kernel, by decide +kernel⟩
theorem ps_law {P : Program} {w : World} {K : PySem.W.Frag} {mg : Str → Option Value} {base : Heap} {c : Cs} (T : Txt K mg c) (O_law_whole : Okd P w K mg base CX0 1 "_law_whole" ["_law_found"] (spD (S_law_whole K c))) (O_read : Okd P w K mg base (L2.CX P w) 4 "read" ["text"] (spX (S_read K c) (SE_read K c))) (O_law_refused : Okd P w K mg base CX0 5 "_law_refused" ["_law_text_here"] (spD (S_law_refused K c))) (O_law_read : Okd P w K mg base CX0 2 "_law_read" ["_law_text_here"] (spD (S_law_read K c))) (O_law_text : Okd P w K mg base CX0 2 "_law_text" ["_law_text_here", "_law_kind", "_law_cell"] (spD (S_law_text K c))) (O_law_cell_at : Okd P w K mg base CX0 1 "_law_cell_at" ["_law_script", "_law_k"] (spD (S_law_cell_at K c))) (O_shown : Okd P w K mg base CX0 1 "shown" ["row"] (spD (S_shown K c))) (f : Addr) (cdv : Value) (A : Around) (outer : List Env) (s : Shared) (H : Hp) (E : XK) (hr : Room 5 (A.deeper (envOfC "law" (defScope s_law) s.heap.objs.size f cdv))) :
    PSs (cx0 P w K mg base n_law "law" s_law f cdv A outer s H E) (defBody s_law) (t_law K c) := by
  unfold t_law
  exact (pss_cons (ps_set (i := 1) sc_law.nd rfl (by first | exact Or.inl rfl | exact Or.inr rfl) (pe_op op_addX pe_int (pe_op op_modX (pe_callD O_law_cell_at hr pass0 (pa_cons (pv 0) (pa_cons pe_int pa_nil))) pe_int)))
  (pss_cons (ps_setLc (i := 2) (own := [("_law_k", 11)]) (g := (gName 11)) (tt := tYes) rfl sc_law.nd rfl rfl (sw_true rfl rfl rfl (by decide +kernel)) (pi_range1 rfl T.b_range (pa_cons (pv 1) pa_nil)) (blkOk_by (N := n_law) (sc := defScope s_law) (by decide +kernel)) (fun _ _ _ _ _ => (pg_name (i := 11) sc_law.nd rfl (by first | exact Or.inl rfl | exact Or.inr rfl))) (fun _ _ _ _ _ => pts_nil) (fun _ _ _ _ _ => (pe_op op_subX (pe_op op_modX (pe_callD O_law_cell_at hr pass0 (pa_cons (pv 0) (pa_cons (pe_op op_addX pe_int (pv 11)) pa_nil))) pe_int) pe_int)))
  (pss_cons (ps_set (i := 3) sc_law.nd rfl (by first | exact Or.inl rfl | exact Or.inr rfl) (pe_callD O_law_cell_at hr pass0 (pa_cons (pv 0) (pa_cons pe_int pa_nil))))
  (pss_cons (ps_set (i := 4) sc_law.nd rfl (by first | exact Or.inl rfl | exact Or.inr rfl) (pe_tup (pa_cons (pe_callTy call_tupX (by rfl) T.b_tuple b_tuple (pa_cons (pv 2) pa_nil)) (pa_cons (pe_ix ix_seq (pe_lst (pa_cons pe_str (pa_cons pe_str pa_nil))) (pe_op op_modX (pv 3) pe_int) (fun _ _ => rfl)) (pa_cons (pe_op op_subX (pe_op op_modX (pe_op op_divX (pv 3) pe_int) pe_int) pe_int) pa_nil)))))
  (pss_cons (ps_set (i := 5) sc_law.nd rfl (by first | exact Or.inl rfl | exact Or.inr rfl) (pe_op op_addX (pe_lc (own := [("_law_number", 12)]) (g := (gName 12)) (tt := tYes) rfl sc_law.nd (pi_list (pv 2)) (blkOk_by (N := n_law) (sc := defScope s_law) (by decide +kernel)) (fun _ _ _ _ _ => (pg_name (i := 12) sc_law.nd rfl (by first | exact Or.inl rfl | exact Or.inr rfl))) (fun _ _ _ _ _ => pts_nil) (fun _ _ _ _ _ => (pe_callTy call_strX (by rfl) T.b_str b_str (pa_cons (pv 12) pa_nil)))) (pe_lst (pa_cons (pe_ix ix_seq (pv 4) pe_int (fun _ _ => rfl)) (pa_cons (pe_callTy call_strX (by rfl) T.b_str b_str (pa_cons (pe_ix ix_seq (pv 4) pe_int (fun _ _ => rfl)) pa_nil)) pa_nil)))))
  (pss_cons (ps_set (i := 6) sc_law.nd rfl (by first | exact Or.inl rfl | exact Or.inr rfl) (pe_callD O_shown hr pass0 (pa_cons (pv 4) pa_nil)))
  (pss_cons (ps_if (PW.pt (pw_or (pt_not (pt_val (pe_callB call_isi (by rfl) T.b_isinstance b_isi (pa_cons (pv 6) (pa_cons (pe_bltn (v := .ty "str") (by rfl) T.b_str b_str rfl) pa_nil))))) (pw_or1 (pt_cmpR (op_neX hr.units) (pv 6) (pe_joinX pe_str (pv 5)) (nomark _))))) (pss_cons (ps_ret pe_bl)
  pss_nil) pss_nil)
  (pss_cons (ps_set (i := 7) sc_law.nd rfl (by first | exact Or.inl rfl | exact Or.inr rfl) (pe_op op_modX (pe_callD O_law_cell_at hr pass0 (pa_cons (pv 0) (pa_cons pe_int pa_nil))) pe_int))
  (pss_cons (ps_if (pt_cmpR (op_eqX hr.units) (pv 7) pe_int (nomark _)) (pss_cons (ps_ret (pe_callD O_law_refused hr pass0 (pa_cons (pe_ix ix_seq (pe_lst (pa_cons pe_non (pa_cons pe_int (pa_cons (pv 4) (pa_cons (pe_lst (pa_cons (pv 6) pa_nil)) pa_nil))))) (pe_op op_modX (pe_op op_divX (pe_callD O_law_cell_at hr pass0 (pa_cons (pv 0) (pa_cons pe_int pa_nil))) pe_int) pe_int) (fun _ _ => rfl)) pa_nil)))
  pss_nil) pss_nil)
  (pss_cons (ps_set (i := 8) sc_law.nd rfl (by first | exact Or.inl rfl | exact Or.inr rfl) (pe_callD O_law_text hr pass0 (pa_cons (pv 6) (pa_cons (pv 7) (pa_cons (pe_op op_modX (pe_op op_mulX (pe_callD O_law_cell_at hr pass0 (pa_cons (pv 0) (pa_cons pe_int pa_nil))) pe_int) pe_int) pa_nil)))))
  (pss_cons (ps_set (i := 9) sc_law.nd rfl (by first | exact Or.inl rfl | exact Or.inr rfl) (pe_callD O_law_read hr pass0 (pa_cons (pv 8) pa_nil)))
  (pss_cons (ps_if (pt_cmpR op_isNo (pv 9) pe_non (nomark _)) (pss_cons (ps_ret (pe_callD O_law_refused hr pass0 (pa_cons (pv 8) pa_nil)))
  pss_nil) pss_nil)
  (pss_cons (ps_set (i := 10) sc_law.nd rfl (by first | exact Or.inl rfl | exact Or.inr rfl) (pe_callD O_read hr passL (pa_cons (pv 8) pa_nil)))
  (pss_cons (ps_if (PW.pt (pw_or (pt_not (pt_val (pe_callB call_isi (by rfl) T.b_isinstance b_isi (pa_cons (pv 10) (pa_cons (pe_bltn (v := .ty "tuple") (by rfl) T.b_tuple b_tuple rfl) pa_nil))))) (pw_or (pt_cmpR (op_neX hr.units) (pe_callB call_lenX (by rfl) T.b_len b_len (pa_cons (pv 10) pa_nil)) pe_int (nomark _)) (pw_or (pt_not (pt_val (pe_callB call_isi (by rfl) T.b_isinstance b_isi (pa_cons (pe_ix ix_seq (pv 10) pe_int (fun _ _ => rfl)) (pa_cons (pe_bltn (v := .ty "tuple") (by rfl) T.b_tuple b_tuple rfl) pa_nil))))) (pw_or1 (pt_cmpR (op_neX hr.units) (pv 10) (pv 9) (nomark _))))))) (pss_cons (ps_ret pe_bl)
  pss_nil) pss_nil)
  (pss_cons (ps_ret (pe_and (pe_callD O_law_whole hr pass0 (pa_cons (pe_ix ix_seq (pv 10) pe_int (fun _ _ => rfl)) pa_nil)) (pe_one (pe_cmpR (op_eqX hr.units) (pe_lc (own := [("_law_number", 12)]) (g := (gName 12)) (tt := (tNot (tB (tCall (spD (S_law_whole K c)) [] E0 (tCons (tVar 12) tNil))))) rfl sc_law.nd (pi_tup (pe_ix ix_seq (pv 10) pe_int (fun _ _ => rfl))) (blkOk_by (N := n_law) (sc := defScope s_law) (by decide +kernel)) (fun _ _ _ _ _ => (pg_name (i := 12) sc_law.nd rfl (by first | exact Or.inl rfl | exact Or.inr rfl))) (fun _ _ _ _ _ => (pts_one (pt_not (pt_val (pe_callD O_law_whole hr pass0 (pa_cons (pv 12) pa_nil)))))) (fun _ _ _ _ _ => (pv 12))) (pe_lst pa_nil) (nomark _)))))
  pss_nil)))))))))))))))
theorem ok_law {P : Program} {w : World} {K : PySem.W.Frag} {mg : Str → Option Value} {base : Heap} {c : Cs} (T : Txt K mg c) {f : Addr} {fd : FuncData} (F : Fun K "law" "law" s_law f fd) : FnOk P w K mg base CX0 6 f fd ["_law_script"] (spD (S_law K c)) :=
  okf F sc_law (by intro Rs R h; first | ((rcases h with ⟨_, _, _, rfl, _⟩ | ⟨_, _, _, rfl, _⟩) <;> rfl) | (rcases h with ⟨_, rfl, _⟩; rfl) | (rcases h with ⟨_, _, rfl, _⟩; rfl) | (rcases h with ⟨_, _, _, rfl, _⟩; rfl) | (rcases h with ⟨_, _, _, _, rfl, _⟩; rfl) | (rcases h with ⟨_, _, _, _, _, rfl, _⟩; rfl) | (rcases h with ⟨_, _, _, _, _, _, rfl, _⟩; rfl) | (rcases h with ⟨_, _, _, _, _, _, _, rfl, _⟩; rfl) | (rcases h with ⟨_, _, _, _, _, _, _, _, rfl, _⟩; rfl)) (fun f cdv A outer s H E hr => ps_law T (ok_law_whole T) (ok_read T) (ok_law_refused T) (ok_law_read T) (ok_law_text T) (ok_law_cell_at T) (ok_shown T) f cdv A outer s H E hr) (rd_law )
theorem fin {P : Program} {w : World} {K : PySem.W.Frag} {h : Heap} {mg : Str → Option Value} {fa : Addr} (X : K.In h) (G : h.Ns mainGlobals mg) (hfa : mg "law" = some (.ref fa)) {C_BadProblem : Addr} {C_BadPoint : Addr} {C_BadBox : Addr} {C_BadWeights : Addr} {C_NoTurn : Addr} {C_BadText : Addr} {C_CutError : Addr}
    (b_bool : PySem.W.nsIn K mainGlobals "bool" = some none)
    (b_int : PySem.W.nsIn K mainGlobals "int" = some none)
    (b_isinstance : PySem.W.nsIn K mainGlobals "isinstance" = some none)
    (b_len : PySem.W.nsIn K mainGlobals "len" = some none)
    (b_range : PySem.W.nsIn K mainGlobals "range" = some none)
    (b_str : PySem.W.nsIn K mainGlobals "str" = some none)
    (b_tuple : PySem.W.nsIn K mainGlobals "tuple" = some none)
    (b_ValueError : PySem.W.nsIn K mainGlobals "ValueError" = some none)
    (g_FIGURES : ∃ t, PySem.W.nsIn K mainGlobals "FIGURES" = some (some (.str "0123456789" t)))
    (g_GREATEST : ∃ t, PySem.W.nsIn K mainGlobals "GREATEST" = some (some (.int 50 t)))
    (g_GREATEST_BOUND : ∃ t, PySem.W.nsIn K mainGlobals "GREATEST_BOUND" = some (some (.int 2000 t)))
    (g_MOST_FIGURES : ∃ t, PySem.W.nsIn K mainGlobals "MOST_FIGURES" = some (some (.int 4 t)))
    (g_MOST_UNKNOWNS : ∃ t, PySem.W.nsIn K mainGlobals "MOST_UNKNOWNS" = some (some (.int 3 t)))
    (g_BadProblem : PySem.W.nsIn K mainGlobals "BadProblem" = some (some (.ref C_BadProblem)))
    (g_BadPoint : PySem.W.nsIn K mainGlobals "BadPoint" = some (some (.ref C_BadPoint)))
    (g_BadBox : PySem.W.nsIn K mainGlobals "BadBox" = some (some (.ref C_BadBox)))
    (g_BadWeights : PySem.W.nsIn K mainGlobals "BadWeights" = some (some (.ref C_BadWeights)))
    (g_NoTurn : PySem.W.nsIn K mainGlobals "NoTurn" = some (some (.ref C_NoTurn)))
    (g_BadText : PySem.W.nsIn K mainGlobals "BadText" = some (some (.ref C_BadText)))
    (g_CutError : PySem.W.nsIn K mainGlobals "CutError" = some (some (.ref C_CutError)))
    (x_BadText : PySem.W.excIn K C_BadText [.type "ValueError", .type "Exception", .type "BaseException", .type "object"] "ValueError.__new__" = true)
    (k_BadText : PySem.W.keepIn K (.ref C_BadText) = true)
    (bx_BadText : PySem.W.subIn K (.ref C_BadText) (.type "BaseException") = some true)
    (tx_BadText : PySem.W.typeIn K (.ref C_BadText) = some (.type "type"))
    (ea_BadText : PySem.W.findIn K (.ref C_BadText) "__getattribute__" = some (some (.builtin "BaseException.__getattribute__")))
    (eb_BadText : PySem.W.findIn K (.ref C_BadText) "__getattr__" = some none)
    (ed_BadText : PySem.W.subIn K (.ref C_BadText) (.type "BaseException") = some true)
    (ee_BadText : PySem.W.hasDictIn K C_BadText = true)
    (ef_BadText : PySem.W.findIn K (.ref C_BadText) "__class__" = some (some (.builtin "object.__class__")))
    (eg_BadText : PySem.W.specialIn K (.builtin "object.__class__") "__get__" = some (some (.builtin "getset_descriptor.__get__")))
    (eh_BadText : PySem.W.takesIn K (.builtin "object.__class__") = some true)
    (ei_BadText : PySem.W.mroIn K C_BadText (.type "object") = some true)
    (ej_BadText : PySem.W.exmOne K (.ref C_BadText) (.ref C_BadText) = some true)
    (ek_BadText : PySem.W.kitOne K (.ref C_BadText) (.ref C_CutError) = some true)
    (el_BadText : PySem.W.kitOne K (.ref C_BadText) (.type "ValueError") = some true)
    (em_BadProblem_BadText : PySem.W.kitOne K (.ref C_BadText) (.ref C_BadProblem) = some false)
    (em_BadPoint_BadText : PySem.W.kitOne K (.ref C_BadText) (.ref C_BadPoint) = some false)
    (em_BadBox_BadText : PySem.W.kitOne K (.ref C_BadText) (.ref C_BadBox) = some false)
    (em_BadWeights_BadText : PySem.W.kitOne K (.ref C_BadText) (.ref C_BadWeights) = some false)
    (em_NoTurn_BadText : PySem.W.kitOne K (.ref C_BadText) (.ref C_NoTurn) = some false)
    (d_between : DefK K "between" s_between)
    (d_are_between : DefK K "are_between" s_are_between)
    (d_is_row : DefK K "is_row" s_is_row)
    (d_shown : DefK K "shown" s_shown)
    (d_number_in : DefK K "number_in" s_number_in)
    (d_read : DefK K "read" s_read)
    (d_law_cell_at : DefK K "_law_cell_at" s_law_cell_at)
    (d_law_whole : DefK K "_law_whole" s_law_whole)
    (d_law_number_in : DefK K "_law_number_in" s_law_number_in)
    (d_law_read : DefK K "_law_read" s_law_read)
    (d_law_odd : DefK K "_law_odd" s_law_odd)
    (d_law_text : DefK K "_law_text" s_law_text)
    (d_law_refused : DefK K "_law_refused" s_law_refused)
    (d_law : DefK K "law" s_law) :
    ∃ fd : FuncData, (∀ (s : Shared) (v : Value), BindsTo s fd ⟨[v], []⟩ [("_law_script", v)]) ∧ ∀ base : Heap, K.In base → base.Ns mainGlobals mg → FnOk P w K mg base CX0 6 fa fd ["_law_script"] (spD (S_law K cs0)) := by
  have T : Txt K mg { Problem := 0, Tableau := 0, Search := 0, CutError := C_CutError, BadProblem := C_BadProblem, BadPoint := C_BadPoint, BadBox := C_BadBox, BadWeights := C_BadWeights, NoTurn := C_NoTurn, BadText := C_BadText } := { b_bool := PySem.W.mg_none_of X G b_bool, b_int := PySem.W.mg_none_of X G b_int, b_isinstance := PySem.W.mg_none_of X G b_isinstance, b_len := PySem.W.mg_none_of X G b_len, b_range := PySem.W.mg_none_of X G b_range, b_str := PySem.W.mg_none_of X G b_str, b_tuple := PySem.W.mg_none_of X G b_tuple, b_ValueError := PySem.W.mg_none_of X G b_ValueError, g_FIGURES := let ⟨t, h⟩ := g_FIGURES; ⟨t, PySem.W.mg_of X G h⟩, g_GREATEST := let ⟨t, h⟩ := g_GREATEST; ⟨t, PySem.W.mg_of X G h⟩, g_GREATEST_BOUND := let ⟨t, h⟩ := g_GREATEST_BOUND; ⟨t, PySem.W.mg_of X G h⟩, g_MOST_FIGURES := let ⟨t, h⟩ := g_MOST_FIGURES; ⟨t, PySem.W.mg_of X G h⟩, g_MOST_UNKNOWNS := let ⟨t, h⟩ := g_MOST_UNKNOWNS; ⟨t, PySem.W.mg_of X G h⟩, g_BadProblem := PySem.W.mg_of X G g_BadProblem, g_BadPoint := PySem.W.mg_of X G g_BadPoint, g_BadBox := PySem.W.mg_of X G g_BadBox, g_BadWeights := PySem.W.mg_of X G g_BadWeights, g_NoTurn := PySem.W.mg_of X G g_NoTurn, g_BadText := PySem.W.mg_of X G g_BadText, g_CutError := PySem.W.mg_of X G g_CutError, x_BadText := x_BadText, k_BadText := k_BadText, bx_BadText := bx_BadText, tx_BadText := tx_BadText, ec_BadText := ⟨ea_BadText, eb_BadText, ed_BadText, ee_BadText, ef_BadText, eg_BadText, eh_BadText, ei_BadText⟩, ke_BadText := ⟨ej_BadText, fun a ha => by simp only [List.mem_cons, List.not_mem_nil, or_false] at ha; rcases ha with rfl | rfl | rfl | rfl | rfl <;> assumption, ek_BadText, el_BadText⟩, d_between := def_of X G d_between (fun _ _ _ _ _ _ us hl => match us, hl with | [_, _, _], _ => rfl), d_are_between := def_of X G d_are_between (fun _ _ _ _ _ _ us hl => match us, hl with | [_, _, _, _], _ => rfl), d_is_row := def_of X G d_is_row (fun _ _ _ _ _ _ us hl => match us, hl with | [_, _], _ => rfl), d_shown := def_of X G d_shown (fun _ _ _ _ _ _ us hl => match us, hl with | [_], _ => rfl), d_number_in := def_of X G d_number_in (fun _ _ _ _ _ _ us hl => match us, hl with | [_], _ => rfl), d_read := def_of X G d_read (fun _ _ _ _ _ _ us hl => match us, hl with | [_], _ => rfl), d_law_cell_at := def_of X G d_law_cell_at (fun _ _ _ _ _ _ us hl => match us, hl with | [_, _], _ => rfl), d_law_whole := def_of X G d_law_whole (fun _ _ _ _ _ _ us hl => match us, hl with | [_], _ => rfl), d_law_number_in := def_of X G d_law_number_in (fun _ _ _ _ _ _ us hl => match us, hl with | [_, _], _ => rfl), d_law_read := def_of X G d_law_read (fun _ _ _ _ _ _ us hl => match us, hl with | [_], _ => rfl), d_law_odd := def_of X G d_law_odd (fun _ _ _ _ _ _ us hl => match us, hl with | [_], _ => rfl), d_law_text := def_of X G d_law_text (fun _ _ _ _ _ _ us hl => match us, hl with | [_, _, _], _ => rfl), d_law_refused := def_of X G d_law_refused (fun _ _ _ _ _ _ us hl => match us, hl with | [_], _ => rfl), d_law := def_of X G d_law (fun _ _ _ _ _ _ us hl => match us, hl with | [_], _ => rfl) }
  exact fin_of X G hfa d_law (fun _ _ _ _ _ _ _ => rfl) fun base f fd F => ok_law T F
end D
open PySem PySem.W PyProof.Rows
set_option maxRecDepth 100000 in
set_option maxHeartbeats 0 in
theorem PySem.Challenge.cw_wholecut_k02_rows_written_holds : PySem.Challenge.rw_wholecut_k02_rows_written.Holds := by
  w_on; o_law; k_head; (case hw => w_witness2)
  k_fill
  refine L2.walk_of (l := PySem.Challenge.rw_wholecut_k02_rows_written) (n := 63) (k := 6) (x := "_law_script") (CX := fun _ => L2.CX0) (sp := fun w => D.spD (D.S_law _ D.cs0)) rfl (by decide) rfl ⟨rfl, by decide, by decide⟩ (fun w h Y => PySem.W.kIn_of Y) ?F (fun _ _ a ns hl _ hS => D.sp_law_of hl hS) fun _ _ _ _ _ z => z
  case F =>
    intro w mg fa h KX G hmg
    refine' D.fin KX G hmg ?b_bool ?b_int ?b_isinstance ?b_len ?b_range ?b_str ?b_tuple ?b_ValueError ?g_FIGURES ?g_GREATEST ?g_GREATEST_BOUND ?g_MOST_FIGURES ?g_MOST_UNKNOWNS ?g_BadProblem ?g_BadPoint ?g_BadBox ?g_BadWeights ?g_NoTurn ?g_BadText ?g_CutError ?x_BadText ?k_BadText ?bx_BadText ?tx_BadText ?ea_BadText ?eb_BadText ?ed_BadText ?ee_BadText ?ef_BadText ?eg_BadText ?eh_BadText ?ei_BadText ?ej_BadText ?ek_BadText ?el_BadText ?em_BadProblem_BadText ?em_BadPoint_BadText ?em_BadBox_BadText ?em_BadWeights_BadText ?em_NoTurn_BadText ?d_between ?d_are_between ?d_is_row ?d_shown ?d_number_in ?d_read ?d_law_cell_at ?d_law_whole ?d_law_number_in ?d_law_read ?d_law_odd ?d_law_text ?d_law_refused ?d_law
    (case b_bool => k_is)
    (case b_int => k_is)
    (case b_isinstance => k_is)
    (case b_len => k_is)
    (case b_range => k_is)
    (case b_str => k_is)
    (case b_tuple => k_is)
    (case b_ValueError => k_is)
    (case g_FIGURES => (refine' D.ex_str ?h; (case h => k_is)))
    (case g_GREATEST => (refine' D.ex_int ?h; (case h => k_is)))
    (case g_GREATEST_BOUND => (refine' D.ex_int ?h; (case h => k_is)))
    (case g_MOST_FIGURES => (refine' D.ex_int ?h; (case h => k_is)))
    (case g_MOST_UNKNOWNS => (refine' D.ex_int ?h; (case h => k_is)))
    (case g_BadProblem => k_is)
    (case g_BadPoint => k_is)
    (case g_BadBox => k_is)
    (case g_BadWeights => k_is)
    (case g_NoTurn => k_is)
    (case g_BadText => k_is)
    (case g_CutError => k_is)
    (case x_BadText => k_exc)
    (case k_BadText => k_is)
    (case bx_BadText => k_is)
    (case tx_BadText => k_is)
    (case ea_BadText => k_is)
    (case eb_BadText => k_is)
    (case ed_BadText => k_is)
    (case ee_BadText => k_is)
    (case ef_BadText => k_is)
    (case eg_BadText => k_is)
    (case eh_BadText => k_is)
    (case ei_BadText => k_is)
    (case ej_BadText => kernel_rfl)
    (case ek_BadText => kernel_rfl)
    (case el_BadText => kernel_rfl)
    (case em_BadProblem_BadText => kernel_rfl)
    (case em_BadPoint_BadText => kernel_rfl)
    (case em_BadBox_BadText => kernel_rfl)
    (case em_BadWeights_BadText => kernel_rfl)
    (case em_NoTurn_BadText => kernel_rfl)
    (case d_between => (refine' D.DefK.mk_ ?a ?l ?c ?k; (case a => k_is); (case l => k_is); (case c => k_is); (case k => k_is)))
    (case d_are_between => (refine' D.DefK.mk_ ?a ?l ?c ?k; (case a => k_is); (case l => k_is); (case c => k_is); (case k => k_is)))
    (case d_is_row => (refine' D.DefK.mk_ ?a ?l ?c ?k; (case a => k_is); (case l => k_is); (case c => k_is); (case k => k_is)))
    (case d_shown => (refine' D.DefK.mk_ ?a ?l ?c ?k; (case a => k_is); (case l => k_is); (case c => k_is); (case k => k_is)))
    (case d_number_in => (refine' D.DefK.mk_ ?a ?l ?c ?k; (case a => k_is); (case l => k_is); (case c => k_is); (case k => k_is)))
    (case d_read => (refine' D.DefK.mk_ ?a ?l ?c ?k; (case a => k_is); (case l => k_is); (case c => k_is); (case k => k_is)))
    (case d_law_cell_at => (refine' D.DefK.mk_ ?a ?l ?c ?k; (case a => k_is); (case l => k_is); (case c => k_is); (case k => k_is)))
    (case d_law_whole => (refine' D.DefK.mk_ ?a ?l ?c ?k; (case a => k_is); (case l => k_is); (case c => k_is); (case k => k_is)))
    (case d_law_number_in => (refine' D.DefK.mk_ ?a ?l ?c ?k; (case a => k_is); (case l => k_is); (case c => k_is); (case k => k_is)))
    (case d_law_read => (refine' D.DefK.mk_ ?a ?l ?c ?k; (case a => k_is); (case l => k_is); (case c => k_is); (case k => k_is)))
    (case d_law_odd => (refine' D.DefK.mk_ ?a ?l ?c ?k; (case a => k_is); (case l => k_is); (case c => k_is); (case k => k_is)))
    (case d_law_text => (refine' D.DefK.mk_ ?a ?l ?c ?k; (case a => k_is); (case l => k_is); (case c => k_is); (case k => k_is)))
    (case d_law_refused => (refine' D.DefK.mk_ ?a ?l ?c ?k; (case a => k_is); (case l => k_is); (case c => k_is); (case k => k_is)))
    (case d_law => (refine' D.DefK.mk_ ?a ?l ?c ?k; (case a => k_is); (case l => k_is); (case c => k_is); (case k => k_is)))
#print axioms PySem.Challenge.cw_wholecut_k02_rows_written_holds
