import PyProof.Rows.All
import Wide.All
import OpenK.AllK
import Wide.FinOn
import HandS.ForMost
import HandS.ForExc
import HandS.IsInst
import HandS.Wide
import HandS.Flow
import HandS.Deep
import HandS.EndBits
import HandS.TupAny
import HandS.Codes
import PySem.Challenge.RW_trywright_k11_whole_moves
set_option Elab.async false
set_option linter.all false
set_option maxRecDepth 100000
set_option maxHeartbeats 2000000
/-! Pv: plain values over HandS. A Python value as a tree (PV); a frozen heap F within H; a frame's slots as plain values or lists of its own. -/
namespace Pv
open PySem PySem.Spec PyProof.Rows L2

inductive PV where
  | non
  | bl (b : Bool)
  | int (i : Int)
  | str (x : Str)
  | tup (xs : List PV)
  | lst (xs : List PV)
  | scr (ns : List Int)
  deriving Inhabited

mutual
def Rep (K : PySem.W.Frag) (F : Hp) : PV → V → Prop
  | .non, v => v = .non
  | .bl b, v => v = .bl b
  | .int i, v => v = .int i
  | .str x, v => v = .str x
  | .tup ds, v => ∃ a xs, v = .ref a ∧ SqT K F a xs ∧ RepL K F ds xs
  | .lst ds, v => ∃ a xs, v = .ref a ∧ F a = some (.lst xs) ∧ RepL K F ds xs
  | .scr ns, v => ∃ a, v = .ref a ∧ SqL K F a (ns.map V.int)
def RepL (K : PySem.W.Frag) (F : Hp) : List PV → List V → Prop
  | [], xs => xs = []
  | d :: ds, xs => ∃ x r, xs = x :: r ∧ Rep K F d x ∧ RepL K F ds r
end

theorem sqT_mono {K : PySem.W.Frag} {H H' : Hp} {a : Addr} {xs : List V} (e : Same H H') (h : SqT K H a xs) : SqT K H' a xs := by
  rcases h with (h | ⟨o, h⟩) | h
  · exact .inl (.inl (e _ _ h))
  · exact .inl (.inr ⟨o, e _ _ h⟩)
  · exact .inr h
section
variable {K : PySem.W.Frag} {F F' : Hp}
mutual
theorem Rep.mono (s : Same F F') : ∀ (d : PV) (v : V), Rep K F d v → Rep K F' d v
  | .non, _, h => h
  | .bl _, _, h => h
  | .int _, _, h => h
  | .str _, _, h => h
  | .tup ds, v, h => by
    simp only [Rep] at h ⊢
    obtain ⟨a, xs, e, q, r⟩ := h
    exact ⟨a, xs, e, sqT_mono s q, RepL.mono s ds xs r⟩
  | .lst ds, v, h => by
    simp only [Rep] at h ⊢
    obtain ⟨a, xs, e, q, r⟩ := h
    exact ⟨a, xs, e, s _ _ q, RepL.mono s ds xs r⟩
  | .scr ns, v, h => by
    simp only [Rep] at h ⊢
    obtain ⟨a, e, q⟩ := h
    exact ⟨a, e, s.seq q⟩
theorem RepL.mono (s : Same F F') : ∀ (ds : List PV) (vs : List V), RepL K F ds vs → RepL K F' ds vs
  | [], _, h => h
  | d :: ds, vs, h => by
    simp only [RepL] at h ⊢
    obtain ⟨x, r, e, h1, h2⟩ := h
    exact ⟨x, r, e, Rep.mono s d x h1, RepL.mono s ds r h2⟩
end
theorem RepL.len : ∀ {ds : List PV} {vs : List V}, RepL K F ds vs → vs.length = ds.length
  | [], vs, h => by simp only [RepL] at h; subst h; rfl
  | d :: ds, vs, h => by
    simp only [RepL] at h
    obtain ⟨x, r, e, h1, h2⟩ := h
    subst e
    simp only [List.length_cons, RepL.len h2]
theorem RepL.app : ∀ {ds es : List PV} {vs ws : List V}, RepL K F ds vs → RepL K F es ws → RepL K F (ds ++ es) (vs ++ ws)
  | [], es, vs, ws, h, g => by simp only [RepL] at h; subst h; exact g
  | d :: ds, es, vs, ws, h, g => by
    simp only [RepL, List.cons_append] at h ⊢
    obtain ⟨x, r, e, h1, h2⟩ := h
    subst e
    exact ⟨x, r ++ ws, rfl, h1, RepL.app h2 g⟩
theorem RepL.one {d : PV} {v : V} (h : Rep K F d v) : RepL K F [d] [v] := by
  simp only [RepL]
  exact ⟨v, [], rfl, h, rfl⟩
theorem RepL.nil : RepL K F [] [] := by simp only [RepL]
theorem RepL.cons {d : PV} {ds : List PV} {v : V} {vs : List V} (h : Rep K F d v) (t : RepL K F ds vs) : RepL K F (d :: ds) (v :: vs) := by
  simp only [RepL]
  exact ⟨v, vs, rfl, h, t⟩
theorem RepL.get : ∀ {ds : List PV} {vs : List V}, RepL K F ds vs → ∀ {i : Nat} {x : V}, vs[i]? = some x → ∃ d, ds[i]? = some d ∧ Rep K F d x
  | [], vs, h, i, x, e => by simp only [RepL] at h; subst h; simp at e
  | d :: ds, vs, h, i, x, e => by
    simp only [RepL] at h
    obtain ⟨y, r, e1, h1, h2⟩ := h
    subst e1
    cases i with
    | zero => simp at e; subst e; exact ⟨d, rfl, h1⟩
    | succ i => simp at e; simpa using RepL.get h2 e
theorem RepL.get' {ds : List PV} {vs : List V} (h : RepL K F ds vs) {i : Nat} {d : PV} (e : ds[i]? = some d) : ∃ x, vs[i]? = some x ∧ Rep K F d x := by
  have hl := h.len
  have hi : i < vs.length := by
    have := (List.getElem?_eq_some_iff.mp e).1
    omega
  obtain ⟨d', e', r⟩ := h.get (List.getElem?_eq_getElem hi)
  rw [e] at e'
  cases e'
  exact ⟨_, List.getElem?_eq_getElem hi, r⟩
theorem RepL.take : ∀ {ds : List PV} {vs : List V} (n : Nat), RepL K F ds vs → RepL K F (ds.take n) (vs.take n)
  | _, _, 0, _ => by simp only [List.take_zero]; exact .nil
  | [], vs, n + 1, h => by simp only [RepL] at h; subst h; exact .nil
  | d :: ds, vs, n + 1, h => by
    simp only [RepL] at h
    obtain ⟨y, r, e1, h1, h2⟩ := h
    subst e1
    simp only [List.take_succ_cons]
    exact .cons h1 (RepL.take n h2)
theorem RepL.drop : ∀ {ds : List PV} {vs : List V} (n : Nat), RepL K F ds vs → RepL K F (ds.drop n) (vs.drop n)
  | _, _, 0, h => h
  | [], vs, n + 1, h => by simp only [RepL] at h; subst h; exact .nil
  | d :: ds, vs, n + 1, h => by
    simp only [RepL] at h
    obtain ⟨y, r, e1, h1, h2⟩ := h
    subst e1
    simp only [List.drop_succ_cons]
    exact RepL.drop n h2
end

/-! ### the frozen part and the rest: a step of evaluation -/
structure Step (F H F' H' : Hp) : Prop where
  s0 : Same F H
  s1 : Same F F'
  s2 : Same F' H'
  keep : ∀ a o, H a = some o → F a = none → H' a = some o ∧ F' a = none
theorem Step.refl {F H : Hp} (s : Same F H) : Step F H F H := ⟨s, Same.refl _, s, fun _ _ h1 h2 => ⟨h1, h2⟩⟩
theorem Step.trans {F H F1 H1 F2 H2 : Hp} (a : Step F H F1 H1) (b : Step F1 H1 F2 H2) : Step F H F2 H2 :=
  ⟨a.s0, a.s1.trans b.s1, b.s2, fun x o h n => let ⟨h1, n1⟩ := a.keep x o h n; b.keep x o h1 n1⟩
theorem Step.old {F H F' H' : Hp} (st : Step F H F' H') {a : Addr} {o : HO} (h : H a = some o) : H' a = some o := by
  cases e : F a with
  | none => exact (st.keep a o h e).1
  | some u =>
    have h2 := st.s0 a u e
    rw [h] at h2
    cases h2
    exact st.s2 a o (st.s1 a o e)
theorem Step.same {F H F' H' : Hp} (st : Step F H F' H') : Same H H' := fun _ _ h => st.old h
theorem Step.back {F H F' H' : Hp} (st : Step F H F' H') {a : Addr} (h : H' a = none) : H a = none := st.same.free h
/-- a new object, not frozen -/
theorem Step.new {F H : Hp} {p : Addr} {o : HO} (s : Same F H) (hp : H p = none) : Step F H F (upd H p o) :=
  ⟨s, Same.refl _, fun a u e => by rw [upd_ne (ne_of_none (s a u e) hp)]; exact s a u e, fun a u h n => ⟨by rw [upd_ne (ne_of_none h hp)]; exact h, n⟩⟩
/-- a new object, frozen at once -/
theorem Step.frz {F H : Hp} {p : Addr} {o : HO} (s : Same F H) (hp : H p = none) : Step F H (upd F p o) (upd H p o) :=
  ⟨s, fun a u e => by rw [upd_ne (ne_of_none (s a u e) hp)]; exact e,
   fun a u e => by
    by_cases q : a = p
    · subst q; rw [upd_same] at e ⊢; exact e
    · rw [upd_ne q] at e ⊢; exact s a u e,
   fun a u h n => by
    have q : a ≠ p := ne_of_none h hp
    exact ⟨by rw [upd_ne q]; exact h, by rw [upd_ne q]; exact n⟩⟩
/-- what is new is frozen later -/
theorem Step.freeze {F H F' H' : Hp} (st : Step F H F' H') {p : Addr} {o : HO} (hp : H p = none) (h' : H' p = some o) (hn : F' p = none) : Step F H (upd F' p o) H' :=
  ⟨st.s0, fun a u e => by
    have q : a ≠ p := ne_of_none (st.s0 a u e) hp
    rw [upd_ne q]; exact st.s1 a u e,
   fun a u e => by
    by_cases q : a = p
    · subst q; rw [upd_same] at e; cases e; exact h'
    · rw [upd_ne q] at e; exact st.s2 a u e,
   fun a u h n => by
    have q : a ≠ p := ne_of_none h hp
    obtain ⟨h1, h2⟩ := st.keep a u h n
    exact ⟨h1, by rw [upd_ne q]; exact h2⟩⟩
theorem same_frz {F : Hp} {p : Addr} {o : HO} (hn : F p = none) : Same F (upd F p o) := fun a u e => by
  rw [upd_ne (ne_of_none e hn)]; exact e

/-! ### outcomes -/
inductive Ex where
  | cls (n : Str)
  | trb (word what : PV)
inductive R (α : Type) where
  | ok (a : α)
  | ex (e : Ex)
  | bad
def R.bind {α β : Type} : R α → (α → R β) → R β
  | .ok a, k => k a
  | .ex e, _ => .ex e
  | .bad, _ => .bad
@[simp] theorem R.bind_ok {α β : Type} (a : α) (k : α → R β) : (R.ok a).bind k = k a := rfl
@[simp] theorem R.bind_ex {α β : Type} (e : Ex) (k : α → R β) : (R.ex e : R α).bind k = .ex e := rfl
@[simp] theorem R.bind_bad {α β : Type} (k : α → R β) : (R.bad : R α).bind k = .bad := rfl
def RP {α : Type} (r : R α) (A : α → Prop) (B : Ex → Prop) : Prop := match r with
  | .ok a => A a
  | .ex e => B e
  | .bad => False

/-! ### frames -/
inductive Slot where
  | un
  | pv (d : PV)
  | own (l : List PV)
abbrev Fm := List Slot
def SlotOk (K : PySem.W.Frag) (F H : Hp) (v : Option (Option V)) : Slot → Prop
  | .un => True
  | .pv d => ∃ x, v = some (some x) ∧ Rep K F d x
  | .own l => ∃ a xs, v = some (some (.ref a)) ∧ H a = some (.lst xs) ∧ F a = none ∧ RepL K F l xs
def isOwn : Slot → Bool
  | .own _ => true
  | _ => false
structure FmOk (K : PySem.W.Frag) (F H : Hp) (σ : L2.St) (env : Fm) : Prop where
  s0 : Same F H
  len : env.length = σ.length
  at' : ∀ (i : Nat) (s : Slot), env[i]? = some s → SlotOk K F H σ[i]? s
  one : ∀ (i j : Nat) (s t : Slot) (a : Addr), env[i]? = some s → env[j]? = some t → isOwn s = true → isOwn t = true → σ[i]? = some (some (.ref a)) → σ[j]? = some (some (.ref a)) → i = j
theorem FmOk.step {K : PySem.W.Frag} {F H F' H' : Hp} {σ : L2.St} {env : Fm} (h : FmOk K F H σ env) (st : Step F H F' H') : FmOk K F' H' σ env := by
  refine ⟨st.s2, h.len, fun i s e => ?_, h.one⟩
  have q := h.at' i s e
  cases s with
  | un => trivial
  | pv d => obtain ⟨x, e1, r⟩ := q; exact ⟨x, e1, r.mono st.s1⟩
  | own l =>
    obtain ⟨a, xs, e1, h1, n1, r⟩ := q
    obtain ⟨h2, n2⟩ := st.keep a _ h1 n1
    exact ⟨a, xs, e1, h2, n2, r.mono st.s1⟩

/-! ### readings -/
/-- a value that is read: a list may be the frame's own -/
def RD (K : PySem.W.Frag) (F H : Hp) : PV → V → Prop
  | .lst l, v => ∃ a xs, v = .ref a ∧ H a = some (.lst xs) ∧ RepL K F l xs
  | d, v => Rep K F d v
theorem RD.of {K : PySem.W.Frag} {F H : Hp} (s : Same F H) : ∀ {d : PV} {v : V}, Rep K F d v → RD K F H d v
  | .non, _, h => h
  | .bl _, _, h => h
  | .int _, _, h => h
  | .str _, _, h => h
  | .tup _, _, h => h
  | .scr _, _, h => h
  | .lst l, v, h => by
    simp only [Rep] at h
    obtain ⟨a, xs, e, h1, r⟩ := h
    exact ⟨a, xs, e, s _ _ h1, r⟩
theorem RD.step {K : PySem.W.Frag} {F H F' H' : Hp} (st : Step F H F' H') : ∀ {d : PV} {v : V}, RD K F H d v → RD K F' H' d v
  | .non, _, h => h
  | .bl _, _, h => h
  | .int _, _, h => h
  | .str _, _, h => h
  | .tup _, _, h => Rep.mono st.s1 _ _ h
  | .scr _, _, h => Rep.mono st.s1 _ _ h
  | .lst l, v, h => by
    obtain ⟨a, xs, e, h1, r⟩ := h
    exact ⟨a, xs, e, st.old h1, r.mono st.s1⟩
def RDL (K : PySem.W.Frag) (F H : Hp) : List PV → List V → Prop
  | [], xs => xs = []
  | d :: ds, xs => ∃ x r, xs = x :: r ∧ RD K F H d x ∧ RDL K F H ds r
theorem RDL.step {K : PySem.W.Frag} {F H F' H' : Hp} (st : Step F H F' H') : ∀ {ds : List PV} {vs : List V}, RDL K F H ds vs → RDL K F' H' ds vs
  | [], _, h => h
  | d :: ds, vs, h => by
    obtain ⟨x, r, e, h1, h2⟩ := h
    exact ⟨x, r, e, h1.step st, h2.step st⟩
theorem RDL.of {K : PySem.W.Frag} {F H : Hp} (s : Same F H) : ∀ {ds : List PV} {vs : List V}, RepL K F ds vs → RDL K F H ds vs
  | [], _, h => by simp only [RepL] at h; exact h
  | d :: ds, vs, h => by
    simp only [RepL] at h
    obtain ⟨x, r, e, h1, h2⟩ := h
    exact ⟨x, r, e, RD.of s h1, RDL.of s h2⟩

/-- what an exception is -/
def RepX (K : PySem.W.Frag) (mg : Str → Option Value) (F : Hp) : Ex → Value → Option Addr → Prop
  | .cls n, c, d => ∃ C, mg n = some (.ref C) ∧ c = .ref C ∧ d = none
  | .trb a b, c, d => ∃ C dd x y, mg "Trouble" = some (.ref C) ∧ c = .ref C ∧ d = some dd ∧ F dd = some (.xd [("what", y), ("word", x)]) ∧ Rep K F a x ∧ Rep K F b y
/-- the three wishes: a value (frozen), a new list of one's own, a thing that is read -/
def GV (K : PySem.W.Frag) (F H : Hp) (Q : VK) (d : PV) : Prop := ∀ x F' H', Step F H F' H' → Rep K F' d x → Q x H'
def GF (K : PySem.W.Frag) (F H : Hp) (Q : VK) (l : List PV) : Prop := ∀ a xs F' H', Step F H F' H' → H a = none → F' a = none → H' a = some (.lst xs) → RepL K F' l xs → Q (.ref a) H'
def GR (K : PySem.W.Frag) (F H : Hp) (Q : VK) (d : PV) : Prop := ∀ x F' H', Step F H F' H' → RD K F' H' d x → Q x H'
def GX (K : PySem.W.Frag) (mg : Str → Option Value) (F H : Hp) (σ : L2.St) (W : WX) (e : Ex) : Prop := ∀ cls dd F' H', Step F H F' H' → RepX K mg F' e cls dd → W cls dd σ H'
def tG {α : Type} (K : PySem.W.Frag) (mg : Str → Option Value) (W : WX) (G : Hp → Hp → VK → α → Prop) (d : Fm → R α) : TE := fun σ H Q =>
  ∃ F env, FmOk K F H σ env ∧ RP (d env) (G F H Q) (GX K mg F H σ W)
abbrev tV (K : PySem.W.Frag) (mg : Str → Option Value) (W : WX) (d : Fm → R PV) : TE := tG K mg W (GV K) d
abbrev tF (K : PySem.W.Frag) (mg : Str → Option Value) (W : WX) (d : Fm → R (List PV)) : TE := tG K mg W (GF K) d
abbrev tR (K : PySem.W.Frag) (mg : Str → Option Value) (W : WX) (d : Fm → R PV) : TE := tG K mg W (GR K) d
/-- argument lists: values; things read -/
def GVL (K : PySem.W.Frag) (F H : Hp) (Q : List V → Hp → Prop) (ds : List PV) : Prop := ∀ xs F' H', Step F H F' H' → RepL K F' ds xs → Q xs H'
def GRL (K : PySem.W.Frag) (F H : Hp) (Q : List V → Hp → Prop) (ds : List PV) : Prop := ∀ xs F' H', Step F H F' H' → RDL K F' H' ds xs → Q xs H'
def tAG (K : PySem.W.Frag) (mg : Str → Option Value) (W : WX) (G : Hp → Hp → (List V → Hp → Prop) → List PV → Prop) (d : Fm → R (List PV)) : TA := fun σ H Q =>
  ∃ F env, FmOk K F H σ env ∧ RP (d env) (G F H Q) (GX K mg F H σ W)
/-- tests -/
def GT (F H : Hp) (Q : Bool → Hp → Prop) (b : Bool) : Prop := ∀ F' H', Step F H F' H' → Q b H'
def tT (K : PySem.W.Frag) (mg : Str → Option Value) (W : WX) (d : Fm → R Bool) : TT := fun σ H Q =>
  ∃ F env, FmOk K F H σ env ∧ RP (d env) (GT F H Q) (GX K mg F H σ W)

/-! wishes stay along a step -/
section
variable {K : PySem.W.Frag} {mg : Str → Option Value} {F H F' H' : Hp}
theorem GV.step {Q : VK} {d : PV} (g : GV K F H Q d) (st : Step F H F' H') : GV K F' H' Q d := fun x F2 H2 s2 r => g x F2 H2 (st.trans s2) r
theorem GF.step {Q : VK} {d : List PV} (g : GF K F H Q d) (st : Step F H F' H') : GF K F' H' Q d := fun x xs F2 H2 s2 n r => g x xs F2 H2 (st.trans s2) (st.back n) r
theorem GR.step {Q : VK} {d : PV} (g : GR K F H Q d) (st : Step F H F' H') : GR K F' H' Q d := fun x F2 H2 s2 r => g x F2 H2 (st.trans s2) r
theorem GX.step {σ : L2.St} {W : WX} {e : Ex} (g : GX K mg F H σ W e) (st : Step F H F' H') : GX K mg F' H' σ W e := fun c d F2 H2 s2 r => g c d F2 H2 (st.trans s2) r
theorem GT.step {Q : Bool → Hp → Prop} {b : Bool} (g : GT F H Q b) (st : Step F H F' H') : GT F' H' Q b := fun F2 H2 s2 => g F2 H2 (st.trans s2)
theorem GVL.step {Q : List V → Hp → Prop} {d : List PV} (g : GVL K F H Q d) (st : Step F H F' H') : GVL K F' H' Q d := fun x F2 H2 s2 r => g x F2 H2 (st.trans s2) r
theorem GRL.step {Q : List V → Hp → Prop} {d : List PV} (g : GRL K F H Q d) (st : Step F H F' H') : GRL K F' H' Q d := fun x F2 H2 s2 r => g x F2 H2 (st.trans s2) r
/-- a wish that stays -/
structure Stays {α β : Type} (G : Hp → Hp → β → α → Prop) : Prop where
  up : ∀ (F H F' H' : Hp) (Q : β) (d : α), G F H Q d → Step F H F' H' → G F' H' Q d
theorem stGV : Stays (GV K) := ⟨fun _ _ _ _ _ _ g s => GV.step g s⟩
theorem stGF : Stays (GF K) := ⟨fun _ _ _ _ _ _ g s => GF.step g s⟩
theorem stGR : Stays (GR K) := ⟨fun _ _ _ _ _ _ g s => GR.step g s⟩
theorem stGT : Stays GT := ⟨fun _ _ _ _ _ _ g s => GT.step g s⟩
theorem stGVL : Stays (GVL K) := ⟨fun _ _ _ _ _ _ g s => GVL.step g s⟩
theorem stGRL : Stays (GRL K) := ⟨fun _ _ _ _ _ _ g s => GRL.step g s⟩
end

/-! ### judgements by another reading -/
section
variable {X : Cx}
theorem PE.imp {e : Expr} {t t' : TE} (h : PE X e t) (i : ∀ σ H Q, t' σ H Q → t σ H Q) : PE X e t' := ⟨fun pins s σ H Q I q => h.run pins s σ H Q I (i σ H Q q)⟩
theorem PT.imp {e : Expr} {t t' : TT} (h : PT X e t) (i : ∀ σ H Q, t' σ H Q → t σ H Q) : PT X e t' := ⟨fun pins s σ H Q I q => h.run pins s σ H Q I (i σ H Q q)⟩
theorem PA.imp {e : List Expr} {t t' : TA} (h : PA X e t) (i : ∀ σ H Q, t' σ H Q → t σ H Q) : PA X e t' := ⟨fun pos pins s σ H Q I q => h.run pos pins s σ H Q I (i σ H Q q)⟩
theorem PS.imp {e : Stmt} {t t' : TS} (h : PS X e t) (i : ∀ D σ H, t' D σ H → t D σ H) : PS X e t' := ⟨fun pins s σ H D I q => h.run pins s σ H D I (i D σ H q)⟩
theorem PSs.imp {e : List Stmt} {t t' : TS} (h : PSs X e t) (i : ∀ D σ H, t' D σ H → t D σ H) : PSs X e t' := ⟨fun pins s σ H D I q => h.run pins s σ H D I (i D σ H q)⟩
end
end Pv

set_option Elab.async false
set_option linter.all false
set_option maxRecDepth 100000
set_option maxHeartbeats 2000000
/-! PvB: rules for expressions over plain values. -/
namespace Pv
open PySem PySem.Spec PyProof.Rows L2

def ofO {α : Type} : Option α → R α
  | some a => .ok a
  | none => .bad
@[simp] theorem ofO_some {α : Type} (a : α) : ofO (some a) = .ok a := rfl
@[simp] theorem ofO_none {α : Type} : (ofO none : R α) = .bad := rfl
/-! ### what is reckoned -/
def dV (i : Nat) : Fm → R PV := fun env => match env[i]? with
  | some (.pv d) => .ok d
  | _ => .bad
def dR (i : Nat) : Fm → R PV := fun env => match env[i]? with
  | some (.pv d) => .ok d
  | some (.own l) => .ok (.lst l)
  | _ => .bad
def dC (d : PV) : Fm → R PV := fun _ => .ok d
def d1 {α : Type} (f : PV → Option α) (da : Fm → R PV) : Fm → R α := fun env => (da env).bind fun x => ofO (f x)
def d2 {α : Type} (f : PV → PV → Option α) (da db : Fm → R PV) : Fm → R α := fun env => (da env).bind fun x => (db env).bind fun y => ofO (f x y)
def d3 {α : Type} (f : PV → PV → PV → Option α) (da db dc : Fm → R PV) : Fm → R α := fun env => (da env).bind fun x => (db env).bind fun y => (dc env).bind fun z => ofO (f x y z)
def dNil : Fm → R (List PV) := fun _ => .ok []
def dCons (da : Fm → R PV) (dr : Fm → R (List PV)) : Fm → R (List PV) := fun env => (da env).bind fun x => (dr env).bind fun xs => .ok (x :: xs)
def dL (d : Fm → R (List PV)) : Fm → R PV := fun env => (d env).bind fun l => .ok (.lst l)
def dTup (d : Fm → R (List PV)) : Fm → R PV := fun env => (d env).bind fun l => if l.length ≤ sizeLine then .ok (.tup l) else .bad
def dLst (d : Fm → R (List PV)) : Fm → R (List PV) := fun env => (d env).bind fun l => if l.length ≤ sizeLine then .ok l else .bad
def dCall {α : Type} (f : List PV → R α) (d : Fm → R (List PV)) : Fm → R α := fun env => (d env).bind f
def dB (d : Fm → R PV) : Fm → R Bool := fun env => (d env).bind fun v => match v with
  | .bl b => .ok b
  | _ => .bad
def dBv (d : Fm → R Bool) : Fm → R PV := fun env => (d env).bind fun b => .ok (.bl b)
def dIf {α : Type} (c : Fm → R Bool) (a b : Fm → R α) : Fm → R α := fun env => (c env).bind fun k => match k with
  | true => a env
  | false => b env
def dAnd (a b : Fm → R Bool) : Fm → R Bool := dIf a b (fun _ => .ok false)
def dOr (a b : Fm → R Bool) : Fm → R Bool := dIf a (fun _ => .ok true) b
def dNot (a : Fm → R Bool) : Fm → R Bool := fun env => (a env).bind fun k => .ok (!k)

section
variable {X : Cx} {W : WX}
abbrev xV (X : Cx) (W : WX) (d : Fm → R PV) : TE := tV X.K X.mg W d
abbrev xF (X : Cx) (W : WX) (d : Fm → R (List PV)) : TE := tF X.K X.mg W d
abbrev xR (X : Cx) (W : WX) (d : Fm → R PV) : TE := tR X.K X.mg W d
abbrev xVL (X : Cx) (W : WX) (d : Fm → R (List PV)) : TA := tAG X.K X.mg W (GVL X.K) d
abbrev xRL (X : Cx) (W : WX) (d : Fm → R (List PV)) : TA := tAG X.K X.mg W (GRL X.K) d
abbrev xT (X : Cx) (W : WX) (d : Fm → R Bool) : TT := tT X.K X.mg W d

/-! ### from one wish to another -/
theorem rV {e : Expr} {d : Fm → R PV} (h : PE X e (xV X W d)) : PE X e (xR X W d) := PE.imp h fun σ H Q ⟨F, env, ok, p⟩ => by
  refine ⟨F, env, ok, ?_⟩
  cases q : d env with
  | ok v => rw [q] at p; exact fun x F' H' st r => p x F' H' st (RD.of st.s2 r)
  | ex e => rw [q] at p; exact p
  | bad => rw [q] at p; exact p
theorem vF {e : Expr} {d : Fm → R (List PV)} (h : PE X e (xF X W d)) : PE X e (xV X W (dL d)) := PE.imp h fun σ H Q ⟨F, env, ok, p⟩ => by
  refine ⟨F, env, ok, ?_⟩
  unfold dL at p
  cases q : d env with
  | ok v =>
    rw [q] at p
    intro a xs F' H' st hn hf hx r
    refine p (.ref a) (upd F' a (.lst xs)) H' (st.freeze hn hx hf) ?_
    simp only [Rep]
    exact ⟨a, xs, rfl, upd_same, r.mono (same_frz hf)⟩
  | ex e => rw [q] at p; exact p
  | bad => rw [q] at p; exact p
theorem rF {e : Expr} {d : Fm → R (List PV)} (h : PE X e (xF X W d)) : PE X e (xR X W (dL d)) := rV (vF h)

/-! ### in a row -/
section
variable {K : PySem.W.Frag} {mg : Str → Option Value} {α β : Type}
theorem seq1 {G : Hp → Hp → β → α → Prop} {da : Fm → R PV} {f : Fm → PV → R α} {σ : L2.St} {H : Hp} {Q : β} {r : V → Hp → Prop} (sG : Stays G)
    (h : ∃ F env, FmOk K F H σ env ∧ RP ((da env).bind (f env)) (G F H Q) (GX K mg F H σ W))
    (hr : ∀ F H x a env, FmOk K F H σ env → RD K F H a x → RP (f env a) (G F H Q) (GX K mg F H σ W) → r x H) : tR K mg W da σ H r := by
  obtain ⟨F, env, ok, p⟩ := h
  refine ⟨F, env, ok, ?_⟩
  cases q : da env with
  | ok v =>
    rw [q] at p
    intro x F' H' st rx
    refine hr F' H' x v env (ok.step st) rx ?_
    have p' : RP (f env v) (G F H Q) (GX K mg F H σ W) := p
    cases q2 : f env v with
    | ok u => rw [q2] at p'; exact sG.up _ _ _ _ _ _ p' st
    | ex e => rw [q2] at p'; exact GX.step p' st
    | bad => rw [q2] at p'; exact p'
  | ex e => rw [q] at p; exact p
  | bad => rw [q] at p; exact p
theorem seq2 {G : Hp → Hp → β → α → Prop} {da db : Fm → R PV} {f : PV → PV → R α} {σ : L2.St} {H : Hp} {Q : β} {r : V → V → Hp → Prop} (sG : Stays G)
    (h : ∃ F env, FmOk K F H σ env ∧ RP ((da env).bind fun x => (db env).bind fun y => f x y) (G F H Q) (GX K mg F H σ W))
    (hr : ∀ F H x y a b, Same F H → RD K F H a x → RD K F H b y → RP (f a b) (G F H Q) (GX K mg F H σ W) → r x y H) :
    tR K mg W da σ H fun x H1 => tR K mg W db σ H1 fun y H2 => r x y H2 := by
  obtain ⟨F, env, ok, p⟩ := h
  refine ⟨F, env, ok, ?_⟩
  cases q : da env with
  | ok v =>
    rw [q] at p
    intro x F1 H1 st1 rx
    refine ⟨F1, env, ok.step st1, ?_⟩
    have p1 : RP ((db env).bind fun y => f v y) (G F H Q) (GX K mg F H σ W) := p
    cases q1 : db env with
    | ok u =>
      rw [q1] at p1
      intro y F2 H2 st2 ry
      refine hr F2 H2 x y v u st2.s2 (rx.step st2) ry ?_
      have p2 : RP (f v u) (G F H Q) (GX K mg F H σ W) := p1
      cases q2 : f v u with
      | ok z => rw [q2] at p2; exact sG.up _ _ _ _ _ _ (sG.up _ _ _ _ _ _ p2 st1) st2
      | ex e => rw [q2] at p2; exact GX.step (GX.step p2 st1) st2
      | bad => rw [q2] at p2; exact p2
    | ex e => rw [q1] at p1; exact GX.step p1 st1
    | bad => rw [q1] at p1; exact p1
  | ex e => rw [q] at p; exact p
  | bad => rw [q] at p; exact p
end

/-! ### names and constants -/
theorem pe_V {e : Expr} (i : Nat) (h : PE X e (tVar i)) : PE X e (xV X W (dV i)) := PE.imp h fun σ H Q ⟨F, env, ok, p⟩ => by
  unfold dV at p
  cases q : env[i]? with
  | none => rw [q] at p; exact p.elim
  | some s =>
    rw [q] at p
    have at1 := ok.at' i s q
    cases s with
    | un => exact p.elim
    | own l => exact p.elim
    | pv d =>
      obtain ⟨x, e1, r⟩ := at1
      exact ⟨x, e1, p x F H (Step.refl ok.s0) r⟩
theorem pe_R {e : Expr} (i : Nat) (h : PE X e (tVar i)) : PE X e (xR X W (dR i)) := PE.imp h fun σ H Q ⟨F, env, ok, p⟩ => by
  unfold dR at p
  cases q : env[i]? with
  | none => rw [q] at p; exact p.elim
  | some s =>
    rw [q] at p
    have at1 := ok.at' i s q
    cases s with
    | un => exact p.elim
    | own l =>
      obtain ⟨a, xs, e1, h1, n1, r⟩ := at1
      exact ⟨_, e1, p _ F H (Step.refl ok.s0) ⟨a, xs, rfl, h1, r⟩⟩
    | pv d =>
      obtain ⟨x, e1, r⟩ := at1
      exact ⟨x, e1, p x F H (Step.refl ok.s0) (RD.of ok.s0 r)⟩
theorem pe_K {e : Expr} {v : V} {d : PV} (h : PE X e (tC v)) (r : ∀ F, Rep X.K F d v) : PE X e (xV X W (dC d)) := PE.imp h fun σ H Q ⟨F, env, ok, p⟩ => p v F H (Step.refl ok.s0) (r F)
theorem kInt {i : Int} {j : Nat} {pos : Pos} : PE X (.Constant (.int i) j pos) (xV X W (dC (.int i))) := pe_K pe_int fun _ => by simp only [Rep]
theorem kStr {i : Str} {j : Nat} {pos : Pos} : PE X (.Constant (.str i) j pos) (xV X W (dC (.str i))) := pe_K pe_str fun _ => by simp only [Rep]
theorem kBl {i : Bool} {j : Nat} {pos : Pos} : PE X (.Constant (.bool i) j pos) (xV X W (dC (.bl i))) := pe_K pe_bl fun _ => by simp only [Rep]
theorem kNon {j : Nat} {pos : Pos} : PE X (.Constant .none j pos) (xV X W (dC .non)) := pe_K pe_non fun _ => by simp only [Rep]
theorem kGlInt {x : Str} {pos : Pos} {i : Int} (hg : Gl X x) (hm : ∃ t, X.mg x = some (.int i t)) (hd : (x == ("__debug__" : Str)) = false := by decide) : PE X (.Name x pos) (xV X W (dC (.int i))) := by
  obtain ⟨t, hm⟩ := hm
  exact pe_K (pe_glob (v := .int i) hg hm ⟨t, rfl⟩ hd) fun _ => by simp only [Rep]
theorem kGlStr {x : Str} {pos : Pos} {i : Str} (hg : Gl X x) (hm : ∃ t, X.mg x = some (.str i t)) (hd : (x == ("__debug__" : Str)) = false := by decide) : PE X (.Name x pos) (xV X W (dC (.str i))) := by
  obtain ⟨t, hm⟩ := hm
  exact pe_K (pe_glob (v := .str i) hg hm ⟨t, rfl⟩ hd) fun _ => by simp only [Rep]
/-- a module's constant that is an object -/
theorem kGlRef {x : Str} {pos : Pos} {a : Addr} {d : PV} (hg : Gl X x) (hm : X.mg x = some (.ref a)) (r : ∀ F, Rep X.K F d (.ref a)) (hd : (x == ("__debug__" : Str)) = false := by decide) : PE X (.Name x pos) (xV X W (dC d)) :=
  pe_K (pe_glob (v := .ref a) hg hm rfl hd) r

/-! ### operators by what they make of values -/
def OpS {α : Type} (K : PySem.W.Frag) (r : R2) (f : PV → PV → Option α) (G : Hp → Hp → VK → α → Prop) : Prop :=
  ∀ F H x y a b v Q, Same F H → RD K F H a x → RD K F H b y → f a b = some v → G F H Q v → r x y H Q
theorem pe_bin {α : Type} {G : Hp → Hp → VK → α → Prop} {a b : Expr} {op : Operator} {r : R2} {f : PV → PV → Option α} {da db : Fm → R PV} {pos : Pos} (ho : OpR X (binaryOp op) r) (hf : OpS X.K r f G) (sG : Stays G)
    (ha : PE X a (xR X W da)) (hb : PE X b (xR X W db)) : PE X (.BinOp a op b pos) (tG X.K X.mg W G (d2 f da db)) := PE.imp (pe_op ho ha hb) fun σ H Q h => by
  refine seq2 sG h fun F H x y a b s ra rb p => ?_
  cases q : f a b with
  | none => rw [q] at p; exact p.elim
  | some v => rw [q] at p; exact hf F H x y a b v Q s ra rb q p
theorem pe_cmpS {a b : Expr} {op : CmpOp} {r : R2} {f : PV → PV → Option PV} {da db : Fm → R PV} {pos : Pos} (ho : OpR X (compareOp op) r) (hf : OpS X.K r f (GV X.K))
    (ha : PE X a (xR X W da)) (hb : PE X b (xR X W db)) (hm : behindInMarks op b = false) : PE X (.Compare a [op] [b] pos) (xV X W (d2 f da db)) := PE.imp (pe_cmpR ho ha hb hm) fun σ H Q h => by
  refine seq2 stGV h fun F H x y a b s ra rb p => ?_
  cases q : f a b with
  | none => rw [q] at p; exact p.elim
  | some v => rw [q] at p; exact hf F H x y a b v Q s ra rb q p
/-- a comparison that hands back a truth -/
def OpB (K : PySem.W.Frag) (r : R2) (f : PV → PV → Option Bool) : Prop :=
  ∀ F H x y a b v (Q : VK), Same F H → RD K F H a x → RD K F H b y → f a b = some v → Q (.bl v) H → r x y H Q
theorem pt_cmpS {a b : Expr} {op : CmpOp} {r : R2} {f : PV → PV → Option Bool} {da db : Fm → R PV} {pos : Pos} (ho : OpR X (compareOp op) r) (hf : OpB X.K r f)
    (ha : PE X a (xR X W da)) (hb : PE X b (xR X W db)) (hm : behindInMarks op b = false) : PT X (.Compare a [op] [b] pos) (xT X W (d2 f da db)) := PT.imp (pt_cmpR ho ha hb hm) fun σ H Q h => by
  refine seq2 stGT h fun F H x y a b s ra rb p => ?_
  cases q : f a b with
  | none => rw [q] at p; exact p.elim
  | some v => rw [q] at p; exact hf F H x y a b v _ s ra rb q ⟨v, rfl, p F H (Step.refl s)⟩
theorem pe_cmpB {a b : Expr} {op : CmpOp} {r : R2} {f : PV → PV → Option Bool} {da db : Fm → R PV} {pos : Pos} (ho : OpR X (compareOp op) r) (hf : OpB X.K r f)
    (ha : PE X a (xR X W da)) (hb : PE X b (xR X W db)) (hm : behindInMarks op b = false) : PE X (.Compare a [op] [b] pos) (xV X W (dBv (d2 f da db))) := PE.imp (pe_cmpR ho ha hb hm) fun σ H Q ⟨F, env, ok, p⟩ => by
  have h : ∃ F env, FmOk X.K F H σ env ∧ RP ((da env).bind fun x => (db env).bind fun y => (ofO (f x y)).bind fun b => .ok (PV.bl b)) (GV X.K F H Q) (GX X.K X.mg F H σ W) := by
    refine ⟨F, env, ok, ?_⟩
    unfold dBv d2 at p
    cases q : da env with
    | ok v =>
      rw [q] at p
      cases q1 : db env with
      | ok u => simp only [q1, R.bind_ok] at p ⊢; exact p
      | ex e => simp only [q1, R.bind_ok, R.bind_ex] at p ⊢; exact p
      | bad => simp only [q1, R.bind_ok, R.bind_bad] at p ⊢; exact p
    | ex e => rw [q] at p; exact p
    | bad => rw [q] at p; exact p
  refine seq2 stGV h fun F H x y a b s ra rb p => ?_
  cases q : f a b with
  | none => rw [q] at p; exact p.elim
  | some v => rw [q] at p; exact hf F H x y a b v _ s ra rb q (p _ F H (Step.refl s) (by simp only [Rep]))
/-- a < b < c -/
def dChain (f g : PV → PV → Option Bool) (da db dc : Fm → R PV) : Fm → R Bool := fun env => (da env).bind fun x => (db env).bind fun y => (ofO (f x y)).bind fun k => match k with
  | true => (dc env).bind fun z => ofO (g y z)
  | false => .ok false
theorem chain_go {K : PySem.W.Frag} {mg : Str → Option Value} {r r' : R2} {f g : PV → PV → Option Bool} {da db dc : Fm → R PV} {σ : L2.St} {H : Hp} {Q : VK} (hf : OpB K r f) (hg : OpB K r' g)
    (h : ∃ F env, FmOk K F H σ env ∧ RP (dChain f g da db dc env) (fun b => ∀ F' H', Step F H F' H' → Q (.bl b) H') (GX K mg F H σ W)) : tChain r r' (tR K mg W da) (tR K mg W db) (tR K mg W dc) σ H Q := by
  obtain ⟨F, env, ok, p⟩ := h
  refine ⟨F, env, ok, ?_⟩
  unfold dChain at p
  cases q : da env with
  | ok v =>
    rw [q] at p
    intro x F1 H1 st1 rx
    refine ⟨F1, env, ok.step st1, ?_⟩
    simp only [R.bind_ok] at p
    cases q1 : db env with
    | ok u =>
      rw [q1] at p
      intro y F2 H2 st2 ry
      simp only [R.bind_ok] at p
      cases q2 : f v u with
      | none => rw [q2] at p; exact p.elim
      | some k =>
        rw [q2] at p
        refine hf F2 H2 x y v u k _ st2.s2 (rx.step st2) ry q2 ⟨k, rfl, ?_⟩
        cases k with
        | false =>
          rw [if_neg Bool.false_ne_true]
          exact p F2 H2 (st1.trans st2)
        | true =>
          rw [if_pos rfl]
          refine ⟨F2, env, (ok.step st1).step st2, ?_⟩
          simp only [ofO_some, R.bind_ok] at p
          cases q3 : dc env with
          | ok w =>
            rw [q3] at p
            intro z F3 H3 st3 rz
            simp only [R.bind_ok] at p
            cases q4 : g u w with
            | none => rw [q4] at p; exact p.elim
            | some b => rw [q4] at p; exact hg F3 H3 y z u w b _ st3.s2 (ry.step st3) rz q4 (p F3 H3 ((st1.trans st2).trans st3))
          | ex e => rw [q3] at p; exact GX.step (GX.step p st1) st2
          | bad => rw [q3] at p; exact p
    | ex e => rw [q1] at p; exact GX.step p st1
    | bad => rw [q1] at p; exact p
  | ex e => rw [q] at p; exact p
  | bad => rw [q] at p; exact p
theorem pe_chainS {op op' : CmpOp} {a b c : Expr} {r r' : R2} {f g : PV → PV → Option Bool} {da db dc : Fm → R PV} {pos : Pos} (ho : OpR X (compareOp op) r) (hf : OpB X.K r f) (ho' : OpR X (compareOp op') r') (hg : OpB X.K r' g)
    (ha : PE X a (xR X W da)) (hb : PE X b (xR X W db)) (hc : PE X c (xR X W dc)) (hm : lastMarks [op, op'] [b, c] = false := by with_unfolding_all rfl) : PE X (.Compare a [op, op'] [b, c] pos) (xV X W (dBv (dChain f g da db dc))) :=
  PE.imp (pe_chain ho ho' ha hb hc hm) fun σ H Q ⟨F, env, ok, p⟩ => chain_go hf hg (mg := X.mg) ⟨F, env, ok, by
    unfold dBv at p
    cases q : dChain f g da db dc env with
    | ok b => rw [q] at p; exact fun F' H' st => p _ F' H' st (by simp only [Rep])
    | ex e => rw [q] at p; exact p
    | bad => rw [q] at p; exact p⟩
theorem pt_chainS {op op' : CmpOp} {a b c : Expr} {r r' : R2} {f g : PV → PV → Option Bool} {da db dc : Fm → R PV} {pos : Pos} (ho : OpR X (compareOp op) r) (hf : OpB X.K r f) (ho' : OpR X (compareOp op') r') (hg : OpB X.K r' g)
    (ha : PE X a (xR X W da)) (hb : PE X b (xR X W db)) (hc : PE X c (xR X W dc)) (hm : lastMarks [op, op'] [b, c] = false := by with_unfolding_all rfl) : PT X (.Compare a [op, op'] [b, c] pos) (xT X W (dChain f g da db dc)) :=
  PT.imp (pt_chain ho ho' ha hb hc hm) fun σ H Q ⟨F, env, ok, p⟩ => chain_go (Q := fun x H' => ∃ k, x = .bl k ∧ Q k H') hf hg (mg := X.mg) ⟨F, env, ok, by
    cases q : dChain f g da db dc env with
    | ok b => rw [q] at p; exact fun F' H' st => ⟨b, rfl, p F' H' st⟩
    | ex e => rw [q] at p; exact p
    | bad => rw [q] at p; exact p⟩

/-! ### truths -/
theorem go_tB {d : Fm → R PV} {σ : L2.St} {H : Hp} {Q : Bool → Hp → Prop} (h : xT X W (dB d) σ H Q) : tB (xV X W d) σ H Q := by
  obtain ⟨F, env, ok, p⟩ := h
  refine ⟨F, env, ok, ?_⟩
  unfold dB at p
  cases q : d env with
  | ok v =>
    rw [q] at p
    intro x F' H' st r
    cases v with
    | bl b =>
      simp only [Rep] at r
      exact ⟨b, r, p F' H' st⟩
    | non => exact p.elim
    | int i => exact p.elim
    | str i => exact p.elim
    | tup i => exact p.elim
    | lst i => exact p.elim
    | scr i => exact p.elim
  | ex e => rw [q] at p; exact p
  | bad => rw [q] at p; exact p
/-- a value as a test (a call, a name) -/
theorem tV_test {e : Expr} {d : Fm → R PV} (h : PE X e (xV X W d)) (he : ∀ whole, isTrue e X.env whole = (do let v ← whole; standAt e.pos; holding [v] (truthy v)) := by intro _; rfl) : PT X e (xT X W (dB d)) :=
  PT.imp (pt_val h he) fun σ H Q h => go_tB h
theorem go_if {K : PySem.W.Frag} {mg : Str → Option Value} {α β : Type} {G : Hp → Hp → β → α → Prop} {c : Fm → R Bool} {a b : Fm → R α} {σ : L2.St} {H : Hp} {Q : β} {P1 P2 : Hp → Prop} (sG : Stays G)
    (h : ∃ F env, FmOk K F H σ env ∧ RP (dIf c a b env) (G F H Q) (GX K mg F H σ W))
    (h1 : ∀ H, (∃ F env, FmOk K F H σ env ∧ RP (a env) (G F H Q) (GX K mg F H σ W)) → P1 H) (h2 : ∀ H, (∃ F env, FmOk K F H σ env ∧ RP (b env) (G F H Q) (GX K mg F H σ W)) → P2 H) :
    tT K mg W c σ H fun k H1 => if k = true then P1 H1 else P2 H1 := by
  obtain ⟨F, env, ok, p⟩ := h
  refine ⟨F, env, ok, ?_⟩
  unfold dIf at p
  have up : ∀ {t : R α} {F' H' : Hp}, Step F H F' H' → RP t (G F H Q) (GX K mg F H σ W) → RP t (G F' H' Q) (GX K mg F' H' σ W) := fun {t F' H'} st p => by
    cases t with
    | ok v => exact sG.up _ _ _ _ _ _ p st
    | ex e => exact GX.step p st
    | bad => exact p
  cases q : c env with
  | ok k =>
    rw [q] at p
    intro F' H' st
    cases k with
    | true => rw [if_pos rfl]; exact h1 H' ⟨F', env, ok.step st, up st p⟩
    | false => rw [if_neg Bool.false_ne_true]; exact h2 H' ⟨F', env, ok.step st, up st p⟩
  | ex e => rw [q] at p; exact p
  | bad => rw [q] at p; exact p
theorem pe_ifS {α : Type} {G : Hp → Hp → VK → α → Prop} {c a b : Expr} {dc : Fm → R Bool} {da db : Fm → R α} {pos : Pos} (sG : Stays G) (hc : PT X c (xT X W dc)) (ha : PE X a (tG X.K X.mg W G da)) (hb : PE X b (tG X.K X.mg W G db)) :
    PE X (.IfExp c a b pos) (tG X.K X.mg W G (dIf dc da db)) := PE.imp (pe_ifExp hc ha hb) fun σ H Q h => go_if sG h (fun H h => h) (fun H h => h)
theorem bl_true {F H : Hp} {Q : Bool → Hp → Prop} {b : Bool} (g : GT F H Q b) (s : Same F H) : Q b H := g F H (Step.refl s)
theorem w_and {a b : Expr} {rest : List Expr} {da db : Fm → R Bool} {pos : Pos} (ha : PT X a (xT X W da)) (hb : PW X (.BoolOp .And (b :: rest) pos) (xT X W db)) : PW X (.BoolOp .And (a :: b :: rest) pos) (xT X W (dAnd da db)) :=
  ⟨fun whole pins s σ H Q I h => (pw_and ha hb).run whole pins s σ H Q I (go_if stGT h (fun H h => h) fun H ⟨F, env, ok, p⟩ => bl_true p ok.s0)⟩
theorem w_or {a b : Expr} {rest : List Expr} {da db : Fm → R Bool} {pos : Pos} (ha : PT X a (xT X W da)) (hb : PW X (.BoolOp .Or (b :: rest) pos) (xT X W db)) : PW X (.BoolOp .Or (a :: b :: rest) pos) (xT X W (dOr da db)) :=
  ⟨fun whole pins s σ H Q I h => (pw_or ha hb).run whole pins s σ H Q I (go_if stGT h (fun H ⟨F, env, ok, p⟩ => bl_true p ok.s0) fun H h => h)⟩
theorem t_not {a : Expr} {da : Fm → R Bool} {pos : Pos} (ha : PT X a (xT X W da)) : PT X (.UnaryOp .Not a pos) (xT X W (dNot da)) := PT.imp (pt_not ha) fun σ H Q ⟨F, env, ok, p⟩ => by
  refine ⟨F, env, ok, ?_⟩
  unfold dNot at p
  cases q : da env with
  | ok k => rw [q] at p; exact p
  | ex e => rw [q] at p; exact p
  | bad => rw [q] at p; exact p
/-- and, or, not as values -/
def dAndV (a b : Fm → R PV) : Fm → R PV := dIf (dB a) b (fun _ => .ok (.bl false))
def dOrV (a b : Fm → R PV) : Fm → R PV := dIf (dB a) (fun _ => .ok (.bl true)) b
def dNotV (a : Fm → R PV) : Fm → R PV := fun env => (dB a env).bind fun k => .ok (.bl (!k))
theorem gv_here {K : PySem.W.Frag} {F H : Hp} {Q : VK} {d : PV} {x : V} (g : GV K F H Q d) (s : Same F H) (r : Rep K F d x) : Q x H := g x F H (Step.refl s) r
theorem v_and {a b : Expr} {rest : List Expr} {da db : Fm → R PV} {pos : Pos} (ha : PE X a (xV X W da)) (hb : PE X (.BoolOp .And (b :: rest) pos) (xV X W db)) : PE X (.BoolOp .And (a :: b :: rest) pos) (xV X W (dAndV da db)) :=
  PE.imp (pe_and ha hb) fun σ H Q h => go_tB (Q := fun c H1 => if c = true then xV X W db σ H1 Q else Q (.bl false) H1) (go_if stGV h (fun H h => h) fun H ⟨F, env, ok, p⟩ => gv_here p ok.s0 (by simp only [Rep]))
theorem v_or {a b : Expr} {rest : List Expr} {da db : Fm → R PV} {pos : Pos} (ha : PE X a (xV X W da)) (hb : PE X (.BoolOp .Or (b :: rest) pos) (xV X W db)) : PE X (.BoolOp .Or (a :: b :: rest) pos) (xV X W (dOrV da db)) :=
  PE.imp (pe_or ha hb) fun σ H Q h => go_tB (Q := fun c H1 => if c = true then Q (.bl true) H1 else xV X W db σ H1 Q) (go_if stGV h (fun H ⟨F, env, ok, p⟩ => gv_here p ok.s0 (by simp only [Rep])) fun H h => h)
theorem v_not {a : Expr} {da : Fm → R PV} {pos : Pos} (ha : PE X a (xV X W da)) : PE X (.UnaryOp .Not a pos) (xV X W (dNotV da)) := PE.imp (pe_not ha) fun σ H Q ⟨F, env, ok, p⟩ =>
  go_tB (Q := fun c H1 => Q (.bl (!c)) H1) ⟨F, env, ok, by
    unfold dNotV at p
    cases q : dB da env with
    | ok k => rw [q] at p; exact fun F' H' st => p _ F' H' st (by simp only [Rep])
    | ex e => rw [q] at p; exact p
    | bad => rw [q] at p; exact p⟩

/-! ### argument lists -/
theorem aVnil : PA X [] (xVL X W dNil) := PA.imp pa_nil fun σ H Q ⟨F, env, ok, p⟩ => p [] F H (Step.refl ok.s0) .nil
theorem aRnil : PA X [] (xRL X W dNil) := PA.imp pa_nil fun σ H Q ⟨F, env, ok, p⟩ => p [] F H (Step.refl ok.s0) rfl
theorem aVcons {e : Expr} {es : List Expr} {da : Fm → R PV} {dr : Fm → R (List PV)} (ha : PE X e (xV X W da)) (hr : PA X es (xVL X W dr)) (hs : starEach (e :: es) X.env = (false, eval e X.env) :: starEach es X.env := by rfl) : PA X (e :: es) (xVL X W (dCons da dr)) :=
  PA.imp (pa_cons ha hr hs) fun σ H Q ⟨F, env, ok, p⟩ => by
    refine ⟨F, env, ok, ?_⟩
    unfold dCons at p
    cases q : da env with
    | ok v =>
      rw [q] at p
      intro x F1 H1 st1 rx
      refine ⟨F1, env, ok.step st1, ?_⟩
      simp only [R.bind_ok] at p
      cases q1 : dr env with
      | ok vs =>
        rw [q1] at p
        intro xs F2 H2 st2 rs
        exact p (x :: xs) F2 H2 (st1.trans st2) (.cons (rx.mono st2.s1) rs)
      | ex e => rw [q1] at p; exact GX.step p st1
      | bad => rw [q1] at p; exact p
    | ex e => rw [q] at p; exact p
    | bad => rw [q] at p; exact p
theorem aRcons {e : Expr} {es : List Expr} {da : Fm → R PV} {dr : Fm → R (List PV)} (ha : PE X e (xR X W da)) (hr : PA X es (xRL X W dr)) (hs : starEach (e :: es) X.env = (false, eval e X.env) :: starEach es X.env := by rfl) : PA X (e :: es) (xRL X W (dCons da dr)) :=
  PA.imp (pa_cons ha hr hs) fun σ H Q ⟨F, env, ok, p⟩ => by
    refine ⟨F, env, ok, ?_⟩
    unfold dCons at p
    cases q : da env with
    | ok v =>
      rw [q] at p
      intro x F1 H1 st1 rx
      refine ⟨F1, env, ok.step st1, ?_⟩
      simp only [R.bind_ok] at p
      cases q1 : dr env with
      | ok vs =>
        rw [q1] at p
        intro xs F2 H2 st2 rs
        exact p (x :: xs) F2 H2 (st1.trans st2) ⟨x, xs, rfl, rx.step st2, rs⟩
      | ex e => rw [q1] at p; exact GX.step p st1
      | bad => rw [q1] at p; exact p
    | ex e => rw [q] at p; exact p
    | bad => rw [q] at p; exact p
/-- what follows an argument list -/
theorem seqA {K : PySem.W.Frag} {mg : Str → Option Value} {α : Type} {G : Hp → Hp → VK → α → Prop} {d : Fm → R (List PV)} {f : List PV → R α} {σ : L2.St} {H : Hp} {Q : VK} {r : List V → Hp → Prop} (sG : Stays G)
    (h : ∃ F env, FmOk K F H σ env ∧ RP ((d env).bind f) (G F H Q) (GX K mg F H σ W))
    (hr : ∀ F H xs ds, Same F H → RDL K F H ds xs → RP (f ds) (G F H Q) (GX K mg F H σ W) → r xs H) : tAG K mg W (GRL K) d σ H r := by
  obtain ⟨F, env, ok, p⟩ := h
  refine ⟨F, env, ok, ?_⟩
  cases q : d env with
  | ok v =>
    rw [q] at p
    intro xs F' H' st rx
    refine hr F' H' xs v st.s2 rx ?_
    have p' : RP (f v) (G F H Q) (GX K mg F H σ W) := p
    cases q2 : f v with
    | ok u => rw [q2] at p'; exact sG.up _ _ _ _ _ _ p' st
    | ex e => rw [q2] at p'; exact GX.step p' st
    | bad => rw [q2] at p'; exact p'
  | ex e => rw [q] at p; exact p
  | bad => rw [q] at p; exact p
theorem seqV {K : PySem.W.Frag} {mg : Str → Option Value} {α : Type} {G : Hp → Hp → VK → α → Prop} {d : Fm → R (List PV)} {f : List PV → R α} {σ : L2.St} {H : Hp} {Q : VK} {r : List V → Hp → Prop} (sG : Stays G)
    (h : ∃ F env, FmOk K F H σ env ∧ RP ((d env).bind f) (G F H Q) (GX K mg F H σ W))
    (hr : ∀ F H xs ds, Same F H → RepL K F ds xs → RP (f ds) (G F H Q) (GX K mg F H σ W) → r xs H) : tAG K mg W (GVL K) d σ H r := by
  obtain ⟨F, env, ok, p⟩ := h
  refine ⟨F, env, ok, ?_⟩
  cases q : d env with
  | ok v =>
    rw [q] at p
    intro xs F' H' st rx
    refine hr F' H' xs v st.s2 rx ?_
    have p' : RP (f v) (G F H Q) (GX K mg F H σ W) := p
    cases q2 : f v with
    | ok u => rw [q2] at p'; exact sG.up _ _ _ _ _ _ p' st
    | ex e => rw [q2] at p'; exact GX.step p' st
    | bad => rw [q2] at p'; exact p'
  | ex e => rw [q] at p; exact p
  | bad => rw [q] at p; exact p
/-- displays -/
theorem v_tup {es : List Expr} {d : Fm → R (List PV)} {n : Nat} {pos : Pos} (h : PA X es (xVL X W d)) : PE X (.Tuple es n pos) (xV X W (dTup d)) := PE.imp (pe_tup h) fun σ H Q h => by
  refine seqV stGV h fun F H xs ds s r p => ?_
  by_cases c : ds.length ≤ sizeLine
  · rw [if_pos c] at p
    refine ⟨by rw [r.len]; exact c, fun q hq => p (.ref q) (upd F q (.tup xs)) _ (Step.frz s hq) ?_⟩
    simp only [Rep]
    exact ⟨q, xs, rfl, SqT.of upd_same, r.mono (same_frz (s.free hq))⟩
  · rw [if_neg c] at p; exact p.elim
theorem f_lst {es : List Expr} {d : Fm → R (List PV)} {pos : Pos} (h : PA X es (xVL X W d)) : PE X (.List es pos) (xF X W (dLst d)) := PE.imp (pe_lst h) fun σ H Q h => by
  refine seqV stGF h fun F H xs ds s r p => ?_
  by_cases c : ds.length ≤ sizeLine
  · rw [if_pos c] at p
    exact ⟨by rw [r.len]; exact c, fun q hq => p q xs F _ (Step.new s hq) hq (s.free hq) upd_same r⟩
  · rw [if_neg c] at p; exact p.elim
/-- built-in functions and types, by what they make of values -/
def CaS {α : Type} (K : PySem.W.Frag) (r : List V → Hp → VK → Prop) (f : List PV → Option α) (G : Hp → Hp → VK → α → Prop) : Prop :=
  ∀ F H xs ds v Q, Same F H → RDL K F H ds xs → f ds = some v → G F H Q v → r xs H Q
theorem pe_callBS {α : Type} {G : Hp → Hp → VK → α → Prop} {x : Str} {p pos : Pos} {e : Expr} {es : List Expr} {id : String} {r : List V → Hp → VK → Prop} {f : List PV → Option α} {d : Fm → R (List PV)} (hc : CallR X (.builtin id) r) (hf : CaS X.K r f G) (sG : Stays G)
    (hg : Gl X x) (hm : X.mg x = none) (hv : bootBuiltins x = some (.builtin id)) (ha : PA X (e :: es) (xRL X W d)) (hn : x ≠ "__name__" := by decide) (hdb : (x == ("__debug__" : Str)) = false := by decide)
    (he : starEach (e :: es) X.env = (false, eval e X.env) :: starEach es X.env := by rfl) (hpl : (backTo pos (starEach es X.env)).any (·.1) = false := by rfl) : PE X (.Call (.Name x p) (e :: es) [] pos) (tG X.K X.mg W G (dCall (fun ds => ofO (f ds)) d)) :=
  PE.imp (pe_callB hc hg hm hv ha hn hdb he hpl) fun σ H Q h => seqA sG h fun F H xs ds s r p => by
    cases q : f ds with
    | none => rw [q] at p; exact p.elim
    | some v => rw [q] at p; exact hf F H xs ds v Q s r q p
theorem pe_callTS {α : Type} {G : Hp → Hp → VK → α → Prop} {x : Str} {p pos : Pos} {e : Expr} {es : List Expr} {T : String} {r : List V → Hp → VK → Prop} {f : List PV → Option α} {d : Fm → R (List PV)} (hc : CallR X (.type T) r) (hf : CaS X.K r f G) (sG : Stays G)
    (hg : Gl X x) (hm : X.mg x = none) (hv : bootBuiltins x = some (.type T)) (ha : PA X (e :: es) (xRL X W d)) (hn : x ≠ "__name__" := by decide) (hdb : (x == ("__debug__" : Str)) = false := by decide)
    (he : starEach (e :: es) X.env = (false, eval e X.env) :: starEach es X.env := by rfl) (hpl : (backTo pos (starEach es X.env)).any (·.1) = false := by rfl) : PE X (.Call (.Name x p) (e :: es) [] pos) (tG X.K X.mg W G (dCall (fun ds => ofO (f ds)) d)) :=
  PE.imp (pe_callTy hc hg hm hv ha hn hdb he hpl) fun σ H Q h => seqA sG h fun F H xs ds s r p => by
    cases q : f ds with
    | none => rw [q] at p; exact p.elim
    | some v => rw [q] at p; exact hf F H xs ds v Q s r q p
/-- a subscript -/
theorem pe_ixS {a b : Expr} {r : R2} {f : PV → PV → Option PV} {da db : Fm → R PV} {pos : Pos} (ho : IxR X r) (hf : OpS X.K r f (GV X.K)) (ha : PE X a (xR X W da)) (hb : PE X b (xR X W db)) (hs : PlainIx b) : PE X (.Subscript a b pos) (xV X W (d2 f da db)) :=
  PE.imp (pe_ix ho ha hb hs) fun σ H Q h => by
    refine seq2 stGV h fun F H x y a b s ra rb p => ?_
    cases q : f a b with
    | none => rw [q] at p; exact p.elim
    | some v => rw [q] at p; exact hf F H x y a b v Q s ra rb q p
end
end Pv

set_option Elab.async false
set_option linter.all false
set_option maxRecDepth 100000
set_option maxHeartbeats 2000000
/-! PvC: operators and built-ins over plain values. -/
namespace Pv
open PySem PySem.Spec PyProof.Rows L2

/-! ### as data -/
mutual
def toD : PV → PyData
  | .non => .none
  | .bl b => .bool b
  | .int i => .int i
  | .str x => .str x
  | .tup xs => .tuple (toDs xs)
  | .lst xs => .list (toDs xs)
  | .scr ns => .list (ns.map .int)
def toDs : List PV → List PyData
  | [] => []
  | x :: xs => toD x :: toDs xs
end
theorem toDs_map : ∀ xs : List PV, toDs xs = xs.map toD
  | [] => by simp only [toDs, List.map_nil]
  | x :: xs => by simp only [toDs, List.map_cons, toDs_map xs]
section
variable {K : PySem.W.Frag} {F H : Hp}
theorem dpInts : ∀ ns : List Int, DpAll K H (ns.map V.int) (ns.map PyData.int)
  | [] => .nil
  | n :: ns => .cons (.int n) (dpInts ns)
mutual
theorem Rep.dp (s : Same F H) : ∀ (d : PV) (v : V), Rep K F d v → Dp K H v (toD d)
  | .non, v, h => by simp only [Rep] at h; subst h; simp only [toD]; exact .non
  | .bl b, v, h => by simp only [Rep] at h; subst h; simp only [toD]; exact .bl b
  | .int b, v, h => by simp only [Rep] at h; subst h; simp only [toD]; exact .int b
  | .str b, v, h => by simp only [Rep] at h; subst h; simp only [toD]; exact .str b
  | .tup ds, v, h => by
    simp only [Rep] at h
    obtain ⟨a, xs, rfl, q, r⟩ := h
    simp only [toD]
    exact .tup (sqT_mono s q) (RepL.dp s ds xs r)
  | .lst ds, v, h => by
    simp only [Rep] at h
    obtain ⟨a, xs, rfl, q, r⟩ := h
    simp only [toD]
    exact .lst (SqL.of (s _ _ q)) (RepL.dp s ds xs r)
  | .scr ns, v, h => by
    simp only [Rep] at h
    obtain ⟨a, rfl, q⟩ := h
    simp only [toD]
    exact .lst (s.seq q) (dpInts ns)
theorem RepL.dp (s : Same F H) : ∀ (ds : List PV) (vs : List V), RepL K F ds vs → DpAll K H vs (toDs ds)
  | [], vs, h => by simp only [RepL] at h; subst h; simp only [toDs]; exact .nil
  | d :: ds, vs, h => by
    simp only [RepL] at h
    obtain ⟨x, r, rfl, h1, h2⟩ := h
    simp only [toDs]
    exact .cons (Rep.dp s d x h1) (RepL.dp s ds r h2)
end
theorem RD.dp (s : Same F H) {d : PV} {v : V} (h : RD K F H d v) : Dp K H v (toD d) := by
  cases d with
  | lst l =>
    obtain ⟨a, xs, rfl, h1, r⟩ := h
    simp only [toD]
    exact .lst (SqL.of h1) (RepL.dp s l xs r)
  | non => exact Rep.dp s _ _ h
  | bl b => exact Rep.dp s _ _ h
  | int b => exact Rep.dp s _ _ h
  | str b => exact Rep.dp s _ _ h
  | tup b => exact Rep.dp s _ _ h
  | scr b => exact Rep.dp s _ _ h
end
/-! what is read of each kind -/
section
variable {K : PySem.W.Frag} {F H : Hp} {v : V}
theorem RD.int {i : Int} (h : RD K F H (.int i) v) : v = .int i := by simpa only [RD, Rep] using h
theorem RD.bl {i : Bool} (h : RD K F H (.bl i) v) : v = .bl i := by simpa only [RD, Rep] using h
theorem RD.str {i : Str} (h : RD K F H (.str i) v) : v = .str i := by simpa only [RD, Rep] using h
theorem RD.non (h : RD K F H .non v) : v = .non := by simpa only [RD, Rep] using h
theorem RD.tup {l : List PV} (h : RD K F H (.tup l) v) : ∃ a xs, v = .ref a ∧ SqT K F a xs ∧ RepL K F l xs := by simpa only [RD, Rep] using h
theorem RD.lst {l : List PV} (h : RD K F H (.lst l) v) : ∃ a xs, v = .ref a ∧ H a = some (.lst xs) ∧ RepL K F l xs := h
theorem RD.scr {l : List Int} (h : RD K F H (.scr l) v) : ∃ a, v = .ref a ∧ SqL K F a (l.map V.int) := by simpa only [RD, Rep] using h
theorem RDL.one {d : PV} {xs : List V} (h : RDL K F H [d] xs) : ∃ x, xs = [x] ∧ RD K F H d x := by
  obtain ⟨x, r, e, h1, h2⟩ := h
  cases (show r = [] from h2)
  exact ⟨x, e, h1⟩
theorem RDL.two {d e : PV} {xs : List V} (h : RDL K F H [d, e] xs) : ∃ x y, xs = [x, y] ∧ RD K F H d x ∧ RD K F H e y := by
  obtain ⟨x, r, e, h1, h2⟩ := h
  obtain ⟨y, rfl, h3⟩ := h2.one
  exact ⟨x, y, e, h1, h3⟩
theorem repNew {xs : List V} {l : List PV} {p : Addr} (s : Same F H) (hp : H p = none) (r : RepL K F l xs) : Rep K (upd F p (.tup xs)) (.tup l) (.ref p) := by
  simp only [Rep]
  exact ⟨p, xs, rfl, SqT.of upd_same, r.mono (same_frz (s.free hp))⟩
theorem repTup {xs : List V} {l : List PV} {p : Addr} (q : SqT K F p xs) (r : RepL K F l xs) : Rep K F (.tup l) (.ref p) := by
  simp only [Rep]
  exact ⟨p, xs, rfl, q, r⟩
end

/-! ### + - * // % -/
def pAdd : PV → PV → Option PV
  | .int i, .int j => some (.int (i + j))
  | .str a, .str b => if a.length + b.length ≤ sizeLine then some (.str (a ++ b)) else none
  | .tup a, .tup b => if a.length + b.length ≤ sizeLine then some (.tup (a ++ b)) else none
  | _, _ => none
def fCat : PV → PV → Option (List PV)
  | .lst a, .lst b => if a.length + b.length ≤ sizeLine then some (a ++ b) else none
  | _, _ => none
def pSub : PV → PV → Option PV
  | .int i, .int j => some (.int (i - j))
  | _, _ => none
def mulB (a b : Int) : Bool := !(decide (Builtin.Int.intBits a > shortFactorBits) && decide (Builtin.Int.intBits b > shortFactorBits) && Builtin.Int.intTooBig (Builtin.Int.intBits a + Builtin.Int.intBits b))
theorem mulB_ok {a b : Int} (h : mulB a b = true) : IntMulOk a b := by
  unfold IntMulOk
  unfold mulB at h
  intro z
  rw [z] at h
  exact Bool.noConfusion h
theorem mulB_of {a b : Int} (h : IntMulOk a b) : mulB a b = true := by
  unfold IntMulOk at h
  unfold mulB
  cases q : (decide (Builtin.Int.intBits a > shortFactorBits) && decide (Builtin.Int.intBits b > shortFactorBits) && Builtin.Int.intTooBig (Builtin.Int.intBits a + Builtin.Int.intBits b)) with
  | true => exact absurd q h
  | false => rfl
def pMul : PV → PV → Option PV
  | .int i, .int j => if mulB i j = true then some (.int (i * j)) else none
  | _, _ => none
def pDiv : PV → PV → Option PV
  | .int i, .int j => if 0 < j ∧ j.natAbs.log2 < 9000 then some (.int (i / j)) else none
  | _, _ => none
def pMod : PV → PV → Option PV
  | .int i, .int j => if 0 < j then some (.int (i % j)) else none
  | _, _ => none
def pPow : PV → PV → Option PV
  | .int i, .int j => if 0 ≤ j ∧ j ≤ 1000000 ∧ i.natAbs < 2 ^ 64 then some (.int (i ^ j.toNat)) else none
  | _, _ => none
section
variable {X : Cx} {W : WX}
def rPlus (K : PySem.W.Frag) : R2 := fun x y H Q => (rI0 (fun i j => V.int (i + j)) x y H Q ∨ (∃ i j, x = .str i ∧ y = .str j ∧ i.length + j.length ≤ sizeLine ∧ Q (.str (i ++ j)) H)) ∨ rCatA K x y H Q
theorem op_plus : OpR X (binaryOp .Add) (rPlus X.K) := (op_add.or op_add_str).or op_catA
theorem os_plus {K : PySem.W.Frag} : OpS K (rPlus K) pAdd (GV K) := by
  intro F H x y a b v Q s ra rb e g
  cases a with
  | int i =>
    cases b with
    | int j =>
      cases ra.int
      cases rb.int
      cases e
      exact .inl (.inl ⟨i, j, rfl, rfl, gv_here g s (by simp only [Rep])⟩)
    | non => cases e
    | bl _ => cases e
    | str _ => cases e
    | tup _ => cases e
    | lst _ => cases e
    | scr _ => cases e
  | str i =>
    cases b with
    | str j =>
      cases ra.str
      cases rb.str
      simp only [pAdd] at e
      split at e
      · rename_i c
        cases e
        exact .inl (.inr ⟨i, j, rfl, rfl, c, gv_here g s (by simp only [Rep])⟩)
      · cases e
    | non => cases e
    | bl _ => cases e
    | int _ => cases e
    | tup _ => cases e
    | lst _ => cases e
    | scr _ => cases e
  | tup i =>
    cases b with
    | tup j =>
      obtain ⟨a1, xs, rfl, q1, r1⟩ := ra.tup
      obtain ⟨a2, ys, rfl, q2, r2⟩ := rb.tup
      simp only [pAdd] at e
      split at e
      · rename_i c
        cases e
        refine .inr ⟨a1, a2, xs, ys, rfl, rfl, sqT_mono s q1, sqT_mono s q2, by rw [r1.len, r2.len]; exact c, fun z => ?_, fun _ z => ?_, fun _ _ p hp => ?_⟩
        · subst z
          have l1 := r1.len
          have z1 : i = [] := List.eq_nil_of_length_eq_zero l1.symm
          subst z1
          exact gv_here g s (repTup q2 r2)
        · subst z
          have l2 := r2.len
          have z2 : j = [] := List.eq_nil_of_length_eq_zero l2.symm
          subst z2
          exact gv_here g s (repTup q1 (by rw [List.append_nil]; exact r1))
        · exact g _ _ _ (Step.frz s hp) (repNew s hp (r1.app r2))
      · cases e
    | non => cases e
    | bl _ => cases e
    | int _ => cases e
    | str _ => cases e
    | lst _ => cases e
    | scr _ => cases e
  | non => cases e
  | bl _ => cases e
  | lst _ => cases e
  | scr _ => cases e
theorem os_cat {K : PySem.W.Frag} : OpS K rCat fCat (GF K) := by
  intro F H x y a b v Q s ra rb e g
  cases a with
  | lst i =>
    cases b with
    | lst j =>
      obtain ⟨a1, xs, rfl, q1, r1⟩ := ra.lst
      obtain ⟨a2, ys, rfl, q2, r2⟩ := rb.lst
      simp only [fCat] at e
      split at e
      · rename_i c
        cases e
        exact ⟨a1, a2, xs, ys, rfl, rfl, q1, q2, by rw [r1.len, r2.len]; exact c, fun p hp => g p _ F _ (Step.new s hp) hp (s.free hp) upd_same (r1.app r2)⟩
      · cases e
    | non => cases e
    | bl _ => cases e
    | int _ => cases e
    | str _ => cases e
    | tup _ => cases e
    | scr _ => cases e
  | non => cases e
  | bl _ => cases e
  | int _ => cases e
  | str _ => cases e
  | tup _ => cases e
  | scr _ => cases e
/-- an operator of two ints -/
theorem os_int {K : PySem.W.Frag} {r : R2} {f : PV → PV → Option PV} {C : Int → Int → Prop} {g : Int → Int → Int} (hr : ∀ i j H Q, C i j → Q (.int (g i j)) H → r (.int i) (.int j) H Q)
    (hf : ∀ a b v, f a b = some v → ∃ i j, a = .int i ∧ b = .int j ∧ C i j ∧ v = .int (g i j)) : OpS K r f (GV K) := by
  intro F H x y a b v Q s ra rb e gq
  obtain ⟨i, j, rfl, rfl, c, rfl⟩ := hf a b v e
  cases ra.int
  cases rb.int
  exact hr i j H Q c (gv_here gq s (by simp only [Rep]))
theorem os_sub {K : PySem.W.Frag} : OpS K (rI0 fun i j => .int (i - j)) pSub (GV K) := os_int (C := fun _ _ => True) (g := fun i j => i - j) (fun i j H Q _ q => ⟨i, j, rfl, rfl, q⟩) fun a b v e => by
  unfold pSub at e
  split at e
  · cases e; exact ⟨_, _, rfl, rfl, trivial, rfl⟩
  · cases e
theorem op_mulX : OpR X (binaryOp .Mult) (rI (fun i j => mulB i j = true) fun i j => .int (i * j)) := opI fun _ _ _ _ _ _ _ hc q => mul_int q (mulB_ok hc)
theorem os_mul {K : PySem.W.Frag} : OpS K (rI (fun i j => mulB i j = true) fun i j => .int (i * j)) pMul (GV K) := os_int (C := fun i j => mulB i j = true) (g := fun i j => i * j) (fun i j H Q c q => ⟨i, j, rfl, rfl, c, q⟩) fun a b v e => by
  unfold pMul at e
  split at e
  · split at e
    · rename_i c; cases e; exact ⟨_, _, rfl, rfl, c, rfl⟩
    · cases e
  · cases e
theorem os_div {K : PySem.W.Frag} : OpS K (rI CDivW fun i j => .int (i / j)) pDiv (GV K) := os_int (C := CDivW) (g := fun i j => i / j) (fun i j H Q c q => ⟨i, j, rfl, rfl, c, q⟩) fun a b v e => by
  unfold pDiv at e
  split at e
  · split at e
    · rename_i c; cases e; exact ⟨_, _, rfl, rfl, c, rfl⟩
    · cases e
  · cases e
theorem os_mod {K : PySem.W.Frag} : OpS K (rI (fun _ j => 0 < j) fun i j => .int (i % j)) pMod (GV K) := os_int (C := fun _ j => 0 < j) (g := fun i j => i % j) (fun i j H Q c q => ⟨i, j, rfl, rfl, c, q⟩) fun a b v e => by
  unfold pMod at e
  split at e
  · split at e
    · rename_i c; cases e; exact ⟨_, _, rfl, rfl, c, rfl⟩
    · cases e
  · cases e
theorem os_pow {K : PySem.W.Frag} : OpS K (rI CPow fun i j => .int (i ^ j.toNat)) pPow (GV K) := os_int (C := CPow) (g := fun i j => i ^ j.toNat) (fun i j H Q c q => ⟨i, j, rfl, rfl, c, q⟩) fun a b v e => by
  unfold pPow at e
  split at e
  · split at e
    · rename_i c; cases e; exact ⟨_, _, rfl, rfl, c, rfl⟩
    · cases e
  · cases e
theorem v_add {a b : Expr} {da db : Fm → R PV} {pos : Pos} (ha : PE X a (xR X W da)) (hb : PE X b (xR X W db)) : PE X (.BinOp a .Add b pos) (xV X W (d2 pAdd da db)) := pe_bin op_plus os_plus stGV ha hb
theorem f_cat {a b : Expr} {da db : Fm → R PV} {pos : Pos} (ha : PE X a (xR X W da)) (hb : PE X b (xR X W db)) : PE X (.BinOp a .Add b pos) (xF X W (d2 fCat da db)) := pe_bin op_cat os_cat stGF ha hb
theorem v_sub {a b : Expr} {da db : Fm → R PV} {pos : Pos} (ha : PE X a (xR X W da)) (hb : PE X b (xR X W db)) : PE X (.BinOp a .Sub b pos) (xV X W (d2 pSub da db)) := pe_bin op_sub os_sub stGV ha hb
theorem v_mul {a b : Expr} {da db : Fm → R PV} {pos : Pos} (ha : PE X a (xR X W da)) (hb : PE X b (xR X W db)) : PE X (.BinOp a .Mult b pos) (xV X W (d2 pMul da db)) := pe_bin op_mulX os_mul stGV ha hb
theorem v_div {a b : Expr} {da db : Fm → R PV} {pos : Pos} (ha : PE X a (xR X W da)) (hb : PE X b (xR X W db)) : PE X (.BinOp a .FloorDiv b pos) (xV X W (d2 pDiv da db)) := pe_bin op_fdivW os_div stGV ha hb
theorem v_mod {a b : Expr} {da db : Fm → R PV} {pos : Pos} (ha : PE X a (xR X W da)) (hb : PE X b (xR X W db)) : PE X (.BinOp a .Mod b pos) (xV X W (d2 pMod da db)) := pe_bin op_mod os_mod stGV ha hb
theorem v_pow {a b : Expr} {da db : Fm → R PV} {pos : Pos} (ha : PE X a (xR X W da)) (hb : PE X b (xR X W db)) : PE X (.BinOp a .Pow b pos) (xV X W (d2 pPow da db)) := pe_bin op_pow os_pow stGV ha hb
def pNeg : PV → Option PV
  | .int i => some (.int (-i))
  | _ => none
theorem v_neg {a : Expr} {da : Fm → R PV} {pos : Pos} (ha : PE X a (xR X W da)) : PE X (.UnaryOp .USub a pos) (xV X W (d1 pNeg da)) := PE.imp (pe_un un_neg ha) fun σ H Q h => by
  refine seq1 stGV h fun F H x a env ok ra p => ?_
  cases a with
  | int i => cases ra.int; exact ⟨i, rfl, gv_here p ok.s0 (by simp only [Rep])⟩
  | non => exact p.elim
  | bl _ => exact p.elim
  | str _ => exact p.elim
  | tup _ => exact p.elim
  | lst _ => exact p.elim
  | scr _ => exact p.elim

/-! ### comparisons -/
def pLt : PV → PV → Option Bool
  | .int i, .int j => some (decide (i < j))
  | .str a, .str b => some (decide (a.cps.toList < b.cps.toList))
  | _, _ => none
def pLe : PV → PV → Option Bool
  | .int i, .int j => some (decide (i ≤ j))
  | .str a, .str b => some (!decide (b.cps.toList < a.cps.toList))
  | _, _ => none
def pGt (a b : PV) : Option Bool := match a, b with
  | .int i, .int j => some (decide (j < i))
  | _, _ => none
def pGe (a b : PV) : Option Bool := match a, b with
  | .int i, .int j => some (decide (j ≤ i))
  | _, _ => none
def pEq (a b : PV) : Option Bool := if SeqAt.shaped (toD a) = true ∧ SeqAt.shaped (toD b) = true then some (PyData.eqv (toD a) (toD b)) else none
def pNe (a b : PV) : Option Bool := if SeqAt.shaped (toD a) = true ∧ SeqAt.shaped (toD b) = true then some (!PyData.eqv (toD a) (toD b)) else none
def inL (a : PV) (l : List PV) : Bool := l.any fun z => PyData.eqv (toD z) (toD a)
def inStr (a b : Str) : Bool := !(Builtin.Str.occurrences b a 0 b.length 1).isEmpty
def pIn (a b : PV) : Option Bool := match a, b with
  | a, .lst l => if SeqAt.shaped (toD a) = true ∧ SeqAt.shaped (toD (.lst l)) = true then some (inL a l) else none
  | a, .tup l => if SeqAt.shaped (toD a) = true ∧ SeqAt.shaped (toD (.tup l)) = true then some (inL a l) else none
  | .str x, .str y => some (inStr x y)
  | _, _ => none
def pNotIn (a b : PV) : Option Bool := (pIn a b).map (!·)
def rTwo (r r' : R2) : R2 := fun x y H Q => r x y H Q ∨ r' x y H Q
theorem ob_lt {K : PySem.W.Frag} : OpB K (rTwo (rI0 fun i j => .bl (decide (i < j))) (fun x y H Q => ∃ i j, x = .str i ∧ y = .str j ∧ Q (.bl (decide (i.cps.toList < j.cps.toList))) H)) pLt := by
  intro F H x y a b v Q s ra rb e q
  unfold pLt at e
  split at e
  · cases e; cases ra.int; cases rb.int; exact .inl ⟨_, _, rfl, rfl, q⟩
  · cases e; cases ra.str; cases rb.str; exact .inr ⟨_, _, rfl, rfl, q⟩
  · cases e
theorem ob_le {K : PySem.W.Frag} : OpB K (rTwo (rI0 fun i j => .bl (decide (i ≤ j))) (fun x y H Q => ∃ i j, x = .str i ∧ y = .str j ∧ Q (.bl (!decide (j.cps.toList < i.cps.toList))) H)) pLe := by
  intro F H x y a b v Q s ra rb e q
  unfold pLe at e
  split at e
  · cases e; cases ra.int; cases rb.int; exact .inl ⟨_, _, rfl, rfl, q⟩
  · cases e; cases ra.str; cases rb.str; exact .inr ⟨_, _, rfl, rfl, q⟩
  · cases e
theorem ob_gt {K : PySem.W.Frag} : OpB K (rI0 fun i j => .bl (decide (j < i))) pGt := by
  intro F H x y a b v Q s ra rb e q
  unfold pGt at e
  split at e
  · cases e; cases ra.int; cases rb.int; exact ⟨_, _, rfl, rfl, q⟩
  · cases e
theorem ob_ge {K : PySem.W.Frag} : OpB K (rI0 fun i j => .bl (decide (j ≤ i))) pGe := by
  intro F H x y a b v Q s ra rb e q
  unfold pGe at e
  split at e
  · cases e; cases ra.int; cases rb.int; exact ⟨_, _, rfl, rfl, q⟩
  · cases e
theorem ob_eq {K : PySem.W.Frag} : OpB K (rEqD K) pEq := by
  intro F H x y a b v Q s ra rb e q
  unfold pEq at e
  split at e
  · rename_i c
    cases e
    exact ⟨_, _, ra.dp s, rb.dp s, c.1, c.2, q⟩
  · cases e
theorem ob_ne {K : PySem.W.Frag} : OpB K (rNeD K) pNe := by
  intro F H x y a b v Q s ra rb e q
  unfold pNe at e
  split at e
  · rename_i c
    cases e
    exact ⟨_, _, ra.dp s, rb.dp s, c.1, c.2, q⟩
  · cases e
/-- in a tuple -/
def rInT (K : PySem.W.Frag) (neg : Bool) : R2 := fun x y H Q => ∃ d ds, Dp K H x d ∧ Dp K H y (.tuple ds) ∧ SeqAt.shaped d = true ∧ SeqAt.shaped (.tuple ds) = true ∧ Q (.bl (if neg then !ds.any fun z => PyData.eqv z d else ds.any fun z => PyData.eqv z d)) H
theorem op_inT (hu : X.A.units + 65 < cLine) : OpR X (compareOp .In) (rInT X.K false) := by
  intro pins s σ H x y v u Q I rx ry h
  obtain ⟨d, ds, hd, he, sd, se, q⟩ := h
  obtain ⟨as, r1⟩ := Dp.reads I d x v hd rx
  obtain ⟨bs, r2⟩ := Dp.reads I (.tuple ds) y u he ry
  exact SeqAt.in_tuple_reads r2 r1 (SeqAt.canLay_of_shaped se) (SeqAt.canLay_of_shaped sd) (room_in_shaped sd hu) ⟨.bl _, H, I, rfl, q⟩
theorem op_notInT (hu : X.A.units + 65 < cLine) : OpR X (compareOp .NotIn) (rInT X.K true) := by
  intro pins s σ H x y v u Q I rx ry h
  obtain ⟨d, ds, hd, he, sd, se, q⟩ := h
  obtain ⟨as, r1⟩ := Dp.reads I d x v hd rx
  obtain ⟨bs, r2⟩ := Dp.reads I (.tuple ds) y u he ry
  exact SeqAt.notIn_tuple_reads r2 r1 (SeqAt.canLay_of_shaped se) (SeqAt.canLay_of_shaped sd) (room_in_shaped sd hu) ⟨.bl _, H, I, rfl, q⟩
theorem inL_any (a : PV) (l : List PV) : (toDs l).any (fun z => PyData.eqv z (toD a)) = inL a l := by
  rw [toDs_map, List.any_map]
  rfl
theorem ob_in {K : PySem.W.Frag} : OpB K (rTwo (rInD K) (rTwo (rInT K false) (fun x y H Q => ∃ i j, x = .str i ∧ y = .str j ∧ Q (.bl (!(Builtin.Str.occurrences j i 0 j.length 1).isEmpty)) H))) pIn := by
  intro F H x y a b v Q s ra rb e q
  unfold pIn at e
  split at e
  · split at e
    · rename_i c
      cases e
      have h2 := rb.dp s
      simp only [toD] at h2 c
      exact .inl ⟨_, _, ra.dp s, h2, c.1, c.2, by rw [inL_any]; exact q⟩
    · cases e
  · split at e
    · rename_i c
      cases e
      have h2 := rb.dp s
      simp only [toD] at h2 c
      exact .inr (.inl ⟨_, _, ra.dp s, h2, c.1, c.2, by rw [inL_any]; exact q⟩)
    · cases e
  · cases e; cases ra.str; cases rb.str; exact .inr (.inr ⟨_, _, rfl, rfl, q⟩)
  · cases e
theorem ob_notIn {K : PySem.W.Frag} : OpB K (rTwo (rNotInD K) (rTwo (rInT K true) (fun x y H Q => ∃ i j, x = .str i ∧ y = .str j ∧ Q (.bl (!(!(Builtin.Str.occurrences j i 0 j.length 1).isEmpty))) H))) pNotIn := by
  intro F H x y a b v Q s ra rb e q
  unfold pNotIn pIn at e
  split at e
  · split at e
    · rename_i c
      cases e
      have h2 := rb.dp s
      simp only [toD] at h2 c
      exact .inl ⟨_, _, ra.dp s, h2, c.1, c.2, by rw [inL_any]; exact q⟩
    · cases e
  · split at e
    · rename_i c
      cases e
      have h2 := rb.dp s
      simp only [toD] at h2 c
      exact .inr (.inl ⟨_, _, ra.dp s, h2, c.1, c.2, by rw [inL_any]; exact q⟩)
    · cases e
  · cases e; cases ra.str; cases rb.str; exact .inr (.inr ⟨_, _, rfl, rfl, q⟩)
  · cases e
/-- the comparisons with their rules: a CmpR is what the rules pt_c, pe_c ask -/
structure CmpR (X : Cx) (op : CmpOp) (f : PV → PV → Option Bool) : Prop where
  ex : ∃ r, OpR X (compareOp op) r ∧ OpB X.K r f
theorem c_lt : CmpR X .Lt pLt := ⟨_, op_lt.or op_lt_str, ob_lt⟩
theorem c_le : CmpR X .LtE pLe := ⟨_, op_le.or op_le_str, ob_le⟩
theorem c_gt : CmpR X .Gt pGt := ⟨_, op_gt, ob_gt⟩
theorem c_ge : CmpR X .GtE pGe := ⟨_, op_ge, ob_ge⟩
theorem c_eq {k : Nat} (hr : Room k X.A) : CmpR X .Eq pEq := ⟨_, op_eqD hr.units, ob_eq⟩
theorem c_ne {k : Nat} (hr : Room k X.A) : CmpR X .NotEq pNe := ⟨_, op_neD hr.units, ob_ne⟩
theorem units65 {k : Nat} {A : Around} (hr : Room k A) : A.units + 65 < cLine := by have := hr.un; omega
theorem c_in {k : Nat} (hr : Room k X.A) : CmpR X .In pIn := ⟨_, (op_inD (units65 hr)).or ((op_inT (units65 hr)).or op_in_str), ob_in⟩
theorem c_notIn {k : Nat} (hr : Room k X.A) : CmpR X .NotIn pNotIn := ⟨_, (op_notInD (units65 hr)).or ((op_notInT (units65 hr)).or op_notin_str), ob_notIn⟩
theorem t_cmp {a b : Expr} {op : CmpOp} {f : PV → PV → Option Bool} {da db : Fm → R PV} {pos : Pos} (c : CmpR X op f) (ha : PE X a (xR X W da)) (hb : PE X b (xR X W db)) (hm : behindInMarks op b = false := by rfl) :
    PT X (.Compare a [op] [b] pos) (xT X W (d2 f da db)) := by
  obtain ⟨r, h1, h2⟩ := c.ex
  exact pt_cmpS h1 h2 ha hb hm
theorem v_cmp {a b : Expr} {op : CmpOp} {f : PV → PV → Option Bool} {da db : Fm → R PV} {pos : Pos} (c : CmpR X op f) (ha : PE X a (xR X W da)) (hb : PE X b (xR X W db)) (hm : behindInMarks op b = false := by rfl) :
    PE X (.Compare a [op] [b] pos) (xV X W (dBv (d2 f da db))) := by
  obtain ⟨r, h1, h2⟩ := c.ex
  exact pe_cmpB h1 h2 ha hb hm
theorem t_chain {a b c : Expr} {op op' : CmpOp} {f g : PV → PV → Option Bool} {da db dc : Fm → R PV} {pos : Pos} (c1 : CmpR X op f) (c2 : CmpR X op' g) (ha : PE X a (xR X W da)) (hb : PE X b (xR X W db)) (hc : PE X c (xR X W dc))
    (hm : lastMarks [op, op'] [b, c] = false := by with_unfolding_all rfl) : PT X (.Compare a [op, op'] [b, c] pos) (xT X W (dChain f g da db dc)) := by
  obtain ⟨r, h1, h2⟩ := c1.ex
  obtain ⟨r', h1', h2'⟩ := c2.ex
  exact pt_chainS h1 h2 h1' h2' ha hb hc hm
theorem v_chain {a b c : Expr} {op op' : CmpOp} {f g : PV → PV → Option Bool} {da db dc : Fm → R PV} {pos : Pos} (c1 : CmpR X op f) (c2 : CmpR X op' g) (ha : PE X a (xR X W da)) (hb : PE X b (xR X W db)) (hc : PE X c (xR X W dc))
    (hm : lastMarks [op, op'] [b, c] = false := by with_unfolding_all rfl) : PE X (.Compare a [op, op'] [b, c] pos) (xV X W (dBv (dChain f g da db dc))) := by
  obtain ⟨r, h1, h2⟩ := c1.ex
  obtain ⟨r', h1', h2'⟩ := c2.ex
  exact pe_chainS h1 h2 h1' h2' ha hb hc hm
/-- is None, is not None -/
def isNon : PV → Bool
  | .non => true
  | _ => false
theorem isNon_V {K : PySem.W.Frag} {F H : Hp} {d : PV} {v : V} (h : RD K F H d v) : decide (v = .non) = isNon d := by
  cases d with
  | non => cases h.non; rfl
  | bl _ => cases h.bl; rfl
  | int _ => cases h.int; rfl
  | str _ => cases h.str; rfl
  | tup _ => obtain ⟨a, xs, rfl, _⟩ := h.tup; rfl
  | lst _ => obtain ⟨a, xs, rfl, _⟩ := h.lst; rfl
  | scr _ => obtain ⟨a, rfl, _⟩ := h.scr; rfl
def pIsN (a : PV) : Option Bool := some (isNon a)
def pNotN (a : PV) : Option Bool := some (!isNon a)
theorem t_isN {a : Expr} {da : Fm → R PV} {j : Nat} {pos pos' : Pos} (ha : PE X a (xR X W da)) : PT X (.Compare a [.Is] [.Constant .none j pos'] pos) (xT X W (d1 pIsN da)) := PT.imp (pt_cmp (pc_isN ha)) fun σ H Q h => by
  refine seq1 stGT h fun F H x a env ok ra p => ?_
  exact ⟨_, by rw [isNon_V ra], bl_true p ok.s0⟩
theorem t_notN {a : Expr} {da : Fm → R PV} {j : Nat} {pos pos' : Pos} (ha : PE X a (xR X W da)) : PT X (.Compare a [.IsNot] [.Constant .none j pos'] pos) (xT X W (d1 pNotN da)) := PT.imp (pt_cmp (pc_notN ha)) fun σ H Q h => by
  refine seq1 stGT h fun F H x a env ok ra p => ?_
  exact ⟨_, by rw [isNon_V ra], bl_true p ok.s0⟩

/-! ### places and slices -/
def pIdx : PV → PV → Option PV
  | .lst l, .int i => atI l i
  | .tup l, .int i => atI l i
  | .scr l, .int i => (atI l i).map .int
  | .str z, .int i => if z.length ≤ sizeLine then (atI z.cps.toList i).map fun c => .str ⟨#[c]⟩ else none
  | _, _ => none
theorem RepL.atI {K : PySem.W.Frag} {F : Hp} {l : List PV} {xs : List V} {i : Int} {d : PV} (r : RepL K F l xs) (h : L2.atI l i = some d) : ∃ x, L2.atI xs i = some x ∧ Rep K F d x := by
  unfold L2.atI at h ⊢
  rw [r.len]
  cases q : ixN l.length i with
  | none => rw [q] at h; cases h
  | some j =>
    rw [q] at h
    exact r.get' h
theorem os_idx {K : PySem.W.Frag} : OpS K (rIx K) pIdx (GV K) := by
  intro F H x y a b v Q s ra rb e g
  unfold pIdx at e
  split at e
  · cases rb.int
    obtain ⟨a1, xs, rfl, q1, r1⟩ := ra.lst
    obtain ⟨z, e1, r2⟩ := r1.atI e
    exact .inl ⟨a1, xs, _, z, rfl, rfl, SqL.of q1, e1, gv_here g s r2⟩
  · cases rb.int
    obtain ⟨a1, xs, rfl, q1, r1⟩ := ra.tup
    obtain ⟨z, e1, r2⟩ := r1.atI e
    exact .inr (.inl ⟨a1, xs, _, z, rfl, rfl, sqT_mono s q1, e1, gv_here g s r2⟩)
  · cases rb.int
    obtain ⟨a1, rfl, q1⟩ := ra.scr
    rename_i l i
    cases q2 : L2.atI l i with
    | none => rw [q2] at e; cases e
    | some n =>
      rw [q2] at e
      cases e
      refine .inl ⟨a1, _, _, .int n, rfl, rfl, s.seq q1, ?_, gv_here g s (by simp only [Rep])⟩
      unfold L2.atI at q2 ⊢
      rw [List.length_map]
      cases q3 : ixN l.length i with
      | none => rw [q3] at q2; cases q2
      | some j =>
        rw [q3] at q2
        have q2' : l[j]? = some n := q2
        show (l.map V.int)[j]? = some (.int n)
        rw [List.getElem?_map, q2']
        rfl
  · cases rb.int
    cases ra.str
    split at e
    · rename_i z i c
      cases q2 : L2.atI z.cps.toList i with
      | none => rw [q2] at e; cases e
      | some n =>
        rw [q2] at e
        cases e
        exact .inr (.inr ⟨_, _, n, rfl, rfl, c, q2, gv_here g s (by simp only [Rep])⟩)
    · cases e
  · cases e
theorem v_idx {a b : Expr} {da db : Fm → R PV} {pos : Pos} (ha : PE X a (xR X W da)) (hb : PE X b (xR X W db)) (hs : PlainIx b := by exact fun _ _ => rfl) : PE X (.Subscript a b pos) (xV X W (d2 pIdx da db)) := pe_ixS ix_seq os_idx ha hb hs
def cutP {α : Type} (xs : List α) (lo hi : Option Int) : List α := (xs.drop (HT.sIx xs.length 0 lo)).take (HT.sIx xs.length xs.length hi - HT.sIx xs.length 0 lo)
theorem RepL.cut {K : PySem.W.Frag} {F : Hp} {l : List PV} {xs : List V} (r : RepL K F l xs) (lo hi : Option Int) : RepL K F (cutP l lo hi) (cutV xs lo hi) := by
  unfold cutP cutV
  rw [r.len]
  exact (r.drop _).take _
/-- a bound of a slice -/
def dNo : Fm → R (Option Int) := fun _ => .ok none
def dSo (d : Fm → R PV) : Fm → R (Option Int) := fun env => (d env).bind fun v => match v with
  | .int i => .ok (some i)
  | _ => .bad
def GO (F H : Hp) (Q : Option Int → Hp → Prop) (b : Option Int) : Prop := ∀ F' H', Step F H F' H' → Q b H'
def xO (X : Cx) (W : WX) (d : Fm → R (Option Int)) : TO := fun σ H Q => ∃ F env, FmOk X.K F H σ env ∧ RP (d env) (GO F H Q) (GX X.K X.mg F H σ W)
theorem o_no : PO X none (xO X W dNo) := ⟨fun pins s σ H Q I ⟨F, env, ok, p⟩ => po_none.run pins s σ H Q I (p F H (Step.refl ok.s0))⟩
theorem o_so {e : Expr} {d : Fm → R PV} (h : PE X e (xV X W d)) : PO X (some e) (xO X W (dSo d)) := ⟨fun pins s σ H Q I ⟨F, env, ok, p⟩ => (po_some h).run pins s σ H Q I (by
  refine ⟨F, env, ok, ?_⟩
  unfold dSo at p
  cases q : d env with
  | ok v =>
    rw [q] at p
    intro x F' H' st r
    cases v with
    | int i => simp only [Rep] at r; exact ⟨i, r, p F' H' st⟩
    | non => exact p.elim
    | bl _ => exact p.elim
    | str _ => exact p.elim
    | tup _ => exact p.elim
    | lst _ => exact p.elim
    | scr _ => exact p.elim
  | ex e => rw [q] at p; exact p
  | bad => rw [q] at p; exact p)⟩
def dSl {α : Type} (f : PV → Option Int → Option Int → Option α) (da : Fm → R PV) (dl dh : Fm → R (Option Int)) : Fm → R α := fun env => (da env).bind fun x => (dl env).bind fun l => (dh env).bind fun h => ofO (f x l h)
def pSl : PV → Option Int → Option Int → Option PV
  | .str z, lo, hi => if z.length ≤ sizeLine then some (.str (cutS z lo hi)) else none
  | .tup l, lo, hi => some (.tup (cutP l lo hi))
  | _, _, _ => none
def fSl : PV → Option Int → Option Int → Option (List PV)
  | .lst l, lo, hi => some (cutP l lo hi)
  | _, _, _ => none
theorem seqSl {α : Type} {G : Hp → Hp → VK → α → Prop} {da : Fm → R PV} {dl dh : Fm → R (Option Int)} {f : PV → Option Int → Option Int → Option α} {σ : L2.St} {H : Hp} {Q : VK} {r : V → Option Int → Option Int → Hp → Prop} (sG : Stays G)
    (h : tG X.K X.mg W G (dSl f da dl dh) σ H Q)
    (hr : ∀ F H x a l u v, Same F H → RD X.K F H a x → f a l u = some v → G F H Q v → r x l u H) :
    xR X W da σ H fun x H1 => xO X W dl σ H1 fun l H2 => xO X W dh σ H2 fun u H3 => r x l u H3 := by
  obtain ⟨F, env, ok, p⟩ := h
  refine ⟨F, env, ok, ?_⟩
  unfold dSl at p
  cases q : da env with
  | ok v =>
    rw [q] at p
    intro x F1 H1 st1 rx
    refine ⟨F1, env, ok.step st1, ?_⟩
    simp only [R.bind_ok] at p
    cases q1 : dl env with
    | ok l =>
      rw [q1] at p
      intro F2 H2 st2
      refine ⟨F2, env, (ok.step st1).step st2, ?_⟩
      simp only [R.bind_ok] at p
      cases q2 : dh env with
      | ok u =>
        rw [q2] at p
        intro F3 H3 st3
        simp only [R.bind_ok] at p
        cases q3 : f v l u with
        | none => rw [q3] at p; exact p.elim
        | some z => rw [q3] at p; exact hr F3 H3 x v l u z st3.s2 ((rx.step st2).step st3) q3 (sG.up _ _ _ _ _ _ p ((st1.trans st2).trans st3))
      | ex e => rw [q2] at p; exact GX.step (GX.step p st1) st2
      | bad => rw [q2] at p; exact p
    | ex e => rw [q1] at p; exact GX.step p st1
    | bad => rw [q1] at p; exact p
  | ex e => rw [q] at p; exact p
  | bad => rw [q] at p; exact p
theorem v_slice {e : Expr} {lo hi : Option Expr} {da : Fm → R PV} {dl dh : Fm → R (Option Int)} {pos p2 : Pos} (ha : PE X e (xR X W da)) (hl : PO X lo (xO X W dl)) (hh : PO X hi (xO X W dh)) : PE X (.Subscript e (.Slice lo hi none p2) pos) (xV X W (dSl pSl da dl dh)) :=
  PE.imp (pe_slice (sl_str.or sl_tupA) ha hl hh) fun σ H Q h => by
    refine seqSl stGV h fun F H x a l u v s ra e g => ?_
    unfold pSl at e
    split at e
    · split at e
      · rename_i c
        cases e
        cases ra.str
        exact .inl ⟨_, rfl, c, gv_here g s (by simp only [Rep])⟩
      · cases e
    · cases e
      obtain ⟨a1, xs, rfl, q1, r1⟩ := ra.tup
      refine .inr ⟨a1, xs, rfl, sqT_mono s q1, fun z => ?_, fun z p hp => ?_⟩
      · refine gv_here g s (repTup q1 ?_)
        have h0 := r1.cut l u
        have e0 : cutV xs l u = xs := by
          unfold cutV
          rw [z.1, z.2, List.drop_zero, Nat.sub_zero]
          exact List.take_length
        rw [e0] at h0
        exact h0
      · exact g _ _ _ (Step.frz s hp) (repNew s hp (r1.cut l u))
    · cases e
theorem f_slice {e : Expr} {lo hi : Option Expr} {da : Fm → R PV} {dl dh : Fm → R (Option Int)} {pos p2 : Pos} (ha : PE X e (xR X W da)) (hl : PO X lo (xO X W dl)) (hh : PO X hi (xO X W dh)) : PE X (.Subscript e (.Slice lo hi none p2) pos) (xF X W (dSl fSl da dl dh)) :=
  PE.imp (pe_slice sl_list ha hl hh) fun σ H Q h => by
    refine seqSl stGF h fun F H x a l u v s ra e g => ?_
    unfold fSl at e
    split at e
    · cases e
      obtain ⟨a1, xs, rfl, q1, r1⟩ := ra.lst
      exact ⟨a1, xs, rfl, SqL.of q1, fun p hp => g p _ F _ (Step.new s hp) hp (s.free hp) upd_same (r1.cut l u)⟩
    · cases e

/-! ### built-ins -/
def pLen : List PV → Option PV
  | [.lst l] => some (.int l.length)
  | [.tup l] => some (.int l.length)
  | [.scr l] => some (.int l.length)
  | [.str z] => if z.length ≤ sizeLine then some (.int z.length) else none
  | _ => none
theorem cs_len {K : PySem.W.Frag} : CaS K (fun xs H Q => (∃ p ys, xs = [.ref p] ∧ (SqL K H p ys ∨ SqT K H p ys) ∧ Q (.int ys.length) H) ∨ (∃ z, xs = [.str z] ∧ z.length ≤ sizeLine ∧ Q (.int z.length) H)) pLen (GV K) := by
  intro F H xs ds v Q s r e g
  unfold pLen at e
  split at e
  · cases e
    obtain ⟨x, rfl, rx⟩ := r.one
    obtain ⟨a1, ys, rfl, q1, r1⟩ := rx.lst
    exact .inl ⟨a1, ys, rfl, .inl (SqL.of q1), gv_here g s (by simp only [Rep, r1.len])⟩
  · cases e
    obtain ⟨x, rfl, rx⟩ := r.one
    obtain ⟨a1, ys, rfl, q1, r1⟩ := rx.tup
    exact .inl ⟨a1, ys, rfl, .inr (sqT_mono s q1), gv_here g s (by simp only [Rep, r1.len])⟩
  · cases e
    obtain ⟨x, rfl, rx⟩ := r.one
    obtain ⟨a1, rfl, q1⟩ := rx.scr
    exact .inl ⟨a1, _, rfl, .inl (s.seq q1), gv_here g s (by simp only [Rep, List.length_map])⟩
  · split at e
    · rename_i c
      cases e
      obtain ⟨x, rfl, rx⟩ := r.one
      cases rx.str
      exact .inr ⟨_, rfl, c, gv_here g s (by simp only [Rep])⟩
    · cases e
  · cases e
theorem v_len {e : Expr} {es : List Expr} {d : Fm → R (List PV)} {p pos : Pos} (hm : X.mg "len" = none) (ha : PA X (e :: es) (xRL X W d)) (hg : Gl X "len" := by rfl) (he : starEach (e :: es) X.env = (false, eval e X.env) :: starEach es X.env := by rfl) (hpl : (backTo pos (starEach es X.env)).any (·.1) = false := by rfl) :
    PE X (.Call (.Name "len" p) (e :: es) [] pos) (xV X W (dCall (fun ds => ofO (pLen ds)) d)) := pe_callBS (call_len_seq.or call_len_str) cs_len stGV hg hm PySem.boot_len ha (by decide) (by decide) he hpl
def pAbs : List PV → Option PV
  | [.int i] => some (.int (if i < 0 then -i else i))
  | _ => none
theorem v_abs {e : Expr} {es : List Expr} {d : Fm → R (List PV)} {p pos : Pos} (hm : X.mg "abs" = none) (ha : PA X (e :: es) (xRL X W d)) (hg : Gl X "abs" := by rfl) (he : starEach (e :: es) X.env = (false, eval e X.env) :: starEach es X.env := by rfl) (hpl : (backTo pos (starEach es X.env)).any (·.1) = false := by rfl) :
    PE X (.Call (.Name "abs" p) (e :: es) [] pos) (xV X W (dCall (fun ds => ofO (pAbs ds)) d)) := pe_callBS call_abs (by
      intro F H xs ds v Q s r e g
      unfold pAbs at e
      split at e
      · cases e
        obtain ⟨x, rfl, rx⟩ := r.one
        cases rx.int
        exact ⟨_, rfl, gv_here g s (by simp only [Rep])⟩
      · cases e) stGV hg hm PyProof.Rows.boot_abs ha (by decide) (by decide) he hpl
def pMin2 : List PV → Option PV
  | [.int i, .int j] => some (.int (if j < i then j else i))
  | _ => none
def pMax2 : List PV → Option PV
  | [.int i, .int j] => some (.int (if j > i then j else i))
  | _ => none
theorem v_min2 {e : Expr} {es : List Expr} {d : Fm → R (List PV)} {p pos : Pos} (hc : X.calm = true) (hm : X.mg "min" = none) (ha : PA X (e :: es) (xRL X W d)) (hg : Gl X "min" := by rfl) (he : starEach (e :: es) X.env = (false, eval e X.env) :: starEach es X.env := by rfl) (hpl : (backTo pos (starEach es X.env)).any (·.1) = false := by rfl) :
    PE X (.Call (.Name "min" p) (e :: es) [] pos) (xV X W (dCall (fun ds => ofO (pMin2 ds)) d)) := pe_callBS (call_min2 hc) (by
      intro F H xs ds v Q s r e g
      unfold pMin2 at e
      split at e
      · cases e
        obtain ⟨x, y, rfl, rx, ry⟩ := r.two
        cases rx.int
        cases ry.int
        exact ⟨_, _, rfl, gv_here g s (by simp only [Rep])⟩
      · cases e) stGV hg hm (by decide +kernel) ha (by decide) (by decide) he hpl
theorem v_max2 {e : Expr} {es : List Expr} {d : Fm → R (List PV)} {p pos : Pos} (hc : X.calm = true) (hm : X.mg "max" = none) (ha : PA X (e :: es) (xRL X W d)) (hg : Gl X "max" := by rfl) (he : starEach (e :: es) X.env = (false, eval e X.env) :: starEach es X.env := by rfl) (hpl : (backTo pos (starEach es X.env)).any (·.1) = false := by rfl) :
    PE X (.Call (.Name "max" p) (e :: es) [] pos) (xV X W (dCall (fun ds => ofO (pMax2 ds)) d)) := pe_callBS (call_max2 hc) (by
      intro F H xs ds v Q s r e g
      unfold pMax2 at e
      split at e
      · cases e
        obtain ⟨x, y, rfl, rx, ry⟩ := r.two
        cases rx.int
        cases ry.int
        exact ⟨_, _, rfl, gv_here g s (by simp only [Rep])⟩
      · cases e) stGV hg hm (by decide +kernel) ha (by decide) (by decide) he hpl
def pOrd : List PV → Option PV
  | [.str x] => if x.length = 1 then some (.int (x.cps.getD 0 0 : Nat)) else none
  | _ => none
theorem v_ord {e : Expr} {es : List Expr} {d : Fm → R (List PV)} {p pos : Pos} (hm : X.mg "ord" = none) (ha : PA X (e :: es) (xRL X W d)) (hg : Gl X "ord" := by rfl) (he : starEach (e :: es) X.env = (false, eval e X.env) :: starEach es X.env := by rfl) (hpl : (backTo pos (starEach es X.env)).any (·.1) = false := by rfl) :
    PE X (.Call (.Name "ord" p) (e :: es) [] pos) (xV X W (dCall (fun ds => ofO (pOrd ds)) d)) := pe_callBS call_ord (by
      intro F H xs ds v Q s r e g
      unfold pOrd at e
      split at e
      · split at e
        · rename_i c
          cases e
          obtain ⟨x, rfl, rx⟩ := r.one
          cases rx.str
          exact ⟨_, rfl, c, gv_here g s (by simp only [Rep])⟩
        · cases e
      · cases e) stGV hg hm (by decide +kernel) ha (by decide) (by decide) he hpl
def pInt1 : List PV → Option PV
  | [.int i] => some (.int i)
  | [.bl k] => some (.int (if k then 1 else 0))
  | _ => none
theorem v_int1 {e : Expr} {es : List Expr} {d : Fm → R (List PV)} {p pos : Pos} (hm : X.mg "int" = none) (ha : PA X (e :: es) (xRL X W d)) (hg : Gl X "int" := by rfl) (he : starEach (e :: es) X.env = (false, eval e X.env) :: starEach es X.env := by rfl) (hpl : (backTo pos (starEach es X.env)).any (·.1) = false := by rfl) :
    PE X (.Call (.Name "int" p) (e :: es) [] pos) (xV X W (dCall (fun ds => ofO (pInt1 ds)) d)) := pe_callTS call_int1 (by
      intro F H xs ds v Q s r e g
      unfold pInt1 at e
      split at e
      · cases e
        obtain ⟨x, rfl, rx⟩ := r.one
        cases rx.int
        exact .inl ⟨_, rfl, gv_here g s (by simp only [Rep])⟩
      · cases e
        obtain ⟨x, rfl, rx⟩ := r.one
        cases rx.bl
        exact .inr ⟨_, rfl, gv_here g s (by simp only [Rep])⟩
      · cases e) stGV hg hm (by decide +kernel) ha (by decide) (by decide) he hpl
/-- lists of one kind -/
def intsOf : List PV → Option (List Int)
  | [] => some []
  | .int i :: r => (intsOf r).map (i :: ·)
  | _ :: _ => none
def blsOf : List PV → Option (List Bool)
  | [] => some []
  | .bl i :: r => (blsOf r).map (i :: ·)
  | _ :: _ => none
def strsOf : List PV → Option (List Str)
  | [] => some []
  | .str i :: r => (strsOf r).map (i :: ·)
  | _ :: _ => none
theorem intsOf_rep {K : PySem.W.Frag} {F : Hp} : ∀ {l : List PV} {xs : List V} {ns : List Int}, RepL K F l xs → intsOf l = some ns → xs = ns.map V.int
  | [], xs, ns, r, e => by simp only [RepL] at r; subst r; cases e; rfl
  | .int i :: l, xs, ns, r, e => by
    simp only [RepL, Rep] at r
    obtain ⟨x, t, rfl, rfl, r2⟩ := r
    simp only [intsOf] at e
    cases q : intsOf l with
    | none => rw [q] at e; cases e
    | some m => rw [q] at e; cases e; rw [intsOf_rep r2 q]; rfl
  | .non :: _, _, _, _, e => by cases e
  | .bl _ :: _, _, _, _, e => by cases e
  | .str _ :: _, _, _, _, e => by cases e
  | .tup _ :: _, _, _, _, e => by cases e
  | .lst _ :: _, _, _, _, e => by cases e
  | .scr _ :: _, _, _, _, e => by cases e
theorem blsOf_rep {K : PySem.W.Frag} {F : Hp} : ∀ {l : List PV} {xs : List V} {ns : List Bool}, RepL K F l xs → blsOf l = some ns → xs = ns.map V.bl
  | [], xs, ns, r, e => by simp only [RepL] at r; subst r; cases e; rfl
  | .bl i :: l, xs, ns, r, e => by
    simp only [RepL, Rep] at r
    obtain ⟨x, t, rfl, rfl, r2⟩ := r
    simp only [blsOf] at e
    cases q : blsOf l with
    | none => rw [q] at e; cases e
    | some m => rw [q] at e; cases e; rw [blsOf_rep r2 q]; rfl
  | .non :: _, _, _, _, e => by cases e
  | .int _ :: _, _, _, _, e => by cases e
  | .str _ :: _, _, _, _, e => by cases e
  | .tup _ :: _, _, _, _, e => by cases e
  | .lst _ :: _, _, _, _, e => by cases e
  | .scr _ :: _, _, _, _, e => by cases e
theorem strsOf_rep {K : PySem.W.Frag} {F : Hp} : ∀ {l : List PV} {xs : List V} {ns : List Str}, RepL K F l xs → strsOf l = some ns → xs = ns.map V.str
  | [], xs, ns, r, e => by simp only [RepL] at r; subst r; cases e; rfl
  | .str i :: l, xs, ns, r, e => by
    simp only [RepL, Rep] at r
    obtain ⟨x, t, rfl, rfl, r2⟩ := r
    simp only [strsOf] at e
    cases q : strsOf l with
    | none => rw [q] at e; cases e
    | some m => rw [q] at e; cases e; rw [strsOf_rep r2 q]; rfl
  | .non :: _, _, _, _, e => by cases e
  | .int _ :: _, _, _, _, e => by cases e
  | .bl _ :: _, _, _, _, e => by cases e
  | .tup _ :: _, _, _, _, e => by cases e
  | .lst _ :: _, _, _, _, e => by cases e
  | .scr _ :: _, _, _, _, e => by cases e
def pSum : List PV → Option PV
  | [.lst l] => (intsOf l).map fun ns => .int ns.sum
  | _ => none
def pAll : List PV → Option PV
  | [.lst l] => (blsOf l).map fun ns => .bl (ns.all id)
  | _ => none
def pAny : List PV → Option PV
  | [.lst l] => (blsOf l).map fun ns => .bl (ns.any id)
  | _ => none
theorem v_sum {e : Expr} {es : List Expr} {d : Fm → R (List PV)} {p pos : Pos} (hc : X.calm = true) (hm : X.mg "sum" = none) (ha : PA X (e :: es) (xRL X W d)) (hg : Gl X "sum" := by rfl) (he : starEach (e :: es) X.env = (false, eval e X.env) :: starEach es X.env := by rfl) (hpl : (backTo pos (starEach es X.env)).any (·.1) = false := by rfl) :
    PE X (.Call (.Name "sum" p) (e :: es) [] pos) (xV X W (dCall (fun ds => ofO (pSum ds)) d)) := pe_callBS (cr_sum hc) (by
      intro F H xs ds v Q s r e g
      unfold pSum at e
      split at e
      · rename_i l
        cases q : intsOf l with
        | none => rw [q] at e; cases e
        | some ns =>
          rw [q] at e
          cases e
          obtain ⟨x, rfl, rx⟩ := r.one
          obtain ⟨a1, ys, rfl, q1, r1⟩ := rx.lst
          have e2 := intsOf_rep r1 q
          subst e2
          exact ⟨a1, ns, rfl, SqL.of q1, gv_here g s (by simp only [Rep])⟩
      · cases e) stGV hg hm (by decide +kernel) ha (by decide) (by decide) he hpl
theorem v_all {e : Expr} {es : List Expr} {d : Fm → R (List PV)} {p pos : Pos} (hc : X.calm = true) (hm : X.mg "all" = none) (ha : PA X (e :: es) (xRL X W d)) (hg : Gl X "all" := by rfl) (he : starEach (e :: es) X.env = (false, eval e X.env) :: starEach es X.env := by rfl) (hpl : (backTo pos (starEach es X.env)).any (·.1) = false := by rfl) :
    PE X (.Call (.Name "all" p) (e :: es) [] pos) (xV X W (dCall (fun ds => ofO (pAll ds)) d)) := pe_callBS (cr_all hc) (by
      intro F H xs ds v Q s r e g
      unfold pAll at e
      split at e
      · rename_i l
        cases q : blsOf l with
        | none => rw [q] at e; cases e
        | some ns =>
          rw [q] at e
          cases e
          obtain ⟨x, rfl, rx⟩ := r.one
          obtain ⟨a1, ys, rfl, q1, r1⟩ := rx.lst
          have e2 := blsOf_rep r1 q
          subst e2
          exact ⟨a1, ns, rfl, SqL.of q1, gv_here g s (by simp only [Rep])⟩
      · cases e) stGV hg hm (by decide +kernel) ha (by decide) (by decide) he hpl
theorem v_any {e : Expr} {es : List Expr} {d : Fm → R (List PV)} {p pos : Pos} (hc : X.calm = true) (hm : X.mg "any" = none) (ha : PA X (e :: es) (xRL X W d)) (hg : Gl X "any" := by rfl) (he : starEach (e :: es) X.env = (false, eval e X.env) :: starEach es X.env := by rfl) (hpl : (backTo pos (starEach es X.env)).any (·.1) = false := by rfl) :
    PE X (.Call (.Name "any" p) (e :: es) [] pos) (xV X W (dCall (fun ds => ofO (pAny ds)) d)) := pe_callBS (cr_any hc) (by
      intro F H xs ds v Q s r e g
      unfold pAny at e
      split at e
      · rename_i l
        cases q : blsOf l with
        | none => rw [q] at e; cases e
        | some ns =>
          rw [q] at e
          cases e
          obtain ⟨x, rfl, rx⟩ := r.one
          obtain ⟨a1, ys, rfl, q1, r1⟩ := rx.lst
          have e2 := blsOf_rep r1 q
          subst e2
          exact ⟨a1, ns, rfl, SqL.of q1, gv_here g s (by simp only [Rep])⟩
      · cases e) stGV hg hm (by decide +kernel) ha (by decide) (by decide) he hpl
def pTuple : List PV → Option PV
  | [.lst l] => some (.tup l)
  | _ => none
theorem v_tuple {e : Expr} {es : List Expr} {d : Fm → R (List PV)} {p pos : Pos} (hm : X.mg "tuple" = none) (ha : PA X (e :: es) (xRL X W d)) (hg : Gl X "tuple" := by rfl) (he : starEach (e :: es) X.env = (false, eval e X.env) :: starEach es X.env := by rfl) (hpl : (backTo pos (starEach es X.env)).any (·.1) = false := by rfl) :
    PE X (.Call (.Name "tuple" p) (e :: es) [] pos) (xV X W (dCall (fun ds => ofO (pTuple ds)) d)) := pe_callTS call_tuple_of (by
      intro F H xs ds v Q s r e g
      unfold pTuple at e
      split at e
      · cases e
        obtain ⟨x, rfl, rx⟩ := r.one
        obtain ⟨a1, ys, rfl, q1, r1⟩ := rx.lst
        exact ⟨a1, ys, rfl, .inl ⟨SqL.of q1, fun l hl => g _ _ _ (Step.frz s hl) (repNew s hl r1)⟩⟩
      · cases e) stGV hg hm (by decide +kernel) ha (by decide) (by decide) he hpl
/-- isinstance(e, T), T a built-in type -/
def kindOf : PV → String
  | .non => "NoneType"
  | .bl _ => "bool"
  | .int _ => "int"
  | .str _ => "str"
  | .tup _ => "tuple"
  | .lst _ => "list"
  | .scr _ => "list"
theorem tyX_of {K : PySem.W.Frag} {F H : Hp} {d : PV} {v : V} (s : Same F H) (h : RD K F H d v) : TyX K H v (.type (kindOf d)) := by
  cases d with
  | non => cases h.non; exact .base .non
  | bl b => cases h.bl; exact .base (.bl b)
  | int i => cases h.int; exact .base (.int i)
  | str x => cases h.str; exact .base (.str x)
  | tup l =>
    obtain ⟨a, xs, rfl, q, _⟩ := h.tup
    rcases sqT_mono s q with (q | ⟨o, q⟩) | ⟨o, its, n, h1, h2, _⟩
    · exact .base (.tup q)
    · exact .fTuple q
    · exact .kTuple h1 h2
  | lst l => obtain ⟨a, xs, rfl, q, _⟩ := h.lst; exact .base (.lst q)
  | scr l =>
    obtain ⟨a, rfl, q⟩ := h.scr
    rcases s.seq q with (q | ⟨o, q⟩) | ⟨o, its, n, h1, h2, _⟩
    · exact .base (.lst q)
    · exact .base (.frz q)
    · exact .kList h1 h2
def pIsi (T : String) (a : PV) : Option PV := (kitB (kindOf a) T).map .bl
theorem v_isi {e : Expr} {da : Fm → R PV} {T : String} {x : Str} {p p2 pos : Pos} (hm : X.mg "isinstance" = none) (ha : PE X e (xR X W da)) (gT : Gl X x) (mT : X.mg x = none) (bT : bootBuiltins x = some (.type T)) (hg : Gl X "isinstance" := by rfl)
    (hn : x ≠ "__name__" := by decide) (hd : (x == ("__debug__" : Str)) = false := by decide)
    (hs : starEach [e, .Name x p2] X.env = (false, eval e X.env) :: starEach [.Name x p2] X.env := by rfl) (hs2 : starEach [.Name x p2] X.env = (false, eval (.Name x p2) X.env) :: starEach [] X.env := by rfl)
    (hpl : (backTo pos (starEach [.Name x p2] X.env)).any (·.1) = false := by rfl) :
    PE X (.Call (.Name "isinstance" p) [e, .Name x p2] [] pos) (xV X W (d1 (pIsi T) da)) := by
  have h2 : PE X (.Name x p2) (tC (.ty T)) := pe_bltn (v := .ty T) gT mT bT rfl hn hd
  refine PE.imp (pe_callB call_isi hg hm (by decide +kernel) (pa_cons ha (pa_cons h2 pa_nil hs2) hs) (by decide) (by decide) hs hpl) fun σ H Q h => ?_
  refine seq1 stGV h fun F H x a env ok ra p => ?_
  unfold pIsi at p
  cases q : kitB (kindOf a) T with
  | none => rw [q] at p; exact p.elim
  | some b =>
    rw [q] at p
    exact ⟨x, .ty T, _, _, b, rfl, .ty T, tyX_of ok.s0 ra, kit_ty q, gv_here p ok.s0 (by simp only [Rep])⟩
/-- sep.join(list) -/
def pJoin (a : Str) : PV → Option PV
  | .lst l => (strsOf l).bind fun ys => if (ys.map (·.length)).sum + ys.length * a.length ≤ 16777216 then some (.str (Txt.join a ys)) else none
  | _ => none
def dJoin (da db : Fm → R PV) : Fm → R PV := fun env => (da env).bind fun x => match x with
  | .str a => (db env).bind fun y => ofO (pJoin a y)
  | _ => .bad
theorem v_join {o e : Expr} {da db : Fm → R PV} {apos pos : Pos} (ho : PE X o (xR X W da)) (he : PE X e (xR X W db)) (hs : starEach [e] X.env = [(false, eval e X.env)] := by rfl) (hbase : attributeBase o "join" X.env (eval o X.env) = eval o X.env := by rfl) (hline : (apos.endLine == pos.line) = true := by rfl) :
    PE X (.Call (.Attribute o "join" apos) [e] [] pos) (xV X W (dJoin da db)) := PE.imp (pe_join ho he hs hbase hline) fun σ H Q h => by
  refine seq1 stGV h fun F H x a env ok ra p => ?_
  cases a with
  | str a =>
    cases ra.str
    refine ⟨⟨a, rfl⟩, seq1 (f := fun _ y => ofO (pJoin a y)) stGV ⟨F, env, ok, p⟩ fun F H y b env ok rb p => ?_⟩
    cases b with
    | lst l =>
      obtain ⟨a1, ys, rfl, h1, r1⟩ := rb.lst
      simp only [pJoin] at p
      cases q3 : strsOf l with
      | none => rw [q3] at p; exact p.elim
      | some zs =>
        rw [q3] at p
        simp only [Option.bind_some] at p
        by_cases c : (zs.map (·.length)).sum + zs.length * a.length ≤ 16777216
        · rw [if_pos c] at p
          have e2 := strsOf_rep r1 q3
          subst e2
          exact ⟨a, a1, zs, rfl, rfl, .inl (SqL.of h1), c, gv_here p ok.s0 (by simp only [Rep])⟩
        · rw [if_neg c] at p; exact p.elim
    | non => exact p.elim
    | bl _ => exact p.elim
    | int _ => exact p.elim
    | str _ => exact p.elim
    | tup _ => exact p.elim
    | scr _ => exact p.elim
  | non => exact p.elim
  | bl _ => exact p.elim
  | int _ => exact p.elim
  | tup _ => exact p.elim
  | lst _ => exact p.elim
  | scr _ => exact p.elim
end
end Pv

set_option Elab.async false
set_option linter.all false
set_option maxRecDepth 100000
set_option maxHeartbeats 2000000
/-! PvD: what is walked, comprehensions, statements, defs. -/
namespace Pv
open PySem PySem.Spec PyProof.Rows L2

/-! ### what is walked -/
def WalksR (K : PySem.W.Frag) (F H : Hp) (J : It) (ds : List PV) : Prop := ∀ F' H', Step F H F' H' → (∀ i d, ds[i]? = some d → J.go i H' ∧ ∀ x H2, J.yld i H' x H2 → ∃ F2, Step F' H' F2 H2 ∧ Rep K F2 d x) ∧ J.stop ds.length H'
def Walks (K : PySem.W.Frag) (F : Hp) (J : It) (ds : List PV) : Prop := ∀ F' H', Same F F' → Same F' H' → (∀ i d, ds[i]? = some d → J.go i H' ∧ ∀ x H2, J.yld i H' x H2 → ∃ F2, Step F' H' F2 H2 ∧ Rep K F2 d x) ∧ J.stop ds.length H'
theorem Walks.r {K : PySem.W.Frag} {F H : Hp} {J : It} {ds : List PV} (h : Walks K F J ds) : WalksR K F H J ds := fun F' H' st => h F' H' st.s1 st.s2
def GI (K : PySem.W.Frag) (F H : Hp) (R : It → Hp → Prop) (ds : List PV) : Prop := ∀ J F' H', Step F H F' H' → Walks K F' J ds → R J H'
def GIR (K : PySem.W.Frag) (F H : Hp) (R : It → Hp → Prop) (ds : List PV) : Prop := ∀ J F' H', Step F H F' H' → WalksR K F' H' J ds → R J H'
def tI (K : PySem.W.Frag) (mg : Str → Option Value) (W : WX) (G : Hp → Hp → (It → Hp → Prop) → List PV → Prop) (d : Fm → R (List PV)) : TI := fun σ H R => ∃ F env, FmOk K F H σ env ∧ RP (d env) (G F H R) (GX K mg F H σ W)
abbrev xI (X : Cx) (W : WX) (d : Fm → R (List PV)) : TI := tI X.K X.mg W (GI X.K) d
abbrev xIR (X : Cx) (W : WX) (d : Fm → R (List PV)) : TI := tI X.K X.mg W (GIR X.K) d
theorem PI.imp {X : Cx} {tg iter : Expr} {t t' : TI} (h : PI X tg iter t) (i : ∀ σ H R, t' σ H R → t σ H R) : PI X tg iter t' := ⟨fun pins s σ H R I q => h.run pins s σ H R I (i σ H R q)⟩
section
variable {X : Cx} {W : WX} {tg : Expr}
theorem iR {iter : Expr} {d : Fm → R (List PV)} (h : PI X tg iter (xI X W d)) : PI X tg iter (xIR X W d) := PI.imp h fun σ H R ⟨F, env, ok, p⟩ => by
  refine ⟨F, env, ok, ?_⟩
  cases q : d env with
  | ok v => rw [q] at p; exact fun J F' H' st w => p J F' H' st w.r
  | ex e => rw [q] at p; exact p
  | bad => rw [q] at p; exact p
/-- the items of a list, a tuple, a text -/
def lstIt : PV → Option (List PV)
  | .lst l => some l
  | _ => none
def tupIt : PV → Option (List PV)
  | .tup l => some l
  | _ => none
def chr1 (c : Nat) : PV := .str ⟨#[c]⟩
def strIt : PV → Option (List PV)
  | .str x => some (x.cps.toList.map chr1)
  | _ => none
theorem walks_lst {K : PySem.W.Frag} {F : Hp} {a : Addr} {xs : List V} {l : List PV} (h : F a = some (.lst xs)) (r : RepL K F l xs) : Walks K F (Itl K a) l := by
  intro F' H' s1 s2
  have h2 : SqL K H' a xs := SqL.of (s2 _ _ (s1 _ _ h))
  refine ⟨fun i d e => ?_, xs, h2, by rw [r.len]; exact Nat.le_refl _⟩
  obtain ⟨x, e1, r1⟩ := r.get' e
  refine ⟨⟨xs, x, h2, e1⟩, fun y H2 ⟨e2, e3⟩ => ?_⟩
  subst e2
  have e4 := e3 xs h2
  rw [e1] at e4
  cases e4
  exact ⟨F', Step.refl s2, r1.mono s1⟩
theorem walksR_lst {K : PySem.W.Frag} {F H : Hp} {a : Addr} {xs : List V} {l : List PV} (h : H a = some (.lst xs)) (r : RepL K F l xs) : WalksR K F H (Itl K a) l := by
  intro F' H' st
  have h2 : SqL K H' a xs := SqL.of (st.old h)
  refine ⟨fun i d e => ?_, xs, h2, by rw [r.len]; exact Nat.le_refl _⟩
  obtain ⟨x, e1, r1⟩ := r.get' e
  refine ⟨⟨xs, x, h2, e1⟩, fun y H2 ⟨e2, e3⟩ => ?_⟩
  subst e2
  have e4 := e3 xs h2
  rw [e1] at e4
  cases e4
  exact ⟨F', Step.refl st.s2, r1.mono st.s1⟩
theorem walks_tup {K : PySem.W.Frag} {F : Hp} {a : Addr} {xs : List V} {l : List PV} (h : SqT K F a xs) (r : RepL K F l xs) : Walks K F (Itt K a) l := by
  intro F' H' s1 s2
  have h2 : SqT K H' a xs := sqT_mono s2 (sqT_mono s1 h)
  refine ⟨fun i d e => ?_, xs, h2, by rw [r.len]; exact Nat.le_refl _⟩
  obtain ⟨x, e1, r1⟩ := r.get' e
  refine ⟨⟨xs, x, h2, e1⟩, fun y H2 ⟨e2, e3⟩ => ?_⟩
  subst e2
  have e4 := e3 xs h2
  rw [e1] at e4
  cases e4
  exact ⟨F', Step.refl s2, r1.mono s1⟩
theorem walks_str {K : PySem.W.Frag} {F : Hp} (x : Str) : Walks K F (Its x) (x.cps.toList.map chr1) := by
  intro F' H' s1 s2
  refine ⟨fun i d e => ?_, ?_⟩
  · rw [List.getElem?_map] at e
    cases q : x.cps.toList[i]? with
    | none => rw [q] at e; cases e
    | some c =>
      rw [q] at e
      cases e
      have hi : i < x.cps.size := by
        have := (List.getElem?_eq_some_iff.mp q).1
        simpa using this
      refine ⟨hi, fun y H2 ⟨e2, c', e3, e4⟩ => ?_⟩
      subst e2 e4
      have e5 : c' = c := by
        have q' : x.cps[i]? = some c := by simpa using q
        rw [e3] at q'
        exact Option.some.inj q'
      subst e5
      exact ⟨F', Step.refl s2, by simp only [chr1, Rep]⟩
  · show x.cps.size ≤ _
    rw [List.length_map, Array.length_toList]
    exact Nat.le_refl _
theorem seqI {K : PySem.W.Frag} {mg : Str → Option Value} {da : Fm → R PV} {f : PV → Option (List PV)} {σ : L2.St} {H : Hp} {Z : It → Hp → Prop} {r : V → Hp → Prop}
    (h : tI K mg W (GIR K) (d1 f da) σ H Z)
    (hr : ∀ F H x a l, Same F H → RD K F H a x → f a = some l → GIR K F H Z l → r x H) : tR K mg W da σ H r := by
  obtain ⟨F, env, ok, p⟩ := h
  refine ⟨F, env, ok, ?_⟩
  unfold d1 at p
  cases q : da env with
  | ok v =>
    rw [q] at p
    simp only [R.bind_ok] at p
    intro x F1 H1 st rx
    cases q2 : f v with
    | none => rw [q2] at p; exact p.elim
    | some l => rw [q2] at p; exact hr F1 H1 x v l st.s2 rx q2 fun J F' H' st' w => p J F' H' (st.trans st') w
  | ex e => rw [q] at p; exact p
  | bad => rw [q] at p; exact p
theorem seqIV {K : PySem.W.Frag} {mg : Str → Option Value} {da : Fm → R PV} {f : PV → Option (List PV)} {σ : L2.St} {H : Hp} {Z : It → Hp → Prop} {r : V → Hp → Prop}
    (h : tI K mg W (GI K) (d1 f da) σ H Z)
    (hr : ∀ F H x a l, Same F H → Rep K F a x → f a = some l → GI K F H Z l → r x H) : tV K mg W da σ H r := by
  obtain ⟨F, env, ok, p⟩ := h
  refine ⟨F, env, ok, ?_⟩
  unfold d1 at p
  cases q : da env with
  | ok v =>
    rw [q] at p
    simp only [R.bind_ok] at p
    intro x F1 H1 st rx
    cases q2 : f v with
    | none => rw [q2] at p; exact p.elim
    | some l => rw [q2] at p; exact hr F1 H1 x v l st.s2 rx q2 fun J F' H' st' w => p J F' H' (st.trans st') w
  | ex e => rw [q] at p; exact p
  | bad => rw [q] at p; exact p
theorem i_lst {e : Expr} {da : Fm → R PV} (h : PE X e (xV X W da)) : PI X tg e (xI X W (d1 lstIt da)) := PI.imp (pi_list h) fun σ H R h => by
  refine seqIV h fun F H x a l s ra e g => ?_
  cases a with
  | lst l' =>
    cases e
    simp only [Rep] at ra
    obtain ⟨a1, xs, rfl, q1, r1⟩ := ra
    exact ⟨a1, rfl, ⟨xs, SqL.of (s _ _ q1)⟩, g _ F H (Step.refl s) (walks_lst q1 r1)⟩
  | non => cases e
  | bl _ => cases e
  | int _ => cases e
  | str _ => cases e
  | tup _ => cases e
  | scr _ => cases e
theorem i_lstR {e : Expr} {da : Fm → R PV} (h : PE X e (xR X W da)) : PI X tg e (xIR X W (d1 lstIt da)) := PI.imp (pi_list h) fun σ H R h => by
  refine seqI h fun F H x a l s ra e g => ?_
  cases a with
  | lst l' =>
    cases e
    obtain ⟨a1, xs, rfl, q1, r1⟩ := ra.lst
    exact ⟨a1, rfl, ⟨xs, SqL.of q1⟩, g _ F H (Step.refl s) (walksR_lst q1 r1)⟩
  | non => cases e
  | bl _ => cases e
  | int _ => cases e
  | str _ => cases e
  | tup _ => cases e
  | scr _ => cases e
theorem i_tup {e : Expr} {da : Fm → R PV} (h : PE X e (xV X W da)) : PI X tg e (xI X W (d1 tupIt da)) := PI.imp (pi_tup h) fun σ H R h => by
  refine seqIV h fun F H x a l s ra e g => ?_
  cases a with
  | tup l' =>
    cases e
    simp only [Rep] at ra
    obtain ⟨a1, xs, rfl, q1, r1⟩ := ra
    exact ⟨a1, rfl, ⟨xs, sqT_mono s q1⟩, g _ F H (Step.refl s) (walks_tup q1 r1)⟩
  | non => cases e
  | bl _ => cases e
  | int _ => cases e
  | str _ => cases e
  | lst _ => cases e
  | scr _ => cases e
theorem i_str {e : Expr} {da : Fm → R PV} (h : PE X e (xV X W da)) : PI X tg e (xI X W (d1 strIt da)) := PI.imp (pi_str h) fun σ H R h => by
  refine seqIV h fun F H x a l s ra e g => ?_
  cases a with
  | str x' =>
    cases e
    simp only [Rep] at ra
    exact ⟨x', ra, g _ F H (Step.refl s) (walks_str x')⟩
  | non => cases e
  | bl _ => cases e
  | int _ => cases e
  | tup _ => cases e
  | lst _ => cases e
  | scr _ => cases e
/-! range(n), range(a, b) -/
/-- within the bounds of a range -/
def smI (j : Int) : Bool := Nat.ble j.natAbs 4611686018427387903
theorem smI_ok {j : Int} (h : smI j = true) : -(2 ^ 62) ≤ j ∧ j < 2 ^ 62 := by
  have := Nat.le_of_ble_eq_true h
  omega
theorem smI_of {j : Int} (h : j.natAbs ≤ 4611686018427387903) : smI j = true := Nat.ble_eq_true_of_le h
def rgIt1 : List PV → Option (List PV)
  | [.int j] => if smI j = true then some ((List.range j.toNat).map fun (k : Nat) => .int (0 + (k : Int))) else none
  | _ => none
def rgIt2 : List PV → Option (List PV)
  | [.int i, .int j] => if smI i = true ∧ smI j = true then some ((List.range (j - i).toNat).map fun (k : Nat) => .int (i + (k : Int))) else none
  | _ => none
theorem walks_rng {K : PySem.W.Frag} {F : Hp} (lo : Int) (n : Nat) : Walks K F (Itr lo n) ((List.range n).map fun (k : Nat) => .int (lo + (k : Int))) := by
  intro F' H' s1 s2
  refine ⟨fun i d e => ?_, ?_⟩
  · rw [List.getElem?_map] at e
    by_cases hi : i < n
    · rw [List.getElem?_range hi] at e
      cases e
      refine ⟨hi, fun y H2 ⟨e2, e3⟩ => ?_⟩
      subst e2 e3
      exact ⟨F', Step.refl s2, by simp only [Rep]⟩
    · rw [List.getElem?_eq_none (by rw [List.length_range]; omega)] at e
      cases e
  · show n ≤ _
    rw [List.length_map, List.length_range]
    exact Nat.le_refl _
theorem seqAI {K : PySem.W.Frag} {mg : Str → Option Value} {d : Fm → R (List PV)} {f : List PV → Option (List PV)} {σ : L2.St} {H : Hp} {Z : It → Hp → Prop} {r : List V → Hp → Prop}
    (h : tI K mg W (GI K) (dCall (fun ds => ofO (f ds)) d) σ H Z)
    (hr : ∀ F H xs ds l, Same F H → RDL K F H ds xs → f ds = some l → GI K F H Z l → r xs H) : tAG K mg W (GRL K) d σ H r := by
  obtain ⟨F, env, ok, p⟩ := h
  refine ⟨F, env, ok, ?_⟩
  unfold dCall at p
  cases q : d env with
  | ok v =>
    rw [q] at p
    simp only [R.bind_ok] at p
    intro x F1 H1 st rx
    cases q2 : f v with
    | none => rw [q2] at p; exact p.elim
    | some l => rw [q2] at p; exact hr F1 H1 x v l st.s2 rx q2 fun J F' H' st' w => p J F' H' (st.trans st') w
  | ex e => rw [q] at p; exact p
  | bad => rw [q] at p; exact p
theorem i_rg1 {a : Expr} {d : Fm → R (List PV)} {p pos : Pos} (hm : X.mg "range" = none) (ha : PA X [a] (xRL X W d)) (hg : Gl X "range" := by rfl) (hs : starEach [a] X.env = [(false, eval a X.env)] := by rfl) :
    PI X tg (.Call (.Name "range" p) [a] [] pos) (xI X W (dCall (fun ds => ofO (rgIt1 ds)) d)) := PI.imp (pi_range1 hg hm ha hs) fun σ H Z h => by
  refine seqAI h fun F H xs ds l s r e g => ?_
  unfold rgIt1 at e
  split at e
  · split at e
    · rename_i c
      cases e
      obtain ⟨x, rfl, rx⟩ := r.one
      cases rx.int
      exact ⟨_, rfl, (smI_ok c).1, (smI_ok c).2, g _ F H (Step.refl s) (walks_rng 0 _)⟩
    · cases e
  · cases e
theorem i_rg2 {a b : Expr} {d : Fm → R (List PV)} {p pos : Pos} (hm : X.mg "range" = none) (ha : PA X [a, b] (xRL X W d)) (hg : Gl X "range" := by rfl) (hs : starEach [a, b] X.env = [(false, eval a X.env), (false, eval b X.env)] := by rfl) (hs2 : starEach [b] X.env = [(false, eval b X.env)] := by rfl) :
    PI X tg (.Call (.Name "range" p) [a, b] [] pos) (xI X W (dCall (fun ds => ofO (rgIt2 ds)) d)) := PI.imp (pi_range2 hg hm ha hs hs2) fun σ H Z h => by
  refine seqAI h fun F H xs ds l s r e g => ?_
  unfold rgIt2 at e
  split at e
  · split at e
    · rename_i c
      cases e
      obtain ⟨x, y, rfl, rx, ry⟩ := r.two
      cases rx.int
      cases ry.int
      exact ⟨_, _, rfl, ⟨(smI_ok c.1).1, (smI_ok c.1).2, (smI_ok c.2).1, (smI_ok c.2).2⟩, g _ F H (Step.refl s) (walks_rng _ _)⟩
    · cases e
  · cases e
end

/-! ### targets -/
abbrev Tgt := PV → Fm → Option Fm
def tgN (i : Nat) : Tgt := fun d env => if i < env.length then some (env.set i (.pv d)) else none
structure Bs where
  Fb : Hp
  F0 : Hp
  H0 : Hp
def FmSt (K : PySem.W.Frag) (B : Bs) (F H : Hp) (σ : L2.St) (env : Fm) : Prop := FmOk K F H σ env ∧ (Step B.F0 B.H0 F H ∧ Same B.Fb F) ∧ ∀ (i : Nat) (s : Slot) (a : Addr), env[i]? = some s → isOwn s = true → σ[i]? = some (some (.ref a)) → B.H0 a = none
theorem FmOk.setPv {K : PySem.W.Frag} {F H : Hp} {σ : L2.St} {env : Fm} {i : Nat} {d : PV} {x : V} (h : FmOk K F H σ env) (hi : i < env.length) (r : Rep K F d x) : FmOk K F H (σ.set i (some x)) (env.set i (.pv d)) := by
  refine ⟨h.s0, by rw [List.length_set, List.length_set]; exact h.len, fun j s e => ?_, fun j k s t a ej ek os ot hj hk => ?_⟩
  · by_cases c : i = j
    · subst c
      rw [List.getElem?_set_self hi] at e
      cases e
      exact ⟨x, by rw [List.getElem?_set_self (by rw [← h.len]; exact hi)], r⟩
    · rw [List.getElem?_set_ne c] at e ⊢
      exact h.at' j s e
  · by_cases cj : i = j
    · subst cj
      rw [List.getElem?_set_self hi] at ej
      cases ej
      cases os
    · by_cases ck : i = k
      · subst ck
        rw [List.getElem?_set_self hi] at ek
        cases ek
        cases ot
      · rw [List.getElem?_set_ne cj] at ej hj
        rw [List.getElem?_set_ne ck] at ek hk
        exact h.one j k s t a ej ek os ot hj hk
theorem FmOk.setOwn {K : PySem.W.Frag} {F H : Hp} {σ : L2.St} {env : Fm} {i : Nat} {l : List PV} {xs : List V} {a : Addr} (h : FmOk K F H σ env) (hi : i < env.length) (ha : H a = some (.lst xs)) (hf : F a = none) (r : RepL K F l xs)
    (hn : ∀ (j : Nat) (s : Slot), env[j]? = some s → isOwn s = true → σ[j]? ≠ some (some (.ref a))) : FmOk K F H (σ.set i (some (.ref a))) (env.set i (.own l)) := by
  have hs : i < σ.length := by rw [← h.len]; exact hi
  refine ⟨h.s0, by rw [List.length_set, List.length_set]; exact h.len, fun j s e => ?_, fun j k s t b ej ek os ot hj hk => ?_⟩
  · by_cases c : i = j
    · subst c
      rw [List.getElem?_set_self hi] at e
      cases e
      exact ⟨a, xs, by rw [List.getElem?_set_self hs], ha, hf, r⟩
    · rw [List.getElem?_set_ne c] at e ⊢
      exact h.at' j s e
  · by_cases cj : i = j
    · by_cases ck : i = k
      · exact cj.symm.trans ck
      · subst cj
        rw [List.getElem?_set_self hs] at hj
        cases hj
        rw [List.getElem?_set_ne ck] at ek hk
        exact absurd hk (hn k t ek ot)
    · by_cases ck : i = k
      · subst ck
        rw [List.getElem?_set_self hs] at hk
        cases hk
        rw [List.getElem?_set_ne cj] at ej hj
        exact absurd hj (hn j s ej os)
      · rw [List.getElem?_set_ne cj] at ej hj
        rw [List.getElem?_set_ne ck] at ek hk
        exact h.one j k s t b ej ek os ot hj hk
/-- slots forgotten -/
def clr (env : Fm) : List Nat → Fm
  | [] => env
  | i :: r => (clr env r).set i .un
theorem clr_len (env : Fm) : ∀ l : List Nat, (clr env l).length = env.length
  | [] => rfl
  | i :: r => by unfold clr; rw [List.length_set, clr_len env r]
theorem clr_at (env : Fm) : ∀ (l : List Nat) (j : Nat) (s : Slot), (clr env l)[j]? = some s → s = .un ∨ (env[j]? = some s ∧ j ∉ l)
  | [], j, s, e => .inr ⟨e, by simp⟩
  | i :: r, j, s, e => by
    unfold clr at e
    by_cases c : i = j
    · subst c
      by_cases hi : i < (clr env r).length
      · rw [List.getElem?_set_self hi] at e; cases e; exact .inl rfl
      · rw [List.getElem?_eq_none (by rw [List.length_set]; omega)] at e; cases e
    · rw [List.getElem?_set_ne c] at e
      rcases clr_at env r j s e with h | ⟨h1, h2⟩
      · exact .inl h
      · exact .inr ⟨h1, fun z => by rcases List.mem_cons.mp z with z | z; exact c z.symm; exact h2 z⟩
theorem FmOk.clr {K : PySem.W.Frag} {F H : Hp} {σ : L2.St} {env : Fm} (h : FmOk K F H σ env) (l : List Nat) : FmOk K F H σ (clr env l) := by
  refine ⟨h.s0, by rw [clr_len]; exact h.len, fun j s e => ?_, fun j k s t a ej ek os ot hj hk => ?_⟩
  · rcases clr_at env l j s e with z | ⟨z, _⟩
    · subst z; trivial
    · exact h.at' j s z
  · rcases clr_at env l j s ej with z | ⟨z, _⟩
    · subst z; cases os
    · rcases clr_at env l k t ek with y | ⟨y, _⟩
      · subst y; cases ot
      · exact h.one j k s t a z y os ot hj hk
theorem wipe_ne {σ : L2.St} {j : Nat} : ∀ {l : List Nat}, j ∉ l → (wipe σ l)[j]? = σ[j]?
  | [], _ => rfl
  | i :: r, h => by
    unfold wipe
    rw [List.getElem?_set_ne (fun e => h (by rw [e]; exact List.mem_cons_self))]
    exact wipe_ne fun z => h (List.mem_cons_of_mem _ z)
theorem FmOk.wipe {K : PySem.W.Frag} {F H : Hp} {σ : L2.St} {env : Fm} (h : FmOk K F H σ env) (l : List Nat) : FmOk K F H (wipe σ l) (Pv.clr env l) := by
  refine ⟨h.s0, by rw [clr_len, wipe_length]; exact h.len, fun j s e => ?_, fun j k s t a ej ek os ot hj hk => ?_⟩
  · rcases clr_at env l j s e with z | ⟨z, n⟩
    · subst z; trivial
    · have q := h.at' j s z
      rw [wipe_ne n]
      exact q
  · rcases clr_at env l j s ej with z | ⟨z, n⟩
    · subst z; cases os
    · rcases clr_at env l k t ek with y | ⟨y, m⟩
      · subst y; cases ot
      · rw [wipe_ne n] at hj
        rw [wipe_ne m] at hk
        exact h.one j k s t a z y os ot hj hk
/-- a target's rule: at the frozen heap F -/
def TgS (K : PySem.W.Frag) (g : TG) (t : Tgt) (js : List Nat) : Prop := ∀ F H σ env x d env' (Q : L2.St → Hp → Prop), FmOk K F H σ env → Rep K F d x → t d env = some env' →
  (∀ σ', FmOk K F H σ' env' → (∀ j, j ∉ js → σ'[j]? = σ[j]?) → (∀ j, j ∉ js → env'[j]? = env[j]?) → (∀ j s, j ∈ js → env'[j]? = some s → isOwn s = false) → σ'.length = σ.length → Q σ' H) → g x σ H Q
theorem tg_name {K : PySem.W.Frag} (i : Nat) : TgS K (gName i) (tgN i) [i] := by
  intro F H σ env x d env' Q ok r e q
  unfold tgN at e
  split at e
  · rename_i hi
    cases e
    refine q _ (ok.setPv hi r) (fun j hj => ?_) (fun j hj => ?_) (fun j s hj es => ?_) (List.length_set ..)
    · rw [List.getElem?_set_ne (fun z => hj (by rw [z]; exact List.mem_cons_self))]
    · rw [List.getElem?_set_ne (fun z => hj (by rw [z]; exact List.mem_cons_self))]
    · rw [List.mem_singleton] at hj
      subst hj
      rw [List.getElem?_set_self hi] at es
      cases es
      rfl
  · cases e
end Pv

set_option Elab.async false
set_option linter.all false
set_option maxRecDepth 100000
set_option maxHeartbeats 2000000
/-! PvE: comprehensions, statements, defs. -/
namespace Pv
open PySem PySem.Spec PyProof.Rows L2

theorem Step.mut {F H F' H' : Hp} (st : Step F H F' H') {p : Addr} {o : HO} (hp : H p = none) (hn : F' p = none) : Step F H F' (upd H' p o) :=
  ⟨st.s0, st.s1, fun a u e => by
    have q : a ≠ p := ne_of_none e hn
    rw [upd_ne q]; exact st.s2 a u e,
   fun a u h n => by
    have q : a ≠ p := ne_of_none h hp
    rw [upd_ne q]; exact st.keep a u h n⟩
theorem wipe_in {σ : L2.St} {j : Nat} : ∀ {l : List Nat}, j ∈ l → j < σ.length → (wipe σ l)[j]? = some none
  | [], h, _ => by cases h
  | i :: r, h, hj => by
    unfold wipe
    by_cases c : i = j
    · subst c
      rw [List.getElem?_set_self (by rw [wipe_length]; exact hj)]
    · rw [List.getElem?_set_ne c]
      rcases List.mem_cons.mp h with z | z
      · exact absurd z.symm c
      · exact wipe_in z hj
theorem wipe_eq {σ σ' : L2.St} {vs js : List Nat} (hl : σ'.length = (wipe σ vs).length) (hj : ∀ j ∈ js, j ∈ vs) (h : ∀ j, j ∉ js → σ'[j]? = (wipe σ vs)[j]?) : wipe σ' vs = wipe σ vs := by
  apply List.ext_getElem?
  intro j
  have hl2 : σ'.length = σ.length := by rw [hl, wipe_length]
  by_cases c : j ∈ vs
  · by_cases d : j < σ.length
    · rw [wipe_in c (by rw [hl2]; exact d), wipe_in c d]
    · rw [List.getElem?_eq_none (by rw [wipe_length]; omega), List.getElem?_eq_none (by rw [wipe_length]; omega)]
  · rw [wipe_ne c, h j (fun z => c (hj j z))]
def WF : WX := fun _ _ _ _ => False
def noX {α : Type} : R α → R α
  | .ex _ => .bad
  | r => r
def lcGo (t : Tgt) (tt : Fm → R Bool) (te : Fm → R PV) (env : Fm) : List PV → R (List PV)
  | [] => .ok []
  | d :: ds => match t d env with
    | none => .bad
    | some e1 => (tt e1).bind fun b => match b with
      | true => (te e1).bind fun v => (lcGo t tt te env ds).bind fun r => .ok (v :: r)
      | false => lcGo t tt te env ds
def dLc (vs : List Nat) (t : Tgt) (tt : Fm → R Bool) (te : Fm → R PV) (src : Fm → R (List PV)) : Fm → R (List PV) := fun env => (src env).bind fun ds =>
  if ds.length ≤ sizeLine then noX (lcGo t tt te (clr env vs) ds) else .bad
def dYes : Fm → R Bool := fun _ => .ok true
section
variable {X : Cx} {W : WX}
theorem lc_go {vs js : List Nat} {g : TG} {t : Tgt} {tt : Fm → R Bool} {te : Fm → R PV} {src : Fm → R (List PV)} {σ : L2.St} {H : Hp} {Q : VK} (tS : TgS X.K g t js) (hjs : ∀ j ∈ js, j ∈ vs)
    (h : xF X W (dLc vs t tt te src) σ H Q) : tLc (xIR X W src) g (tT X.K X.mg WF tt) (tV X.K X.mg WF te) vs σ H Q := by
  obtain ⟨F, env, fo, p⟩ := h
  refine ⟨F, env, fo, ?_⟩
  unfold dLc at p
  cases q : src env with
  | ex e => rw [q] at p; exact p
  | bad => rw [q] at p; exact p
  | ok ds =>
    rw [q] at p
    simp only [R.bind_ok] at p
    intro J F1 H1 st1 wk D hD
    by_cases hz : ds.length ≤ sizeLine
    · rw [if_pos hz] at p
      cases q1 : lcGo t tt te (clr env vs) ds with
      | bad => rw [q1] at p; exact p.elim
      | ex e => rw [q1] at p; exact p.elim
      | ok l =>
        rw [q1] at p
        have p' : GF X.K F H Q l := p
        refine ⟨fun i m H' => m = ds.length - i ∧ i ≤ ds.length ∧ ∃ F' acc ys rest, Step F1 H1 F' H' ∧ F' D = none ∧ H' D = some (.lst ys) ∧ RepL X.K F' acc ys ∧ acc.length ≤ i ∧ lcGo t tt te (clr env vs) (ds.drop i) = .ok rest ∧ l = acc ++ rest,
          ⟨ds.length, by simp, Nat.zero_le _, F1, [], [], l, Step.new st1.s2 hD, st1.s2.free hD, upd_same, .nil, Nat.le_refl _, q1, rfl⟩, ?_⟩
        rintro i m H' ⟨rfl, hi, F', acc, ys, rest, st, fD, eD, r, hacc, hgo, hl⟩
        obtain ⟨w1, w2⟩ := wk F' H' st
        by_cases hlt : i < ds.length
        · obtain ⟨d, hd⟩ : ∃ d, ds[i]? = some d := ⟨_, List.getElem?_eq_getElem hlt⟩
          obtain ⟨go, yl⟩ := w1 i d hd
          have hdrop : ds.drop i = d :: ds.drop (i + 1) := by
            rw [List.drop_eq_getElem_cons hlt]
            rw [List.getElem?_eq_getElem hlt] at hd
            cases hd
            rfl
          rw [hdrop, lcGo] at hgo
          refine .inr ⟨go, fun H'' => ∃ F' acc ys rest, Step F1 H1 F' H'' ∧ F' D = none ∧ H'' D = some (.lst ys) ∧ RepL X.K F' acc ys ∧ acc.length ≤ i + 1 ∧ lcGo t tt te (clr env vs) (ds.drop (i + 1)) = .ok rest ∧ l = acc ++ rest,
            fun H'' hN => ⟨ds.length - (i + 1), by omega, rfl, hlt, hN⟩, fun x H2 hy => ?_⟩
          obtain ⟨F2, st2, rx⟩ := yl x H2 hy
          cases qt : t d (clr env vs) with
          | none => rw [qt] at hgo; cases hgo
          | some e1 =>
            rw [qt] at hgo
            simp only at hgo
            have fw := ((fo.step st1).step (st.trans st2)).wipe vs
            refine tS F2 H2 (wipe σ vs) (clr env vs) x d e1 _ fw rx qt fun σ2 ok2 h1 h2 h3 h4 => ⟨wipe_eq h4 hjs h1, F2, e1, ok2, ?_⟩
            obtain ⟨eD2, fD2⟩ := st2.keep D _ eD fD
            cases qb : tt e1 with
            | bad => rw [qb] at hgo; cases hgo
            | ex e => rw [qb] at hgo; cases hgo
            | ok b =>
              rw [qb] at hgo
              simp only [R.bind_ok] at hgo
              intro F3 H3 st3
              obtain ⟨eD3, fD3⟩ := st3.keep D _ eD2 fD2
              cases b with
              | false =>
                rw [if_neg Bool.false_ne_true]
                exact ⟨F3, acc, ys, rest, (st.trans st2).trans st3, fD3, eD3, r.mono (st2.s1.trans st3.s1), by omega, hgo, hl⟩
              | true =>
                rw [if_pos rfl]
                refine ⟨F3, e1, ok2.step st3, ?_⟩
                cases qv : te e1 with
                | bad => rw [qv] at hgo; cases hgo
                | ex e => rw [qv] at hgo; cases hgo
                | ok v =>
                  rw [qv] at hgo
                  simp only [R.bind_ok] at hgo
                  cases qr : lcGo t tt te (clr env vs) (ds.drop (i + 1)) with
                  | bad => rw [qr] at hgo; cases hgo
                  | ex e => rw [qr] at hgo; cases hgo
                  | ok rest' =>
                    rw [qr] at hgo
                    cases hgo
                    intro y F4 H4 st4 ry
                    obtain ⟨eD4, fD4⟩ := st4.keep D _ eD3 fD3
                    refine ⟨ys, eD4, by rw [r.len]; omega, F4, acc ++ [v], ys ++ [y], rest', (((st.trans st2).trans st3).trans st4).mut hD fD4, fD4, upd_same, (r.mono ((st2.s1.trans st3.s1).trans st4.s1)).app (.one ry), ?_, rfl, ?_⟩
                    · rw [List.length_append, List.length_singleton]; omega
                    · rw [hl, List.append_assoc]; rfl
        · have e : i = ds.length := by omega
          subst e
          refine .inl ⟨w2, ?_⟩
          rw [List.drop_length, lcGo] at hgo
          cases hgo
          rw [List.append_nil] at hl
          subst hl
          exact p' D ys F' H' (st1.trans st) (st1.back hD) fD eD r
    · rw [if_neg hz] at p; exact p.elim
theorem tests_nil : PTs X [] (xT X W dYes) := ⟨fun pins s σ H Q I ⟨F, env, ok, p⟩ => pts_nil.run pins s σ H Q I (p F H (Step.refl ok.s0))⟩
theorem tests_one {c : Expr} {d : Fm → R Bool} (h : PT X c (xT X W d)) : PTs X [c] (xT X W d) := pts_one h
theorem f_lc {elt tg iter : Expr} {ifs : List Expr} {scope : Scope} {pos : Pos} {g : TG} {t : Tgt} {js vs : List Nat} {tt : Fm → R Bool} {te : Fm → R PV} {src : Fm → R (List PV)} (own : List (Str × Nat)) (hvs : own.map (·.2) = vs) (hc : X.calm = true) (hN : X.N.Nodup) (hi : PI X tg iter (xIR X W src)) (ok : BlkOk X.N X.env.scope scope own)
    (hg : ∀ (s : Shared) (H : Hp) (C : Addr) (cl : List (Str × Addr)) (fp : List Addr), PG (X.blk s H scope (compEnvC scope cl C X.env) fp) tg g) (tS : TgS X.K g t js) (hjs : ∀ j ∈ js, j ∈ vs)
    (ht : ∀ (s : Shared) (H : Hp) (C : Addr) (cl : List (Str × Addr)) (fp : List Addr), PTs (X.blk s H scope (compEnvC scope cl C X.env) fp) ifs (xT (X.blk s H scope (compEnvC scope cl C X.env) fp) WF tt))
    (he : ∀ (s : Shared) (H : Hp) (C : Addr) (cl : List (Str × Addr)) (fp : List Addr), PE (X.blk s H scope (compEnvC scope cl C X.env) fp) elt (xV (X.blk s H scope (compEnvC scope cl C X.env) fp) WF te)) (hs : ∀ x, foldedSetIterable iter X.env x = pure x := by intro _; rfl) :
    PE X (.ListComp elt [⟨tg, iter, ifs, 0⟩] scope pos) (xF X W (dLc vs t tt te src)) := by
  subst hvs
  exact PE.imp (pe_lc hc hN hi ok hg ht he hs) fun σ H Q h => lc_go tS hjs h

/-! ### statements -/
inductive RS where
  | nx (env : Fm)
  | rt (v : PV)
  | rf (l : List PV)
  | bk (env : Fm)
  | ct (env : Fm)
  | ex (e : Ex) (env : Fm)
  | bad
def SPs (K : PySem.W.Frag) (mg : Str → Option Value) (W : WX) (B : Bs) (D : Ends) : RS → Prop
  | .nx e' => ∀ σ' F' H', FmSt K B F' H' σ' e' → D.nx σ' H'
  | .rt v => ∀ x F' H', Step B.F0 B.H0 F' H' → Rep K F' v x → D.rt x H'
  | .rf l => ∀ a xs F' H', Step B.F0 B.H0 F' H' → B.H0 a = none → F' a = none → H' a = some (.lst xs) → RepL K F' l xs → D.rt (.ref a) H'
  | .bk e' => ∀ σ' F' H', FmSt K B F' H' σ' e' → D.bk σ' H'
  | .ct e' => ∀ σ' F' H', FmSt K B F' H' σ' e' → D.ct σ' H'
  | .ex e e' => ∀ c dd σ' F' H', FmSt K B F' H' σ' e' → RepX K mg F' e c dd → W c dd σ' H'
  | .bad => False
def tS (K : PySem.W.Frag) (mg : Str → Option Value) (W : WX) (d : Fm → RS) : TS := fun D σ H => ∃ B F env, FmSt K B F H σ env ∧ SPs K mg W B D (d env)
abbrev xS (X : Cx) (W : WX) (d : Fm → RS) : TS := tS X.K X.mg W d
def dSeq (a b : Fm → RS) : Fm → RS := fun env => match a env with
  | .nx e => b e
  | r => r
def dSkip : Fm → RS := fun env => .nx env
def dSet (i : Nat) (d : Fm → R PV) : Fm → RS := fun env => match d env with
  | .ok v => if i < env.length then .nx (env.set i (.pv v)) else .bad
  | .ex e => .ex e env
  | .bad => .bad
def dSetF (i : Nat) (d : Fm → R (List PV)) : Fm → RS := fun env => match d env with
  | .ok v => if i < env.length then .nx (env.set i (.own v)) else .bad
  | .ex e => .ex e env
  | .bad => .bad
def dRet (d : Fm → R PV) : Fm → RS := fun env => match d env with
  | .ok v => .rt v
  | .ex e => .ex e env
  | .bad => .bad
def dRetF (d : Fm → R (List PV)) : Fm → RS := fun env => match d env with
  | .ok v => .rf v
  | .ex e => .ex e env
  | .bad => .bad
def dRetO (i : Nat) : Fm → RS := fun env => match env[i]? with
  | some (.own l) => .rf l
  | _ => .bad
def dIfS (c : Fm → R Bool) (a b : Fm → RS) : Fm → RS := fun env => match c env with
  | .ok true => a env
  | .ok false => b env
  | .ex e => .ex e env
  | .bad => .bad
def dExpr (d : Fm → R PV) : Fm → RS := fun env => match d env with
  | .ok _ => .nx env
  | .ex e => .ex e env
  | .bad => .bad
def dApp (i : Nat) (d : Fm → R PV) : Fm → RS := fun env => match env[i]? with
  | some (.own l) => (match d env with
    | .ok v => if l.length < sizeLine then .nx (env.set i (.own (l ++ [v]))) else .bad
    | .ex e => .ex e env
    | .bad => .bad)
  | _ => .bad
def dExt (i : Nat) (d : Fm → R PV) : Fm → RS := fun env => match env[i]? with
  | some (.own l) => (match d env with
    | .ok (.lst m) => if l.length + m.length ≤ sizeLine then .nx (env.set i (.own (l ++ m))) else .bad
    | .ok _ => .bad
    | .ex e => .ex e env
    | .bad => .bad)
  | _ => .bad
/-- a list of one's own is a value from here on -/
def frzS (i : Nat) (env : Fm) : Fm := match env[i]? with
  | some (.own l) => env.set i (.pv (.lst l))
  | _ => env
def dFrz (i : Nat) (d : Fm → RS) : Fm → RS := fun env => d (frzS i env)
def forGo (t : Tgt) (body : Fm → RS) (wp : List Nat) : List PV → Fm → RS
  | [], env => .nx env
  | d :: ds, env => match t d env with
    | none => .bad
    | some e1 => match body e1 with
      | .nx e2 => forGo t body wp ds (clr e2 wp)
      | .ct e2 => forGo t body wp ds (clr e2 wp)
      | .bk e2 => .nx (clr e2 wp)
      | .rt v => .rt v
      | .rf l => .rf l
      | .ex e e' => .ex e e'
      | .bad => .bad
def dFor (src : Fm → R (List PV)) (t : Tgt) (body : Fm → RS) (wp : List Nat) : Fm → RS := fun env => match src env with
  | .ok ds => forGo t body wp ds (clr env wp)
  | .ex e => .ex e env
  | .bad => .bad
def whGo (c : Fm → R Bool) (body : Fm → RS) (wp : List Nat) : Nat → Fm → RS
  | 0, _ => .bad
  | n + 1, env => match c env with
    | .ok true => (match body env with
      | .nx e2 => whGo c body wp n (clr e2 wp)
      | .ct e2 => whGo c body wp n (clr e2 wp)
      | .bk e2 => .nx (clr e2 wp)
      | .rt v => .rt v
      | .rf l => .rf l
      | .ex e e' => .ex e e'
      | .bad => .bad)
    | .ok false => .nx env
    | .ex e => .ex e env
    | .bad => .bad
def dWhile (m : Fm → Nat) (c : Fm → R Bool) (body : Fm → RS) (wp : List Nat) : Fm → RS := fun env => whGo c body wp (m env) (clr env wp)

variable {B : Bs}
theorem FmSt.step {K : PySem.W.Frag} {F H F' H' : Hp} {σ : L2.St} {env : Fm} (h : FmSt K B F H σ env) (st : Step F H F' H') : FmSt K B F' H' σ env := ⟨h.1.step st, ⟨h.2.1.1.trans st, h.2.1.2.trans st.s1⟩, h.2.2⟩
theorem FmSt.clr {K : PySem.W.Frag} {F H : Hp} {σ : L2.St} {env : Fm} (h : FmSt K B F H σ env) (l : List Nat) : FmSt K B F H σ (Pv.clr env l) := ⟨h.1.clr l, h.2.1, fun i s a e o e2 => by
  rcases clr_at env l i s e with z | ⟨z, _⟩
  · subst z; cases o
  · exact h.2.2 i s a z o e2⟩
theorem FmSt.setPv {K : PySem.W.Frag} {F H : Hp} {σ : L2.St} {env : Fm} {i : Nat} {d : PV} {x : V} (h : FmSt K B F H σ env) (hi : i < env.length) (r : Rep K F d x) : FmSt K B F H (σ.set i (some x)) (env.set i (.pv d)) :=
  ⟨h.1.setPv hi r, h.2.1, fun j s a e o e2 => by
    by_cases c : i = j
    · subst c; rw [List.getElem?_set_self hi] at e; cases e; cases o
    · rw [List.getElem?_set_ne c] at e e2; exact h.2.2 j s a e o e2⟩
/-- an own list at a fresh address goes into a slot -/
theorem FmSt.setOwn {K : PySem.W.Frag} {F H F' H' : Hp} {σ : L2.St} {env : Fm} {i : Nat} {l : List PV} {xs : List V} {a : Addr} (h : FmSt K B F H σ env) (st : Step F H F' H') (hi : i < env.length) (hn : H a = none) (ha : H' a = some (.lst xs)) (hf : F' a = none) (r : RepL K F' l xs) :
    FmSt K B F' H' (σ.set i (some (.ref a))) (env.set i (.own l)) := by
  have hz : B.H0 a = none := h.2.1.1.back hn
  refine ⟨(h.1.step st).setOwn hi ha hf r fun j s e o e2 => ?_, ⟨h.2.1.1.trans st, h.2.1.2.trans st.s1⟩, fun j s b e o e2 => ?_⟩
  · have q := h.1.at' j s e
    cases s with
    | un => cases o
    | pv d => cases o
    | own m =>
      obtain ⟨b, ys, e3, h3, _⟩ := q
      rw [e2] at e3
      cases e3
      rw [hn] at h3
      cases h3
  · have hs : i < σ.length := by rw [← h.1.len]; exact hi
    by_cases c : i = j
    · subst c
      rw [List.getElem?_set_self hs] at e2
      cases e2
      exact hz
    · rw [List.getElem?_set_ne c] at e e2; exact h.2.2 j s b e o e2
/-- an own list grows -/
theorem FmSt.grow {K : PySem.W.Frag} {F H : Hp} {σ : L2.St} {env : Fm} {i : Nat} {l m : List PV} {xs ys : List V} {a : Addr} (h : FmSt K B F H σ env) (hi : env[i]? = some (.own l)) (hs : σ[i]? = some (some (.ref a))) (ha : H a = some (.lst xs)) (hf : F a = none) (r : RepL K F m ys) :
    FmSt K B F (upd H a (.lst ys)) σ (env.set i (.own m)) := by
  have hil : i < env.length := (List.getElem?_eq_some_iff.mp hi).1
  have hz : B.H0 a = none := h.2.2 i _ a hi rfl hs
  have st := h.2.1.1.mut (o := .lst ys) hz hf
  refine ⟨⟨st.s2, by rw [List.length_set]; exact h.1.len, fun j s e => ?_, fun j k s t b ej ek os ot hj hk => ?_⟩, ⟨st, h.2.1.2⟩, fun j s b e o e2 => ?_⟩
  · by_cases c : i = j
    · subst c
      rw [List.getElem?_set_self hil] at e
      cases e
      exact ⟨a, ys, hs, upd_same, hf, r⟩
    · rw [List.getElem?_set_ne c] at e
      have q := h.1.at' j s e
      cases s with
      | un => trivial
      | pv d => exact q
      | own n =>
        obtain ⟨b, zs, e1, h1, n1, r1⟩ := q
        have nb : b ≠ a := fun z => by
          subst z
          exact c (h.1.one i j _ _ b hi e rfl rfl hs e1)
        exact ⟨b, zs, e1, by rw [upd_ne nb]; exact h1, n1, r1⟩
  · have own_at : ∀ {j : Nat} {s : Slot}, (env.set i (.own m))[j]? = some s → isOwn s = true → ∃ s', env[j]? = some s' ∧ isOwn s' = true := fun {j s} e o => by
      by_cases c : i = j
      · subst c; exact ⟨_, hi, rfl⟩
      · rw [List.getElem?_set_ne c] at e; exact ⟨s, e, o⟩
    obtain ⟨s', e1, o1⟩ := own_at ej os
    obtain ⟨t', e2, o2⟩ := own_at ek ot
    exact h.1.one j k s' t' b e1 e2 o1 o2 hj hk
  · by_cases c : i = j
    · subst c; rw [hs] at e2; cases e2; exact hz
    · rw [List.getElem?_set_ne c] at e; exact h.2.2 j s b e o e2
/-- an own list is frozen -/
theorem FmSt.frz {K : PySem.W.Frag} {F H : Hp} {σ : L2.St} {env : Fm} (i : Nat) (h : FmSt K B F H σ env) : ∃ F', FmSt K B F' H σ (frzS i env) := by
  unfold frzS
  split
  · rename_i l e
    obtain ⟨a, xs, es, ha, hf, r⟩ := h.1.at' i _ e
    have hil : i < env.length := (List.getElem?_eq_some_iff.mp e).1
    have hz : B.H0 a = none := h.2.2 i _ a e rfl es
    have st := h.2.1.1.freeze hz ha hf
    refine ⟨upd F a (.lst xs), ⟨st.s2, by rw [List.length_set]; exact h.1.len, fun j s e2 => ?_, fun j k s t b ej ek os ot hj hk => ?_⟩, ⟨st, h.2.1.2.trans (same_frz hf)⟩, fun j s b e2 o e3 => ?_⟩
    · by_cases c : i = j
      · subst c
        rw [List.getElem?_set_self hil] at e2
        cases e2
        exact ⟨.ref a, es, by simp only [Rep]; exact ⟨a, xs, rfl, upd_same, r.mono (same_frz hf)⟩⟩
      · rw [List.getElem?_set_ne c] at e2
        have q := h.1.at' j s e2
        cases s with
        | un => trivial
        | pv d => obtain ⟨x, e3, r3⟩ := q; exact ⟨x, e3, r3.mono (same_frz hf)⟩
        | own n =>
          obtain ⟨b, zs, e1, h1, n1, r1⟩ := q
          have nb : b ≠ a := fun z => by
            subst z
            exact c (h.1.one i j _ _ b e e2 rfl rfl es e1)
          exact ⟨b, zs, e1, h1, by rw [upd_ne nb]; exact n1, r1.mono (same_frz hf)⟩
    · have nj : i ≠ j := fun z => by subst z; rw [List.getElem?_set_self hil] at ej; cases ej; cases os
      have nk : i ≠ k := fun z => by subst z; rw [List.getElem?_set_self hil] at ek; cases ek; cases ot
      rw [List.getElem?_set_ne nj] at ej
      rw [List.getElem?_set_ne nk] at ek
      exact h.1.one j k s t b ej ek os ot hj hk
    · have nj : i ≠ j := fun z => by subst z; rw [List.getElem?_set_self hil] at e2; cases e2; cases o
      rw [List.getElem?_set_ne nj] at e2
      exact h.2.2 j s b e2 o e3
  · exact ⟨F, h⟩
/-- an expression in a statement -/
theorem GXs {K : PySem.W.Frag} {mg : Str → Option Value} {F H : Hp} {σ : L2.St} {env : Fm} {D : Ends} {e : Ex} (fs : FmSt K B F H σ env) (p : SPs K mg W B D (.ex e env)) : GX K mg F H σ W e := fun c dd F' H' st r => p c dd σ F' H' (fs.step st) r

theorem s_cons {st : Stmt} {rest : List Stmt} {a b : Fm → RS} (h1 : PS X st (xS X W a)) (h2 : PSs X rest (xS X W b)) : PSs X (st :: rest) (xS X W (dSeq a b)) := PSs.imp (pss_cons h1 h2) fun D σ H ⟨B, F, env, fs, p⟩ => by
  refine ⟨B, F, env, fs, ?_⟩
  unfold dSeq at p
  cases q : a env with
  | nx e => rw [q] at p; exact fun σ' F' H' fs' => ⟨B, F', e, fs', p⟩
  | rt v => rw [q] at p; exact p
  | rf v => rw [q] at p; exact p
  | bk v => rw [q] at p; exact p
  | ct v => rw [q] at p; exact p
  | ex v w => rw [q] at p; exact p
  | bad => rw [q] at p; exact p
theorem s_one {st : Stmt} {a : Fm → RS} (h1 : PS X st (xS X W a)) : PSs X [st] (xS X W a) := pss_one h1
theorem s_nil : PSs X [] (xS X W dSkip) := PSs.imp pss_nil fun D σ H ⟨B, F, env, fs, p⟩ => p σ F H fs
theorem s_frz {sts : List Stmt} {d : Fm → RS} (i : Nat) (h : PSs X sts (xS X W d)) : PSs X sts (xS X W (dFrz i d)) := PSs.imp h fun D σ H ⟨B, F, env, fs, p⟩ => by
  obtain ⟨F', fs'⟩ := fs.frz i
  exact ⟨B, F', _, fs', p⟩
theorem go_set {i : Nat} {d : Fm → R PV} {D : Ends} {σ : L2.St} {H : Hp} (h : xS X W (dSet i d) D σ H) : xV X W d σ H fun x H1 => D.nx (σ.set i (some x)) H1 := by
  obtain ⟨B, F, env, fs, p⟩ := h
  refine ⟨F, env, fs.1, ?_⟩
  unfold dSet at p
  cases q : d env with
  | ok v =>
    rw [q] at p
    simp only at p
    split at p
    · rename_i hi
      exact fun x F' H' st r => p _ F' H' ((fs.step st).setPv hi r)
    · exact p.elim
  | ex e => rw [q] at p; exact GXs fs p
  | bad => rw [q] at p; exact p
theorem go_setF {i : Nat} {d : Fm → R (List PV)} {D : Ends} {σ : L2.St} {H : Hp} (h : xS X W (dSetF i d) D σ H) : xF X W d σ H fun x H1 => D.nx (σ.set i (some x)) H1 := by
  obtain ⟨B, F, env, fs, p⟩ := h
  refine ⟨F, env, fs.1, ?_⟩
  unfold dSetF at p
  cases q : d env with
  | ok v =>
    rw [q] at p
    simp only at p
    split at p
    · rename_i hi
      exact fun a xs F' H' st hn hf ha r => p _ F' H' (fs.setOwn st hi hn ha hf r)
    · exact p.elim
  | ex e => rw [q] at p; exact GXs fs p
  | bad => rw [q] at p; exact p
theorem s_set {i : Nat} {x : Str} {e : Expr} {d : Fm → R PV} {pos pos' : Pos} (hN : X.N.Nodup) (he : PE X e (xV X W d)) (hi : X.N[i]? = some x := by rfl) (hx : Loc X.env.scope x := by first | exact Or.inl rfl | exact Or.inr rfl) (hs : swapsWith e (some (.Name x pos')) pos.line X.env = pure false := by rfl)
    (hf : X.fn x = true ∨ X.env.scope.names.lookup x = some .local := by first | exact .inl rfl | exact .inr rfl | assumption) : PS X (.Assign [.Name x pos'] e pos) (xS X W (dSet i d)) := PS.imp (ps_set hN hi hx he hs hf) fun D σ H h => go_set h
theorem s_setF {i : Nat} {x : Str} {e : Expr} {d : Fm → R (List PV)} {pos pos' : Pos} (hN : X.N.Nodup) (he : PE X e (xF X W d)) (hi : X.N[i]? = some x := by rfl) (hx : Loc X.env.scope x := by first | exact Or.inl rfl | exact Or.inr rfl) (hs : swapsWith e (some (.Name x pos')) pos.line X.env = pure false := by rfl)
    (hf : X.fn x = true ∨ X.env.scope.names.lookup x = some .local := by first | exact .inl rfl | exact .inr rfl | assumption) : PS X (.Assign [.Name x pos'] e pos) (xS X W (dSetF i d)) := PS.imp (ps_set hN hi hx he hs hf) fun D σ H h => go_setF h
/-- name = [..] on one line -/
theorem s_setLc {i : Nat} {y : Str} {py : Pos} {elt tg iter : Expr} {ifs : List Expr} {scope : Scope} {pos spos : Pos} {g : TG} {t : Tgt} {js vs : List Nat} {tt : Fm → R Bool} {te : Fm → R PV} {src : Fm → R (List PV)} (own : List (Str × Nat)) (hvs : own.map (·.2) = vs) (hc : X.calm = true) (hN : X.N.Nodup) (hy : X.N[i]? = some y) (hyl : X.env.scope.names.lookup y = some .local)
    (hsw : swapsWith (.ListComp elt [⟨tg, iter, ifs, 0⟩] scope pos) (some (.Name y py)) spos.line X.env = pure true) (hi : PI X tg iter (xIR X W src)) (ok : BlkOk X.N X.env.scope scope own)
    (hg : ∀ (s : Shared) (H : Hp) (C : Addr) (cl : List (Str × Addr)) (fp : List Addr), PG (X.blk s H scope (compEnvC scope cl C X.env) fp) tg g) (tS : TgS X.K g t js) (hjs : ∀ j ∈ js, j ∈ vs)
    (ht : ∀ (s : Shared) (H : Hp) (C : Addr) (cl : List (Str × Addr)) (fp : List Addr), PTs (X.blk s H scope (compEnvC scope cl C X.env) fp) ifs (xT (X.blk s H scope (compEnvC scope cl C X.env) fp) WF tt))
    (he : ∀ (s : Shared) (H : Hp) (C : Addr) (cl : List (Str × Addr)) (fp : List Addr), PE (X.blk s H scope (compEnvC scope cl C X.env) fp) elt (xV (X.blk s H scope (compEnvC scope cl C X.env) fp) WF te)) (hs : ∀ x, foldedSetIterable iter X.env x = pure x := by intro _; rfl) :
    PS X (.Assign [.Name y py] (.ListComp elt [⟨tg, iter, ifs, 0⟩] scope pos) spos) (xS X W (dSetF i (dLc vs t tt te src))) := by
  subst hvs
  exact PS.imp (ps_setLc hc hN hy hyl hsw hi ok hg ht he hs) fun D σ H h => lc_go tS hjs (go_setF h)
theorem s_ret {e : Expr} {d : Fm → R PV} {pos : Pos} (he : PE X e (xV X W d)) : PS X (.Return (some e) pos) (xS X W (dRet d)) := PS.imp (ps_ret he) fun D σ H ⟨B, F, env, fs, p⟩ => by
  refine ⟨F, env, fs.1, ?_⟩
  unfold dRet at p
  cases q : d env with
  | ok v => rw [q] at p; exact fun x F' H' st r => p x F' H' (fs.2.1.1.trans st) r
  | ex e => rw [q] at p; exact GXs fs p
  | bad => rw [q] at p; exact p
theorem s_retF {e : Expr} {d : Fm → R (List PV)} {pos : Pos} (he : PE X e (xF X W d)) : PS X (.Return (some e) pos) (xS X W (dRetF d)) := PS.imp (ps_ret he) fun D σ H ⟨B, F, env, fs, p⟩ => by
  refine ⟨F, env, fs.1, ?_⟩
  unfold dRetF at p
  cases q : d env with
  | ok v => rw [q] at p; exact fun a xs F' H' st hn hf ha r => p a xs F' H' (fs.2.1.1.trans st) (fs.2.1.1.back hn) hf ha r
  | ex e => rw [q] at p; exact GXs fs p
  | bad => rw [q] at p; exact p
theorem s_retO {e : Expr} {pos : Pos} (i : Nat) (he : PE X e (tVar i)) : PS X (.Return (some e) pos) (xS X W (dRetO i)) := PS.imp (ps_ret he) fun D σ H ⟨B, F, env, fs, p⟩ => by
  unfold dRetO at p
  split at p
  · rename_i l e
    obtain ⟨a, xs, es, ha, hf, r⟩ := fs.1.at' i _ e
    exact ⟨.ref a, es, p a xs F H fs.2.1.1 (fs.2.2 i _ a e rfl es) hf ha r⟩
  · exact p.elim
theorem s_if {c : Expr} {a b : List Stmt} {dc : Fm → R Bool} {da db : Fm → RS} {pos : Pos} (hc : PT X c (xT X W dc)) (ha : PSs X a (xS X W da)) (hb : PSs X b (xS X W db)) : PS X (.If c a b pos) (xS X W (dIfS dc da db)) := PS.imp (ps_if hc ha hb) fun D σ H ⟨B, F, env, fs, p⟩ => by
  refine ⟨F, env, fs.1, ?_⟩
  unfold dIfS at p
  cases q : dc env with
  | ok k =>
    rw [q] at p
    intro F' H' st
    cases k with
    | true => rw [if_pos rfl]; exact ⟨B, F', env, fs.step st, p⟩
    | false => rw [if_neg Bool.false_ne_true]; exact ⟨B, F', env, fs.step st, p⟩
  | ex e => rw [q] at p; exact GXs fs p
  | bad => rw [q] at p; exact p
theorem s_expr {e : Expr} {d : Fm → R PV} {pos : Pos} (he : PE X e (xV X W d)) (hs : swapsWith e none pos.line X.env = pure false := by rfl) : PS X (.Expr e pos) (xS X W (dExpr d)) := PS.imp (ps_expr he hs) fun D σ H ⟨B, F, env, fs, p⟩ => by
  refine ⟨F, env, fs.1, ?_⟩
  unfold dExpr at p
  cases q : d env with
  | ok v => rw [q] at p; exact fun x F' H' st r => p σ F' H' (fs.step st)
  | ex e => rw [q] at p; exact GXs fs p
  | bad => rw [q] at p; exact p
theorem s_never {st : Stmt} : PS X st (xS X W fun _ => .bad) := PS.imp ps_never fun D σ H ⟨B, F, env, fs, p⟩ => p
theorem s_app {o e : Expr} {d : Fm → R PV} {apos cpos pos : Pos} (i : Nat) (ho : PE X o (tVar i)) (he : PE X e (xV X W d)) (hbase : attributeBase o "append" X.env (eval o X.env) = eval o X.env := by rfl)
    (hfew : ((backTo cpos (starEach [e] X.env)).all (fun x => !x.1) && (backToKw cpos (keywordEach [] X.env)).all (fun x => x.1.isSome) && decide ([e].length + ([] : List Keyword).length + (if ([] : List Keyword).isEmpty then 0 else 1) < 30)) = true := by rfl)
    (hline : (apos.endLine == cpos.line) = true := by rfl) (hs : starEach [e] X.env = (false, eval e X.env) :: starEach [] X.env := by rfl) (hplain : (backTo cpos (starEach [] X.env)).any (·.1) = false := by rfl)
    (hsw : swapsWith (.Call (.Attribute o "append" apos) [e] [] cpos) none pos.line X.env = pure false := by rfl) :
    PS X (.Expr (.Call (.Attribute o "append" apos) [e] [] cpos) pos) (xS X W (dApp i d)) :=
  PS.imp (ps_expr (pe_bm PySem.F.plainAttrs_list PySem.F.slot_list_append PySem.F.type_list_append mt_append ho (pa_cons he pa_nil hs) hbase hfew hline hs hplain) hsw) fun D σ H ⟨B, F, env, fs, p⟩ => by
    unfold dApp at p
    split at p
    · rename_i l e
      obtain ⟨a, xs, es, ha, hf, r⟩ := fs.1.at' i _ e
      refine ⟨.ref a, es, .inl ⟨rfl, _, SqL.of ha⟩, F, env, fs.1, ?_⟩
      cases q : d env with
      | ok v =>
        rw [q] at p
        simp only at p
        split at p
        · rename_i hz
          intro y F' H' st ry
          obtain ⟨ha', hf'⟩ := st.keep a _ ha hf
          exact ⟨a, xs, y, rfl, rfl, ha', by rw [r.len]; exact hz, p σ F' _ ((fs.step st).grow e es ha' hf' ((r.mono st.s1).app (.one ry)))⟩
        · exact p.elim
      | ex e => rw [q] at p; exact GXs fs p
      | bad => rw [q] at p; exact p
    · exact p.elim
theorem s_ext {o e : Expr} {d : Fm → R PV} {apos cpos pos : Pos} (i : Nat) (ho : PE X o (tVar i)) (he : PE X e (xV X W d)) (hbase : attributeBase o "extend" X.env (eval o X.env) = eval o X.env := by rfl)
    (hfew : ((backTo cpos (starEach [e] X.env)).all (fun x => !x.1) && (backToKw cpos (keywordEach [] X.env)).all (fun x => x.1.isSome) && decide ([e].length + ([] : List Keyword).length + (if ([] : List Keyword).isEmpty then 0 else 1) < 30)) = true := by rfl)
    (hline : (apos.endLine == cpos.line) = true := by rfl) (hs : starEach [e] X.env = (false, eval e X.env) :: starEach [] X.env := by rfl) (hplain : (backTo cpos (starEach [] X.env)).any (·.1) = false := by rfl)
    (hsw : swapsWith (.Call (.Attribute o "extend" apos) [e] [] cpos) none pos.line X.env = pure false := by rfl) :
    PS X (.Expr (.Call (.Attribute o "extend" apos) [e] [] cpos) pos) (xS X W (dExt i d)) :=
  PS.imp (ps_expr (pe_bm PySem.F.plainAttrs_list PySem.F.slot_list_extend PySem.F.type_list_extend mt_extend ho (pa_cons he pa_nil hs) hbase hfew hline hs hplain) hsw) fun D σ H ⟨B, F, env, fs, p⟩ => by
    unfold dExt at p
    split at p
    · rename_i l e
      obtain ⟨a, xs, es, ha, hf, r⟩ := fs.1.at' i _ e
      refine ⟨.ref a, es, .inl ⟨rfl, _, SqL.of ha⟩, F, env, fs.1, ?_⟩
      cases q : d env with
      | ok v =>
        rw [q] at p
        cases v with
        | lst m =>
          simp only at p
          split at p
          · rename_i hz
            intro y F' H' st ry
            simp only [Rep] at ry
            obtain ⟨b, ys, rfl, hb, rb⟩ := ry
            obtain ⟨ha', hf'⟩ := st.keep a _ ha hf
            exact ⟨a, b, xs, ys, rfl, rfl, ha', st.s2 _ _ hb, by rw [r.len, rb.len]; exact hz, p σ F' _ ((fs.step st).grow e es ha' hf' ((r.mono st.s1).app rb))⟩
          · exact p.elim
        | non => exact p.elim
        | bl _ => exact p.elim
        | int _ => exact p.elim
        | str _ => exact p.elim
        | tup _ => exact p.elim
        | scr _ => exact p.elim
      | ex e => rw [q] at p; exact GXs fs p
      | bad => rw [q] at p; exact p
    · exact p.elim
theorem FmSt.base {K : PySem.W.Frag} {F H G : Hp} {σ : L2.St} {env : Fm} (h : FmSt K { B with Fb := G } F H σ env) (s : Same B.Fb G) : FmSt K B F H σ env := ⟨h.1, ⟨h.2.1.1, s.trans h.2.1.2⟩, h.2.2⟩
theorem s_for {tg iter : Expr} {body : List Stmt} {g : TG} {t : Tgt} {js : List Nat} {src : Fm → R (List PV)} {db : Fm → RS} {pos : Pos} (wp : List Nat) (hp : PassesOwn (model X.prog X.w) X.A X.env X.xe) (hc : X.calm = true) (hi : PI X tg iter (xI X W src)) (hg : PG X tg g) (tS' : TgS X.K g t js) (hb : PSs X body (xS X W db))
    (hs : ∀ x, foldedSetIterable iter X.env x = pure x := by intro _; rfl) : PS X (.For tg iter body [] pos) (xS X W (dFor src t db wp)) := PS.imp (ps_for hp hc hi hg hb hs) fun D σ H ⟨B, F, env, fs, p⟩ => by
  refine ⟨F, env, fs.1, ?_⟩
  unfold dFor at p
  cases q : src env with
  | ex e => rw [q] at p; exact GXs fs p
  | bad => rw [q] at p; exact p
  | ok ds =>
    rw [q] at p
    simp only at p
    intro J F1 H1 st1 wk
    have fs1 := fs.step st1
    have sB : Same B.Fb F1 := fs1.2.1.2
    refine ⟨fun i m σ' H' => m = ds.length - i ∧ i ≤ ds.length ∧ ∃ F' env', FmSt X.K { B with Fb := F1 } F' H' σ' env' ∧ SPs X.K X.mg W B D (forGo t db wp (ds.drop i) env'), ⟨ds.length, by simp, Nat.zero_le _, F1, _, FmSt.clr (B := { B with Fb := F1 }) ⟨fs1.1, ⟨fs1.2.1.1, Same.refl _⟩, fs1.2.2⟩ wp, p⟩, ?_⟩
    rintro i m σ' H' ⟨rfl, hi, F', env', fs', p'⟩
    obtain ⟨w1, w2⟩ := wk F' H' fs'.2.1.2 fs'.1.s0
    by_cases hlt : i < ds.length
    · obtain ⟨d, hd⟩ : ∃ d, ds[i]? = some d := ⟨_, List.getElem?_eq_getElem hlt⟩
      obtain ⟨go, yl⟩ := w1 i d hd
      have hdrop : ds.drop i = d :: ds.drop (i + 1) := by
        rw [List.drop_eq_getElem_cons hlt]
        rw [List.getElem?_eq_getElem hlt] at hd
        cases hd
        rfl
      rw [hdrop, forGo] at p'
      refine .inr ⟨go, fun σ2 H2 => ∃ F2 env2, FmSt X.K { B with Fb := F1 } F2 H2 σ2 env2 ∧ SPs X.K X.mg W B D (forGo t db wp (ds.drop (i + 1)) (clr env2 wp)), fun σ2 H2 ⟨F2, env2, f2, p2⟩ => ⟨ds.length - (i + 1), by omega, rfl, hlt, F2, _, f2.clr wp, p2⟩, fun x H2 hy => ?_⟩
      obtain ⟨F2, st2, rx⟩ := yl x H2 hy
      cases qt : t d env' with
      | none => rw [qt] at p'; exact p'.elim
      | some e1 =>
        rw [qt] at p'
        simp only at p'
        have f2 := fs'.step st2
        refine tS' F2 H2 σ' env' x d e1 _ f2.1 rx qt fun σ2 ok2 h1 h2 h3 h4 => ⟨{ B with Fb := F1 }, F2, e1, ⟨ok2, f2.2.1, fun j s a ej o ea => ?_⟩, ?_⟩
        · by_cases c : j ∈ js
          · rw [h3 j s c ej] at o; cases o
          · rw [h2 j c] at ej; rw [h1 j c] at ea; exact f2.2.2 j s a ej o ea
        · cases qb : db e1 with
          | nx e2 => rw [qb] at p'; exact fun σ3 F3 H3 f3 => ⟨F3, e2, f3, p'⟩
          | ct e2 => rw [qb] at p'; exact fun σ3 F3 H3 f3 => ⟨F3, e2, f3, p'⟩
          | bk e2 => rw [qb] at p'; exact fun σ3 F3 H3 f3 => p' σ3 F3 H3 ((f3.base sB).clr wp)
          | rt v => rw [qb] at p'; exact p'
          | rf v => rw [qb] at p'; exact p'
          | ex v w => rw [qb] at p'; exact fun c dd σ3 F3 H3 f3 r => p' c dd σ3 F3 H3 (f3.base sB) r
          | bad => rw [qb] at p'; exact p'
    · have e : i = ds.length := by omega
      subst e
      rw [List.drop_length, forGo] at p'
      exact .inl ⟨w2, p' σ' F' H' (fs'.base sB)⟩
theorem s_while {c : Expr} {body : List Stmt} {dc : Fm → R Bool} {db : Fm → RS} {pos : Pos} (m : Fm → Nat) (wp : List Nat) (hp : PassesOwn (model X.prog X.w) X.A X.env X.xe) (hc : PT X c (xT X W dc)) (hb : PSs X body (xS X W db)) : PS X (.While c body [] pos) (xS X W (dWhile m dc db wp)) :=
  PS.imp (ps_while hp hc hb) fun D σ H ⟨B, F, env, fs, p⟩ => by
    refine ⟨fun n σ' H' => ∃ F' env', FmSt X.K B F' H' σ' env' ∧ SPs X.K X.mg W B D (whGo dc db wp n env'), ⟨m env, F, _, fs.clr wp, p⟩, ?_⟩
    rintro n σ' H' ⟨F', env', fs', p'⟩
    cases n with
    | zero => exact p'.elim
    | succ n =>
      rw [whGo] at p'
      refine ⟨F', env', fs'.1, ?_⟩
      cases q : dc env' with
      | ex e => rw [q] at p'; exact GXs fs' p'
      | bad => rw [q] at p'; exact p'
      | ok k =>
        rw [q] at p'
        intro F2 H2 st
        have f2 := fs'.step st
        cases k with
        | false => rw [if_neg Bool.false_ne_true]; exact p' σ' F2 H2 f2
        | true =>
          rw [if_pos rfl]
          simp only at p'
          refine ⟨fun σ2 H2 => ∃ F2 env2, FmSt X.K B F2 H2 σ2 env2 ∧ SPs X.K X.mg W B D (whGo dc db wp n (clr env2 wp)), fun σ2 H2 ⟨F2, env2, f2, p2⟩ => ⟨n, Nat.lt_succ_self n, F2, _, f2.clr wp, p2⟩, B, F2, env', f2, ?_⟩
          cases qb : db env' with
          | nx e2 => rw [qb] at p'; exact fun σ3 F3 H3 f3 => ⟨F3, e2, f3, p'⟩
          | ct e2 => rw [qb] at p'; exact fun σ3 F3 H3 f3 => ⟨F3, e2, f3, p'⟩
          | bk e2 => rw [qb] at p'; exact fun σ3 F3 H3 f3 => p' σ3 F3 H3 (f3.clr wp)
          | rt v => rw [qb] at p'; exact p'
          | rf v => rw [qb] at p'; exact p'
          | ex v w => rw [qb] at p'; exact p'
          | bad => rw [qb] at p'; exact p'

/-! ### defs -/
def spV (K : PySem.W.Frag) (mg : Str → Option Value) (f : List PV → R PV) : Sp := fun vs H Q E => ∃ F ds, Same F H ∧ RepL K F ds vs ∧ RP (f ds) (GV K F H Q) (fun e => ∀ cls dd F' H', Step F H F' H' → RepX K mg F' e cls dd → E cls dd H')
def spF (K : PySem.W.Frag) (mg : Str → Option Value) (f : List PV → R (List PV)) : Sp := fun vs H Q E => ∃ F ds, Same F H ∧ RepL K F ds vs ∧ RP (f ds) (GF K F H Q) (fun e => ∀ cls dd F' H', Step F H F' H' → RepX K mg F' e cls dd → E cls dd H')
def fm0 (n : Nat) (ds : List PV) : Fm := ds.map .pv ++ List.replicate (n - ds.length) .un
def toV : RS → R PV
  | .nx _ => .ok .non
  | .rt v => .ok v
  | .ex e _ => .ex e
  | _ => .bad
def toF : RS → R (List PV)
  | .rf l => .ok l
  | .ex e _ => .ex e
  | _ => .bad
theorem fm0_at {n : Nat} {ds : List PV} {i : Nat} {s : Slot} (h : (fm0 n ds)[i]? = some s) : s = .un ∨ ∃ d, ds[i]? = some d ∧ s = .pv d := by
  unfold fm0 at h
  by_cases c : i < ds.length
  · rw [List.getElem?_append_left (by rw [List.length_map]; exact c), List.getElem?_map] at h
    cases q : ds[i]? with
    | none => rw [q] at h; cases h
    | some d => rw [q] at h; cases h; exact .inr ⟨d, rfl, rfl⟩
  · rw [List.getElem?_append_right (by rw [List.length_map]; omega)] at h
    have := List.mem_of_getElem? h
    exact .inl (List.eq_of_mem_replicate this)
theorem fmSt0 {K : PySem.W.Frag} {F H : Hp} {N : List Str} {ds : List PV} {vs : List V} (s : Same F H) (r : RepL K F ds vs) : FmSt K ⟨F, F, H⟩ F H (start N vs) (fm0 N.length ds) := by
  refine ⟨⟨s, ?_, fun i s' e => ?_, fun i j s' t a ei ej oi oj _ _ => ?_⟩, ⟨Step.refl s, Same.refl _⟩, fun i s' a e o _ => ?_⟩
  · unfold fm0 L2.start
    simp only [List.length_append, List.length_map, List.length_replicate, r.len]
  · rcases fm0_at e with z | ⟨d, h1, h2⟩
    · subst z; trivial
    · subst h2
      obtain ⟨x, ex, rx⟩ := r.get' h1
      refine ⟨x, ?_, rx⟩
      unfold L2.start
      have hi : i < vs.length := (List.getElem?_eq_some_iff.mp ex).1
      rw [List.getElem?_append_left (by rw [List.length_map]; exact hi), List.getElem?_map, ex]
      rfl
  · rcases fm0_at ei with z | ⟨d, h1, h2⟩
    · subst z; cases oi
    · subst h2; cases oi
  · rcases fm0_at e with z | ⟨d, h1, h2⟩
    · subst z; cases o
    · subst h2; cases o
end
section
variable {P : Program} {w : World} {K : PySem.W.Frag} {mg : Str → Option Value} {base : Heap}
abbrev cxX (P : Program) (w : World) (K : PySem.W.Frag) (mg : Str → Option Value) (base : Heap) (N : List Str) (qual : Str) (st : Stmt) (f : Addr) (cdv : Value) (A : Around) (outer : List Env) (s : Shared) (H : Hp) (E : XK) : Cx := cxOf (L2.CX P w) P w K mg base N qual (defScope st) f cdv A outer s H E
abbrev wE (E : XK) : WX := fun c d _ H => E c d H
theorem fn_V {x qual : Str} {st : Stmt} {f : Addr} {fd : FuncData} {N ps : List Str} {k : Nat} {g : List PV → R PV} {d : Fm → RS} (Fn : Fun K x qual st f fd) (S : FnScope N ps (defScope st)) (hl : ∀ ds, g ds ≠ .bad → ds.length = ps.length)
    (hd : ∀ ds, g ds ≠ .bad → toV (d (fm0 N.length ds)) = g ds)
    (body : ∀ (cdv : Value) (A : Around) (outer : List Env) (s : Shared) (H : Hp) (E : XK), Room k (A.deeper (envOfC qual (defScope st) s.heap.objs.size f cdv)) → PSs (cxX P w K mg base N qual st f cdv A outer s H E) (defBody st) (xS (cxX P w K mg base N qual st f cdv A outer s H E) (wE E) d)) :
    FnOk P w K mg base (L2.CX P w) (k + 1) f fd ps (spV K mg g) := by
  have nb : ∀ {ds : List PV} {A : PV → Prop} {Bx : Ex → Prop}, RP (g ds) A Bx → g ds ≠ .bad := fun {ds A Bx} p z => by rw [z] at p; exact p
  refine Fn.okX S (fun vs H Q E h => ?_) (fun cdv A outer s H vs Q E hr h => ⟨_, body cdv A outer s H E hr, ?_⟩)
  · obtain ⟨F, ds, s0, r, p⟩ := h
    rw [r.len]
    exact hl ds (nb p)
  · obtain ⟨F, ds, s0, r, p⟩ := h
    refine ⟨⟨F, F, H⟩, F, fm0 N.length ds, fmSt0 s0 r, ?_⟩
    have e := hd ds (nb p)
    cases q : d (fm0 N.length ds) with
    | nx e' =>
      rw [q] at e
      have e2 : g ds = .ok .non := e.symm
      rw [e2] at p
      exact fun σ' F' H' fs => p .non F' H' fs.2.1.1 (by simp only [Rep])
    | rt v =>
      rw [q] at e
      have e2 : g ds = .ok v := e.symm
      rw [e2] at p
      exact fun y F' H' st r => p y F' H' st r
    | rf v =>
      rw [q] at e
      have e2 : g ds = .bad := e.symm
      rw [e2] at p
      exact p.elim
    | bk v =>
      rw [q] at e
      have e2 : g ds = .bad := e.symm
      rw [e2] at p
      exact p.elim
    | ct v =>
      rw [q] at e
      have e2 : g ds = .bad := e.symm
      rw [e2] at p
      exact p.elim
    | ex v w' =>
      rw [q] at e
      have e2 : g ds = .ex v := e.symm
      rw [e2] at p
      exact fun c dd σ' F' H' fs r => p c dd F' H' fs.2.1.1 r
    | bad =>
      rw [q] at e
      have e2 : g ds = .bad := e.symm
      rw [e2] at p
      exact p.elim
theorem fn_F {x qual : Str} {st : Stmt} {f : Addr} {fd : FuncData} {N ps : List Str} {k : Nat} {g : List PV → R (List PV)} {d : Fm → RS} (Fn : Fun K x qual st f fd) (S : FnScope N ps (defScope st)) (hl : ∀ ds, g ds ≠ .bad → ds.length = ps.length)
    (hd : ∀ ds, g ds ≠ .bad → toF (d (fm0 N.length ds)) = g ds)
    (body : ∀ (cdv : Value) (A : Around) (outer : List Env) (s : Shared) (H : Hp) (E : XK), Room k (A.deeper (envOfC qual (defScope st) s.heap.objs.size f cdv)) → PSs (cxX P w K mg base N qual st f cdv A outer s H E) (defBody st) (xS (cxX P w K mg base N qual st f cdv A outer s H E) (wE E) d)) :
    FnOk P w K mg base (L2.CX P w) (k + 1) f fd ps (spF K mg g) := by
  have nb : ∀ {ds : List PV} {A : List PV → Prop} {Bx : Ex → Prop}, RP (g ds) A Bx → g ds ≠ .bad := fun {ds A Bx} p z => by rw [z] at p; exact p
  refine Fn.okX S (fun vs H Q E h => ?_) (fun cdv A outer s H vs Q E hr h => ⟨_, body cdv A outer s H E hr, ?_⟩)
  · obtain ⟨F, ds, s0, r, p⟩ := h
    rw [r.len]
    exact hl ds (nb p)
  · obtain ⟨F, ds, s0, r, p⟩ := h
    refine ⟨⟨F, F, H⟩, F, fm0 N.length ds, fmSt0 s0 r, ?_⟩
    have e := hd ds (nb p)
    cases q : d (fm0 N.length ds) with
    | rf v =>
      rw [q] at e
      have e2 : g ds = .ok v := e.symm
      rw [e2] at p
      exact fun a xs F' H' st hn hf ha r => p a xs F' H' st hn hf ha r
    | ex v w' =>
      rw [q] at e
      have e2 : g ds = .ex v := e.symm
      rw [e2] at p
      exact fun c dd σ' F' H' fs r => p c dd F' H' fs.2.1.1 r
    | nx v =>
      rw [q] at e
      have e2 : g ds = .bad := e.symm
      rw [e2] at p
      exact p.elim
    | rt v =>
      rw [q] at e
      have e2 : g ds = .bad := e.symm
      rw [e2] at p
      exact p.elim
    | bk v =>
      rw [q] at e
      have e2 : g ds = .bad := e.symm
      rw [e2] at p
      exact p.elim
    | ct v =>
      rw [q] at e
      have e2 : g ds = .bad := e.symm
      rw [e2] at p
      exact p.elim
    | bad =>
      rw [q] at e
      have e2 : g ds = .bad := e.symm
      rw [e2] at p
      exact p.elim
end
/-! ### calls -/
/-- a def that may be called by its name -/
structure CaV (P : Program) (w : World) (K : PySem.W.Frag) (mg : Str → Option Value) (base : Heap) (k : Nat) (x : Str) (g : List PV → R PV) : Prop where
  ex : ∃ f fd ps, FnOk P w K mg base (L2.CX P w) k f fd ps (spV K mg g) ∧ mg x = some (.ref f) ∧ PySem.W.keepIn K (.ref f) = true ∧ Binds K fd ps []
structure CaF (P : Program) (w : World) (K : PySem.W.Frag) (mg : Str → Option Value) (base : Heap) (k : Nat) (x : Str) (g : List PV → R (List PV)) : Prop where
  ex : ∃ f fd ps, FnOk P w K mg base (L2.CX P w) k f fd ps (spF K mg g) ∧ mg x = some (.ref f) ∧ PySem.W.keepIn K (.ref f) = true ∧ Binds K fd ps []
section
variable {X : Cx} {W : WX} {k j : Nat} {x : Str} {p pos : Pos} {e : Expr} {es : List Expr} {d : Fm → R (List PV)}
theorem go_call {α : Type} {G : Hp → Hp → VK → α → Prop} {g : List PV → R α} {σ : L2.St} {H : Hp} {Q : VK} {K : PySem.W.Frag} {mg : Str → Option Value} (sG : Stays G) (h : tG K mg W G (dCall g d) σ H Q) :
    tAG K mg W (GVL K) d σ H fun vs H1 => ∃ F ds, Same F H1 ∧ RepL K F ds vs ∧ RP (g ds) (G F H1 Q) (fun e => ∀ cls dd F' H', Step F H1 F' H' → RepX K mg F' e cls dd → W cls dd σ H') :=
  seqV sG h fun F H xs ds s r p => ⟨F, ds, s, r, p⟩
theorem v_call {g : List PV → R PV} (c : CaV X.prog X.w X.K X.mg X.base k x g) (tk : Takes X W) (hr : Room j X.A) (ha : PA X (e :: es) (xVL X W d)) (hk : k ≤ j := by omega) (hg : Gl X x := by rfl) (hdb : (x == ("__debug__" : Str)) = false := by decide)
    (he : starEach (e :: es) X.env = (false, eval e X.env) :: starEach es X.env := by rfl) (hpl : (backTo pos (starEach es X.env)).any (·.1) = false := by rfl) : PE X (.Call (.Name x p) (e :: es) [] pos) (xV X W (dCall g d)) := by
  obtain ⟨f, fd, ps, F, m, kp, b⟩ := c.ex
  exact PE.imp (pe_callS F (hr.mono hk) hg m kp b (fun σ => passAt tk σ) ha hdb he hpl) fun σ H Q h => go_call stGV h
theorem f_call {g : List PV → R (List PV)} (c : CaF X.prog X.w X.K X.mg X.base k x g) (tk : Takes X W) (hr : Room j X.A) (ha : PA X (e :: es) (xVL X W d)) (hk : k ≤ j := by omega) (hg : Gl X x := by rfl) (hdb : (x == ("__debug__" : Str)) = false := by decide)
    (he : starEach (e :: es) X.env = (false, eval e X.env) :: starEach es X.env := by rfl) (hpl : (backTo pos (starEach es X.env)).any (·.1) = false := by rfl) : PE X (.Call (.Name x p) (e :: es) [] pos) (xF X W (dCall g d)) := by
  obtain ⟨f, fd, ps, F, m, kp, b⟩ := c.ex
  exact PE.imp (pe_callS F (hr.mono hk) hg m kp b (fun σ => passAt tk σ) ha hdb he hpl) fun σ H Q h => go_call stGF h
theorem go_call0 {α : Type} {G : Hp → Hp → VK → α → Prop} {g : List PV → R α} {σ : L2.St} {H : Hp} {Q : VK} {K : PySem.W.Frag} {mg : Str → Option Value} (h : tG K mg W G (dCall g dNil) σ H Q) :
    ∃ F ds, Same F H ∧ RepL K F ds [] ∧ RP (g ds) (G F H Q) (fun e => ∀ cls dd F' H', Step F H F' H' → RepX K mg F' e cls dd → W cls dd σ H') := by
  obtain ⟨F, env, ok, p⟩ := h
  exact ⟨F, [], ok.s0, .nil, p⟩
theorem pe_callS0 {CX : CXT} {f : Addr} {fd : FuncData} {ps : List Str} {sp : Sp} {E : L2.St → XK} (F : FnOk X.prog X.w X.K X.mg X.base CX k f fd ps sp) (hr : Room k X.A) (hg : Gl X x) (hm : X.mg x = some (.ref f)) (hk : PySem.W.keepIn X.K (.ref f) = true) (hb : Binds X.K fd ps []) (hx : ∀ σ, PassesAt CX X σ (E σ))
    (hdb : (x == ("__debug__" : Str)) = false := by decide) : PE X (.Call (.Name x p) [] [] pos) (fun σ H Q => sp [] H Q (E σ)) := by
  refine ⟨fun pins s σ H Q I h => ?_⟩
  refine wpAny_Call_Name_kw (ld_glob I hg hm ?_ hdb)
  exact PySem.W.callWith_K0 I.kIn hk (run_fnS (us := []) F hr hb (hx σ) I .nil h)
theorem v_call0 {g : List PV → R PV} (c : CaV X.prog X.w X.K X.mg X.base k x g) (tk : Takes X W) (hr : Room j X.A) (hk : k ≤ j := by omega) (hg : Gl X x := by rfl) (hdb : (x == ("__debug__" : Str)) = false := by decide) : PE X (.Call (.Name x p) [] [] pos) (xV X W (dCall g dNil)) := by
  obtain ⟨f, fd, ps, F, m, kp, b⟩ := c.ex
  exact PE.imp (pe_callS0 F (hr.mono hk) hg m kp b (fun σ => passAt tk σ) hdb) fun σ H Q h => go_call0 h
theorem f_call0 {g : List PV → R (List PV)} (c : CaF X.prog X.w X.K X.mg X.base k x g) (tk : Takes X W) (hr : Room j X.A) (hk : k ≤ j := by omega) (hg : Gl X x := by rfl) (hdb : (x == ("__debug__" : Str)) = false := by decide) : PE X (.Call (.Name x p) [] [] pos) (xF X W (dCall g dNil)) := by
  obtain ⟨f, fd, ps, F, m, kp, b⟩ := c.ex
  exact PE.imp (pe_callS0 F (hr.mono hk) hg m kp b (fun σ => passAt tk σ) hdb) fun σ H Q h => go_call0 h
end
section
variable {P : Program} {w : World} {K : PySem.W.Frag} {mg : Str → Option Value} {base : Heap}
theorem fn_badV {k : Nat} {f : Addr} {fd : FuncData} (ps : List Str) : FnOk P w K mg base (L2.CX P w) k f fd ps (spV K mg fun _ => .bad) :=
  ⟨fun vs H Q E ⟨F, ds, _, _, p⟩ => p.elim, fun A outer s H args us vs Q E _ _ _ _ ⟨F, ds, _, _, p⟩ => p.elim⟩
theorem fn_badF {k : Nat} {f : Addr} {fd : FuncData} (ps : List Str) : FnOk P w K mg base (L2.CX P w) k f fd ps (spF K mg fun _ => .bad) :=
  ⟨fun vs H Q E ⟨F, ds, _, _, p⟩ => p.elim, fun A outer s H args us vs Q E _ _ _ _ ⟨F, ds, _, _, p⟩ => p.elim⟩
/-- the law's promise -/
def spLaw (K : PySem.W.Frag) : Sp := fun vs H Q _ => ∃ (a : Addr) (ns : List Int), vs = [.ref a] ∧ SqL K H a (ns.map V.int) ∧ ns.length ≤ 63 ∧ (∀ z ∈ ns, Builtin.Int.intBits z ≤ 1048576) ∧ ∀ H', Q (.bl true) H'
theorem spLaw_imp {g : List PV → R PV} (hp : ∀ ns : List Int, ns.length ≤ 63 → (∀ z ∈ ns, Builtin.Int.intBits z ≤ 1048576) → g [.scr ns] = .ok (.bl true)) {vs : List V} {H : Hp} {Q : VK} {E : XK} (h : spLaw K vs H Q E) : spV K mg g vs H Q E := by
  obtain ⟨a, ns, rfl, hS, hl, hb, q⟩ := h
  refine ⟨H, [.scr ns], Same.refl _, .one (by simp only [Rep]; exact ⟨a, rfl, hS⟩), ?_⟩
  rw [hp ns hl hb]
  intro x F' H' _ r
  simp only [Rep] at r
  subst r
  exact q H'
theorem cx_false {outer : List Env} {H : Hp} {s : Shared} {e : Value} {s' : Shared} (h : L2.CX P w outer H s (fun _ _ _ => False) e s') : False := by
  obtain ⟨_, _, _, _, _, _, _, _, _, _, _, _, z⟩ := h
  exact z
end
end Pv

set_option Elab.async false
set_option linter.all false
set_option maxRecDepth 100000
set_option maxHeartbeats 2000000
/-! PvF: how plain values are reckoned. -/
namespace Pv
open PySem PySem.Spec PyProof.Rows L2
@[simp] theorem isi_int_non : pIsi "int" .non = some (.bl false) := by
  show (kitB "NoneType" "int").map PV.bl = _
  rw [show kitB "NoneType" "int" = some false by decide +kernel]
  rfl
@[simp] theorem isi_int_bl (b : Bool) : pIsi "int" (.bl b) = some (.bl true) := by
  show (kitB "bool" "int").map PV.bl = _
  rw [show kitB "bool" "int" = some true by decide +kernel]
  rfl
@[simp] theorem isi_int_int (i : Int) : pIsi "int" (.int i) = some (.bl true) := by
  show (kitB "int" "int").map PV.bl = _
  rw [show kitB "int" "int" = some true by decide +kernel]
  rfl
@[simp] theorem isi_int_str (x : Str) : pIsi "int" (.str x) = some (.bl false) := by
  show (kitB "str" "int").map PV.bl = _
  rw [show kitB "str" "int" = some false by decide +kernel]
  rfl
@[simp] theorem isi_int_tup (l : List PV) : pIsi "int" (.tup l) = some (.bl false) := by
  show (kitB "tuple" "int").map PV.bl = _
  rw [show kitB "tuple" "int" = some false by decide +kernel]
  rfl
@[simp] theorem isi_int_lst (l : List PV) : pIsi "int" (.lst l) = some (.bl false) := by
  show (kitB "list" "int").map PV.bl = _
  rw [show kitB "list" "int" = some false by decide +kernel]
  rfl
@[simp] theorem isi_int_scr (l : List Int) : pIsi "int" (.scr l) = some (.bl false) := by
  show (kitB "list" "int").map PV.bl = _
  rw [show kitB "list" "int" = some false by decide +kernel]
  rfl
@[simp] theorem isi_str_non : pIsi "str" .non = some (.bl false) := by
  show (kitB "NoneType" "str").map PV.bl = _
  rw [show kitB "NoneType" "str" = some false by decide +kernel]
  rfl
@[simp] theorem isi_str_bl (b : Bool) : pIsi "str" (.bl b) = some (.bl false) := by
  show (kitB "bool" "str").map PV.bl = _
  rw [show kitB "bool" "str" = some false by decide +kernel]
  rfl
@[simp] theorem isi_str_int (i : Int) : pIsi "str" (.int i) = some (.bl false) := by
  show (kitB "int" "str").map PV.bl = _
  rw [show kitB "int" "str" = some false by decide +kernel]
  rfl
@[simp] theorem isi_str_str (x : Str) : pIsi "str" (.str x) = some (.bl true) := by
  show (kitB "str" "str").map PV.bl = _
  rw [show kitB "str" "str" = some true by decide +kernel]
  rfl
@[simp] theorem isi_str_tup (l : List PV) : pIsi "str" (.tup l) = some (.bl false) := by
  show (kitB "tuple" "str").map PV.bl = _
  rw [show kitB "tuple" "str" = some false by decide +kernel]
  rfl
@[simp] theorem isi_str_lst (l : List PV) : pIsi "str" (.lst l) = some (.bl false) := by
  show (kitB "list" "str").map PV.bl = _
  rw [show kitB "list" "str" = some false by decide +kernel]
  rfl
@[simp] theorem isi_str_scr (l : List Int) : pIsi "str" (.scr l) = some (.bl false) := by
  show (kitB "list" "str").map PV.bl = _
  rw [show kitB "list" "str" = some false by decide +kernel]
  rfl
@[simp] theorem isi_tuple_non : pIsi "tuple" .non = some (.bl false) := by
  show (kitB "NoneType" "tuple").map PV.bl = _
  rw [show kitB "NoneType" "tuple" = some false by decide +kernel]
  rfl
@[simp] theorem isi_tuple_bl (b : Bool) : pIsi "tuple" (.bl b) = some (.bl false) := by
  show (kitB "bool" "tuple").map PV.bl = _
  rw [show kitB "bool" "tuple" = some false by decide +kernel]
  rfl
@[simp] theorem isi_tuple_int (i : Int) : pIsi "tuple" (.int i) = some (.bl false) := by
  show (kitB "int" "tuple").map PV.bl = _
  rw [show kitB "int" "tuple" = some false by decide +kernel]
  rfl
@[simp] theorem isi_tuple_str (x : Str) : pIsi "tuple" (.str x) = some (.bl false) := by
  show (kitB "str" "tuple").map PV.bl = _
  rw [show kitB "str" "tuple" = some false by decide +kernel]
  rfl
@[simp] theorem isi_tuple_tup (l : List PV) : pIsi "tuple" (.tup l) = some (.bl true) := by
  show (kitB "tuple" "tuple").map PV.bl = _
  rw [show kitB "tuple" "tuple" = some true by decide +kernel]
  rfl
@[simp] theorem isi_tuple_lst (l : List PV) : pIsi "tuple" (.lst l) = some (.bl false) := by
  show (kitB "list" "tuple").map PV.bl = _
  rw [show kitB "list" "tuple" = some false by decide +kernel]
  rfl
@[simp] theorem isi_tuple_scr (l : List Int) : pIsi "tuple" (.scr l) = some (.bl false) := by
  show (kitB "list" "tuple").map PV.bl = _
  rw [show kitB "list" "tuple" = some false by decide +kernel]
  rfl
@[simp] theorem isi_list_non : pIsi "list" .non = some (.bl false) := by
  show (kitB "NoneType" "list").map PV.bl = _
  rw [show kitB "NoneType" "list" = some false by decide +kernel]
  rfl
@[simp] theorem isi_list_bl (b : Bool) : pIsi "list" (.bl b) = some (.bl false) := by
  show (kitB "bool" "list").map PV.bl = _
  rw [show kitB "bool" "list" = some false by decide +kernel]
  rfl
@[simp] theorem isi_list_int (i : Int) : pIsi "list" (.int i) = some (.bl false) := by
  show (kitB "int" "list").map PV.bl = _
  rw [show kitB "int" "list" = some false by decide +kernel]
  rfl
@[simp] theorem isi_list_str (x : Str) : pIsi "list" (.str x) = some (.bl false) := by
  show (kitB "str" "list").map PV.bl = _
  rw [show kitB "str" "list" = some false by decide +kernel]
  rfl
@[simp] theorem isi_list_tup (l : List PV) : pIsi "list" (.tup l) = some (.bl false) := by
  show (kitB "tuple" "list").map PV.bl = _
  rw [show kitB "tuple" "list" = some false by decide +kernel]
  rfl
@[simp] theorem isi_list_lst (l : List PV) : pIsi "list" (.lst l) = some (.bl true) := by
  show (kitB "list" "list").map PV.bl = _
  rw [show kitB "list" "list" = some true by decide +kernel]
  rfl
@[simp] theorem isi_list_scr (l : List Int) : pIsi "list" (.scr l) = some (.bl true) := by
  show (kitB "list" "list").map PV.bl = _
  rw [show kitB "list" "list" = some true by decide +kernel]
  rfl
@[simp] theorem isi_bool_non : pIsi "bool" .non = some (.bl false) := by
  show (kitB "NoneType" "bool").map PV.bl = _
  rw [show kitB "NoneType" "bool" = some false by decide +kernel]
  rfl
@[simp] theorem isi_bool_bl (b : Bool) : pIsi "bool" (.bl b) = some (.bl true) := by
  show (kitB "bool" "bool").map PV.bl = _
  rw [show kitB "bool" "bool" = some true by decide +kernel]
  rfl
@[simp] theorem isi_bool_int (i : Int) : pIsi "bool" (.int i) = some (.bl false) := by
  show (kitB "int" "bool").map PV.bl = _
  rw [show kitB "int" "bool" = some false by decide +kernel]
  rfl
@[simp] theorem isi_bool_str (x : Str) : pIsi "bool" (.str x) = some (.bl false) := by
  show (kitB "str" "bool").map PV.bl = _
  rw [show kitB "str" "bool" = some false by decide +kernel]
  rfl
@[simp] theorem isi_bool_tup (l : List PV) : pIsi "bool" (.tup l) = some (.bl false) := by
  show (kitB "tuple" "bool").map PV.bl = _
  rw [show kitB "tuple" "bool" = some false by decide +kernel]
  rfl
@[simp] theorem isi_bool_lst (l : List PV) : pIsi "bool" (.lst l) = some (.bl false) := by
  show (kitB "list" "bool").map PV.bl = _
  rw [show kitB "list" "bool" = some false by decide +kernel]
  rfl
@[simp] theorem isi_bool_scr (l : List Int) : pIsi "bool" (.scr l) = some (.bl false) := by
  show (kitB "list" "bool").map PV.bl = _
  rw [show kitB "list" "bool" = some false by decide +kernel]
  rfl
/-! ### texts -/
def mk (l : List Nat) : Str := ⟨l.toArray⟩
@[simp] theorem mk_len (l : List Nat) : (mk l).length = l.length := by simp [mk, Str.length]
@[simp] theorem mk_app (a b : List Nat) : mk a ++ mk b = mk (a ++ b) := by
  show Str.append (mk a) (mk b) = mk (a ++ b)
  simp [mk, Str.append]
@[simp] theorem mk_cps (l : List Nat) : (mk l).cps.toList = l := by simp [mk]
theorem mk_cpsA (l : List Nat) : (mk l).cps = l.toArray := rfl
theorem mk_inj {a b : List Nat} (h : mk a = mk b) : a = b := by
  have := congrArg (fun x : Str => x.cps.toList) h
  simpa using this
@[simp] theorem mk_beq (a b : List Nat) : (mk a == mk b) = decide (a = b) := by
  by_cases h : a = b
  · subst h; simp
  · rw [decide_eq_false h]
    exact beq_eq_false_iff_ne.mpr fun z => h (mk_inj z)
theorem mk_one (c : Nat) : (⟨#[c]⟩ : Str) = mk [c] := rfl
theorem mk_of (x : Str) : x = mk x.cps.toList := by
  cases x
  simp [mk]
/-! ### slices -/
theorem cutP_to {α : Type} (l : List α) (k : Nat) : cutP l none (some (k : Int)) = l.take k := by
  unfold cutP
  rw [HT.sIx_none, HT.sIx_nat, List.drop_zero, Nat.sub_zero]
  by_cases h : k ≤ l.length
  · rw [Nat.min_eq_left h]
  · rw [Nat.min_eq_right (by omega), List.take_of_length_le (Nat.le_refl _), List.take_of_length_le (by omega)]
theorem cutP_from {α : Type} (l : List α) (k : Nat) : cutP l (some (k : Int)) none = l.drop k := by
  unfold cutP
  rw [HT.sIx_none, HT.sIx_nat]
  by_cases h : k ≤ l.length
  · rw [Nat.min_eq_left h]
    exact List.take_of_length_le (by rw [List.length_drop]; omega)
  · rw [Nat.min_eq_right (by omega), List.drop_eq_nil_of_le (Nat.le_refl _), List.drop_eq_nil_of_le (by omega)]
    simp
theorem cutP_from1 {α : Type} (l : List α) (k : Nat) : cutP l (some ((k : Int) + 1)) none = l.drop (k + 1) := cutP_from l (k + 1)
theorem cutP_last {α : Type} (l : List α) : cutP l none (some (-1)) = l.take (l.length - 1) := by
  unfold cutP
  rw [HT.sIx_none, List.drop_zero, Nat.sub_zero]
  congr 1
  show (if (-1 : Int) < 0 then ((-1 : Int) + (l.length : Int)).toNat else min (-1 : Int).toNat l.length) = _
  rw [if_pos (by decide)]
  omega
theorem cutS_mk (l : List Nat) (lo hi : Option Int) : cutS (mk l) lo hi = mk (cutP l lo hi) := by
  unfold cutS cutP
  rw [mk_len, mk_cps]
  rfl
/-! ### places -/
theorem atI_in {α : Type} {l : List α} {k : Nat} (h : k < l.length) : L2.atI l (k : Int) = some l[k] := atI_nat (List.getElem?_eq_getElem h)
/-! ### comprehensions -/
theorem lc_map {i : Nat} {te : Fm → R PV} {env : Fm} {f : PV → PV} (hi : i < env.length) : ∀ {ds : List PV}, (∀ d ∈ ds, te (env.set i (.pv d)) = .ok (f d)) → lcGo (tgN i) dYes te env ds = .ok (ds.map f)
  | [], _ => rfl
  | d :: ds, h => by
    rw [lcGo]
    simp only [tgN, if_pos hi, dYes, R.bind_ok]
    rw [h d List.mem_cons_self, lc_map hi fun x hx => h x (List.mem_cons_of_mem _ hx)]
    rfl
theorem lc_filter {i : Nat} {tt : Fm → R Bool} {te : Fm → R PV} {env : Fm} {b : PV → Bool} {f : PV → PV} (hi : i < env.length) : ∀ {ds : List PV}, (∀ d ∈ ds, tt (env.set i (.pv d)) = .ok (b d)) → (∀ d ∈ ds, b d = true → te (env.set i (.pv d)) = .ok (f d)) → lcGo (tgN i) tt te env ds = .ok ((ds.filter b).map f)
  | [], _, _ => rfl
  | d :: ds, h, h2 => by
    rw [lcGo]
    simp only [tgN, if_pos hi]
    rw [h d List.mem_cons_self]
    have ih := lc_filter hi (fun x hx => h x (List.mem_cons_of_mem _ hx)) fun x hx => h2 x (List.mem_cons_of_mem _ hx)
    cases q : b d with
    | true =>
      simp only [R.bind_ok]
      rw [h2 d List.mem_cons_self q, ih, List.filter_cons_of_pos q]
      rfl
    | false =>
      simp only [R.bind_ok]
      rw [ih, List.filter_cons_of_neg (by rw [q]; decide)]
theorem dLc_map {vs : List Nat} {i : Nat} {te : Fm → R PV} {src : Fm → R (List PV)} {env : Fm} {ds : List PV} (f : PV → PV) (hs : src env = .ok ds) (hz : ds.length ≤ sizeLine) (hi : i < env.length) (h : ∀ d ∈ ds, te ((clr env vs).set i (.pv d)) = .ok (f d)) :
    dLc vs (tgN i) dYes te src env = .ok (ds.map f) := by
  unfold dLc
  rw [hs]
  simp only [R.bind_ok, if_pos hz]
  rw [lc_map (by rw [clr_len]; exact hi) h]
  rfl
theorem dLc_filter {vs : List Nat} {i : Nat} {tt : Fm → R Bool} {te : Fm → R PV} {src : Fm → R (List PV)} {env : Fm} {ds : List PV} (b : PV → Bool) (f : PV → PV) (hs : src env = .ok ds) (hz : ds.length ≤ sizeLine) (hi : i < env.length) (hb : ∀ d ∈ ds, tt ((clr env vs).set i (.pv d)) = .ok (b d)) (h : ∀ d ∈ ds, b d = true → te ((clr env vs).set i (.pv d)) = .ok (f d)) :
    dLc vs (tgN i) tt te src env = .ok ((ds.filter b).map f) := by
  unfold dLc
  rw [hs]
  simp only [R.bind_ok, if_pos hz]
  rw [lc_filter (by rw [clr_len]; exact hi) hb h]
  rfl
/-! ### loops -/
theorem for_fold {α : Type} {t : Tgt} {body : Fm → RS} {wp : List Nat} (P : α → Fm) (step : α → PV → α) : ∀ (ds : List PV) (a : α), (∀ a d, d ∈ ds → ∃ e1 e2, t d (P a) = some e1 ∧ (body e1 = .nx e2 ∨ body e1 = .ct e2) ∧ clr e2 wp = P (step a d)) → forGo t body wp ds (P a) = .nx (P (ds.foldl step a))
  | [], a, _ => rfl
  | d :: ds, a, h => by
    obtain ⟨e1, e2, h1, h2, h3⟩ := h a d List.mem_cons_self
    rw [forGo, h1]
    have ih := for_fold P step ds (step a d) fun b x hx => h b x (List.mem_cons_of_mem _ hx)
    rcases h2 with h2 | h2
    · simp only [h2, h3]
      exact ih
    · simp only [h2, h3]
      exact ih
/-- the turns by their number -/
theorem for_inv {t : Tgt} {body : Fm → RS} {wp : List Nat} : ∀ (ds : List PV) (Jv : Nat → Fm → Prop) (e0 : Fm), Jv 0 e0 → (∀ i e d, ds[i]? = some d → Jv i e → ∃ e1 e2, t d e = some e1 ∧ (body e1 = .nx e2 ∨ body e1 = .ct e2) ∧ Jv (i + 1) (clr e2 wp)) → ∃ e', forGo t body wp ds e0 = .nx e' ∧ Jv ds.length e'
  | [], Jv, e0, h0, _ => ⟨e0, rfl, h0⟩
  | d :: ds, Jv, e0, h0, hs => by
    obtain ⟨e1, e2, h1, h2, h3⟩ := hs 0 e0 d rfl h0
    obtain ⟨e', r1, r2⟩ := for_inv (t := t) (body := body) (wp := wp) ds (fun i e => Jv (i + 1) e) (clr e2 wp) h3 (fun i e x hx hi => hs (i + 1) e x (by simpa using hx) hi)
    refine ⟨e', ?_, r2⟩
    rw [forGo, h1]
    rcases h2 with h2 | h2
    · simp only [h2]; exact r1
    · simp only [h2]; exact r1
/-! ### shapes -/
theorem shaped_of {d : PyData} (h1 : d.canLay0 = true) (h2 : d.depth ≤ 64) : SeqAt.shaped d = true := by
  unfold SeqAt.shaped
  rw [h1, decide_eq_true h2]
  rfl
theorem eq_rng (n : Nat) : (List.range n).map (fun (k : Nat) => PV.int (0 + (k : Int))) = (List.range n).map fun (k : Nat) => PV.int (k : Int) := by
  congr 1
  funext k
  rw [Int.zero_add]

/-! ### the pieces, applied -/
section
variable (env : Fm)
@[simp] theorem dV_ap (i : Nat) : dV i env = match env[i]? with | some (.pv d) => .ok d | _ => .bad := rfl
@[simp] theorem dR_ap (i : Nat) : dR i env = match env[i]? with | some (.pv d) => .ok d | some (.own l) => .ok (.lst l) | _ => .bad := rfl
@[simp] theorem dC_ap (d : PV) : dC d env = .ok d := rfl
@[simp] theorem d1_ap {α : Type} (f : PV → Option α) (a : Fm → R PV) : d1 f a env = (a env).bind fun x => ofO (f x) := rfl
@[simp] theorem d2_ap {α : Type} (f : PV → PV → Option α) (a b : Fm → R PV) : d2 f a b env = (a env).bind fun x => (b env).bind fun y => ofO (f x y) := rfl
@[simp] theorem dNil_ap : dNil env = .ok [] := rfl
@[simp] theorem dCons_ap (a : Fm → R PV) (r : Fm → R (List PV)) : dCons a r env = (a env).bind fun x => (r env).bind fun xs => .ok (x :: xs) := rfl
@[simp] theorem dL_ap (d : Fm → R (List PV)) : dL d env = (d env).bind fun l => .ok (.lst l) := rfl
@[simp] theorem dTup_ap (d : Fm → R (List PV)) : dTup d env = (d env).bind fun l => if l.length ≤ sizeLine then .ok (.tup l) else .bad := rfl
@[simp] theorem dLst_ap (d : Fm → R (List PV)) : dLst d env = (d env).bind fun l => if l.length ≤ sizeLine then .ok l else .bad := rfl
@[simp] theorem dCall_ap {α : Type} (f : List PV → R α) (d : Fm → R (List PV)) : dCall f d env = (d env).bind f := rfl
@[simp] theorem dB_ap (d : Fm → R PV) : dB d env = (d env).bind fun v => match v with | .bl b => .ok b | _ => .bad := rfl
@[simp] theorem dBv_ap (d : Fm → R Bool) : dBv d env = (d env).bind fun b => .ok (.bl b) := rfl
@[simp] theorem dIf_ap {α : Type} (c : Fm → R Bool) (a b : Fm → R α) : dIf c a b env = (c env).bind fun k => match k with | true => a env | false => b env := rfl
@[simp] theorem dAnd_ap (a b : Fm → R Bool) : dAnd a b env = (a env).bind fun k => match k with | true => b env | false => .ok false := rfl
@[simp] theorem dOr_ap (a b : Fm → R Bool) : dOr a b env = (a env).bind fun k => match k with | true => .ok true | false => b env := rfl
@[simp] theorem dNot_ap (a : Fm → R Bool) : dNot a env = (a env).bind fun k => .ok (!k) := rfl
@[simp] theorem dChain_ap (f g : PV → PV → Option Bool) (a b c : Fm → R PV) : dChain f g a b c env = (a env).bind fun x => (b env).bind fun y => (ofO (f x y)).bind fun k => match k with | true => (c env).bind fun z => ofO (g y z) | false => .ok false := rfl
@[simp] theorem dAndV_ap (a b : Fm → R PV) : dAndV a b env = (dB a env).bind fun k => match k with | true => b env | false => .ok (.bl false) := rfl
@[simp] theorem dOrV_ap (a b : Fm → R PV) : dOrV a b env = (dB a env).bind fun k => match k with | true => .ok (.bl true) | false => b env := rfl
@[simp] theorem dNotV_ap (a : Fm → R PV) : dNotV a env = (dB a env).bind fun k => .ok (.bl (!k)) := rfl
@[simp] theorem dSl_ap {α : Type} (f : PV → Option Int → Option Int → Option α) (a : Fm → R PV) (l h : Fm → R (Option Int)) : dSl f a l h env = (a env).bind fun x => (l env).bind fun l => (h env).bind fun h => ofO (f x l h) := rfl
@[simp] theorem dNo_ap : dNo env = .ok none := rfl
@[simp] theorem dSo_ap (d : Fm → R PV) : dSo d env = (d env).bind fun v => match v with | .int i => .ok (some i) | _ => .bad := rfl
@[simp] theorem dJoin_ap (a b : Fm → R PV) : dJoin a b env = (a env).bind fun x => match x with | .str a => (b env).bind fun y => ofO (pJoin a y) | _ => .bad := rfl
@[simp] theorem dYes_ap : dYes env = .ok true := rfl
@[simp] theorem dSeq_ap (a b : Fm → RS) : dSeq a b env = match a env with | .nx e => b e | r => r := rfl
@[simp] theorem dSkip_ap : dSkip env = .nx env := rfl
@[simp] theorem dSet_ap (i : Nat) (d : Fm → R PV) : dSet i d env = match d env with | .ok v => if i < env.length then .nx (env.set i (.pv v)) else .bad | .ex e => .ex e env | .bad => .bad := rfl
@[simp] theorem dSetF_ap (i : Nat) (d : Fm → R (List PV)) : dSetF i d env = match d env with | .ok v => if i < env.length then .nx (env.set i (.own v)) else .bad | .ex e => .ex e env | .bad => .bad := rfl
@[simp] theorem dRet_ap (d : Fm → R PV) : dRet d env = match d env with | .ok v => .rt v | .ex e => .ex e env | .bad => .bad := rfl
@[simp] theorem dRetF_ap (d : Fm → R (List PV)) : dRetF d env = match d env with | .ok v => .rf v | .ex e => .ex e env | .bad => .bad := rfl
@[simp] theorem dRetO_ap (i : Nat) : dRetO i env = match env[i]? with | some (.own l) => .rf l | _ => .bad := rfl
@[simp] theorem dIfS_ap (c : Fm → R Bool) (a b : Fm → RS) : dIfS c a b env = match c env with | .ok true => a env | .ok false => b env | .ex e => .ex e env | .bad => .bad := rfl
@[simp] theorem dExpr_ap (d : Fm → R PV) : dExpr d env = match d env with | .ok _ => .nx env | .ex e => .ex e env | .bad => .bad := rfl
@[simp] theorem dApp_ap (i : Nat) (d : Fm → R PV) : dApp i d env = match env[i]? with | some (.own l) => (match d env with | .ok v => if l.length < sizeLine then .nx (env.set i (.own (l ++ [v]))) else .bad | .ex e => .ex e env | .bad => .bad) | _ => .bad := rfl
@[simp] theorem dExt_ap (i : Nat) (d : Fm → R PV) : dExt i d env = match env[i]? with | some (.own l) => (match d env with | .ok (.lst m) => if l.length + m.length ≤ sizeLine then .nx (env.set i (.own (l ++ m))) else .bad | .ok _ => .bad | .ex e => .ex e env | .bad => .bad) | _ => .bad := rfl
@[simp] theorem dFrz_ap (i : Nat) (d : Fm → RS) : dFrz i d env = d (frzS i env) := rfl
@[simp] theorem frzS_ap (i : Nat) : frzS i env = match env[i]? with | some (.own l) => env.set i (.pv (.lst l)) | _ => env := rfl
@[simp] theorem toV_nx (e : Fm) : toV (.nx e) = .ok .non := rfl
@[simp] theorem toV_rt (v : PV) : toV (.rt v) = .ok v := rfl
@[simp] theorem toV_ex (x : Ex) (e : Fm) : toV (.ex x e) = .ex x := rfl
@[simp] theorem toV_bad : toV .bad = .bad := rfl
@[simp] theorem toF_rf (v : List PV) : toF (.rf v) = .ok v := rfl
@[simp] theorem toF_ex (x : Ex) (e : Fm) : toF (.ex x e) = .ex x := rfl
@[simp] theorem clr_nil : clr env [] = env := rfl
@[simp] theorem clr_cons (i : Nat) (r : List Nat) : clr env (i :: r) = (clr env r).set i .un := rfl
end
@[simp] theorem tgN_ap (i : Nat) (d : PV) (env : Fm) : tgN i d env = if i < env.length then some (env.set i (.pv d)) else none := rfl
/-! ### operators on known kinds -/
@[simp] theorem pAdd_ii (i j : Int) : pAdd (.int i) (.int j) = some (.int (i + j)) := rfl
@[simp] theorem pAdd_ss (a b : Str) : pAdd (.str a) (.str b) = if a.length + b.length ≤ sizeLine then some (.str (a ++ b)) else none := rfl
@[simp] theorem pAdd_tt (a b : List PV) : pAdd (.tup a) (.tup b) = if a.length + b.length ≤ sizeLine then some (.tup (a ++ b)) else none := rfl
@[simp] theorem fCat_ll (a b : List PV) : fCat (.lst a) (.lst b) = if a.length + b.length ≤ sizeLine then some (a ++ b) else none := rfl
@[simp] theorem pSub_ii (i j : Int) : pSub (.int i) (.int j) = some (.int (i - j)) := rfl
@[simp] theorem pMul_ii (i j : Int) : pMul (.int i) (.int j) = if mulB i j = true then some (.int (i * j)) else none := rfl
@[simp] theorem pMod_ii (i j : Int) : pMod (.int i) (.int j) = if 0 < j then some (.int (i % j)) else none := rfl
theorem pDiv_ii (i j : Int) : pDiv (.int i) (.int j) = if 0 < j ∧ j.natAbs.log2 < 9000 then some (.int (i / j)) else none := rfl
theorem log2_small {n : Nat} (h : n < 9000) : n.log2 < 9000 := Nat.lt_of_le_of_lt (Nat.log2_le_self n) h
theorem pDiv_small {i j : Int} (h0 : 0 < j) (h : j < 9000) : pDiv (.int i) (.int j) = some (.int (i / j)) := by
  rw [pDiv_ii, if_pos ⟨h0, log2_small (by omega)⟩]
@[simp] theorem pNeg_i (i : Int) : pNeg (.int i) = some (.int (-i)) := rfl
@[simp] theorem pLt_ii (i j : Int) : pLt (.int i) (.int j) = some (decide (i < j)) := rfl
@[simp] theorem pLe_ii (i j : Int) : pLe (.int i) (.int j) = some (decide (i ≤ j)) := rfl
@[simp] theorem pGt_ii (i j : Int) : pGt (.int i) (.int j) = some (decide (j < i)) := rfl
@[simp] theorem pGe_ii (i j : Int) : pGe (.int i) (.int j) = some (decide (j ≤ i)) := rfl
theorem sh_int (i : Int) : SeqAt.shaped (.int i) = true := shaped_of (by simp only [PyData.canLay0]) (by simp only [PyData.depth]; omega)
theorem sh_bool (i : Bool) : SeqAt.shaped (.bool i) = true := shaped_of (by simp only [PyData.canLay0]) (by simp only [PyData.depth]; omega)
theorem sh_none : SeqAt.shaped .none = true := shaped_of (by simp only [PyData.canLay0]) (by simp only [PyData.depth]; omega)
theorem strOk_mk {l : List Nat} (h : ∀ c ∈ l, c < 1114112) : PyData.strOk (mk l) = true := by
  unfold PyData.strOk
  rw [mk_cpsA, Array.all_eq_true]
  intro i hi
  simp only [List.getElem_toArray]
  exact decide_eq_true (h _ (List.getElem_mem _))
theorem sh_str {l : List Nat} (h : ∀ c ∈ l, c < 1114112) : SeqAt.shaped (.str (mk l)) = true := shaped_of (by simp only [PyData.canLay0]; exact strOk_mk h) (by simp only [PyData.depth]; omega)
@[simp] theorem pEq_ii (i j : Int) : pEq (.int i) (.int j) = some (decide (i = j)) := by
  unfold pEq
  simp only [toD, sh_int, PyData.eqv]
  rfl
@[simp] theorem pNe_ii (i j : Int) : pNe (.int i) (.int j) = some (!decide (i = j)) := by
  unfold pNe
  simp only [toD, sh_int, PyData.eqv]
  rfl
theorem pEq_ss {a b : List Nat} (ha : ∀ c ∈ a, c < 1114112) (hb : ∀ c ∈ b, c < 1114112) : pEq (.str (mk a)) (.str (mk b)) = some (decide (a = b)) := by
  unfold pEq
  simp only [toD, sh_str ha, sh_str hb, PyData.eqv, mk_beq]
  rfl
theorem pNe_ss {a b : List Nat} (ha : ∀ c ∈ a, c < 1114112) (hb : ∀ c ∈ b, c < 1114112) : pNe (.str (mk a)) (.str (mk b)) = some (!decide (a = b)) := by
  unfold pNe
  simp only [toD, sh_str ha, sh_str hb, PyData.eqv, mk_beq]
  rfl
@[simp] theorem pIdx_l (l : List PV) (i : Int) : pIdx (.lst l) (.int i) = L2.atI l i := rfl
@[simp] theorem pIdx_t (l : List PV) (i : Int) : pIdx (.tup l) (.int i) = L2.atI l i := rfl
@[simp] theorem pIdx_c (l : List Int) (i : Int) : pIdx (.scr l) (.int i) = (L2.atI l i).map .int := rfl
theorem pIdx_s {l : List Nat} {k : Nat} (h : k < l.length) (hz : l.length ≤ 1000) : pIdx (.str (mk l)) (.int (k : Int)) = some (chr1 l[k]) := by
  show (if (mk l).length ≤ sizeLine then (L2.atI (mk l).cps.toList (k : Int)).map fun c => PV.str ⟨#[c]⟩ else none) = _
  rw [mk_len, mk_cps, atI_in h, if_pos (by rw [sizeLine_eq]; omega)]
  rfl
@[simp] theorem pLen_l (l : List PV) : pLen [.lst l] = some (.int l.length) := rfl
@[simp] theorem pLen_t (l : List PV) : pLen [.tup l] = some (.int l.length) := rfl
@[simp] theorem pLen_c (l : List Int) : pLen [.scr l] = some (.int l.length) := rfl
theorem pLen_s {l : List Nat} (hz : l.length ≤ 1000) : pLen [.str (mk l)] = some (.int l.length) := by
  show (if (mk l).length ≤ sizeLine then some (PV.int (mk l).length) else none) = _
  rw [mk_len, if_pos (by rw [sizeLine_eq]; omega)]
@[simp] theorem pAbs_i (i : Int) : pAbs [.int i] = some (.int i.natAbs) := by
  show some (PV.int (if i < 0 then -i else i)) = _
  congr 2
  split <;> omega
@[simp] theorem pMin2_ii (i j : Int) : pMin2 [.int i, .int j] = some (.int (min i j)) := by
  show some (PV.int (if j < i then j else i)) = _
  congr 2
  rw [Int.min_def]
  split <;> split <;> omega
@[simp] theorem pMax2_ii (i j : Int) : pMax2 [.int i, .int j] = some (.int (max i j)) := by
  show some (PV.int (if j > i then j else i)) = _
  congr 2
  rw [Int.max_def]
  split <;> split <;> omega
@[simp] theorem pInt1_i (i : Int) : pInt1 [.int i] = some (.int i) := rfl
@[simp] theorem pInt1_b (k : Bool) : pInt1 [.bl k] = some (.int (if k then 1 else 0)) := rfl
@[simp] theorem pOrd_c (c : Nat) : pOrd [chr1 c] = some (.int (c : Int)) := rfl
@[simp] theorem pTuple_l (l : List PV) : pTuple [.lst l] = some (.tup l) := rfl
@[simp] theorem pIsN_ap (a : PV) : pIsN a = some (isNon a) := rfl
@[simp] theorem pNotN_ap (a : PV) : pNotN a = some (!isNon a) := rfl
@[simp] theorem isNon_non : isNon .non = true := rfl
@[simp] theorem lstIt_l (l : List PV) : lstIt (.lst l) = some l := rfl
@[simp] theorem tupIt_t (l : List PV) : tupIt (.tup l) = some l := rfl
@[simp] theorem strIt_s (l : List Nat) : strIt (.str (mk l)) = some (l.map chr1) := by
  show some ((mk l).cps.toList.map chr1) = _
  rw [mk_cps]
theorem rg1 {n : Nat} (h : n ≤ 1000) : rgIt1 [.int (n : Int)] = some ((List.range n).map fun (k : Nat) => PV.int (k : Int)) := by
  have c : smI (n : Int) = true := smI_of (by omega)
  simp only [rgIt1]
  rw [if_pos c, eq_rng, Int.toNat_natCast]
theorem ints_map (l : List Int) : intsOf (l.map .int) = some l := by
  induction l with
  | nil => rfl
  | cons a l ih => simp only [List.map_cons, intsOf, ih, Option.map_some]
theorem bls_map (l : List Bool) : blsOf (l.map .bl) = some l := by
  induction l with
  | nil => rfl
  | cons a l ih => simp only [List.map_cons, blsOf, ih, Option.map_some]
theorem strs_map (l : List Str) : strsOf (l.map .str) = some l := by
  induction l with
  | nil => rfl
  | cons a l ih => simp only [List.map_cons, strsOf, ih, Option.map_some]
theorem pSum_m (l : List Int) : pSum [.lst (l.map .int)] = some (.int l.sum) := by
  show (intsOf (l.map .int)).map _ = _
  rw [ints_map]; rfl
theorem pAll_m (l : List Bool) : pAll [.lst (l.map .bl)] = some (.bl (l.all id)) := by
  show (blsOf (l.map .bl)).map _ = _
  rw [bls_map]; rfl
theorem pAny_m (l : List Bool) : pAny [.lst (l.map .bl)] = some (.bl (l.any id)) := by
  show (blsOf (l.map .bl)).map _ = _
  rw [bls_map]; rfl
theorem pAll_f {α : Type} (f : α → Bool) (l : List α) : pAll [.lst (l.map (PV.bl ∘ f))] = some (.bl (l.all f)) := by
  rw [← List.map_map, pAll_m, List.all_map]; rfl
theorem pAny_f {α : Type} (f : α → Bool) (l : List α) : pAny [.lst (l.map (PV.bl ∘ f))] = some (.bl (l.any f)) := by
  rw [← List.map_map, pAny_m, List.any_map]; rfl
theorem pSum_f {α : Type} (f : α → Int) (l : List α) : pSum [.lst (l.map (PV.int ∘ f))] = some (.int (l.map f).sum) := by
  rw [← List.map_map, pSum_m]
/-! ### texts put together -/
theorem join_mk (a : List Nat) (ys : List (List Nat)) : Txt.join (mk a) (ys.map mk) = mk (TL.joinL a ys) := SX.join_S a ys
theorem joinL_one : ∀ l : List Nat, TL.joinL [] (l.map fun c => [c]) = l
  | [] => rfl
  | [c] => rfl
  | c :: d :: r => by
    have ih := joinL_one (d :: r)
    simp only [List.map_cons] at ih ⊢
    simp only [TL.joinL, ih, List.nil_append, List.cons_append]
theorem strs_chr (l : List Nat) : strsOf (l.map chr1) = some ((l.map fun c => [c]).map mk) := by
  induction l with
  | nil => rfl
  | cons c l ih =>
    simp only [List.map_cons, chr1, strsOf] at ih ⊢
    rw [ih]
    rfl
theorem pJoin_chr {l : List Nat} (h : l.length ≤ 1000) : pJoin (mk []) (.lst (l.map chr1)) = some (.str (mk l)) := by
  show (strsOf (l.map chr1)).bind _ = _
  rw [strs_chr]
  have e : (((l.map fun c => [c]).map mk).map (·.length)).sum = l.length := by
    simp only [List.map_map]
    induction l with
    | nil => rfl
    | cons c l ih =>
      have := ih (by simp at h; omega)
      simp only [List.map_cons, List.sum_cons, Function.comp, mk_len, List.length_cons, List.length_nil] at this ⊢
      omega
  simp only [Option.bind_some]
  rw [if_pos (by rw [e]; simp; omega), join_mk, joinL_one]
theorem atI_pick {α : Type} {l : List α} {x : Int} (h0 : 0 ≤ x) (h1 : x < l.length) : ∃ k, ∃ h : k < l.length, x = (k : Int) ∧ L2.atI l x = some l[k] := by
  obtain ⟨k, rfl⟩ : ∃ k : Nat, x = (k : Int) := ⟨x.toNat, by omega⟩
  exact ⟨k, by omega, rfl, atI_in (by omega)⟩
/-! ### lengths that are small -/
theorem sz {n : Nat} (h : n ≤ 100000) : n ≤ sizeLine := by rw [sizeLine_eq]; omega
theorem szl {n : Nat} (h : n ≤ 100000) : n < sizeLine := by rw [sizeLine_eq]; omega
end Pv

set_option Elab.async false
set_option linter.all false
set_option maxRecDepth 100000
set_option maxHeartbeats 4000000
namespace Tw
open PySem PySem.Spec PyProof.Rows L2 Pv
def D_is_number : Fm → RS :=
  (dRet (dAndV (d1 (pIsi "int") (dV 0)) (dNotV (d1 (pIsi "bool") (dV 0)))))
def C_are_signs_1 : Fm → R (List PV) :=
  (dLc [1] (tgN 1) dYes (dAndV (dBv (dChain pLe pLe (dC (.str (Str.ofString " "))) (dV 1) (dC (.str (Str.ofString "~"))))) (dBv (d2 pNe (dCall (fun ds => ofO (pOrd ds)) (dCons (dV 1) dNil)) (dC (.int 37))))) (d1 strIt (dV 0)))
def D_are_signs : Fm → RS :=
  (dRet (dCall (fun ds => ofO (pAll ds)) (dCons (dL C_are_signs_1) dNil)))
def C_is_value_1 (g_is_value : List PV → R PV) : Fm → R (List PV) :=
  (dLc [2] (tgN 2) dYes (dCall g_is_value (dCons (dV 2) (dCons (d2 pAdd (dV 1) (dC (.int 1))) dNil))) (d1 tupIt (dV 0)))
def D_is_value (g_are_signs : List PV → R PV) (g_is_value : List PV → R PV) (g_is_number : List PV → R PV) : Fm → RS :=
  (dSeq (dIfS (dB (d1 (pIsi "str") (dV 0))) (dRet (dAndV (dBv (d2 pLe (dCall (fun ds => ofO (pLen ds)) (dCons (dV 0) dNil)) (dC (.int 20)))) (dCall g_are_signs (dCons (dV 0) dNil)))) dSkip) (dSeq (dIfS (dB (d1 (pIsi "tuple") (dV 0))) (dRet (dAndV (dBv (d2 pLt (dV 1) (dC (.int 3)))) (dAndV (dBv (d2 pLe (dCall (fun ds => ofO (pLen ds)) (dCons (dV 0) dNil)) (dC (.int 6)))) (dCall (fun ds => ofO (pAll ds)) (dCons (dL (C_is_value_1 g_is_value)) dNil))))) dSkip) (dRet (dAndV (dCall g_is_number (dCons (dV 0) dNil)) (dBv (d2 pLe (dCall (fun ds => ofO (pAbs ds)) (dCons (dV 0) dNil)) (dC (.int 999999))))))))
def D_need_value (g_is_value : List PV → R PV) : Fm → RS :=
  (dIfS (dNot (dB (dCall g_is_value (dCons (dV 0) (dCons (dC (.int 0)) dNil))))) (fun _ => .bad) dSkip)
def C_weight_1 : Fm → R (List PV) :=
  (dLc [2] (tgN 2) dYes (dIf (d2 pEq (dV 2) (dC (.str (Str.ofString "a")))) (dC (.int 1)) (dC (.int 3))) (d1 strIt (dV 0)))
def C_weight_2 (g_weight : List PV → R PV) : Fm → R (List PV) :=
  (dLc [1] (tgN 1) dYes (d2 pAdd (dC (.int 1)) (dCall g_weight (dCons (dV 1) dNil))) (d1 tupIt (dV 0)))
def D_weight (g_weight : List PV → R PV) : Fm → RS :=
  (dSeq (dIfS (dB (d1 (pIsi "int") (dV 0))) (dRet (d2 pAdd (d2 pMul (dC (.int 2)) (dCall (fun ds => ofO (pAbs ds)) (dCons (dV 0) dNil))) (dCall (fun ds => ofO (pInt1 ds)) (dCons (dBv (d2 pLt (dV 0) (dC (.int 0)))) dNil)))) dSkip) (dSeq (dIfS (dB (d1 (pIsi "str") (dV 0))) (dRet (dCall (fun ds => ofO (pSum ds)) (dCons (dL C_weight_1) dNil))) dSkip) (dRet (dCall (fun ds => ofO (pSum ds)) (dCons (dL (C_weight_2 g_weight)) dNil)))))
def B_number_moves_1 : Fm → RS :=
  (dSeq (dApp 3 (d2 pMul (dV 2) (d2 pSub (dV 1) (dV 4)))) (dSet 4 (d2 pDiv (dV 4) (dC (.int 2)))))
def L_number_moves_1 : Fm → RS :=
  (dWhile (fun _ => 64) (d2 pGt (dV 4) (dC (.int 0))) B_number_moves_1 [])
def D_number_moves : Fm → RS :=
  (dSeq (dIfS (d2 pEq (dV 0) (dC (.int 0))) (dRetF (dLst dNil)) dSkip) (dSeq (dSet 1 (dCall (fun ds => ofO (pAbs ds)) (dCons (dV 0) dNil))) (dSeq (dSet 2 (dIf (d2 pGt (dV 0) (dC (.int 0))) (dC (.int 1)) (d1 pNeg (dC (.int 1))))) (dSeq (dSetF 3 (d2 fCat (dL (dLst (dCons (dC (.int 0)) dNil))) (dL (dIf (d2 pLt (dV 0) (dC (.int 0))) (dLst (dCons (dV 1) dNil)) (dLst dNil))))) (dSeq (dSet 4 (d2 pDiv (dV 1) (dC (.int 2)))) (dSeq L_number_moves_1 (dRetO 3)))))))
def C_all_moves_1 : Fm → R (List PV) :=
  (dLc [2] (tgN 2) dYes (d2 pAdd (dSl pSl (dV 0) dNo (dSo (dV 2))) (dSl pSl (dV 0) (dSo (d2 pAdd (dV 2) (dC (.int 1)))) dNo)) (dCall (fun ds => ofO (rgIt1 ds)) (dCons (dCall (fun ds => ofO (pLen ds)) (dCons (dV 0) dNil)) dNil)))
def C_all_moves_2 (g_moves : List PV → R (List PV)) : Fm → R (List PV) :=
  (dLc [3] (tgN 3) dYes (d2 pAdd (d2 pAdd (dSl pSl (dV 0) dNo (dSo (dV 2))) (dTup (dCons (dV 3) dNil))) (dSl pSl (dV 0) (dSo (d2 pAdd (dV 2) (dC (.int 1)))) dNo)) (d1 lstIt (dL (dCall g_moves (dCons (d2 pIdx (dV 0) (dV 2)) dNil)))))
def B_all_moves_1 (g_moves : List PV → R (List PV)) : Fm → RS :=
  (dIfS (dB (d1 (pIsi "str") (dV 0))) (dIfS (d2 pNe (d2 pIdx (dV 0) (dV 2)) (dC (.str (Str.ofString "a")))) (dApp 1 (d2 pAdd (d2 pAdd (dSl pSl (dV 0) dNo (dSo (dV 2))) (dC (.str (Str.ofString "a")))) (dSl pSl (dV 0) (dSo (d2 pAdd (dV 2) (dC (.int 1)))) dNo))) dSkip) (dExt 1 (dL (C_all_moves_2 g_moves))))
def L_all_moves_1 (g_moves : List PV → R (List PV)) : Fm → RS :=
  (dFor (dCall (fun ds => ofO (rgIt1 ds)) (dCons (dCall (fun ds => ofO (pLen ds)) (dCons (dV 0) dNil)) dNil)) (tgN 2) (B_all_moves_1 g_moves) [2])
def D_all_moves (g_number_moves : List PV → R (List PV)) (g_moves : List PV → R (List PV)) : Fm → RS :=
  (dSeq (dIfS (dB (d1 (pIsi "int") (dV 0))) (dRetF (dCall g_number_moves (dCons (dV 0) dNil))) dSkip) (dSeq (dSetF 1 C_all_moves_1) (dSeq (L_all_moves_1 g_moves) (dRetO 1))))
def B_moves_1 : Fm → RS :=
  (dIfS (d2 pNotIn (dV 2) (dR 1)) (dApp 1 (dV 2)) dSkip)
def L_moves_1 (g_all_moves : List PV → R (List PV)) : Fm → RS :=
  (dFor (d1 lstIt (dL (dCall g_all_moves (dCons (dV 0) dNil)))) (tgN 2) B_moves_1 [2])
def D_moves (g_all_moves : List PV → R (List PV)) : Fm → RS :=
  (dSeq (dSetF 1 (dLst dNil)) (dSeq (L_moves_1 g_all_moves) (dRetO 1)))
def D__law_cell : Fm → RS :=
  (dSeq (dIfS (d2 pEq (dV 0) (dL (dLst dNil))) (dRet (d2 pMul (dV 1) (dC (.int 7919)))) dSkip) (dRet (d2 pAdd (d2 pIdx (dV 0) (d2 pMod (dV 1) (dCall (fun ds => ofO (pLen ds)) (dCons (dV 0) dNil)))) (d2 pMul (d2 pDiv (dV 1) (dCall (fun ds => ofO (pLen ds)) (dCons (dV 0) dNil))) (dC (.int 104729))))))
def D__law_drawn : Fm → RS :=
  (dSeq (dSet 2 (d2 pMod (d2 pAdd (d2 pMul (dV 0) (dC (.int 6364136223846793005))) (d2 pMul (d2 pAdd (dV 1) (dC (.int 1))) (dC (.int 1442695040888963407)))) (dC (.int 340282366920938463463374607431768211507)))) (dSeq (dSet 2 (d2 pMod (d2 pMul (dV 2) (dV 2)) (dC (.int 340282366920938463463374607431768211297)))) (dSeq (dSet 2 (d2 pMul (d2 pMul (d2 pAdd (d2 pMod (dV 2) (dC (.int 18446744073709551557))) (dC (.int 1))) (d2 pAdd (d2 pDiv (dV 2) (dC (.int 18446744073709551557))) (dC (.int 1)))) (dV 2))) (dRet (d2 pMod (dV 2) (dC (.int 340282366920938463463374607431768211507)))))))
def D__law_signs : Fm → RS :=
  (dRet (dC (.str (Str.ofString " !#$&'()*+,-./0123456789:;<=>?@ABCDEFGHIJKLMNOPQRSTUVWXYZ[\\]^_`abcdefghijklmnopqrstuvwxyz{|}~"))))
def C__law_value_1 (g__law_drawn : List PV → R PV) : Fm → R (List PV) :=
  (dLc [7] (tgN 7) dYes (d2 pIdx (dV 5) (d2 pMod (dCall g__law_drawn (dCons (dV 2) (dCons (dV 7) dNil))) (dCall (fun ds => ofO (pLen ds)) (dCons (dV 5) dNil)))) (dCall (fun ds => ofO (rgIt1 ds)) (dCons (d2 pIdx (dL (dLst (dCons (dC (.int 0)) (dCons (dC (.int 1)) (dCons (dC (.int 2)) (dCons (dC (.int 3)) (dCons (dC (.int 20)) dNil))))))) (d2 pMod (d2 pDiv (dV 2) (dC (.int 2))) (dC (.int 5)))) dNil)))
def C__law_value_2 (g__law_drawn : List PV → R PV) (g__law_value : List PV → R PV) : Fm → R (List PV) :=
  (dLc [7] (tgN 7) dYes (dCall g__law_value (dCons (dCall g__law_drawn (dCons (dV 2) (dCons (dV 7) dNil))) (dCons (d2 pSub (dV 1) (dC (.int 1))) dNil))) (dCall (fun ds => ofO (rgIt1 ds)) (dCons (dV 6) dNil)))
def D__law_value (g__law_signs : List PV → R PV) (g__law_drawn : List PV → R PV) (g__law_value : List PV → R PV) : Fm → RS :=
  (dSeq (dSet 2 (d2 pDiv (dV 0) (dC (.int 16)))) (dSeq (dSet 3 (d2 pMod (dV 0) (dC (.int 6)))) (dSeq (dIfS (dOr (d2 pLt (dV 3) (dC (.int 3))) (dAnd (d2 pGt (dV 3) (dC (.int 4))) (d2 pEq (dV 1) (dC (.int 0))))) (dSeq (dSet 4 (d2 pMod (d2 pDiv (dV 2) (dC (.int 8))) (d2 pIdx (dL (dLst (dCons (dC (.int 5)) (dCons (dC (.int 40)) (dCons (dC (.int 2000)) (dCons (dC (.int 1000000)) dNil)))))) (d2 pMod (dV 2) (dC (.int 4)))))) (dRet (d2 pIdx (dL (dLst (dCons (dV 4) (dCons (d2 pSub (dC (.int 0)) (dV 4)) dNil)))) (d2 pMod (d2 pDiv (dV 2) (dC (.int 4))) (dC (.int 2)))))) dSkip) (dSeq (dIfS (d2 pLt (dV 3) (dC (.int 5))) (dSeq (dSet 5 (d2 pIdx (dL (dLst (dCons (dC (.str (Str.ofString "ab"))) (dCons (dCall g__law_signs dNil) dNil)))) (d2 pMod (dV 2) (dC (.int 2))))) (dRet (dJoin (dC (.str (Str.ofString ""))) (dL (C__law_value_1 g__law_drawn))))) dSkip) (dSeq (dSet 6 (d2 pIdx (dL (dLst (dCons (dC (.int 0)) (dCons (dC (.int 1)) (dCons (dC (.int 2)) (dCons (dC (.int 3)) (dCons (d2 pIdx (dL (dLst (dCons (dC (.int 3)) (dCons (dC (.int 6)) dNil)))) (dCall (fun ds => ofO (pInt1 ds)) (dCons (dBv (d2 pEq (dV 1) (dC (.int 1)))) dNil))) dNil))))))) (d2 pMod (dV 2) (dC (.int 5))))) (dRet (dCall (fun ds => ofO (pTuple ds)) (dCons (dL (C__law_value_2 g__law_drawn g__law_value)) dNil))))))))
def C__law_weight_1 : Fm → R (List PV) :=
  (dLc [2] (tgN 2) (d2 pNe (dV 2) (dC (.str (Str.ofString "a")))) (dV 2) (d1 strIt (dV 0)))
def C__law_weight_2 (g__law_weight : List PV → R PV) : Fm → R (List PV) :=
  (dLc [1] (tgN 1) dYes (dCall g__law_weight (dCons (dV 1) dNil)) (d1 tupIt (dV 0)))
def D__law_weight (g__law_weight : List PV → R PV) : Fm → RS :=
  (dSeq (dIfS (dB (d1 (pIsi "int") (dV 0))) (dRet (d2 pIdx (dL (dLst (dCons (d2 pMul (dC (.int 2)) (dV 0)) (dCons (d2 pSub (dC (.int 1)) (d2 pMul (dC (.int 2)) (dV 0))) dNil)))) (dCall (fun ds => ofO (pInt1 ds)) (dCons (dBv (d2 pLt (dV 0) (dC (.int 0)))) dNil)))) dSkip) (dSeq (dIfS (dB (d1 (pIsi "str") (dV 0))) (dRet (d2 pAdd (dCall (fun ds => ofO (pLen ds)) (dCons (dV 0) dNil)) (d2 pMul (dC (.int 2)) (dCall (fun ds => ofO (pLen ds)) (dCons (dL C__law_weight_1) dNil))))) dSkip) (dRet (d2 pAdd (dCall (fun ds => ofO (pLen ds)) (dCons (dV 0) dNil)) (dCall (fun ds => ofO (pSum ds)) (dCons (dL (C__law_weight_2 g__law_weight)) dNil))))))
def B__law_nearer_1 : Fm → RS :=
  (dSeq (dSet 3 (d2 pDiv (dCall (fun ds => ofO (pAbs ds)) (dCons (dV 0) dNil)) (dV 2))) (dSeq (dApp 1 (dIf (d2 pGt (dV 0) (dC (.int 0))) (d2 pSub (dV 0) (dV 3)) (d2 pAdd (dV 0) (dV 3)))) (dSet 2 (d2 pMul (dC (.int 2)) (dV 2)))))
def L__law_nearer_1 : Fm → RS :=
  (dWhile (fun _ => 64) (d2 pGt (d2 pDiv (dCall (fun ds => ofO (pAbs ds)) (dCons (dV 0) dNil)) (dV 2)) (dC (.int 0))) B__law_nearer_1 [3])
def D__law_nearer : Fm → RS :=
  (dSeq (dSetF 1 (dLst (dCons (dC (.int 0)) dNil))) (dSeq (dIfS (d2 pLt (dV 0) (dC (.int 0))) (dApp 1 (d2 pSub (dC (.int 0)) (dV 0))) dSkip) (dSeq (dSet 2 (dC (.int 2))) (dSeq L__law_nearer_1 (dFrz 1 (dRet (dIf (d2 pNe (dV 0) (dC (.int 0))) (dV 1) (dL (dLst dNil)))))))))
def B__law_once_1 : Fm → RS :=
  (dIfS (d2 pNotIn (dV 2) (dR 1)) (dApp 1 (dV 2)) dSkip)
def L__law_once_1 : Fm → RS :=
  (dFor (d1 lstIt (dV 0)) (tgN 2) B__law_once_1 [2])
def D__law_once : Fm → RS :=
  (dSeq (dSetF 1 (dLst dNil)) (dSeq L__law_once_1 (dRetO 1)))
def C__law_moves_1 : Fm → R (List PV) :=
  (dLc [2] (tgN 2) dYes (d2 pAdd (dSl pSl (dV 0) dNo (dSo (dV 2))) (dSl pSl (dV 0) (dSo (d2 pAdd (dV 2) (dC (.int 1)))) dNo)) (dCall (fun ds => ofO (rgIt1 ds)) (dCons (dCall (fun ds => ofO (pLen ds)) (dCons (dV 0) dNil)) dNil)))
def C__law_moves_2 (g__law_moves : List PV → R (List PV)) : Fm → R (List PV) :=
  (dLc [3] (tgN 3) dYes (d2 pAdd (d2 pAdd (dSl pSl (dV 0) dNo (dSo (dV 2))) (dTup (dCons (dV 3) dNil))) (dSl pSl (dV 0) (dSo (d2 pAdd (dV 2) (dC (.int 1)))) dNo)) (d1 lstIt (dL (dCall g__law_moves (dCons (d2 pIdx (dV 0) (dV 2)) dNil)))))
def B__law_moves_1 (g__law_moves : List PV → R (List PV)) : Fm → RS :=
  (dIfS (dB (d1 (pIsi "tuple") (dV 0))) (dSetF 1 (d2 fCat (dR 1) (dL (C__law_moves_2 g__law_moves)))) (dIfS (d2 pNe (d2 pIdx (dV 0) (dV 2)) (dC (.str (Str.ofString "a")))) (dApp 1 (d2 pAdd (d2 pAdd (dSl pSl (dV 0) dNo (dSo (dV 2))) (dC (.str (Str.ofString "a")))) (dSl pSl (dV 0) (dSo (d2 pAdd (dV 2) (dC (.int 1)))) dNo))) dSkip))
def L__law_moves_1 (g__law_moves : List PV → R (List PV)) : Fm → RS :=
  (dFor (dCall (fun ds => ofO (rgIt1 ds)) (dCons (dCall (fun ds => ofO (pLen ds)) (dCons (dV 0) dNil)) dNil)) (tgN 2) (B__law_moves_1 g__law_moves) [2])
def D__law_moves (g__law_once : List PV → R (List PV)) (g__law_nearer : List PV → R PV) (g__law_moves : List PV → R (List PV)) : Fm → RS :=
  (dSeq (dIfS (dB (d1 (pIsi "int") (dV 0))) (dRetF (dCall g__law_once (dCons (dCall g__law_nearer (dCons (dV 0) dNil)) dNil))) dSkip) (dSeq (dSetF 1 C__law_moves_1) (dSeq (L__law_moves_1 g__law_moves) (dFrz 1 (dRetF (dCall g__law_once (dCons (dV 1) dNil)))))))
def C_law_1 : Fm → R (List PV) :=
  (dLc [5] (tgN 5) dYes (d1 (pIsi "bool") (dV 5)) (d1 lstIt (dR 4)))
def C_law_2 (g_weight : List PV → R PV) : Fm → R (List PV) :=
  (dLc [5] (tgN 5) dYes (dBv (d2 pLt (dCall g_weight (dCons (dV 5) dNil)) (dCall g_weight (dCons (dV 3) dNil)))) (d1 lstIt (dR 4)))
def B_law_1 (g_need_value : List PV → R PV) : Fm → RS :=
  (dIfS (d1 pNotN (dCall g_need_value (dCons (dV 5) dNil))) (dRet (dC (.bl false))) dSkip)
def L_law_1 (g_need_value : List PV → R PV) : Fm → RS :=
  (dFor (d1 lstIt (dL (dSl fSl (dR 4) dNo (dSo (dC (.int 20)))))) (tgN 5) (B_law_1 g_need_value) [5])
def B_law_2 (g_need_value : List PV → R PV) (g_weight : List PV → R PV) (g_moves : List PV → R (List PV)) (g__law_cell : List PV → R PV) (g__law_drawn : List PV → R PV) (g__law_value : List PV → R PV) (g__law_weight : List PV → R PV) (g__law_moves : List PV → R (List PV)) : Fm → RS :=
  (dSeq (dSet 2 (dCall g__law_drawn (dCons (dCall g__law_cell (dCons (dV 0) (dCons (dV 1) dNil))) (dCons (dV 1) dNil)))) (dSeq (dSet 3 (dCall g__law_value (dCons (dCall g__law_drawn (dCons (dV 2) (dCons (dC (.int 1)) dNil))) (dCons (d2 pMod (dV 2) (dC (.int 4))) dNil)))) (dSeq (dSetF 4 (dCall g_moves (dCons (dV 3) dNil))) (dSeq (dIfS (dOr (dNot (dB (d1 (pIsi "list") (dR 4)))) (dOr (d2 pNe (dR 4) (dL (dCall g__law_moves (dCons (dV 3) dNil)))) (dB (dCall (fun ds => ofO (pAny ds)) (dCons (dL C_law_1) dNil))))) (dRet (dC (.bl false))) dSkip) (dSeq (dIfS (dOr (d2 pNe (dCall g_weight (dCons (dV 3) dNil)) (dCall g__law_weight (dCons (dV 3) dNil))) (dNot (dB (dCall (fun ds => ofO (pAll ds)) (dCons (dL (C_law_2 g_weight)) dNil))))) (dRet (dC (.bl false))) dSkip) (dSeq (L_law_1 g_need_value) (dSeq (dApp 4 (dC .non)) (dSeq (dIfS (d2 pNe (dL (dCall g_moves (dCons (dV 3) dNil))) (dL (dSl fSl (dR 4) dNo (dSo (d1 pNeg (dC (.int 1))))))) (dRet (dC (.bl false))) dSkip) (dIfS (d2 pNe (dBv (d2 pEq (dR 4) (dL (dLst (dCons (dC .non) dNil))))) (dBv (d2 pIn (dV 3) (dTup (dCons (dC (.int 0)) (dCons (dC (.str (Str.ofString ""))) (dCons (dTup dNil) dNil))))))) (dRet (dC (.bl false))) dSkip)))))))))
def L_law_2 (g_need_value : List PV → R PV) (g_weight : List PV → R PV) (g_moves : List PV → R (List PV)) (g__law_cell : List PV → R PV) (g__law_drawn : List PV → R PV) (g__law_value : List PV → R PV) (g__law_weight : List PV → R PV) (g__law_moves : List PV → R (List PV)) : Fm → RS :=
  (dFor (dCall (fun ds => ofO (rgIt1 ds)) (dCons (dCall (fun ds => ofO (pMax2 ds)) (dCons (dC (.int 1)) (dCons (dCall (fun ds => ofO (pMin2 ds)) (dCons (dC (.int 3)) (dCons (dCall (fun ds => ofO (pLen ds)) (dCons (dV 0) dNil)) dNil))) dNil))) dNil)) (tgN 1) (B_law_2 g_need_value g_weight g_moves g__law_cell g__law_drawn g__law_value g__law_weight g__law_moves) [1, 2, 3, 4, 5])
def D_law (g__law_drawn : List PV → R PV) (g__law_cell : List PV → R PV) (g__law_value : List PV → R PV) (g_moves : List PV → R (List PV)) (g__law_moves : List PV → R (List PV)) (g_weight : List PV → R PV) (g__law_weight : List PV → R PV) (g_need_value : List PV → R PV) : Fm → RS :=
  (dSeq (L_law_2 g_need_value g_weight g_moves g__law_cell g__law_drawn g__law_value g__law_weight g__law_moves) (dRet (dC (.bl true))))
def G_is_number (ds : List PV) : R PV := if ds.length = 1 then toV ((D_is_number) (fm0 1 ds)) else .bad
def G_are_signs (ds : List PV) : R PV := if ds.length = 1 then toV ((D_are_signs) (fm0 2 ds)) else .bad
def G_is_value : Nat → List PV → R PV
  | 0, _ => .bad
  | n + 1, ds => if ds.length = 2 then toV ((D_is_value G_are_signs (G_is_value n) G_is_number) (fm0 3 ds)) else .bad
def G_need_value (ds : List PV) : R PV := if ds.length = 1 then toV ((D_need_value (G_is_value 6)) (fm0 1 ds)) else .bad
def G_weight : Nat → List PV → R PV
  | 0, _ => .bad
  | n + 1, ds => if ds.length = 1 then toV ((D_weight (G_weight n)) (fm0 3 ds)) else .bad
def G_number_moves (ds : List PV) : R (List PV) := if ds.length = 1 then toF ((D_number_moves) (fm0 5 ds)) else .bad
def G_all_moves (g_moves : List PV → R (List PV)) (ds : List PV) : R (List PV) := if ds.length = 1 then toF ((D_all_moves G_number_moves g_moves) (fm0 4 ds)) else .bad
def G_moves : Nat → List PV → R (List PV)
  | 0, _ => .bad
  | n + 1, ds => if ds.length = 1 then toF ((D_moves (G_all_moves (G_moves n))) (fm0 3 ds)) else .bad
def G__law_cell (ds : List PV) : R PV := if ds.length = 2 then toV ((D__law_cell) (fm0 2 ds)) else .bad
def G__law_drawn (ds : List PV) : R PV := if ds.length = 2 then toV ((D__law_drawn) (fm0 3 ds)) else .bad
def G__law_signs (ds : List PV) : R PV := if ds.length = 0 then toV ((D__law_signs) (fm0 0 ds)) else .bad
def G__law_value : Nat → List PV → R PV
  | 0, _ => .bad
  | n + 1, ds => if ds.length = 2 then toV ((D__law_value G__law_signs G__law_drawn (G__law_value n)) (fm0 8 ds)) else .bad
def G__law_weight : Nat → List PV → R PV
  | 0, _ => .bad
  | n + 1, ds => if ds.length = 1 then toV ((D__law_weight (G__law_weight n)) (fm0 3 ds)) else .bad
def G__law_nearer (ds : List PV) : R PV := if ds.length = 1 then toV ((D__law_nearer) (fm0 4 ds)) else .bad
def G__law_once (ds : List PV) : R (List PV) := if ds.length = 1 then toF ((D__law_once) (fm0 3 ds)) else .bad
def G__law_moves : Nat → List PV → R (List PV)
  | 0, _ => .bad
  | n + 1, ds => if ds.length = 1 then toF ((D__law_moves G__law_once G__law_nearer (G__law_moves n)) (fm0 4 ds)) else .bad
def G_law (ds : List PV) : R PV := if ds.length = 1 then toV ((D_law G__law_drawn G__law_cell (G__law_value 6) (G_moves 6) (G__law_moves 6) (G_weight 6) (G__law_weight 6) G_need_value) (fm0 6 ds)) else .bad
end Tw

set_option Elab.async false
set_option linter.all false
set_option maxRecDepth 100000
set_option maxHeartbeats 4000000
namespace Tw
open PySem PySem.Spec PyProof.Rows L2 Pv
/-! ### drawn numbers -/
theorem bits_le {a : Int} {n : Nat} (h : a.natAbs < 2 ^ n) (hn : 0 < n) : Builtin.Int.intBits a ≤ n := by
  unfold Builtin.Int.intBits
  split
  · omega
  · have := PySem.Flt.log2_lt_of hn h
    omega
theorem mulB_r {a b : Int} (h : b.natAbs < 2 ^ 64) : mulB a b = true := mulB_of (IntMulOk.of_right (bits_le h (by decide)))
theorem mulB_l {a b : Int} (h : a.natAbs < 2 ^ 64) : mulB a b = true := mulB_of (IntMulOk.of_left (bits_le h (by decide)))
theorem mulB_w {a b : Int} {m n : Nat} (ha : a.natAbs < 2 ^ m) (hb : b.natAbs < 2 ^ n) (hm : 0 < m) (hn : 0 < n) (h : m + n ≤ 1000000) : mulB a b = true := mulB_of (CMulW.ok (wide_mul ha hb hm hn h))
abbrev M1 : Int := 340282366920938463463374607431768211507
abbrev M2 : Int := 340282366920938463463374607431768211297
abbrev A1 : Int := 18446744073709551557
@[irreducible] def drawn (c k : Int) : Int :=
  let a := (c * 6364136223846793005 + (k + 1) * 1442695040888963407) % M1
  let b := a * a % M2
  ((b % A1 + 1) * (b / A1 + 1) * b) % M1
theorem drawn_lo (c k : Int) : 0 ≤ drawn c k := by
  unfold drawn
  exact Int.emod_nonneg _ (by decide)
theorem abs_lt {a m : Int} {n : Nat} (h0 : 0 ≤ a) (h : a < m) (hm : m ≤ ((2 ^ n : Nat) : Int)) : a.natAbs < 2 ^ n := by
  have h1 : ((a.natAbs : Nat) : Int) = a := Int.natAbs_of_nonneg h0
  have h2 : a < ((2 ^ n : Nat) : Int) := Int.lt_of_lt_of_le h hm
  rw [← h1] at h2
  exact Int.ofNat_lt.mp h2
theorem emod_abs {x m : Int} {n : Nat} (hm : 0 < m) (h : m ≤ ((2 ^ n : Nat) : Int)) : (x % m).natAbs < 2 ^ n := abs_lt (Int.emod_nonneg _ (by omega)) (Int.emod_lt_of_pos _ hm) h
theorem emod_abs1 {x m : Int} {n : Nat} (hm : 0 < m) (h : m + 1 ≤ ((2 ^ n : Nat) : Int)) : (x % m + 1).natAbs < 2 ^ n := by
  have h1 := Int.emod_nonneg x (show m ≠ 0 by omega)
  have h2 := Int.emod_lt_of_pos x hm
  exact abs_lt (m := m + 1) (by omega) (by omega) h
theorem ediv_abs1 {x m d : Int} {n : Nat} (hm : 0 < m) (hd : 0 < d) (h : m + 1 ≤ ((2 ^ n : Nat) : Int)) : (x % m / d + 1).natAbs < 2 ^ n := by
  have h1 := Int.emod_nonneg x (show m ≠ 0 by omega)
  have h2 := Int.emod_lt_of_pos x hm
  have h3 : 0 ≤ x % m / d := Int.ediv_nonneg h1 (by omega)
  have h4 : x % m / d ≤ x % m := Int.ediv_le_self _ h1
  exact abs_lt (m := m + 1) (by omega) (by omega) h
theorem lg1 : Nat.log2 18446744073709551557 < 9000 := by decide +kernel
theorem G_drawn (c k : Int) : G__law_drawn [.int c, .int k] = .ok (.int (drawn c k)) := by
  have h1 : mulB c 6364136223846793005 = true := mulB_r (by decide)
  have h2 : mulB (k + 1) 1442695040888963407 = true := mulB_r (by decide)
  have b1 : ∀ x : Int, (x % 340282366920938463463374607431768211507).natAbs < 2 ^ 130 := fun x => emod_abs (by decide) (by decide)
  have b2 : ∀ x : Int, (x % 340282366920938463463374607431768211297).natAbs < 2 ^ 130 := fun x => emod_abs (by decide) (by decide)
  have b3 : ∀ x : Int, (x % 18446744073709551557 + 1).natAbs < 2 ^ 65 := fun x => emod_abs1 (by decide) (by decide)
  have b4 : ∀ x : Int, (x % 340282366920938463463374607431768211297 / 18446744073709551557 + 1).natAbs < 2 ^ 130 := fun x => ediv_abs1 (by decide) (by decide) (by decide)
  have h3 : ∀ x : Int, mulB (x % 340282366920938463463374607431768211507) (x % 340282366920938463463374607431768211507) = true := fun x => mulB_w (b1 x) (b1 x) (by decide) (by decide) (by decide)
  have h4 : ∀ x : Int, mulB (x % 340282366920938463463374607431768211297 % 18446744073709551557 + 1) (x % 340282366920938463463374607431768211297 / 18446744073709551557 + 1) = true := fun x => mulB_w (b3 _) (b4 x) (by decide) (by decide) (by decide)
  have h5 : ∀ x : Int, mulB ((x % 340282366920938463463374607431768211297 % 18446744073709551557 + 1) * (x % 340282366920938463463374607431768211297 / 18446744073709551557 + 1)) (x % 340282366920938463463374607431768211297) = true := fun x => mulB_w (wide_lt (b3 _) (b4 x)) (b2 x) (by decide) (by decide) (by decide)
  simp [G__law_drawn, D__law_drawn, fm0, h1, h2, h3, h4, h5, drawn, pDiv_ii, lg1]
/-! ### a script's cells -/
theorem canInts : ∀ ns : List Int, PyData.canLayAll0 (ns.map PyData.int) = true
  | [] => rfl
  | n :: ns => by simp only [List.map_cons, PyData.canLayAll0, PyData.canLay0, canInts ns, Bool.and_self]
theorem depInts : ∀ ns : List Int, PyData.depthAll (ns.map PyData.int) = 0
  | [] => rfl
  | n :: ns => by simp only [List.map_cons, PyData.depthAll, PyData.depth, depInts ns]; rfl
theorem G_cell {ns : List Int} (k : Nat) (hl : ns.length ≤ 63) : ∃ c, G__law_cell [.scr ns, .int (k : Int)] = .ok (.int c) := by
  have e : pEq (.scr ns) (.lst []) = some (decide (ns = [])) := by
    unfold pEq
    have s1 : SeqAt.shaped (toD (.scr ns)) = true := by
      simp only [toD]
      exact shaped_of (by simp only [PyData.canLay0, canInts]) (by simp only [PyData.depth, depInts]; omega)
    have s2 : SeqAt.shaped (toD (.lst [])) = true := by decide
    rw [if_pos ⟨s1, s2⟩]
    congr 1
    cases ns with
    | nil => rfl
    | cons n ns => simp [toD, toDs, PyData.eqv, PyData.eqvAll]
  by_cases z : ns = []
  · refine ⟨(k : Int) * 7919, ?_⟩
    have h1 : mulB (k : Int) 7919 = true := mulB_r (by decide)
    rw [decide_eq_true z] at e
    simp [G__law_cell, D__law_cell, fm0, e, h1]
  · have hp : 0 < ns.length := List.length_pos_iff.mpr z
    have hn : (0 : Int) < (ns.length : Int) := by omega
    have hm : (k : Int) % (ns.length : Int) = ((k % ns.length : Nat) : Int) := by omega
    have hlt : k % ns.length < ns.length := Nat.mod_lt _ hp
    have h1 : mulB ((k : Int) / (ns.length : Int)) 104729 = true := mulB_r (by decide)
    have a1 : L2.atI ns ((k : Int) % (ns.length : Int)) = some ns[k % ns.length] := by rw [hm]; exact atI_in hlt
    have d1 : pDiv (.int (k : Int)) (.int (ns.length : Int)) = some (.int ((k : Int) / (ns.length : Int))) := pDiv_small hn (by omega)
    refine ⟨ns[k % ns.length] + (k : Int) / (ns.length : Int) * 104729, ?_⟩
    rw [decide_eq_false z] at e
    simp [G__law_cell, D__law_cell, fm0, e, hp, a1, d1, h1]
end Tw

set_option Elab.async false
set_option linter.all false
set_option maxRecDepth 100000
set_option maxHeartbeats 4000000
namespace Tw
open PySem PySem.Spec PyProof.Rows L2 Pv
/-! ### values -/
inductive Val where
  | num (i : Int)
  | txt (s : List Nat)
  | pack (xs : List Val)
mutual
def emb : Val → PV
  | .num i => .int i
  | .txt s => .str (mk s)
  | .pack xs => .tup (embs xs)
def embs : List Val → List PV
  | [] => []
  | x :: xs => emb x :: embs xs
end
theorem embs_map : ∀ xs : List Val, embs xs = xs.map emb
  | [] => by simp only [embs, List.map_nil]
  | x :: xs => by simp only [embs, List.map_cons, embs_map xs]
def okc (c : Nat) : Bool := decide (32 ≤ c) && decide (c ≤ 126) && decide (c ≠ 37)
mutual
/-- a value, so many packs around it -/
def vd : Nat → Val → Bool
  | _, .num i => decide (i.natAbs ≤ 999999)
  | _, .txt s => decide (s.length ≤ 20) && s.all okc
  | d, .pack xs => decide (d < 3) && (decide (xs.length ≤ 6) && vds (d + 1) xs)
def vds : Nat → List Val → Bool
  | _, [] => true
  | d, x :: xs => vd d x && vds d xs
end
theorem vds_all (d : Nat) : ∀ xs : List Val, vds d xs = xs.all (vd d)
  | [] => by simp only [vds, List.all_nil]
  | x :: xs => by simp only [vds, List.all_cons, vds_all d xs]
theorem vds_iff {d : Nat} {xs : List Val} : vds d xs = true ↔ ∀ x ∈ xs, vd d x = true := by rw [vds_all, List.all_eq_true]
mutual
theorem vd_mono {d e : Nat} (h : e ≤ d) : ∀ v : Val, vd d v = true → vd e v = true
  | .num _, q => by simp only [vd] at q ⊢; exact q
  | .txt _, q => by simp only [vd] at q ⊢; exact q
  | .pack xs, q => by
    simp only [vd, Bool.and_eq_true, decide_eq_true_eq] at q ⊢
    exact ⟨by omega, q.2.1, vds_mono (by omega) xs q.2.2⟩
theorem vds_mono {d e : Nat} (h : e ≤ d) : ∀ v : List Val, vds d v = true → vds e v = true
  | [], _ => by simp only [vds]
  | x :: xs, q => by
    simp only [vds, Bool.and_eq_true] at q ⊢
    exact ⟨vd_mono h x q.1, vds_mono h xs q.2⟩
end
theorem okc_lt {c : Nat} (h : okc c = true) : c < 1114112 := by
  simp only [okc, Bool.and_eq_true, decide_eq_true_eq] at h
  omega
theorem okcs_lt {s : List Nat} (h : s.all okc = true) : ∀ c ∈ s, c < 1114112 := fun c hc => okc_lt (List.all_eq_true.mp h c hc)
/-! as data -/
mutual
theorem lay_emb {d : Nat} : ∀ v : Val, vd d v = true → (toD (emb v)).canLay0 = true
  | .num _, _ => by simp only [emb, toD, PyData.canLay0]
  | .txt s, q => by
    simp only [vd, Bool.and_eq_true] at q
    simp only [emb, toD, PyData.canLay0]
    exact strOk_mk (okcs_lt q.2)
  | .pack xs, q => by
    simp only [vd, Bool.and_eq_true] at q
    simp only [emb, toD, PyData.canLay0]
    exact lay_embs xs q.2.2
theorem lay_embs {d : Nat} : ∀ v : List Val, vds d v = true → PyData.canLayAll0 (toDs (embs v)) = true
  | [], _ => by simp only [embs, toDs, PyData.canLayAll0]
  | x :: xs, q => by
    simp only [vds, Bool.and_eq_true] at q
    simp only [embs, toDs, PyData.canLayAll0, lay_emb x q.1, lay_embs xs q.2, Bool.and_self]
end
mutual
theorem dep_emb {d : Nat} : ∀ v : Val, vd d v = true → d ≤ 3 → (toD (emb v)).depth ≤ 3 - d
  | .num _, _, _ => by simp only [emb, toD, PyData.depth]; omega
  | .txt s, _, _ => by simp only [emb, toD, PyData.depth]; omega
  | .pack xs, q, h => by
    simp only [vd, Bool.and_eq_true, decide_eq_true_eq] at q
    have := dep_embs xs q.2.2 (by omega)
    simp only [emb, toD, PyData.depth]
    omega
theorem dep_embs {d : Nat} : ∀ v : List Val, vds d v = true → d ≤ 3 → PyData.depthAll (toDs (embs v)) ≤ 3 - d
  | [], _, _ => by simp only [embs, toDs, PyData.depthAll]; omega
  | x :: xs, q, h => by
    simp only [vds, Bool.and_eq_true] at q
    have h1 := dep_emb x q.1 h
    have h2 := dep_embs xs q.2 h
    simp only [embs, toDs, PyData.depthAll]
    omega
end
theorem sh_emb {v : Val} (h : vd 0 v = true) : SeqAt.shaped (toD (emb v)) = true := shaped_of (lay_emb v h) (by have := dep_emb v h (by omega); omega)
theorem toDs_emb : ∀ xs : List Val, toDs (xs.map emb) = toDs (embs xs) := fun xs => by rw [embs_map]
theorem sh_list {vs : List Val} (h : ∀ v ∈ vs, vd 0 v = true) : SeqAt.shaped (toD (.lst (vs.map emb))) = true := by
  have q : vds 0 vs = true := vds_iff.mpr h
  simp only [toD, toDs_emb]
  exact shaped_of (by simp only [PyData.canLay0]; exact lay_embs vs q) (by have := dep_embs vs q (by omega); simp only [PyData.depth]; omega)
/-! ### are_signs, is_number, is_value -/
theorem S_blank : Str.ofString " " = mk [32] := by decide +kernel
theorem S_tilde : Str.ofString "~" = mk [126] := by decide +kernel
theorem S_a : Str.ofString "a" = mk [97] := by decide +kernel
theorem S_nil : Str.ofString "" = mk [] := by decide +kernel
theorem lt_one (c d : Nat) : decide ([c] < [d]) = decide (c < d) := by
  simp only [decide_eq_decide]
  rw [List.cons_lt_cons_iff]
  simp
theorem le_l (c d : Nat) : pLe (.str (mk [d])) (chr1 c) = some (decide (d ≤ c)) := by
  show some (!decide ((mk [c]).cps.toList < (mk [d]).cps.toList)) = _
  rw [mk_cps, mk_cps, lt_one]
  congr 1
  by_cases h : c < d
  · rw [decide_eq_true h, decide_eq_false (by omega)]; rfl
  · rw [decide_eq_false h, decide_eq_true (by omega)]; rfl
theorem le_r (c d : Nat) : pLe (chr1 c) (.str (mk [d])) = some (decide (c ≤ d)) := le_l d c
def okP : PV → PV
  | .str x => .bl (okc (x.cps.getD 0 0))
  | _ => .non
theorem okP_chr (c : Nat) : okP (chr1 c) = .bl (okc c) := rfl
theorem C_signs {s : List Nat} {y : Slot} (hz : s.length ≤ 1000) : C_are_signs_1 [.pv (.str (mk s)), y] = .ok (s.map (PV.bl ∘ okc)) := by
  unfold C_are_signs_1
  rw [dLc_map okP (ds := s.map chr1) (by simp) (by rw [List.length_map]; exact sz (by omega)) (by simp) ?_]
  · rw [List.map_map]; rfl
  · intro d hd
    obtain ⟨c, _, rfl⟩ := List.mem_map.mp hd
    rw [okP_chr]
    by_cases h1 : 32 ≤ c
    · by_cases h2 : c ≤ 126
      · by_cases h3 : (c : Int) = 37
        · have h4 : c = 37 := by omega
          subst h4
          simp [S_blank, S_tilde, le_l, le_r, okc]
        · have h4 : c ≠ 37 := by omega
          simp [S_blank, S_tilde, le_l, le_r, okc, h1, h2, h3, h4]
      · simp [S_blank, S_tilde, le_l, le_r, okc, h1, h2]
    · simp [S_blank, S_tilde, le_l, le_r, okc, h1]
theorem all_map (s : List Nat) : (s.map okc).all id = s.all okc := by rw [List.all_map]; rfl
theorem G_signs {s : List Nat} (hz : s.length ≤ 1000) : G_are_signs [.str (mk s)] = .ok (.bl (s.all okc)) := by
  simp [G_are_signs, D_are_signs, fm0, C_signs hz, pAll_f]
def isNum : Val → Bool
  | .num _ => true
  | _ => false
theorem G_number (v : Val) : G_is_number [emb v] = .ok (.bl (isNum v)) := by
  cases v with
  | num i => simp [G_is_number, D_is_number, fm0, emb, isNum]
  | txt s => simp [G_is_number, D_is_number, fm0, emb, isNum]
  | pack s => simp [G_is_number, D_is_number, fm0, emb, isNum]
/-! how many packs within one another at most (for the recursions) -/
mutual
def dp : Val → Nat
  | .num _ => 0
  | .txt _ => 0
  | .pack xs => dps xs + 1
def dps : List Val → Nat
  | [] => 0
  | x :: xs => max (dp x) (dps xs)
end
theorem dp_mem {x : Val} : ∀ {xs : List Val}, x ∈ xs → dp x ≤ dps xs
  | y :: ys, h => by
    simp only [dps]
    rcases List.mem_cons.mp h with e | e
    · subst e; omega
    · have := dp_mem e; omega
mutual
theorem dp_vd {d : Nat} : ∀ v : Val, vd d v = true → d ≤ 3 → dp v ≤ 3 - d
  | .num _, _, _ => by simp only [dp]; omega
  | .txt _, _, _ => by simp only [dp]; omega
  | .pack xs, q, h => by
    simp only [vd, Bool.and_eq_true, decide_eq_true_eq] at q
    have := dps_vd xs q.2.2 (by omega)
    simp only [dp]; omega
theorem dps_vd {d : Nat} : ∀ v : List Val, vds d v = true → d ≤ 3 → dps v ≤ 3 - d
  | [], _, _ => by simp only [dps]; omega
  | x :: xs, q, h => by
    simp only [vds, Bool.and_eq_true] at q
    have h1 := dp_vd x q.1 h
    have h2 := dps_vd xs q.2 h
    simp only [dps]; omega
end
/-! an embedded value's own value -/
mutual
def unE : PV → Val
  | .int i => .num i
  | .str x => .txt x.cps.toList
  | .tup xs => .pack (unEs xs)
  | _ => .num 0
def unEs : List PV → List Val
  | [] => []
  | x :: xs => unE x :: unEs xs
end
mutual
theorem unE_emb : ∀ v : Val, unE (emb v) = v
  | .num _ => by simp only [emb, unE]
  | .txt s => by simp only [emb, unE, mk_cps]
  | .pack xs => by simp only [emb, unE, unEs_embs xs]
theorem unEs_embs : ∀ v : List Val, unEs (embs v) = v
  | [] => by simp only [embs, unEs]
  | x :: xs => by simp only [embs, unEs, unE_emb x, unEs_embs xs]
end
theorem emb_inj {u v : Val} (h : emb u = emb v) : u = v := by
  have := congrArg unE h
  rwa [unE_emb, unE_emb] at this
/-! every text and pack in it is short enough to be reckoned with -/
mutual
def short : Val → Prop
  | .num _ => True
  | .txt s => s.length ≤ 1000
  | .pack xs => xs.length ≤ 1000 ∧ shorts xs
def shorts : List Val → Prop
  | [] => True
  | x :: xs => short x ∧ shorts xs
end
theorem short_mem {x : Val} : ∀ {xs : List Val}, shorts xs → x ∈ xs → short x
  | y :: ys, h, hx => by
    simp only [shorts] at h
    rcases List.mem_cons.mp hx with e | e
    · subst e; exact h.1
    · exact short_mem h.2 e
theorem shorts_of : ∀ {xs : List Val}, (∀ x ∈ xs, short x) → shorts xs
  | [], _ => by simp only [shorts]
  | y :: ys, h => by
    simp only [shorts]
    exact ⟨h y List.mem_cons_self, shorts_of fun x hx => h x (List.mem_cons_of_mem _ hx)⟩
mutual
theorem short_vd {d : Nat} : ∀ v : Val, vd d v = true → short v
  | .num _, _ => by simp only [short]
  | .txt s, q => by
    simp only [vd, Bool.and_eq_true, decide_eq_true_eq] at q
    simp only [short]; omega
  | .pack xs, q => by
    simp only [vd, Bool.and_eq_true, decide_eq_true_eq] at q
    simp only [short]
    exact ⟨by omega, shorts_vd xs q.2.2⟩
theorem shorts_vd {d : Nat} : ∀ v : List Val, vds d v = true → shorts v
  | [], _ => by simp only [shorts]
  | x :: xs, q => by
    simp only [vds, Bool.and_eq_true] at q
    simp only [shorts]
    exact ⟨short_vd x q.1, shorts_vd xs q.2⟩
end
theorem emb_list {xs : List Val} {f : Val → PV} : (embs xs).map (fun p => f (unE p)) = xs.map f := by
  rw [embs_map, List.map_map]
  apply List.map_congr_left
  intro x _
  simp only [Function.comp, unE_emb]
theorem embs_len (xs : List Val) : (embs xs).length = xs.length := by rw [embs_map, List.length_map]
theorem G_value : ∀ (n : Nat) (v : Val) (d : Nat), short v → dp v < n → G_is_value n [emb v, .int (d : Int)] = .ok (.bl (vd d v))
  | 0, _, _, _, h => by omega
  | n + 1, .num i, d, _, _ => by
    have e : emb (.num i) = .int i := by simp only [emb]
    have hN := G_number (.num i)
    rw [e] at hN
    simp only [isNum] at hN
    by_cases c : (i.natAbs : Int) ≤ 999999
    · have c' : i.natAbs ≤ 999999 := by omega
      simp [G_is_value, D_is_value, fm0, e, hN, vd, c, c']
    · have c' : ¬ i.natAbs ≤ 999999 := by omega
      simp [G_is_value, D_is_value, fm0, e, hN, vd, c, c']
  | n + 1, .txt s, d, hs, _ => by
    have e : emb (.txt s) = .str (mk s) := by simp only [emb]
    simp only [short] at hs
    have hS := G_signs hs
    by_cases c : (s.length : Int) ≤ 20
    · have c' : s.length ≤ 20 := by omega
      simp [G_is_value, D_is_value, fm0, e, hS, vd, c, c', pLen_s hs]
    · have c' : ¬ s.length ≤ 20 := by omega
      simp [G_is_value, D_is_value, fm0, e, hS, vd, c, c', pLen_s hs]
  | n + 1, .pack xs, d, hs, hd => by
    have e : emb (.pack xs) = .tup (embs xs) := by simp only [emb]
    simp only [short] at hs
    simp only [dp] at hd
    have hC : C_is_value_1 (G_is_value n) [.pv (.tup (embs xs)), .pv (.int (d : Int)), .un] = .ok (xs.map (PV.bl ∘ vd (d + 1))) := by
      unfold C_is_value_1
      rw [dLc_map (fun p => .bl (vd (d + 1) (unE p))) (ds := embs xs) (by simp) (by rw [embs_len]; exact sz (by omega)) (by simp) ?_]
      · rw [emb_list (f := fun v => PV.bl (vd (d + 1) v))]; rfl
      · intro p hp
        rw [embs_map] at hp
        obtain ⟨x, hx, rfl⟩ := List.mem_map.mp hp
        have ih := G_value n x (d + 1) (short_mem hs.2 hx) (by have := dp_mem hx; omega)
        have c1 : ((d + 1 : Nat) : Int) = (d : Int) + 1 := by omega
        rw [c1] at ih
        simp [ih, unE_emb]
    by_cases c : (d : Int) < 3
    · have c0 : d < 3 := by omega
      by_cases c1 : (xs.length : Int) ≤ 6
      · have c2 : xs.length ≤ 6 := by omega
        simp [G_is_value, D_is_value, fm0, e, vd, c, c0, c1, c2, embs_len, hC, pAll_f, vds_all]
      · have c2 : ¬ xs.length ≤ 6 := by omega
        simp [G_is_value, D_is_value, fm0, e, vd, c, c0, c1, c2, embs_len, hC, pAll_f, vds_all]
    · have c0 : ¬ d < 3 := by omega
      simp [G_is_value, D_is_value, fm0, e, vd, c, c0]
end Tw

set_option Elab.async false
set_option linter.all false
set_option maxRecDepth 100000
set_option maxHeartbeats 4000000
namespace Tw
open PySem PySem.Spec PyProof.Rows L2 Pv
/-! ### drawn values -/
def signs0 : List Nat := [32, 33, 35, 36, 38, 39, 40, 41, 42, 43, 44, 45, 46, 47, 48, 49, 50, 51, 52, 53, 54, 55, 56, 57, 58, 59, 60, 61, 62, 63, 64, 65, 66, 67, 68, 69, 70, 71, 72, 73, 74, 75, 76, 77, 78, 79, 80, 81, 82, 83, 84, 85, 86, 87, 88, 89, 90, 91, 92, 93, 94, 95, 96, 97, 98, 99, 100, 101, 102, 103, 104, 105, 106, 107, 108, 109, 110, 111, 112, 113, 114, 115, 116, 117, 118, 119, 120, 121, 122, 123, 124, 125, 126]
theorem S_signs : Str.ofString " !#$&'()*+,-./0123456789:;<=>?@ABCDEFGHIJKLMNOPQRSTUVWXYZ[\\]^_`abcdefghijklmnopqrstuvwxyz{|}~" = mk signs0 := by decide +kernel
theorem S_ab : Str.ofString "ab" = mk [97, 98] := by decide +kernel
theorem G_sg : G__law_signs [] = .ok (.str (mk signs0)) := by
  simp [G__law_signs, D__law_signs, fm0, S_signs]
theorem ok_signs0 : signs0.all okc = true := by decide +kernel
theorem ok_ab : [97, 98].all okc = true := by decide +kernel
def pickI (f : Int → PV) : PV → PV
  | .int j => f j
  | _ => .non
/-- a text drawn of some signs -/
theorem C_text {here : Int} {sg : List Nat} {a b y z u : Slot} (h0 : 0 < sg.length) (hz : sg.length ≤ 1000) (hok : sg.all okc = true) (hh : 0 ≤ here) :
    ∃ s : List Nat, s.length ≤ 20 ∧ s.all okc = true ∧ C__law_value_1 G__law_drawn [a, b, .pv (.int here), y, z, .pv (.str (mk sg)), u, .un] = .ok (s.map chr1) := by
  have h2 : 0 ≤ here / 2 % 5 ∧ here / 2 % 5 < 5 := by omega
  obtain ⟨n, hn, hsrc⟩ : ∃ n : Nat, n ≤ 20 ∧ L2.atI [PV.int 0, PV.int 1, PV.int 2, PV.int 3, PV.int 20] (here / 2 % 5) = some (.int (n : Int)) := by
    rcases (show here / 2 % 5 = 0 ∨ here / 2 % 5 = 1 ∨ here / 2 % 5 = 2 ∨ here / 2 % 5 = 3 ∨ here / 2 % 5 = 4 by omega) with e | e | e | e | e
    · exact ⟨0, by omega, by rw [e]; rfl⟩
    · exact ⟨1, by omega, by rw [e]; rfl⟩
    · exact ⟨2, by omega, by rw [e]; rfl⟩
    · exact ⟨3, by omega, by rw [e]; rfl⟩
    · exact ⟨20, by omega, by rw [e]; rfl⟩
  have pick : ∀ x : Int, ∃ c, c ∈ sg ∧ pIdx (.str (mk sg)) (.int (x % (sg.length : Int))) = some (chr1 c) := fun x => by
    have l0 := Int.emod_nonneg x (show (sg.length : Int) ≠ 0 by omega)
    have l1 := Int.emod_lt_of_pos x (show (0 : Int) < (sg.length : Int) by omega)
    obtain ⟨k, hk⟩ : ∃ k : Nat, x % (sg.length : Int) = (k : Int) := ⟨(x % (sg.length : Int)).toNat, by omega⟩
    have hk2 : k < sg.length := by omega
    refine ⟨sg[k], List.getElem_mem _, ?_⟩
    rw [hk]
    exact pIdx_s hk2 hz
  obtain ⟨f, hf⟩ := Classical.axiomOfChoice pick
  refine ⟨(List.range n).map fun (j : Nat) => f (drawn here (j : Int)), by simpa using hn, ?_, ?_⟩
  · rw [List.all_eq_true]
    intro c hc
    obtain ⟨j, _, rfl⟩ := List.mem_map.mp hc
    exact List.all_eq_true.mp hok _ (hf _).1
  · unfold C__law_value_1
    have d5 : pDiv (.int here) (.int 2) = some (.int (here / 2)) := pDiv_small (by omega) (by omega)
    have z5 : (5 : Nat) ≤ sizeLine := sz (by omega)
    rw [dLc_map (pickI fun j => chr1 (f (drawn here j))) (ds := (List.range n).map fun (k : Nat) => PV.int (k : Int)) (by simp [d5, hsrc, rg1 (show n ≤ 1000 by omega), z5]) (by simp; exact sz (by omega)) (by simp) ?_]
    · rw [List.map_map, List.map_map]; rfl
    · intro p hp
      obtain ⟨j, _, rfl⟩ := List.mem_map.mp hp
      have q := (hf (drawn here (j : Int))).2
      simp [G_drawn, pLen_s hz, h0, q, pickI]
theorem z2 : (2 : Nat) ≤ sizeLine := sz (by omega)
theorem z4 : (4 : Nat) ≤ sizeLine := sz (by omega)
theorem z5 : (5 : Nat) ≤ sizeLine := sz (by omega)
theorem G_gen : ∀ (n d : Nat) (m : Int), d < n → d ≤ 3 → 0 ≤ m → ∃ v, G__law_value n [.int m, .int (d : Int)] = .ok (emb v) ∧ vd (3 - d) v = true
  | 0, _, _, h, _, _ => by omega
  | n + 1, d, m, hn, hd, hm => by
    have e16 : pDiv (.int m) (.int 16) = some (.int (m / 16)) := pDiv_small (by omega) (by omega)
    generalize hh : m / 16 = here at e16
    have h0 : 0 ≤ here := by omega
    generalize hw : m % 6 = way
    have w0 : 0 ≤ way ∧ way < 6 := by omega
    have e8 : pDiv (.int here) (.int 8) = some (.int (here / 8)) := pDiv_small (by omega) (by omega)
    have e4 : pDiv (.int here) (.int 4) = some (.int (here / 4)) := pDiv_small (by omega) (by omega)
    -- a number
    have num : ∃ x y : Int, ∃ l, 0 < y ∧ x.natAbs ≤ 999999 ∧ L2.atI [PV.int 5, PV.int 40, PV.int 2000, PV.int 1000000] (here % 4) = some (.int y) ∧ l = (here / 8 % y) ∧ L2.atI [PV.int l, PV.int (-l)] (here / 4 % 2) = some (.int x) := by
      obtain ⟨y, hy, hy2, a1⟩ : ∃ y : Int, 0 < y ∧ y ≤ 1000000 ∧ L2.atI [PV.int 5, PV.int 40, PV.int 2000, PV.int 1000000] (here % 4) = some (.int y) := by
        rcases (show here % 4 = 0 ∨ here % 4 = 1 ∨ here % 4 = 2 ∨ here % 4 = 3 by omega) with e | e | e | e
        · exact ⟨5, by decide, by decide, by rw [e]; rfl⟩
        · exact ⟨40, by decide, by decide, by rw [e]; rfl⟩
        · exact ⟨2000, by decide, by decide, by rw [e]; rfl⟩
        · exact ⟨1000000, by decide, by decide, by rw [e]; rfl⟩
      have b0 := Int.emod_nonneg (here / 8) (show y ≠ 0 by omega)
      have b1 := Int.emod_lt_of_pos (here / 8) hy
      rcases (show here / 4 % 2 = 0 ∨ here / 4 % 2 = 1 by omega) with e | e
      · exact ⟨here / 8 % y, y, _, hy, by omega, a1, rfl, by rw [e]; rfl⟩
      · exact ⟨-(here / 8 % y), y, _, hy, by omega, a1, rfl, by rw [e]; rfl⟩
    obtain ⟨x, y, l, hy, hx, a1, hl, a2⟩ := num
    subst hl
    by_cases c1 : way < 3
    · refine ⟨.num x, ?_, by simp only [vd]; exact decide_eq_true hx⟩
      simp [G__law_value, D__law_value, fm0, e16, hw, c1, e8, e4, z4, z2, a1, hy, a2, emb]
    · by_cases c2 : 4 < way ∧ d = 0
      · refine ⟨.num x, ?_, by simp only [vd]; exact decide_eq_true hx⟩
        simp [G__law_value, D__law_value, fm0, e16, hw, c1, c2.1, c2.2, e8, e4, z4, z2, a1, hy, a2, emb]
      · have c3 : decide (4 < way) = true → decide ((d : Int) = 0) = false := fun z => decide_eq_false (by have := of_decide_eq_true z; omega)
        by_cases c4 : way < 5
        · have c5 : ¬ 4 < way := by omega
          -- a text
          obtain ⟨sg, q0, q1, q2, q3⟩ : ∃ sg : List Nat, 0 < sg.length ∧ sg.length ≤ 1000 ∧ sg.all okc = true ∧ L2.atI [PV.str (mk [97, 98]), PV.str (mk signs0)] (here % 2) = some (.str (mk sg)) := by
            rcases (show here % 2 = 0 ∨ here % 2 = 1 by omega) with e | e
            · exact ⟨[97, 98], by decide, by decide, ok_ab, by rw [e]; rfl⟩
            · exact ⟨signs0, by decide, by decide, ok_signs0, by rw [e]; rfl⟩
          obtain ⟨s, s1, s2, s3⟩ := C_text (here := here) (sg := sg) (a := .pv (.int m)) (b := .pv (.int (d : Int))) (y := .pv (.int way)) (z := .un) (u := .un) q0 q1 q2 h0
          refine ⟨.txt s, ?_, by simp only [vd, Bool.and_eq_true, decide_eq_true_eq]; exact ⟨s1, s2⟩⟩
          simp [G__law_value, D__law_value, fm0, e16, hw, c1, c4, c5, S_ab, G_sg, z2, q3, s3, S_nil, pJoin_chr (show s.length ≤ 1000 by omega), emb]
        · have c5 : 4 < way := by omega
          have dp0 : d ≠ 0 := fun z => c2 ⟨c5, z⟩
          have c6 : ¬ (d : Int) = 0 := by omega
          -- a pack
          obtain ⟨k, hk, a3⟩ : ∃ k : Nat, k ≤ 6 ∧ L2.atI [PV.int 3, PV.int 6] (if decide ((d : Int) = 1) = true then 1 else 0) = some (.int (k : Int)) := by
            by_cases z : (d : Int) = 1
            · exact ⟨6, by omega, by rw [decide_eq_true z]; rfl⟩
            · exact ⟨3, by omega, by rw [decide_eq_false z]; rfl⟩
          obtain ⟨many, hmany, a4⟩ : ∃ k' : Nat, k' ≤ 6 ∧ L2.atI [PV.int 0, PV.int 1, PV.int 2, PV.int 3, PV.int (k : Int)] (here % 5) = some (.int (k' : Int)) := by
            rcases (show here % 5 = 0 ∨ here % 5 = 1 ∨ here % 5 = 2 ∨ here % 5 = 3 ∨ here % 5 = 4 by omega) with e | e | e | e | e
            · exact ⟨0, by omega, by rw [e]; rfl⟩
            · exact ⟨1, by omega, by rw [e]; rfl⟩
            · exact ⟨2, by omega, by rw [e]; rfl⟩
            · exact ⟨3, by omega, by rw [e]; rfl⟩
            · exact ⟨k, by omega, by rw [e]; rfl⟩
          have dd : (d : Int) - 1 = ((d - 1 : Nat) : Int) := by omega
          have ih : ∀ j : Int, ∃ v, G__law_value n [.int (drawn here j), .int ((d : Int) - 1)] = .ok (emb v) ∧ vd (3 - (d - 1)) v = true := fun j => by
            rw [dd]
            exact G_gen n (d - 1) (drawn here j) (by omega) (by omega) (drawn_lo _ _)
          obtain ⟨f, hf⟩ := Classical.axiomOfChoice ih
          have hC : C__law_value_2 G__law_drawn (G__law_value n) [.pv (.int m), .pv (.int (d : Int)), .pv (.int here), .pv (.int way), .un, .un, .pv (.int (many : Int)), .un] = .ok (((List.range many).map fun (j : Nat) => f (j : Int)).map emb) := by
            unfold C__law_value_2
            rw [dLc_map (pickI fun j => emb (f j)) (ds := (List.range many).map fun (k : Nat) => PV.int (k : Int)) (by simp [rg1 (show many ≤ 1000 by omega)]) (by simp; exact sz (by omega)) (by simp) ?_]
            · rw [List.map_map, List.map_map]; rfl
            · intro p hp
              obtain ⟨j, _, rfl⟩ := List.mem_map.mp hp
              simp [G_drawn, (hf (j : Int)).1, pickI]
          refine ⟨.pack ((List.range many).map fun (j : Nat) => f (j : Int)), ?_, ?_⟩
          · have a3' : L2.atI [PV.int 3, PV.int 6] (if (d : Int) = 1 then 1 else 0) = some (.int (k : Int)) := by simpa using a3
            rw [← embs_map] at hC
            by_cases z : (d : Int) = 1
            · rw [if_pos z] at a3'
              rw [z] at hC
              simp [G__law_value, D__law_value, fm0, e16, hw, c1, c4, c5, z2, z5, z, a3', a4, hC, emb]
            · rw [if_neg z] at a3'
              have zn : ¬ d = 1 := by omega
              simp [G__law_value, D__law_value, fm0, e16, hw, c1, c4, c5, c6, dp0, z2, z5, z, zn, a3', a4, hC, emb]
          · simp only [vd, Bool.and_eq_true, decide_eq_true_eq]
            refine ⟨by omega, by simpa using hmany, ?_⟩
            rw [vds_iff]
            intro v hv
            obtain ⟨j, _, rfl⟩ := List.mem_map.mp hv
            have := (hf (j : Int)).2
            rw [show 3 - (d - 1) = 3 - d + 1 by omega] at this
            exact this
end Tw

set_option Elab.async false
set_option linter.all false
set_option maxRecDepth 100000
set_option maxHeartbeats 4000000
namespace Tw
open PySem PySem.Spec PyProof.Rows L2 Pv
/-! ### halves -/
def hv : Nat → Nat → List Nat
  | 0, _ => []
  | n + 1, b => if b = 0 then [] else b :: hv n (b / 2)
theorem hv_len : ∀ n b : Nat, (hv n b).length ≤ n
  | 0, _ => Nat.le_refl _
  | n + 1, b => by
    unfold hv
    split
    · exact Nat.zero_le _
    · have := hv_len n (b / 2)
      simp only [List.length_cons]; omega
theorem hv_mem : ∀ (n b h : Nat), h ∈ hv n b → 0 < h ∧ h ≤ b
  | n + 1, b, h, q => by
    unfold hv at q
    split at q
    · cases q
    · rcases List.mem_cons.mp q with e | e
      · omega
      · have := hv_mem n (b / 2) h e; omega
theorem hv_zero (n : Nat) : hv n 0 = [] := by cases n <;> simp [hv]
def sgn (i : Int) : Int := if 0 < i then 1 else -1
def nmv (i : Int) : List Int := if i = 0 then [] else (0 :: (if i < 0 then [(i.natAbs : Int)] else [])) ++ (hv 63 (i.natAbs / 2)).map fun (h : Nat) => sgn i * ((i.natAbs : Int) - (h : Int))
theorem nm_loop (i : Int) (sg : Int) (a : Nat) (hs : sg.natAbs ≤ 1) : ∀ (n b : Nat) (l : List PV), b < 2 ^ n → l.length + n ≤ 1000 →
    whGo (d2 pGt (dV 4) (dC (.int 0))) B_number_moves_1 [] (n + 1) [.pv (.int i), .pv (.int (a : Int)), .pv (.int sg), .own l, .pv (.int (b : Int))] =
      .nx [.pv (.int i), .pv (.int (a : Int)), .pv (.int sg), .own (l ++ (hv n b).map fun (h : Nat) => .int (sg * ((a : Int) - (h : Int)))), .pv (.int 0)]
  | 0, b, l, hb, hl => by
    have e : b = 0 := by simp at hb; omega
    subst e
    rw [whGo]
    simp [hv]
  | n + 1, b, l, hb, hl => by
    by_cases z : b = 0
    · subst z
      rw [whGo]
      simp [hv]
    · have z1 : (0 : Int) < (b : Int) := by omega
      have zb : 0 < b := by omega
      have hm : mulB sg ((a : Int) - (b : Int)) = true := mulB_l (by omega)
      have hd : pDiv (.int (b : Int)) (.int 2) = some (.int ((b / 2 : Nat) : Int)) := by
        rw [pDiv_small (by omega) (by omega)]
        simp
      have hz : l.length < sizeLine := szl (by omega)
      have hb2 : b / 2 < 2 ^ n := by rw [Nat.pow_succ] at hb; omega
      have ih := nm_loop i sg a hs n (b / 2) (l ++ [.int (sg * ((a : Int) - (b : Int)))]) hb2 (by simp; omega)
      rw [whGo]
      have e1 : (d2 pGt (dV 4) (dC (.int 0))) [.pv (.int i), .pv (.int (a : Int)), .pv (.int sg), .own l, .pv (.int (b : Int))] = .ok true := by simp [zb]
      have e2 : B_number_moves_1 [.pv (.int i), .pv (.int (a : Int)), .pv (.int sg), .own l, .pv (.int (b : Int))] = .nx [.pv (.int i), .pv (.int (a : Int)), .pv (.int sg), .own (l ++ [.int (sg * ((a : Int) - (b : Int)))]), .pv (.int ((b / 2 : Nat) : Int))] := by
        simp [B_number_moves_1, hm, hz, hd]
      rw [e1]
      simp only [e2, clr_nil]
      rw [ih]
      simp [hv, z]
theorem z0 : (0 : Nat) ≤ sizeLine := Nat.zero_le _
theorem z1 : (1 : Nat) ≤ sizeLine := sz (by omega)
theorem z3 : (3 : Nat) ≤ sizeLine := sz (by omega)
theorem G_nm {i : Int} (h : i.natAbs ≤ 999999) : G_number_moves [.int i] = .ok ((nmv i).map .int) := by
  by_cases z : i = 0
  · subst z
    simp [G_number_moves, D_number_moves, fm0, nmv]
  · have hd : pDiv (.int (i.natAbs : Int)) (.int 2) = some (.int ((i.natAbs / 2 : Nat) : Int)) := by
      rw [pDiv_small (by omega) (by omega)]
      simp
    have L : ∀ (sg : Int) (l : List PV), sg.natAbs ≤ 1 → l.length ≤ 2 → L_number_moves_1 [.pv (.int i), .pv (.int (i.natAbs : Int)), .pv (.int sg), .own l, .pv (.int ((i.natAbs / 2 : Nat) : Int))] =
        .nx [.pv (.int i), .pv (.int (i.natAbs : Int)), .pv (.int sg), .own (l ++ (hv 63 (i.natAbs / 2)).map fun (h : Nat) => .int (sg * ((i.natAbs : Int) - (h : Int)))), .pv (.int 0)] := fun sg l h1 h2 => by
      unfold L_number_moves_1 dWhile
      rw [clr_nil]
      exact nm_loop i sg i.natAbs h1 63 (i.natAbs / 2) l (Nat.lt_of_lt_of_le (show i.natAbs / 2 < 2 ^ 20 by omega) (Nat.pow_le_pow_right (by omega) (by omega))) (by omega)
    by_cases p : i < 0
    · have p' : ¬ 0 < i := by omega
      have LL := L (-1) [.int 0, .int (i.natAbs : Int)] (by decide) (by simp)
      simp [G_number_moves, D_number_moves, fm0, z, p, p', z0, z1, z2, hd, nmv, sgn] at LL ⊢
      simp [LL]
    · have p' : 0 < i := by omega
      have LL := L 1 [.int 0] (by decide) (by simp)
      simp [G_number_moves, D_number_moves, fm0, z, p, p', z0, z1, z2, hd, nmv, sgn] at LL ⊢
      simp [LL]
/-! the law's own way to the same numbers -/
theorem nr_loop (i : Int) (z : i ≠ 0) : ∀ (n p b : Nat) (l : List PV), 0 < p → i.natAbs / p = b → b < 2 ^ n → p * 2 ^ n ≤ 2 ^ 70 → l.length + n ≤ 1000 →
    ∃ p' : Int, whGo (d2 pGt (d2 pDiv (dCall (fun ds => ofO (pAbs ds)) (dCons (dV 0) dNil)) (dV 2)) (dC (.int 0))) B__law_nearer_1 [3] (n + 1) [.pv (.int i), .own l, .pv (.int (p : Int)), .un] =
      .nx [.pv (.int i), .own (l ++ (hv n b).map fun (h : Nat) => .int (sgn i * ((i.natAbs : Int) - (h : Int)))), .pv (.int p'), .un]
  | n, p, b, l, hp, hpb, hb, hq, hl => by
    have hp70 : p ≤ 2 ^ 70 := Nat.le_trans (Nat.le_mul_of_pos_right p (Nat.two_pow_pos n)) hq
    have hlog : ((p : Int).natAbs).log2 < 9000 := by
      rw [Int.natAbs_natCast]
      have : p < 2 ^ 71 := Nat.lt_of_le_of_lt hp70 (Nat.pow_lt_pow_right (by omega) (by omega))
      exact Nat.lt_trans (PySem.Flt.log2_lt_of (by omega) this) (by omega)
    have hd : pDiv (.int (i.natAbs : Int)) (.int (p : Int)) = some (.int (b : Int)) := by
      rw [pDiv_ii, if_pos ⟨by omega, hlog⟩, ← hpb]
      simp
    cases n with
    | zero =>
      have e : b = 0 := by rw [Nat.pow_zero] at hb; omega
      subst e
      refine ⟨p, ?_⟩
      rw [whGo]
      simp [hd, hv]
    | succ n =>
      by_cases zb : b = 0
      · subst zb
        refine ⟨p, ?_⟩
        rw [whGo]
        simp [hd, hv]
      · have zp : 0 < b := by omega
        have e2 : i.natAbs / (2 * p) = b / 2 := by rw [Nat.mul_comm, ← Nat.div_div_eq_div_mul, hpb]
        have hm : mulB 2 (p : Int) = true := mulB_l (by decide)
        have hz : l.length < sizeLine := szl (by omega)
        have hb2 : b / 2 < 2 ^ n := by rw [Nat.pow_succ] at hb; omega
        obtain ⟨p', ih⟩ := nr_loop i z n (2 * p) (b / 2) (l ++ [.int (sgn i * ((i.natAbs : Int) - (b : Int)))]) (by omega) e2 hb2 (by rw [Nat.pow_succ] at hq; rw [show 2 * p * 2 ^ n = p * (2 ^ n * 2) by rw [Nat.mul_comm 2 p, Nat.mul_assoc, Nat.mul_comm 2]]; exact hq) (by simp; omega)
        refine ⟨p', ?_⟩
        rw [whGo]
        have c1 : (d2 pGt (d2 pDiv (dCall (fun ds => ofO (pAbs ds)) (dCons (dV 0) dNil)) (dV 2)) (dC (.int 0))) [.pv (.int i), .own l, .pv (.int (p : Int)), .un] = .ok true := by
          simp [hd, zp]
        have c2 : B__law_nearer_1 [.pv (.int i), .own l, .pv (.int (p : Int)), .un] = .nx [.pv (.int i), .own (l ++ [.int (sgn i * ((i.natAbs : Int) - (b : Int)))]), .pv (.int ((2 * p : Nat) : Int)), .pv (.int (b : Int))] := by
          have c3 : ((2 * p : Nat) : Int) = 2 * (p : Int) := by omega
          by_cases q : 0 < i
          · have q2 : sgn i * ((i.natAbs : Int) - (b : Int)) = i - (b : Int) := by
              rw [sgn, if_pos q]; omega
            rw [q2, c3]
            simp [B__law_nearer_1, hd, q, hm, hz]
          · have q2 : sgn i * ((i.natAbs : Int) - (b : Int)) = i + (b : Int) := by
              rw [sgn, if_neg q]; omega
            rw [q2, c3]
            simp [B__law_nearer_1, hd, q, hm, hz]
        rw [c1]
        simp only [c2, clr_cons, clr_nil, List.set_cons_zero, List.set_cons_succ]
        rw [ih]
        simp [hv, zb]
theorem G_nr {i : Int} (h : i.natAbs ≤ 999999) : G__law_nearer [.int i] = .ok (.lst ((nmv i).map .int)) := by
  by_cases z : i = 0
  · subst z
    have L : L__law_nearer_1 [.pv (.int 0), .own [.int 0], .pv (.int 2), .un] = .nx [.pv (.int 0), .own [.int 0], .pv (.int 2), .un] := by
      unfold L__law_nearer_1 dWhile
      rw [whGo]
      have hd : pDiv (.int 0) (.int 2) = some (.int 0) := by rw [pDiv_small (by omega) (by omega)]; rfl
      simp [hd]
    simp [G__law_nearer, D__law_nearer, fm0, nmv, z1, L]
  · have L : ∀ l : List PV, l.length ≤ 2 → ∃ p', L__law_nearer_1 [.pv (.int i), .own l, .pv (.int 2), .un] = .nx [.pv (.int i), .own (l ++ (hv 63 (i.natAbs / 2)).map fun (h : Nat) => .int (sgn i * ((i.natAbs : Int) - (h : Int)))), .pv (.int p'), .un] := fun l hl => by
      unfold L__law_nearer_1 dWhile
      simp only [clr_cons, clr_nil, List.set_cons_zero, List.set_cons_succ]
      exact nr_loop i z 63 2 _ l (by omega) rfl (Nat.lt_of_lt_of_le (show i.natAbs / 2 < 2 ^ 20 by omega) (Nat.pow_le_pow_right (by omega) (by omega))) (by rw [show (2 : Nat) * 2 ^ 63 = 2 ^ 64 by decide]; exact Nat.pow_le_pow_right (by omega) (by omega)) (by omega)
    by_cases p : i < 0
    · obtain ⟨p', LL⟩ := L [.int 0, .int (0 - i)] (by simp)
      have e0 : (0 : Int) - i = (i.natAbs : Int) := by omega
      rw [e0] at LL
      have e1 : -i = (i.natAbs : Int) := by omega
      have hz : (1 : Nat) < sizeLine := szl (by omega)
      simp [G__law_nearer, D__law_nearer, fm0, z, p, z1, hz, nmv, e1] at LL ⊢
      simp [LL, z]
    · obtain ⟨p', LL⟩ := L [.int 0] (by simp)
      simp [G__law_nearer, D__law_nearer, fm0, z, p, z1, nmv] at LL ⊢
      simp [LL, z]
end Tw

set_option Elab.async false
set_option linter.all false
set_option maxRecDepth 100000
set_option maxHeartbeats 4000000
namespace Tw
open PySem PySem.Spec PyProof.Rows L2 Pv
/-! ### each once -/
def eqb (u v : Val) : Bool := PyData.eqv (toD (emb u)) (toD (emb v))
def once : List Val → List Val → List Val
  | acc, [] => acc
  | acc, x :: r => if acc.any (fun z => eqb z x) = true then once acc r else once (acc ++ [x]) r
theorem once_mem {u : Val} : ∀ (l acc : List Val), u ∈ once acc l → u ∈ acc ∨ u ∈ l
  | [], acc, h => .inl h
  | x :: r, acc, h => by
    unfold once at h
    split at h
    · rcases once_mem r acc h with z | z
      · exact .inl z
      · exact .inr (List.mem_cons_of_mem _ z)
    · rcases once_mem r _ h with z | z
      · rcases List.mem_append.mp z with z | z
        · exact .inl z
        · rw [List.mem_singleton] at z; subst z; exact .inr List.mem_cons_self
      · exact .inr (List.mem_cons_of_mem _ z)
theorem once_len : ∀ (l acc : List Val), (once acc l).length ≤ acc.length + l.length
  | [], acc => by unfold once; simp
  | x :: r, acc => by
    unfold once
    split
    · have := once_len r acc; simp only [List.length_cons]; omega
    · have := once_len r (acc ++ [x]); simp only [List.length_cons, List.length_append, List.length_nil] at this ⊢; omega
theorem once_ge : ∀ (l acc : List Val), acc.length ≤ (once acc l).length
  | [], acc => Nat.le_refl _
  | x :: r, acc => by
    unfold once
    split
    · exact once_ge r acc
    · have := once_ge r (acc ++ [x]); simp only [List.length_append, List.length_cons, List.length_nil] at this; omega
theorem once_nil {l : List Val} : once [] l = [] ↔ l = [] := by
  constructor
  · intro h
    cases l with
    | nil => rfl
    | cons x r =>
      unfold once at h
      rw [if_neg (by simp)] at h
      have := once_ge r ([] ++ [x])
      rw [h] at this
      simp at this
  · intro h; subst h; rfl
theorem pNI {x : Val} {acc : List Val} (hx : vd 0 x = true) (ha : ∀ v ∈ acc, vd 0 v = true) : pNotIn (emb x) (.lst (acc.map emb)) = some (!(acc.any fun z => eqb z x)) := by
  show (if SeqAt.shaped (toD (emb x)) = true ∧ SeqAt.shaped (toD (.lst (acc.map emb))) = true then some (inL (emb x) (acc.map emb)) else none).map (!·) = _
  rw [if_pos ⟨sh_emb hx, sh_list ha⟩]
  simp only [Option.map_some, inL, List.any_map]
  rfl
theorem once_loop (v : Slot) : ∀ (l acc : List Val), (∀ x ∈ l, vd 0 x = true) → (∀ x ∈ acc, vd 0 x = true) → acc.length + l.length ≤ 100000 →
    forGo (tgN 2) (dIfS (d2 pNotIn (dV 2) (dR 1)) (dApp 1 (dV 2)) dSkip) [2] (l.map emb) [v, .own (acc.map emb), .un] = .nx [v, .own ((once acc l).map emb), .un]
  | [], acc, _, _, _ => by simp [forGo, once]
  | x :: r, acc, hl, ha, hz => by
    have q := pNI (hl x List.mem_cons_self) ha
    have hz2 : (acc.map emb).length < sizeLine := szl (by simp at hz ⊢; omega)
    rw [List.map_cons, forGo]
    cases c : acc.any fun z => eqb z x with
    | true =>
      rw [c] at q
      have ih := once_loop v r acc (fun y hy => hl y (List.mem_cons_of_mem _ hy)) ha (by simp at hz ⊢; omega)
      simp [q, once, c, ih]
    | false =>
      rw [c] at q
      have ih := once_loop v r (acc ++ [x]) (fun y hy => hl y (List.mem_cons_of_mem _ hy)) (fun y hy => by
        rcases List.mem_append.mp hy with z | z
        · exact ha y z
        · rw [List.mem_singleton] at z; subst z; exact hl y List.mem_cons_self) (by simp at hz ⊢; omega)
      rw [List.map_append, List.map_singleton] at ih
      rw [List.length_map] at hz2
      simp [q, once, c, hz2, ih]
/-! ### the moves -/
def rem {α : Type} (l : List α) : List (List α) := (List.range l.length).map fun (k : Nat) => l.take k ++ l.drop (k + 1)
def chA (s : List Nat) (k : Nat) : List (List Nat) := if s[k]? = some 97 then [] else [s.take k ++ [97] ++ s.drop (k + 1)]
def chP (xs : List Val) (ms : List (List Val)) (k : Nat) : List (List Val) := (ms.getD k []).map fun u => xs.take k ++ [u] ++ xs.drop (k + 1)
mutual
def mv : Val → List Val
  | .num i => once [] ((nmv i).map .num)
  | .txt s => once [] ((rem s ++ (List.range s.length).flatMap (chA s)).map .txt)
  | .pack xs => once [] ((rem xs ++ (List.range xs.length).flatMap (chP xs (mvs xs))).map .pack)
def mvs : List Val → List (List Val)
  | [] => []
  | x :: xs => mv x :: mvs xs
end
theorem mvs_map : ∀ xs : List Val, mvs xs = xs.map mv
  | [] => by simp only [mvs, List.map_nil]
  | x :: xs => by simp only [mvs, List.map_cons, mvs_map xs]
theorem mvs_get {xs : List Val} {k : Nat} (h : k < xs.length) : (mvs xs).getD k [] = mv xs[k] := by
  rw [mvs_map, List.getD_eq_getElem?_getD, List.getElem?_map, List.getElem?_eq_getElem h]
  rfl
def amv : Val → List Val
  | .num i => (nmv i).map .num
  | .txt s => (rem s ++ (List.range s.length).flatMap (chA s)).map .txt
  | .pack xs => (rem xs ++ (List.range xs.length).flatMap (chP xs (mvs xs))).map .pack
theorem mv_eq (v : Val) : mv v = once [] (amv v) := by cases v <;> simp only [mv, amv]
/-! values stay values -/
theorem mem_rem {α : Type} {l : List α} {r : List α} (h : r ∈ rem l) : ∃ k, k < l.length ∧ r = l.take k ++ l.drop (k + 1) := by
  obtain ⟨k, hk, rfl⟩ := List.mem_map.mp h
  exact ⟨k, List.mem_range.mp hk, rfl⟩
theorem nmv_abs {i x : Int} (h : x ∈ nmv i) : x.natAbs ≤ i.natAbs := by
  unfold nmv at h
  split at h
  · cases h
  · rcases List.mem_append.mp h with z | z
    · rcases List.mem_cons.mp z with e | e
      · subst e; simp
      · split at e
        · rw [List.mem_singleton] at e; subst e; omega
        · cases e
    · obtain ⟨q, hq, rfl⟩ := List.mem_map.mp z
      have := hv_mem _ _ _ hq
      rw [Int.natAbs_mul]
      have hs : (sgn i).natAbs = 1 := by unfold sgn; split <;> rfl
      rw [hs]; omega
theorem mem_take_drop {α : Type} {l : List α} {k : Nat} {x : α} (h : x ∈ l.take k ++ l.drop (k + 1)) : x ∈ l := by
  rcases List.mem_append.mp h with z | z
  · exact List.mem_of_mem_take z
  · exact List.mem_of_mem_drop z
mutual
theorem vd_amv {d : Nat} : ∀ (v : Val), vd d v = true → ∀ u ∈ amv v, vd d u = true
  | .num i, h, u, hu => by
    simp only [amv] at hu
    obtain ⟨x, hx, rfl⟩ := List.mem_map.mp hu
    have := nmv_abs hx
    simp only [vd, decide_eq_true_eq] at h ⊢
    omega
  | .txt s, h, u, hu => by
    simp only [amv] at hu
    obtain ⟨t, ht, rfl⟩ := List.mem_map.mp hu
    simp only [vd, Bool.and_eq_true, decide_eq_true_eq, List.all_eq_true] at h ⊢
    rcases List.mem_append.mp ht with z | z
    · obtain ⟨k, hk, rfl⟩ := mem_rem z
      exact ⟨by rw [List.length_append, List.length_take, List.length_drop]; omega, fun c hc => h.2 c (mem_take_drop hc)⟩
    · obtain ⟨k, hk, z⟩ := List.mem_flatMap.mp z
      unfold chA at z
      split at z
      · cases z
      · rw [List.mem_singleton] at z
        subst z
        have hk := List.mem_range.mp hk
        refine ⟨by simp only [List.length_append, List.length_take, List.length_drop, List.length_cons, List.length_nil]; omega, fun c hc => ?_⟩
        rcases List.mem_append.mp hc with z | z
        · rcases List.mem_append.mp z with z | z
          · exact h.2 c (List.mem_of_mem_take z)
          · rw [List.mem_singleton] at z; subst z; decide
        · exact h.2 c (List.mem_of_mem_drop z)
  | .pack xs, h, u, hu => by
    simp only [amv] at hu
    obtain ⟨t, ht, rfl⟩ := List.mem_map.mp hu
    simp only [vd, Bool.and_eq_true, decide_eq_true_eq] at h ⊢
    have h3 := vds_iff.mp h.2.2
    refine ⟨h.1, ?_⟩
    rcases List.mem_append.mp ht with z | z
    · obtain ⟨k, hk, rfl⟩ := mem_rem z
      exact ⟨by rw [List.length_append, List.length_take, List.length_drop]; omega, vds_iff.mpr fun c hc => h3 c (mem_take_drop hc)⟩
    · obtain ⟨k, hk, z⟩ := List.mem_flatMap.mp z
      have hk := List.mem_range.mp hk
      unfold chP at z
      obtain ⟨w, hw, rfl⟩ := List.mem_map.mp z
      have hw2 := vds_mvs xs h.2.2 k w hw
      refine ⟨by simp only [List.length_append, List.length_take, List.length_drop, List.length_cons, List.length_nil]; omega, vds_iff.mpr fun c hc => ?_⟩
      rcases List.mem_append.mp hc with z | z
      · rcases List.mem_append.mp z with z | z
        · exact h3 c (List.mem_of_mem_take z)
        · rw [List.mem_singleton] at z; subst z; exact hw2
      · exact h3 c (List.mem_of_mem_drop z)
theorem vds_mvs {d : Nat} : ∀ (xs : List Val), vds d xs = true → ∀ k, ∀ w ∈ (mvs xs).getD k [], vd d w = true
  | [], _, k, w, hw => by simp [mvs] at hw
  | x :: xs, h, k, w, hw => by
    simp only [vds, Bool.and_eq_true] at h
    cases k with
    | zero =>
      simp only [mvs, List.getD_cons_zero] at hw
      rw [mv_eq] at hw
      rcases once_mem _ _ hw with z | z
      · cases z
      · exact vd_amv x h.1 w z
    | succ k =>
      simp only [mvs, List.getD_cons_succ] at hw
      exact vds_mvs xs h.2 k w hw
end
theorem vd_mv {d : Nat} {v u : Val} (h : vd d v = true) (hu : u ∈ mv v) : vd d u = true := by
  rw [mv_eq] at hu
  rcases once_mem _ _ hu with z | z
  · cases z
  · exact vd_amv v h u z
/-! how many -/
def BB : Nat → Nat
  | 0 => 65
  | n + 1 => 6 + 6 * BB n
theorem BB_le {m n : Nat} (h : m ≤ n) : BB m ≤ BB n := by
  induction h with
  | refl => exact Nat.le_refl _
  | step _ ih => simp only [BB]; omega
theorem BB_ge (n : Nat) : 65 ≤ BB n := by have := BB_le (Nat.zero_le n); simpa [BB] using this
theorem nmv_len (i : Int) : (nmv i).length ≤ 65 := by
  unfold nmv
  have := hv_len 63 (i.natAbs / 2)
  split
  · simp
  · split
    · simp; omega
    · simp; omega
theorem flat_len {α : Type} {f : Nat → List α} {b : Nat} : ∀ n : Nat, (∀ k, k < n → (f k).length ≤ b) → ((List.range n).flatMap f).length ≤ n * b
  | 0, _ => by simp
  | n + 1, h => by
    rw [List.range_succ, List.flatMap_append, List.length_append]
    have h1 := flat_len n fun k hk => h k (by omega)
    have h2 := h n (by omega)
    simp only [List.flatMap_cons, List.flatMap_nil, List.append_nil]
    rw [Nat.succ_mul]; omega
theorem rem_len {α : Type} (l : List α) : (rem l).length = l.length := by unfold rem; rw [List.length_map, List.length_range]
theorem chA_len (s : List Nat) (k : Nat) : (chA s k).length ≤ 1 := by unfold chA; split <;> simp
mutual
theorem amv_len {d : Nat} : ∀ (v : Val), vd d v = true → d ≤ 3 → (amv v).length ≤ BB (3 - d)
  | .num i, h, hd => by
    simp only [amv, List.length_map]
    have := nmv_len i
    have := BB_ge (3 - d)
    omega
  | .txt s, h, hd => by
    simp only [amv, List.length_map, List.length_append, rem_len]
    simp only [vd, Bool.and_eq_true, decide_eq_true_eq] at h
    have h1 := flat_len (f := chA s) s.length fun k _ => chA_len s k
    have := BB_ge (3 - d)
    omega
  | .pack xs, h, hd => by
    simp only [amv, List.length_map, List.length_append, rem_len]
    simp only [vd, Bool.and_eq_true, decide_eq_true_eq] at h
    have h2 := mvs_len xs h.2.2 (by omega)
    have h1 := flat_len (f := chP xs (mvs xs)) (b := BB (3 - (d + 1))) xs.length fun k _ => by unfold chP; rw [List.length_map]; exact h2 k
    rw [show 3 - d = 3 - (d + 1) + 1 by omega]
    simp only [BB]
    have h3 : xs.length * BB (3 - (d + 1)) ≤ 6 * BB (3 - (d + 1)) := Nat.mul_le_mul_right _ h.2.1
    omega
theorem mvs_len {d : Nat} : ∀ (xs : List Val), vds d xs = true → d ≤ 3 → ∀ k, ((mvs xs).getD k []).length ≤ BB (3 - d)
  | [], _, _, k => by simp [mvs]
  | x :: xs, h, hd, k => by
    simp only [vds, Bool.and_eq_true] at h
    cases k with
    | zero =>
      simp only [mvs, List.getD_cons_zero]
      rw [mv_eq]
      have h1 := once_len (amv x) []
      have h2 := amv_len x h.1 hd
      simp only [List.length_nil] at h1
      omega
    | succ k =>
      simp only [mvs, List.getD_cons_succ]
      exact mvs_len xs h.2 hd k
end
theorem mv_len {d : Nat} {v : Val} (h : vd d v = true) (hd : d ≤ 3) : (mv v).length ≤ BB (3 - d) := by
  rw [mv_eq]
  have h1 := once_len (amv v) []
  have h2 := amv_len v h hd
  simp only [List.length_nil] at h1
  omega
theorem BB3 : BB 3 = 14298 := by decide
theorem amv_small {v : Val} (h : vd 0 v = true) : (amv v).length ≤ 14298 := by have := amv_len v h (by omega); rw [BB3] at this; exact this
theorem mv_small {v : Val} (h : vd 0 v = true) : (mv v).length ≤ 14298 := by have := mv_len h (by omega); rw [BB3] at this; exact this
end Tw

set_option Elab.async false
set_option linter.all false
set_option maxRecDepth 100000
set_option maxHeartbeats 4000000
namespace Tw
open PySem PySem.Spec PyProof.Rows L2 Pv
/-! ### slices -/
theorem slS_to {s : List Nat} (h : s.length ≤ 1000) (k : Nat) : pSl (.str (mk s)) none (some (k : Int)) = some (.str (mk (s.take k))) := by
  show (if (mk s).length ≤ sizeLine then some (PV.str (cutS (mk s) none (some (k : Int)))) else none) = _
  rw [mk_len, if_pos (sz (by omega)), cutS_mk, cutP_to]
theorem slS_fr {s : List Nat} (h : s.length ≤ 1000) (k : Nat) : pSl (.str (mk s)) (some ((k : Int) + 1)) none = some (.str (mk (s.drop (k + 1)))) := by
  show (if (mk s).length ≤ sizeLine then some (PV.str (cutS (mk s) (some ((k : Int) + 1)) none)) else none) = _
  rw [mk_len, if_pos (sz (by omega)), cutS_mk, cutP_from1]
theorem slT_to (l : List PV) (k : Nat) : pSl (.tup l) none (some (k : Int)) = some (.tup (l.take k)) := by
  show some (PV.tup (cutP l none (some (k : Int)))) = _
  rw [cutP_to]
theorem slT_fr (l : List PV) (k : Nat) : pSl (.tup l) (some ((k : Int) + 1)) none = some (.tup (l.drop (k + 1))) := by
  show some (PV.tup (cutP l (some ((k : Int) + 1)) none)) = _
  rw [cutP_from1]
theorem embs_take (xs : List Val) (k : Nat) : (embs xs).take k = embs (xs.take k) := by rw [embs_map, embs_map, List.map_take]
theorem embs_drop (xs : List Val) (k : Nat) : (embs xs).drop k = embs (xs.drop k) := by rw [embs_map, embs_map, List.map_drop]
theorem embs_app (xs ys : List Val) : embs xs ++ embs ys = embs (xs ++ ys) := by rw [embs_map, embs_map, embs_map, List.map_append]
theorem embs_one (x : Val) : [emb x] = embs [x] := by rw [embs_map]; rfl
theorem rngI {n k : Nat} {d : PV} (h : ((List.range n).map fun (k : Nat) => PV.int (k : Int))[k]? = some d) : k < n ∧ d = .int (k : Int) := by
  rw [List.getElem?_map] at h
  by_cases c : k < n
  · rw [List.getElem?_range c] at h
    cases h
    exact ⟨c, rfl⟩
  · rw [List.getElem?_eq_none (by rw [List.length_range]; omega)] at h
    cases h
/-! ### the moves ahead of dropping doubles -/
theorem C_rem_s {s : List Nat} {a b : Slot} (h : s.length ≤ 1000) : C_all_moves_1 [.pv (.str (mk s)), a, .un, b] = .ok ((rem s).map fun t => .str (mk t)) := by
  unfold C_all_moves_1
  rw [dLc_map (pickI fun j => .str (mk (s.take j.toNat ++ s.drop (j.toNat + 1)))) (ds := (List.range s.length).map fun (k : Nat) => PV.int (k : Int)) (by simp [pLen_s h, rg1 h]) (by simp; exact sz (by omega)) (by simp) ?_]
  · unfold rem
    rw [List.map_map, List.map_map]
    rfl
  · intro p hp
    obtain ⟨k, hk, rfl⟩ := List.mem_map.mp hp
    have hk := List.mem_range.mp hk
    have l1 : (s.take k).length + (s.drop (k + 1)).length ≤ sizeLine := sz (by rw [List.length_take, List.length_drop]; omega)
    rw [List.length_take, List.length_drop] at l1
    simp [slS_to h, slS_fr h, pickI, l1]
theorem C_rem_p {xs : List Val} {a b : Slot} (h : xs.length ≤ 1000) : C_all_moves_1 [.pv (.tup (embs xs)), a, .un, b] = .ok ((rem xs).map fun t => .tup (embs t)) := by
  unfold C_all_moves_1
  rw [dLc_map (pickI fun j => .tup (embs (xs.take j.toNat ++ xs.drop (j.toNat + 1)))) (ds := (List.range xs.length).map fun (k : Nat) => PV.int (k : Int)) (by simp [embs_len, rg1 h]) (by simp; exact sz (by omega)) (by simp) ?_]
  · unfold rem
    rw [List.map_map, List.map_map]
    rfl
  · intro p hp
    obtain ⟨k, hk, rfl⟩ := List.mem_map.mp hp
    have hk := List.mem_range.mp hk
    have l1 : (xs.take k).length + (xs.drop (k + 1)).length ≤ sizeLine := sz (by rw [List.length_take, List.length_drop]; omega)
    rw [List.length_take, List.length_drop] at l1
    simp [slT_to, slT_fr, pickI, embs_take, embs_drop, embs_app, embs_len, l1]
theorem ne_a {c : Nat} (h : c < 1114112) : pNe (chr1 c) (.str (mk [97])) = some (!decide (c = 97)) := by
  have := pNe_ss (a := [c]) (b := [97]) (by simpa using h) (by simp)
  rw [show chr1 c = .str (mk [c]) from rfl, this]
  simp
theorem eq_a {c : Nat} (h : c < 1114112) : pEq (chr1 c) (.str (mk [97])) = some (decide (c = 97)) := by
  have := pEq_ss (a := [c]) (b := [97]) (by simpa using h) (by simp)
  rw [show chr1 c = .str (mk [c]) from rfl, this]
  simp
/-- the loop's turn over a text: the same in both defs -/
theorem turn_s {s : List Nat} {l : List PV} {k : Nat} {b : Slot} (h : s.length ≤ 1000) (hok : s.all okc = true) (hk : k < s.length) (hl : l.length ≤ 10000) :
    (dIfS (d2 pNe (d2 pIdx (dV 0) (dV 2)) (dC (.str (Str.ofString "a")))) (dApp 1 (d2 pAdd (d2 pAdd (dSl pSl (dV 0) dNo (dSo (dV 2))) (dC (.str (Str.ofString "a")))) (dSl pSl (dV 0) (dSo (d2 pAdd (dV 2) (dC (.int 1)))) dNo))) dSkip) [.pv (.str (mk s)), .own l, .pv (.int (k : Int)), b] =
      .nx [.pv (.str (mk s)), .own (l ++ (chA s k).map fun t => .str (mk t)), .pv (.int (k : Int)), b] := by
  have hc : s[k] < 1114112 := okcs_lt hok _ (List.getElem_mem _)
  have hi := pIdx_s hk h
  have hz : l.length < sizeLine := szl (by omega)
  have l1 : (s.take k).length + 1 ≤ sizeLine := sz (by rw [List.length_take]; omega)
  have l2 : (s.take k).length + 1 + (s.drop (k + 1)).length ≤ sizeLine := sz (by rw [List.length_take, List.length_drop]; omega)
  rw [List.length_take] at l1 l2
  rw [List.length_drop] at l2
  have hg : s[k]? = some s[k] := List.getElem?_eq_getElem hk
  by_cases c : s[k] = 97
  · have hc2 : chA s k = [] := by unfold chA; rw [hg, c]; rfl
    have q97 : pNe (chr1 97) (.str (mk [97])) = some false := ne_a (c := 97) (by omega)
    simp [S_a, hi, c, hc2, q97]
  · have hc2 : chA s k = [s.take k ++ [97] ++ s.drop (k + 1)] := by
      unfold chA
      rw [hg, if_neg (by intro z; exact c (Option.some.inj z))]
    simp [S_a, hi, ne_a hc, c, hc2, slS_to h, slS_fr h, hz, l1, l2]
theorem C_ch_p {xs : List Val} {gm : List PV → R (List PV)} {l : Slot} {k : Nat} {b : Slot} (h : xs.length ≤ 1000) (hk : k < xs.length) (hg : gm [emb xs[k]] = .ok ((mv xs[k]).map emb)) (hm : (mv xs[k]).length ≤ 20000) :
    C_all_moves_2 gm [.pv (.tup (embs xs)), l, .pv (.int (k : Int)), b] = .ok ((chP xs (mvs xs) k).map fun t => .tup (embs t)) := by
  have hi : L2.atI (embs xs) (k : Int) = some (emb xs[k]) := by
    have hk2 : k < (embs xs).length := by rw [embs_len]; exact hk
    rw [atI_in hk2]
    congr 1
    simp only [embs_map, List.getElem_map]
  unfold C_all_moves_2
  rw [dLc_map (fun p => .tup (embs (xs.take k ++ [unE p] ++ xs.drop (k + 1)))) (ds := (mv xs[k]).map emb) (by simp [hi, hg]) (by rw [List.length_map]; exact sz (by omega)) (by simp) ?_]
  · unfold chP
    rw [mvs_get hk, List.map_map, List.map_map]
    congr 1
    apply List.map_congr_left
    intro u _
    simp only [Function.comp, unE_emb]
  · intro p hp
    obtain ⟨u, hu, rfl⟩ := List.mem_map.mp hp
    have l1 : (xs.take k).length + 1 ≤ sizeLine := sz (by rw [List.length_take]; omega)
    have l2 : (xs.take k).length + 1 + (xs.drop (k + 1)).length ≤ sizeLine := sz (by rw [List.length_take, List.length_drop]; omega)
    rw [List.length_take] at l1 l2
    rw [List.length_drop] at l2
    have z1' : (1 : Nat) ≤ sizeLine := z1
    have e1 : [emb u] = embs [u] := embs_one u
    simp only [dV_ap, d2_ap, dSl_ap, dNo_ap, dSo_ap, dTup_ap, dCons_ap, dNil_ap, dC_ap, R.bind_ok, List.set_cons_zero, List.set_cons_succ, clr_cons, clr_nil, List.getElem?_cons_zero, List.getElem?_cons_succ, pAdd_ii, ofO_some, slT_to, slT_fr, List.length_cons, List.length_nil, Nat.zero_add, if_pos z1', pAdd_tt, e1, embs_take, embs_drop, embs_app, embs_len, List.length_take, if_pos l1, List.length_append, List.length_drop, if_pos l2, unE_emb]
/-- the loop of both defs, over a text, over a pack -/
theorem flat_succ {α β : Type} (f : Nat → List α) (g : α → β) (n : Nat) : ((List.range (n + 1)).flatMap f).map g = ((List.range n).flatMap f).map g ++ (f n).map g := by
  rw [List.range_succ, List.flatMap_append, List.map_append]
  simp
theorem loop_s {s : List Nat} {l : List PV} {body : Fm → RS} (h : s.length ≤ 20) (hok : s.all okc = true) (hl : l.length ≤ 20)
    (hb : ∀ k l, k < s.length → l.length ≤ 10000 → body [.pv (.str (mk s)), .own l, .pv (.int (k : Int)), .un] = .nx [.pv (.str (mk s)), .own (l ++ (chA s k).map fun t => .str (mk t)), .pv (.int (k : Int)), .un]) :
    dFor (dCall (fun ds => ofO (rgIt1 ds)) (dCons (dCall (fun ds => ofO (pLen ds)) (dCons (dV 0) dNil)) dNil)) (tgN 2) body [2] [.pv (.str (mk s)), .own l, .un, .un] =
      .nx [.pv (.str (mk s)), .own (l ++ ((List.range s.length).flatMap (chA s)).map fun t => .str (mk t)), .un, .un] := by
  have hs : s.length ≤ 1000 := by omega
  have hsrc : (dCall (fun ds => ofO (rgIt1 ds)) (dCons (dCall (fun ds => ofO (pLen ds)) (dCons (dV 0) dNil)) dNil)) [.pv (.str (mk s)), .own l, .un, .un] = .ok ((List.range s.length).map fun (k : Nat) => PV.int (k : Int)) := by
    simp [pLen_s hs, rg1 hs]
  unfold dFor
  rw [hsrc]
  simp only [clr_cons, clr_nil, List.set_cons_zero, List.set_cons_succ]
  obtain ⟨e', r1, r2⟩ := for_inv (t := tgN 2) (body := body) (wp := [2]) ((List.range s.length).map fun (k : Nat) => PV.int (k : Int)) (fun i e => e = [.pv (.str (mk s)), .own (l ++ ((List.range i).flatMap (chA s)).map fun t => .str (mk t)), .un, .un]) [.pv (.str (mk s)), .own l, .un, .un] (by simp) (by
    intro i e d hd he
    obtain ⟨hi, rfl⟩ := rngI hd
    subst he
    have hlen : (l ++ ((List.range i).flatMap (chA s)).map fun t => PV.str (mk t)).length ≤ 10000 := by
      have := flat_len (f := chA s) i fun k _ => chA_len s k
      rw [List.length_append, List.length_map]; omega
    refine ⟨_, _, by simp, .inl (hb i _ hi hlen), ?_⟩
    simp only [clr_cons, clr_nil, List.set_cons_zero, List.set_cons_succ, flat_succ, List.append_assoc])
  rw [r1, r2]
  simp
theorem loop_p {xs : List Val} {l : List PV} {body : Fm → RS} {B : Nat} (h : xs.length ≤ 6) (hl : l.length ≤ 20) (hB : ∀ k, ((mvs xs).getD k []).length ≤ B) (hB2 : B ≤ 2400)
    (hb : ∀ k l, k < xs.length → l.length ≤ 20000 → body [.pv (.tup (embs xs)), .own l, .pv (.int (k : Int)), .un] = .nx [.pv (.tup (embs xs)), .own (l ++ (chP xs (mvs xs) k).map fun t => .tup (embs t)), .pv (.int (k : Int)), .un]) :
    dFor (dCall (fun ds => ofO (rgIt1 ds)) (dCons (dCall (fun ds => ofO (pLen ds)) (dCons (dV 0) dNil)) dNil)) (tgN 2) body [2] [.pv (.tup (embs xs)), .own l, .un, .un] =
      .nx [.pv (.tup (embs xs)), .own (l ++ ((List.range xs.length).flatMap (chP xs (mvs xs))).map fun t => .tup (embs t)), .un, .un] := by
  have hs : xs.length ≤ 1000 := by omega
  have hsrc : (dCall (fun ds => ofO (rgIt1 ds)) (dCons (dCall (fun ds => ofO (pLen ds)) (dCons (dV 0) dNil)) dNil)) [.pv (.tup (embs xs)), .own l, .un, .un] = .ok ((List.range xs.length).map fun (k : Nat) => PV.int (k : Int)) := by
    simp [embs_len, rg1 hs]
  unfold dFor
  rw [hsrc]
  simp only [clr_cons, clr_nil, List.set_cons_zero, List.set_cons_succ]
  obtain ⟨e', r1, r2⟩ := for_inv (t := tgN 2) (body := body) (wp := [2]) ((List.range xs.length).map fun (k : Nat) => PV.int (k : Int)) (fun i e => e = [.pv (.tup (embs xs)), .own (l ++ ((List.range i).flatMap (chP xs (mvs xs))).map fun t => .tup (embs t)), .un, .un]) [.pv (.tup (embs xs)), .own l, .un, .un] (by simp) (by
    intro i e d hd he
    obtain ⟨hi, rfl⟩ := rngI hd
    subst he
    have hlen : (l ++ ((List.range i).flatMap (chP xs (mvs xs))).map fun t => PV.tup (embs t)).length ≤ 20000 := by
      have := flat_len (f := chP xs (mvs xs)) (b := B) i fun k _ => by unfold chP; rw [List.length_map]; exact hB k
      have h3 : i * B ≤ 6 * B := Nat.mul_le_mul_right _ (by omega)
      rw [List.length_append, List.length_map]; omega
    refine ⟨_, _, by simp, .inl (hb i _ hi hlen), ?_⟩
    simp only [clr_cons, clr_nil, List.set_cons_zero, List.set_cons_succ, flat_succ, List.append_assoc])
  rw [r1, r2]
  simp
theorem map_txt (l : List (List Nat)) : (l.map Val.txt).map emb = l.map fun t => .str (mk t) := by
  rw [List.map_map]; apply List.map_congr_left; intro t _; simp only [Function.comp, emb]
theorem map_pack (l : List (List Val)) : (l.map Val.pack).map emb = l.map fun t => .tup (embs t) := by
  rw [List.map_map]; apply List.map_congr_left; intro t _; simp only [Function.comp, emb]
theorem map_num (l : List Int) : (l.map Val.num).map emb = l.map .int := by
  rw [List.map_map]; apply List.map_congr_left; intro t _; simp only [Function.comp, emb]
/-- what the loops want of a value -/
theorem BB2 : BB 2 = 2382 := by decide
theorem mvs_B {d : Nat} {xs : List Val} (h : vd d (.pack xs) = true) : ∀ k, ((mvs xs).getD k []).length ≤ 2382 := fun k => by
  simp only [vd, Bool.and_eq_true, decide_eq_true_eq] at h
  have h1 := mvs_len xs h.2.2 (by omega) k
  have h2 := BB_le (show 3 - (d + 1) ≤ 2 by omega)
  rw [BB2] at h2
  omega
theorem mem_vd {d : Nat} {xs : List Val} (h : vd d (.pack xs) = true) {k : Nat} (hk : k < xs.length) : vd 0 xs[k] = true := by
  simp only [vd, Bool.and_eq_true, decide_eq_true_eq] at h
  exact vd_mono (Nat.zero_le _) _ (vds_iff.mp h.2.2 _ (List.getElem_mem _))
theorem G_am {v : Val} {gm : List PV → R (List PV)} (h : vd 0 v = true) (hg : ∀ xs, v = .pack xs → ∀ k, (hk : k < xs.length) → gm [emb xs[k]] = .ok ((mv xs[k]).map emb)) : G_all_moves gm [emb v] = .ok ((amv v).map emb) := by
  cases v with
  | num i =>
    have e : emb (.num i) = .int i := by simp only [emb]
    simp only [vd, decide_eq_true_eq] at h
    simp [G_all_moves, D_all_moves, fm0, e, G_nm h, amv]
    intro a _
    simp only [emb]
  | txt s =>
    have e : emb (.txt s) = .str (mk s) := by simp only [emb]
    simp only [vd, Bool.and_eq_true, decide_eq_true_eq] at h
    have hC := C_rem_s (s := s) (a := .un) (b := .un) (by omega)
    have hL : L_all_moves_1 gm [.pv (.str (mk s)), .own ((rem s).map fun t => .str (mk t)), .un, .un] = .nx [.pv (.str (mk s)), .own ((rem s).map (fun t => .str (mk t)) ++ ((List.range s.length).flatMap (chA s)).map fun t => .str (mk t)), .un, .un] :=
      loop_s h.1 h.2 (by rw [List.length_map, rem_len]; omega) fun k l hk hl => by
        unfold B_all_moves_1
        rw [dIfS_ap]
        have t := turn_s (b := .un) (show s.length ≤ 1000 by omega) h.2 hk hl
        simp only [dB_ap, d1_ap, dV_ap, List.getElem?_cons_zero, R.bind_ok, isi_str_str, ofO_some]
        exact t
    simp [G_all_moves, D_all_moves, fm0, e, hC, hL, amv, map_txt]
    rfl
  | pack xs =>
    have e : emb (.pack xs) = .tup (embs xs) := by simp only [emb]
    have hB := mvs_B h
    have h' := h
    simp only [vd, Bool.and_eq_true, decide_eq_true_eq] at h'
    have hC := C_rem_p (xs := xs) (a := .un) (b := .un) (by omega)
    have hL : L_all_moves_1 gm [.pv (.tup (embs xs)), .own ((rem xs).map fun t => .tup (embs t)), .un, .un] = .nx [.pv (.tup (embs xs)), .own ((rem xs).map (fun t => .tup (embs t)) ++ ((List.range xs.length).flatMap (chP xs (mvs xs))).map fun t => .tup (embs t)), .un, .un] :=
      loop_p h'.2.1 (by rw [List.length_map, rem_len]; omega) hB (by omega) fun k l hk hl => by
        have hm : (mv xs[k]).length ≤ 20000 := by have := hB k; rw [mvs_get hk] at this; omega
        have t := C_ch_p (l := .own l) (b := .un) (show xs.length ≤ 1000 by omega) hk (hg xs rfl k hk) hm
        have hz : l.length + (chP xs (mvs xs) k).length ≤ sizeLine := by
          unfold chP
          rw [List.length_map]
          have := hB k
          exact sz (by omega)
        simp [B_all_moves_1, t, hz]
    simp [G_all_moves, D_all_moves, fm0, e, hC, hL, amv, map_pack]
    rfl
theorem G_mv : ∀ (n : Nat) (v : Val), vd 0 v = true → dp v < n → G_moves n [emb v] = .ok ((mv v).map emb)
  | 0, _, _, h => by omega
  | n + 1, v, h, hn => by
    have ha : G_all_moves (G_moves n) [emb v] = .ok ((amv v).map emb) := G_am h fun xs e k hk => by
      subst e
      refine G_mv n xs[k] (mem_vd h hk) ?_
      have := dp_mem (List.getElem_mem hk)
      simp only [dp] at hn
      omega
    have hL : L_moves_1 (G_all_moves (G_moves n)) [.pv (emb v), .own [], .un] = .nx [.pv (emb v), .own ((mv v).map emb), .un] := by
      unfold L_moves_1 dFor
      have hs : (d1 lstIt (dL (dCall (G_all_moves (G_moves n)) (dCons (dV 0) dNil)))) [.pv (emb v), .own [], .un] = .ok ((amv v).map emb) := by simp [ha]
      rw [hs]
      simp only [clr_cons, clr_nil, List.set_cons_zero, List.set_cons_succ]
      have := once_loop (.pv (emb v)) (amv v) [] (vd_amv v h) (fun x hx => by cases hx) (by have := amv_small h; simp; omega)
      rw [List.map_nil] at this
      rw [mv_eq]
      exact this
    simp [G_moves, D_moves, fm0, hL]
theorem G_once {l : List Val} (h : ∀ x ∈ l, vd 0 x = true) (hl : l.length ≤ 100000) : G__law_once [.lst (l.map emb)] = .ok ((once [] l).map emb) := by
  have hL : L__law_once_1 [.pv (.lst (l.map emb)), .own [], .un] = .nx [.pv (.lst (l.map emb)), .own ((once [] l).map emb), .un] := by
    unfold L__law_once_1 dFor
    have hs : (d1 lstIt (dV 0)) [.pv (.lst (l.map emb)), .own [], .un] = .ok (l.map emb) := by simp
    rw [hs]
    simp only [clr_cons, clr_nil, List.set_cons_zero, List.set_cons_succ]
    have := once_loop (.pv (.lst (l.map emb))) l [] h (fun x hx => by cases hx) (by simpa using hl)
    rw [List.map_nil] at this
    exact this
  simp [G__law_once, D__law_once, fm0, hL]
theorem G_lm : ∀ (n : Nat) (v : Val), vd 0 v = true → dp v < n → G__law_moves n [emb v] = .ok ((mv v).map emb)
  | 0, _, _, h => by omega
  | n + 1, .num i, h, hn => by
    have e : emb (.num i) = .int i := by simp only [emb]
    have ho := G_once (l := (nmv i).map .num) (vd_amv (.num i) h) (by have := nmv_len i; rw [List.length_map]; omega)
    rw [map_num] at ho
    simp only [vd, decide_eq_true_eq] at h
    simp [G__law_moves, D__law_moves, fm0, e, G_nr h, ho, mv]
  | n + 1, .txt s, h, hn => by
    have e : emb (.txt s) = .str (mk s) := by simp only [emb]
    have ho := G_once (l := amv (.txt s)) (vd_amv (.txt s) h) (by have := amv_small h; omega)
    simp only [vd, Bool.and_eq_true, decide_eq_true_eq] at h
    have hC : C__law_moves_1 [.pv (.str (mk s)), .un, .un, .un] = .ok ((rem s).map fun t => .str (mk t)) := C_rem_s (s := s) (a := .un) (b := .un) (by omega)
    have hL : L__law_moves_1 (G__law_moves n) [.pv (.str (mk s)), .own ((rem s).map fun t => .str (mk t)), .un, .un] = .nx [.pv (.str (mk s)), .own ((rem s).map (fun t => .str (mk t)) ++ ((List.range s.length).flatMap (chA s)).map fun t => .str (mk t)), .un, .un] :=
      loop_s h.1 h.2 (by rw [List.length_map, rem_len]; omega) fun k l hk hl => by
        unfold B__law_moves_1
        rw [dIfS_ap]
        have t := turn_s (b := .un) (show s.length ≤ 1000 by omega) h.2 hk hl
        simp only [dB_ap, d1_ap, dV_ap, List.getElem?_cons_zero, R.bind_ok, isi_tuple_str, ofO_some]
        exact t
    simp only [amv, map_txt, List.map_append] at ho
    simp [G__law_moves, D__law_moves, fm0, e, hC, hL, ho, mv]
  | n + 1, .pack xs, h, hn => by
    have e : emb (.pack xs) = .tup (embs xs) := by simp only [emb]
    have ho := G_once (l := amv (.pack xs)) (vd_amv (.pack xs) h) (by have := amv_small h; omega)
    have hB := mvs_B h
    have h' := h
    simp only [vd, Bool.and_eq_true, decide_eq_true_eq] at h'
    have hC : C__law_moves_1 [.pv (.tup (embs xs)), .un, .un, .un] = .ok ((rem xs).map fun t => .tup (embs t)) := C_rem_p (xs := xs) (a := .un) (b := .un) (by omega)
    have hL : L__law_moves_1 (G__law_moves n) [.pv (.tup (embs xs)), .own ((rem xs).map fun t => .tup (embs t)), .un, .un] = .nx [.pv (.tup (embs xs)), .own ((rem xs).map (fun t => .tup (embs t)) ++ ((List.range xs.length).flatMap (chP xs (mvs xs))).map fun t => .tup (embs t)), .un, .un] :=
      loop_p h'.2.1 (by rw [List.length_map, rem_len]; omega) hB (by omega) fun k l hk hl => by
        have hm : (mv xs[k]).length ≤ 20000 := by have := hB k; rw [mvs_get hk] at this; omega
        have hgk : G__law_moves n [emb xs[k]] = .ok ((mv xs[k]).map emb) := by
          refine G_lm n xs[k] (mem_vd h hk) ?_
          have := dp_mem (List.getElem_mem hk)
          simp only [dp] at hn
          omega
        have t : C__law_moves_2 (G__law_moves n) [.pv (.tup (embs xs)), .own l, .pv (.int (k : Int)), .un] = .ok ((chP xs (mvs xs) k).map fun t => .tup (embs t)) := C_ch_p (l := .own l) (b := .un) (show xs.length ≤ 1000 by omega) hk hgk hm
        have hz : l.length + (chP xs (mvs xs) k).length ≤ sizeLine := by
          unfold chP
          rw [List.length_map]
          have := hB k
          exact sz (by omega)
        simp [B__law_moves_1, t, hz]
    simp only [amv, map_pack, List.map_append] at ho
    simp [G__law_moves, D__law_moves, fm0, e, hC, hL, ho, mv]
end Tw

set_option Elab.async false
set_option linter.all false
set_option maxRecDepth 100000
set_option maxHeartbeats 4000000
namespace Tw
open PySem PySem.Spec PyProof.Rows L2 Pv
/-! ### weights -/
def wc (c : Nat) : Nat := if c = 97 then 1 else 3
def wS (s : List Nat) : Nat := (s.map wc).sum
mutual
def wt : Val → Nat
  | .num i => 2 * i.natAbs + (if i < 0 then 1 else 0)
  | .txt s => wS s
  | .pack xs => wts xs
def wts : List Val → Nat
  | [] => 0
  | x :: xs => 1 + wt x + wts xs
end
theorem wts_sum : ∀ xs : List Val, wts xs = (xs.map fun x => 1 + wt x).sum
  | [] => by simp only [wts, List.map_nil, List.sum_nil]
  | x :: xs => by simp only [wts, List.map_cons, List.sum_cons, wts_sum xs]
theorem wS_split {s : List Nat} {k : Nat} (h : k < s.length) : wS s = wS (s.take k) + wc s[k] + wS (s.drop (k + 1)) := by
  have e : s = s.take k ++ s[k] :: s.drop (k + 1) := by rw [← List.drop_eq_getElem_cons h, List.take_append_drop]
  have q : wS s = wS (s.take k ++ s[k] :: s.drop (k + 1)) := congrArg wS e
  rw [q]
  simp only [wS, List.map_append, List.map_cons, List.sum_append, List.sum_cons]
  omega
theorem wts_app (a b : List Val) : wts (a ++ b) = wts a + wts b := by simp only [wts_sum, List.map_append, List.sum_append]
theorem wts_split {s : List Val} {k : Nat} (h : k < s.length) : wts s = wts (s.take k) + (1 + wt s[k]) + wts (s.drop (k + 1)) := by
  have e : s = s.take k ++ s[k] :: s.drop (k + 1) := by rw [← List.drop_eq_getElem_cons h, List.take_append_drop]
  have q : wts s = wts (s.take k ++ s[k] :: s.drop (k + 1)) := congrArg wts e
  rw [q, wts_app]
  simp only [wts]
  omega
theorem wc_pos (c : Nat) : 1 ≤ wc c := by unfold wc; split <;> omega
theorem wt_nmv {i x : Int} (h : x ∈ nmv i) : wt (.num x) < wt (.num i) := by
  simp only [wt]
  unfold nmv at h
  split at h
  · cases h
  · rename_i z
    rcases List.mem_append.mp h with y | y
    · rcases List.mem_cons.mp y with e | e
      · subst e; simp; omega
      · split at e
        · rename_i c
          rw [List.mem_singleton] at e; subst e
          rw [if_neg (by omega), if_pos c]; omega
        · cases e
    · obtain ⟨q, hq, rfl⟩ := List.mem_map.mp y
      have := hv_mem _ _ _ hq
      unfold sgn
      by_cases c : 0 < i
      · rw [if_pos c, if_neg (by omega), if_neg (by omega)]; omega
      · rw [if_neg c, if_pos (by omega), if_pos (by omega)]; omega
mutual
theorem wt_amv : ∀ (v : Val), ∀ u ∈ amv v, wt u < wt v
  | .num i, u, hu => by
    simp only [amv] at hu
    obtain ⟨x, hx, rfl⟩ := List.mem_map.mp hu
    exact wt_nmv hx
  | .txt s, u, hu => by
    simp only [amv] at hu
    obtain ⟨t, ht, rfl⟩ := List.mem_map.mp hu
    simp only [wt]
    rcases List.mem_append.mp ht with z | z
    · obtain ⟨k, hk, rfl⟩ := mem_rem z
      have := wS_split hk
      have := wc_pos s[k]
      simp only [wS, List.map_append, List.sum_append] at *
      omega
    · obtain ⟨k, hk, z⟩ := List.mem_flatMap.mp z
      have hk := List.mem_range.mp hk
      unfold chA at z
      split at z
      · cases z
      · rename_i c
        rw [List.mem_singleton] at z
        subst z
        have h1 := wS_split hk
        have h2 : wc s[k] = 3 := by
          unfold wc
          rw [if_neg]
          intro e
          exact c (by rw [List.getElem?_eq_getElem hk, e])
        have h3 : wc 97 = 1 := rfl
        simp only [wS, List.map_append, List.sum_append, List.map_cons, List.map_nil, List.sum_cons, List.sum_nil] at *
        omega
  | .pack xs, u, hu => by
    simp only [amv] at hu
    obtain ⟨t, ht, rfl⟩ := List.mem_map.mp hu
    simp only [wt]
    rcases List.mem_append.mp ht with z | z
    · obtain ⟨k, hk, rfl⟩ := mem_rem z
      have := wts_split hk
      rw [wts_app]; omega
    · obtain ⟨k, hk, z⟩ := List.mem_flatMap.mp z
      have hk := List.mem_range.mp hk
      unfold chP at z
      obtain ⟨w, hw, rfl⟩ := List.mem_map.mp z
      have h1 := wts_split hk
      have h2 := wt_mvs xs k hk w hw
      rw [wts_app, wts_app]
      simp only [wts]
      omega
theorem wt_mvs : ∀ (xs : List Val) (k : Nat) (hk : k < xs.length), ∀ w ∈ (mvs xs).getD k [], wt w < wt xs[k]
  | [], k, hk, _, _ => by simp at hk
  | x :: xs, k, hk, w, hw => by
    cases k with
    | zero =>
      simp only [mvs, List.getD_cons_zero] at hw
      rw [mv_eq] at hw
      rcases once_mem _ _ hw with z | z
      · cases z
      · exact wt_amv x w z
    | succ k =>
      simp only [mvs, List.getD_cons_succ] at hw
      simp only [List.getElem_cons_succ]
      exact wt_mvs xs k (by simpa using hk) w hw
end
theorem wt_mv {u v : Val} (h : u ∈ mv v) : wt u < wt v := by
  rw [mv_eq] at h
  rcases once_mem _ _ h with z | z
  · cases z
  · exact wt_amv v u z
/-! both reckonings -/
def wP : PV → PV
  | .str x => .int (wc (x.cps.getD 0 0) : Nat)
  | _ => .non
theorem sum_cast (l : List Nat) : (l.map fun (n : Nat) => (n : Int)).sum = ((l.sum : Nat) : Int) := by
  induction l with
  | nil => rfl
  | cons a l ih => simp only [List.map_cons, List.sum_cons, ih]; omega
theorem C_w1 {s : List Nat} {a : Slot} (h : s.length ≤ 1000) (hok : s.all okc = true) : C_weight_1 [.pv (.str (mk s)), a, .un] = .ok (s.map (PV.int ∘ fun c => ((wc c : Nat) : Int))) := by
  unfold C_weight_1
  rw [dLc_map wP (ds := s.map chr1) (by simp) (by rw [List.length_map]; exact sz (by omega)) (by simp) ?_]
  · rw [List.map_map]; rfl
  · intro d hd
    obtain ⟨c, hc, rfl⟩ := List.mem_map.mp hd
    have hlt := okcs_lt hok c hc
    have e : wP (chr1 c) = .int (wc c : Nat) := rfl
    rw [e]
    by_cases z : c = 97
    · subst z
      have q97 : pEq (chr1 97) (.str (mk [97])) = some true := eq_a (c := 97) (by omega)
      simp [S_a, q97, wc]
    · simp [S_a, eq_a hlt, z, wc]
theorem sum_wc (s : List Nat) : (s.map fun c => ((wc c : Nat) : Int)).sum = ((wS s : Nat) : Int) := by
  unfold wS
  rw [← sum_cast, List.map_map]
  rfl
theorem G_wt : ∀ (n : Nat) (v : Val), vd 0 v = true → dp v < n → G_weight n [emb v] = .ok (.int (wt v : Nat))
  | 0, _, _, h => by omega
  | n + 1, .num i, h, hn => by
    have e : emb (.num i) = .int i := by simp only [emb]
    have hm : mulB 2 (i.natAbs : Int) = true := mulB_l (by decide)
    by_cases c : i < 0
    · simp [G_weight, D_weight, fm0, e, hm, c, wt]
    · simp [G_weight, D_weight, fm0, e, hm, c, wt]
  | n + 1, .txt s, h, hn => by
    have e : emb (.txt s) = .str (mk s) := by simp only [emb]
    simp only [vd, Bool.and_eq_true, decide_eq_true_eq] at h
    have hC := C_w1 (s := s) (a := .un) (by omega) h.2
    simp [G_weight, D_weight, fm0, e, hC, pSum_f, sum_wc, wt]
  | n + 1, .pack xs, h, hn => by
    have e : emb (.pack xs) = .tup (embs xs) := by simp only [emb]
    have h' := h
    simp only [vd, Bool.and_eq_true, decide_eq_true_eq] at h'
    simp only [dp] at hn
    have hC : C_weight_2 (G_weight n) [.pv (.tup (embs xs)), .un, .un] = .ok (xs.map (PV.int ∘ fun x => ((1 + wt x : Nat) : Int))) := by
      unfold C_weight_2
      rw [dLc_map (fun p => .int ((1 + wt (unE p) : Nat) : Int)) (ds := embs xs) (by simp) (by rw [embs_len]; exact sz (by omega)) (by simp) ?_]
      · rw [emb_list (f := fun v => PV.int ((1 + wt v : Nat) : Int))]; rfl
      · intro p hp
        rw [embs_map] at hp
        obtain ⟨x, hx, rfl⟩ := List.mem_map.mp hp
        have hx0 : vd 0 x = true := vd_mono (Nat.zero_le _) x (vds_iff.mp h'.2.2 x hx)
        have ih := G_wt n x hx0 (by have := dp_mem hx; omega)
        simp [ih, unE_emb]
    have hs : (xs.map fun x => ((1 + wt x : Nat) : Int)).sum = ((wts xs : Nat) : Int) := by
      rw [wts_sum, ← sum_cast, List.map_map]; rfl
    simp [G_weight, D_weight, fm0, e, hC, pSum_f, wt] at hs ⊢
    exact hs
theorem len_fil (s : List Nat) : wS s = s.length + 2 * (s.filter fun c => !decide (c = 97)).length := by
  induction s with
  | nil => rfl
  | cons c s ih =>
    simp only [wS, List.map_cons, List.sum_cons, List.length_cons] at ih ⊢
    by_cases z : c = 97
    · subst z
      rw [List.filter_cons_of_neg (by decide), show wc 97 = 1 from rfl]; omega
    · rw [List.filter_cons_of_pos (by simpa using z), show wc c = 3 by unfold wc; rw [if_neg z], List.length_cons]; omega
theorem C_lw1 {s : List Nat} {a : Slot} (h : s.length ≤ 1000) (hok : s.all okc = true) : C__law_weight_1 [.pv (.str (mk s)), a, .un] = .ok ((s.filter fun c => !decide (c = 97)).map chr1) := by
  unfold C__law_weight_1
  rw [dLc_filter (fun p => match p with | .str x => !decide (x.cps.getD 0 0 = 97) | _ => false) (fun p => p) (ds := s.map chr1) (by simp) (by rw [List.length_map]; exact sz (by omega)) (by simp) ?_ ?_]
  · rw [List.map_id', List.filter_map]
    rfl
  · intro d hd
    obtain ⟨c, hc, rfl⟩ := List.mem_map.mp hd
    have hlt := okcs_lt hok c hc
    have e : (match chr1 c with | .str x => !decide (x.cps.getD 0 0 = 97) | _ => false) = !decide (c = 97) := rfl
    rw [e]
    by_cases z : c = 97
    · subst z
      have q97 : pNe (chr1 97) (.str (mk [97])) = some false := ne_a (c := 97) (by omega)
      simp [S_a, q97]
    · simp [S_a, ne_a hlt, z]
  · intro d _ _
    simp
theorem G_lw : ∀ (n : Nat) (v : Val), vd 0 v = true → dp v < n → G__law_weight n [emb v] = .ok (.int (wt v : Nat))
  | 0, _, _, h => by omega
  | n + 1, .num i, h, hn => by
    have e : emb (.num i) = .int i := by simp only [emb]
    have hm : mulB 2 i = true := mulB_l (by decide)
    by_cases c : i < 0
    · have a1 : L2.atI [PV.int (2 * i), PV.int (1 - 2 * i)] 1 = some (.int (1 - 2 * i)) := rfl
      have e2 : 1 - 2 * i = ((2 * i.natAbs + 1 : Nat) : Int) := by omega
      rw [e2] at a1
      simp only [wt, if_pos c]
      simp [G__law_weight, D__law_weight, fm0, e, hm, c, z2] at a1 ⊢
      rw [show (1 : Int) - 2 * i = 2 * (i.natAbs : Int) + 1 by omega, a1]
      simp
    · have a1 : L2.atI [PV.int (2 * i), PV.int (1 - 2 * i)] 0 = some (.int (2 * i)) := rfl
      have e2 : 2 * i = ((2 * i.natAbs + 0 : Nat) : Int) := by omega
      simp only [wt, if_neg c]
      rw [← e2]
      simp [G__law_weight, D__law_weight, fm0, e, hm, c, z2, a1]
  | n + 1, .txt s, h, hn => by
    have e : emb (.txt s) = .str (mk s) := by simp only [emb]
    simp only [vd, Bool.and_eq_true, decide_eq_true_eq] at h
    have hC := C_lw1 (s := s) (a := .un) (by omega) h.2
    have hm : mulB 2 ((s.filter fun c => !decide (c = 97)).length : Int) = true := mulB_l (by decide)
    simp only [wt, len_fil s]
    simp [G__law_weight, D__law_weight, fm0, e, hC, pLen_s (show s.length ≤ 1000 by omega)] at hm ⊢
    simp [hm]
  | n + 1, .pack xs, h, hn => by
    have e : emb (.pack xs) = .tup (embs xs) := by simp only [emb]
    have h' := h
    simp only [vd, Bool.and_eq_true, decide_eq_true_eq] at h'
    simp only [dp] at hn
    have hC : C__law_weight_2 (G__law_weight n) [.pv (.tup (embs xs)), .un, .un] = .ok (xs.map (PV.int ∘ fun x => ((wt x : Nat) : Int))) := by
      unfold C__law_weight_2
      rw [dLc_map (fun p => .int ((wt (unE p) : Nat) : Int)) (ds := embs xs) (by simp) (by rw [embs_len]; exact sz (by omega)) (by simp) ?_]
      · rw [emb_list (f := fun v => PV.int ((wt v : Nat) : Int))]; rfl
      · intro p hp
        rw [embs_map] at hp
        obtain ⟨x, hx, rfl⟩ := List.mem_map.mp hp
        have hx0 : vd 0 x = true := vd_mono (Nat.zero_le _) x (vds_iff.mp h'.2.2 x hx)
        have ih := G_lw n x hx0 (by have := dp_mem hx; omega)
        simp [ih, unE_emb]
    have hs : (xs.length : Int) + (xs.map fun x => ((wt x : Nat) : Int)).sum = ((wts xs : Nat) : Int) := by
      clear hC h h' hn e
      induction xs with
      | nil => rfl
      | cons x xs ih => simp only [List.length_cons, List.map_cons, List.sum_cons, wts]; omega
    simp [G__law_weight, D__law_weight, fm0, e, hC, pSum_f, embs_len, wt, hs]
end Tw

set_option Elab.async false
set_option linter.all false
set_option maxRecDepth 100000
set_option maxHeartbeats 4000000
namespace Tw
open PySem PySem.Spec PyProof.Rows L2 Pv
theorem G_need {u : Val} (h : vd 0 u = true) : G_need_value [emb u] = .ok .non := by
  have hv := G_value 6 u 0 (short_vd u h) (by have := dp_vd u h (by omega); omega)
  rw [h] at hv
  have hv' : G_is_value 6 [emb u, .int 0] = .ok (.bl true) := hv
  simp [G_need_value, D_need_value, fm0, hv']
theorem rem_nil {α : Type} {l : List α} : rem l = [] ↔ l = [] := by
  constructor
  · intro h
    have := rem_len l
    rw [h] at this
    exact List.eq_nil_of_length_eq_zero this.symm
  · intro h; subst h; rfl
def noMv : Val → Bool
  | .num i => decide (i = 0)
  | .txt s => decide (s = [])
  | .pack xs => xs.isEmpty
theorem amv_nil (v : Val) : amv v = [] ↔ noMv v = true := by
  cases v with
  | num i =>
    simp only [amv, noMv, List.map_eq_nil_iff, decide_eq_true_eq]
    unfold nmv
    split
    · simp_all
    · simp_all
  | txt s =>
    simp only [amv, noMv, List.map_eq_nil_iff, decide_eq_true_eq, List.append_eq_nil_iff, rem_nil]
    constructor
    · exact fun h => h.1
    · intro h; subst h; exact ⟨rfl, rfl⟩
  | pack s =>
    simp only [amv, noMv, List.map_eq_nil_iff, List.append_eq_nil_iff, rem_nil, List.isEmpty_iff]
    constructor
    · exact fun h => h.1
    · intro h; subst h; exact ⟨rfl, rfl⟩
theorem mv_nil (v : Val) : mv v = [] ↔ noMv v = true := by rw [mv_eq, once_nil, amv_nil]
theorem in_three {v : Val} (h : vd 0 v = true) : pIn (emb v) (.tup [.int 0, .str (mk []), .tup []]) = some (noMv v) := by
  show (if SeqAt.shaped (toD (emb v)) = true ∧ SeqAt.shaped (toD (.tup [.int 0, .str (mk []), .tup []])) = true then some (inL (emb v) [.int 0, .str (mk []), .tup []]) else none) = _
  rw [if_pos ⟨sh_emb h, by decide +kernel⟩]
  congr 1
  cases v with
  | num i =>
    simp only [inL, emb, toD, noMv, List.any_cons, List.any_nil, PyData.eqv]
    by_cases z : i = 0
    · subst z; rfl
    · rw [decide_eq_false z]
      have : ((0 : Int) == i) = false := beq_eq_false_iff_ne.mpr (fun e => z e.symm)
      rw [this]; rfl
  | txt s =>
    simp only [inL, emb, toD, noMv, List.any_cons, List.any_nil, PyData.eqv, mk_beq]
    by_cases z : s = []
    · subst z; rfl
    · rw [decide_eq_false z, decide_eq_false (fun e => z e.symm)]; rfl
  | pack xs =>
    cases xs with
    | nil => rfl
    | cons x xs =>
      simp only [inL, emb, embs, toD, toDs, noMv, List.any_cons, List.any_nil, PyData.eqv, PyData.eqvAll]
      rfl
theorem eqvAll_refl {l : List PyData} (h : PyData.canLayAll0 l = true) : PyData.eqvAll l l = true := by
  have := SeqAt.eqv_refl (.list l) (by simpa only [PyData.canLay0] using h)
  simpa only [PyData.eqv] using this
theorem ne_same {l : List Val} (h : ∀ v ∈ l, vd 0 v = true) : pNe (.lst (l.map emb)) (.lst (l.map emb)) = some false := by
  unfold pNe
  rw [if_pos ⟨sh_list h, sh_list h⟩]
  simp only [toD, PyData.eqv]
  rw [eqvAll_refl]
  · rfl
  · rw [toDs_emb]
    exact lay_embs l (vds_iff.mpr h)
theorem sh_more {l : List Val} (h : ∀ v ∈ l, vd 0 v = true) : SeqAt.shaped (toD (.lst (l.map emb ++ [.non]))) = true := by
  have q : vds 0 l = true := vds_iff.mpr h
  have e1 : toDs (l.map emb ++ [PV.non]) = toDs (embs l) ++ [PyData.none] := by
    rw [toDs_map, List.map_append, ← toDs_map, toDs_emb]
    simp only [List.map_cons, List.map_nil, toD]
  have c1 : ∀ l : List PyData, PyData.canLayAll0 l = true → PyData.canLayAll0 (l ++ [.none]) = true := fun l => by
    induction l with
    | nil => intro _; rfl
    | cons a l ih =>
      intro z
      simp only [PyData.canLayAll0, List.cons_append, Bool.and_eq_true] at z ⊢
      exact ⟨z.1, ih z.2⟩
  have c2 : ∀ l : List PyData, PyData.depthAll (l ++ [.none]) = PyData.depthAll l := fun l => by
    induction l with
    | nil => rfl
    | cons a l ih => simp only [PyData.depthAll, List.cons_append, ih]
  simp only [toD, e1]
  refine shaped_of (by simp only [PyData.canLay0]; exact c1 _ (lay_embs l q)) ?_
  have := dep_embs l q (by omega)
  simp only [PyData.depth, c2]
  omega
theorem eq_none {l : List Val} (h : ∀ v ∈ l, vd 0 v = true) : pEq (.lst (l.map emb ++ [.non])) (.lst [.non]) = some l.isEmpty := by
  unfold pEq
  rw [if_pos ⟨sh_more h, by decide +kernel⟩]
  congr 1
  cases l with
  | nil => rfl
  | cons v l =>
    cases v with
    | num i => simp only [List.map_cons, List.cons_append, emb, toD, toDs, PyData.eqv, PyData.eqvAll]; rfl
    | txt i => simp only [List.map_cons, List.cons_append, emb, toD, toDs, PyData.eqv, PyData.eqvAll]; rfl
    | pack i => simp only [List.map_cons, List.cons_append, emb, toD, toDs, PyData.eqv, PyData.eqvAll]; rfl
theorem ne_bb (a b : Bool) : pNe (.bl a) (.bl b) = some (!(a == b)) := by
  unfold pNe
  simp only [toD, sh_bool, PyData.eqv]
  rfl
theorem C_l1 {l : List Val} {a b c d : Slot} (h : l.length ≤ 20000) : C_law_1 [a, b, c, d, .own (l.map emb), .un] = .ok (l.map (PV.bl ∘ fun _ => false)) := by
  unfold C_law_1
  rw [dLc_map (fun _ => .bl false) (ds := l.map emb) (by simp) (by rw [List.length_map]; exact sz (by omega)) (by simp) ?_]
  · rw [List.map_map]; rfl
  · intro p hp
    obtain ⟨v, _, rfl⟩ := List.mem_map.mp hp
    cases v with
    | num i => simp [emb]
    | txt i => simp [emb]
    | pack i => simp [emb]
theorem C_l2 {l : List Val} {v : Val} {a b c : Slot} (h : l.length ≤ 20000) (hv : vd 0 v = true) (hl : ∀ u ∈ l, vd 0 u = true) : C_law_2 (G_weight 6) [a, b, c, .pv (emb v), .own (l.map emb), .un] = .ok (l.map (PV.bl ∘ fun u => decide (wt u < wt v))) := by
  have d6 : ∀ u : Val, vd 0 u = true → dp u < 6 := fun u hu => by have := dp_vd u hu (by omega); omega
  unfold C_law_2
  rw [dLc_map (fun p => .bl (decide (wt (unE p) < wt v))) (ds := l.map emb) (by simp) (by rw [List.length_map]; exact sz (by omega)) (by simp) ?_]
  · rw [List.map_map]
    congr 1
    apply List.map_congr_left
    intro u _
    simp only [Function.comp, unE_emb]
  · intro p hp
    obtain ⟨u, hu, rfl⟩ := List.mem_map.mp hp
    simp [G_wt 6 v hv (d6 v hv), G_wt 6 u (hl u hu) (d6 u (hl u hu)), unE_emb]
theorem pure : ∀ ns : List Int, ns.length ≤ 63 → (∀ z ∈ ns, Builtin.Int.intBits z ≤ 1048576) → G_law [.scr ns] = .ok (.bl true) := by
  intro ns hl _
  obtain ⟨n, hn, hn2⟩ : ∃ n : Nat, n ≤ 1000 ∧ max 1 (min 3 (ns.length : Int)) = (n : Int) := ⟨(max 1 (min 3 (ns.length : Int))).toNat, by omega, by omega⟩
  have step : ∀ k : Nat, B_law_2 G_need_value (G_weight 6) (G_moves 6) G__law_cell G__law_drawn (G__law_value 6) (G__law_weight 6) (G__law_moves 6) [.pv (.scr ns), .pv (.int (k : Int)), .un, .un, .un, .un] =
      RS.nx (let e := B_law_2 G_need_value (G_weight 6) (G_moves 6) G__law_cell G__law_drawn (G__law_value 6) (G__law_weight 6) (G__law_moves 6) [.pv (.scr ns), .pv (.int (k : Int)), .un, .un, .un, .un]; match e with | .nx e => e | _ => []) ∧
      ∃ a b c d, B_law_2 G_need_value (G_weight 6) (G_moves 6) G__law_cell G__law_drawn (G__law_value 6) (G__law_weight 6) (G__law_moves 6) [.pv (.scr ns), .pv (.int (k : Int)), .un, .un, .un, .un] = .nx [.pv (.scr ns), a, b, c, d, .un] := fun k => by
    obtain ⟨c, hc⟩ := G_cell k hl
    generalize hm : drawn c (k : Int) = more
    have m0 : 0 ≤ more := by rw [← hm]; exact drawn_lo _ _
    obtain ⟨d, hd, hd2⟩ : ∃ d : Nat, d ≤ 3 ∧ more % 4 = (d : Int) := ⟨(more % 4).toNat, by omega, by omega⟩
    obtain ⟨v, hv, hvd⟩ := G_gen 6 d (drawn more 1) (by omega) hd (drawn_lo _ _)
    have v0 : vd 0 v = true := vd_mono (Nat.zero_le _) v hvd
    have d6 : dp v < 6 := by have := dp_vd v v0 (by omega); omega
    have hM := G_mv 6 v v0 d6
    have hLM := G_lm 6 v v0 d6
    have hW := G_wt 6 v v0 d6
    have hLW := G_lw 6 v v0 d6
    have hlen := mv_small v0
    have hin : ∀ u ∈ mv v, vd 0 u = true := fun u hu => vd_mv v0 hu
    have hC1 := C_l1 (l := mv v) (a := .pv (.scr ns)) (b := .pv (.int (k : Int))) (c := .pv (.int more)) (d := .pv (emb v)) (by omega)
    have hC2 := C_l2 (l := mv v) (v := v) (a := .pv (.scr ns)) (b := .pv (.int (k : Int))) (c := .pv (.int more)) (by omega) v0 hin
    have hall : (mv v).all (fun u => decide (wt u < wt v)) = true := List.all_eq_true.mpr fun u hu => decide_eq_true (wt_mv hu)
    have hany : (mv v).any (fun _ => false) = false := by simp
    have hL1 : L_law_1 G_need_value [.pv (.scr ns), .pv (.int (k : Int)), .pv (.int more), .pv (emb v), .own ((mv v).map emb), .un] = .nx [.pv (.scr ns), .pv (.int (k : Int)), .pv (.int more), .pv (emb v), .own ((mv v).map emb), .un] := by
      unfold L_law_1 dFor
      have hsrc : (d1 lstIt (dL (dSl fSl (dR 4) dNo (dSo (dC (.int 20)))))) [.pv (.scr ns), .pv (.int (k : Int)), .pv (.int more), .pv (emb v), .own ((mv v).map emb), .un] = .ok (((mv v).take 20).map emb) := by
        have e20 : cutP ((mv v).map emb) none (some 20) = ((mv v).take 20).map emb := by
          rw [List.map_take]; exact cutP_to _ 20
        simp [fSl, e20]
      rw [hsrc]
      simp only [clr_cons, clr_nil, List.set_cons_zero, List.set_cons_succ]
      obtain ⟨e', r1, r2⟩ := for_inv (t := tgN 5) (body := B_law_1 G_need_value) (wp := [5]) (((mv v).take 20).map emb) (fun _ e => e = [.pv (.scr ns), .pv (.int (k : Int)), .pv (.int more), .pv (emb v), .own ((mv v).map emb), .un]) _ rfl (by
        intro i e p hp he
        subst he
        have hp2 := List.mem_of_getElem? hp
        obtain ⟨u, hu, rfl⟩ := List.mem_map.mp hp2
        have hu2 := G_need (hin u (List.mem_of_mem_take hu))
        refine ⟨[.pv (.scr ns), .pv (.int (k : Int)), .pv (.int more), .pv (emb v), .own ((mv v).map emb), .pv (emb u)], [.pv (.scr ns), .pv (.int (k : Int)), .pv (.int more), .pv (emb v), .own ((mv v).map emb), .pv (emb u)], by simp, .inl ?_, by simp⟩
        simp [B_law_1, hu2])
      rw [r1, r2]
    have hz : (mv v).length < sizeLine := szl (by omega)
    have hcut : cutP ((mv v).map emb ++ [PV.non]) none (some (-1)) = (mv v).map emb := by
      rw [cutP_last]
      simp
    have hEq := eq_none hin
    have hIn := in_three v0
    have hNe := ne_same hin
    have hmt : ((mv v).isEmpty == noMv v) = true := by
      rw [beq_iff_eq, Bool.eq_iff_iff, List.isEmpty_iff]
      exact mv_nil v
    have zz : B_law_2 G_need_value (G_weight 6) (G_moves 6) G__law_cell G__law_drawn (G__law_value 6) (G__law_weight 6) (G__law_moves 6) [.pv (.scr ns), .pv (.int (k : Int)), .un, .un, .un, .un] = .nx [.pv (.scr ns), .pv (.int (k : Int)), .pv (.int more), .pv (emb v), .own ((mv v).map emb ++ [.non]), .un] := by
      simp [B_law_2, hc, G_drawn, hm, hd2, hv, hM, hLM, hNe, hC1, pAny_f, hany, hW, hLW, hC2, pAll_f, hall, hL1, hz, fSl, hcut, hEq, S_nil, hIn, ne_bb, hmt, z0, z1, z3]
    exact ⟨by rw [zz], _, _, _, _, zz⟩
  have hL : L_law_2 G_need_value (G_weight 6) (G_moves 6) G__law_cell G__law_drawn (G__law_value 6) (G__law_weight 6) (G__law_moves 6) [.pv (.scr ns), .un, .un, .un, .un, .un] = .nx [.pv (.scr ns), .un, .un, .un, .un, .un] := by
    unfold L_law_2 dFor
    have hsrc : (dCall (fun ds => ofO (rgIt1 ds)) (dCons (dCall (fun ds => ofO (pMax2 ds)) (dCons (dC (.int 1)) (dCons (dCall (fun ds => ofO (pMin2 ds)) (dCons (dC (.int 3)) (dCons (dCall (fun ds => ofO (pLen ds)) (dCons (dV 0) dNil)) dNil))) dNil))) dNil)) [.pv (.scr ns), .un, .un, .un, .un, .un] = .ok ((List.range n).map fun (k : Nat) => PV.int (k : Int)) := by
      simp [hn2, rg1 hn]
    rw [hsrc]
    simp only [clr_cons, clr_nil, List.set_cons_zero, List.set_cons_succ]
    obtain ⟨e', r1, r2⟩ := for_inv (t := tgN 1) (body := B_law_2 G_need_value (G_weight 6) (G_moves 6) G__law_cell G__law_drawn (G__law_value 6) (G__law_weight 6) (G__law_moves 6)) (wp := [1, 2, 3, 4, 5]) ((List.range n).map fun (k : Nat) => PV.int (k : Int)) (fun _ e => e = [.pv (.scr ns), .un, .un, .un, .un, .un]) _ rfl (by
      intro i e p hp he
      subst he
      obtain ⟨_, rfl⟩ := rngI hp
      obtain ⟨_, a, b, c, d, q⟩ := step i
      exact ⟨_, _, by simp, .inl q, by simp⟩)
    rw [r1, r2]
  simp [G_law, D_law, fm0, hL]
end Tw

set_option Elab.async false
set_option linter.all false
set_option maxRecDepth 100000
set_option maxHeartbeats 4000000
namespace Tw
open PySem PySem.Spec PyProof.Rows L2 Pv
def topS (i : Nat) : Stmt := PySem.Challenge.pw_trywright_k11_whole_moves.main.body.getD i (.Pass ⟨0, 0, 0, 0⟩)
structure Top (mg : Str → Option Value) : Prop where
  n_abs : mg "abs" = none
  n_all : mg "all" = none
  n_any : mg "any" = none
  n_bool : mg "bool" = none
  n_int : mg "int" = none
  n_isinstance : mg "isinstance" = none
  n_len : mg "len" = none
  n_list : mg "list" = none
  n_max : mg "max" = none
  n_min : mg "min" = none
  n_ord : mg "ord" = none
  n_range : mg "range" = none
  n_str : mg "str" = none
  n_sum : mg "sum" = none
  n_tuple : mg "tuple" = none
  c_BARRED : ∃ t, mg "BARRED" = some (.int 37 t)
  c_MOST_NUMBER : ∃ t, mg "MOST_NUMBER" = some (.int 999999 t)
  c_MOST_PARTS : ∃ t, mg "MOST_PARTS" = some (.int 6 t)
  c_MOST_SIGNS : ∃ t, mg "MOST_SIGNS" = some (.int 20 t)
  c_MOST_WITHIN : ∃ t, mg "MOST_WITHIN" = some (.int 3 t)
section
variable {P : Program} {w : World} {K : PySem.W.Frag} {mg : Str → Option Value} {base : Heap}
abbrev st_is_number : Stmt := topS 9
abbrev N_is_number : List Str := ["thing"]
theorem sc_is_number : FnScope N_is_number ["thing"] (defScope st_is_number) := ⟨rfl, rfl, rfl, by decide +kernel, rfl, by decide +kernel, by decide +kernel⟩
theorem b_is_number {f : Addr} {fd : FuncData} {k : Nat} {g : List PV → R PV} (T : Top mg) (Fn : Fun K "is_number" "is_number" st_is_number f fd) (hl : ∀ ds, g ds ≠ .bad → ds.length = 1) (hd : ∀ ds, g ds ≠ .bad → toV (D_is_number (fm0 1 ds)) = g ds) :
    FnOk P w K mg base (L2.CX P w) (k + 1) f fd ["thing"] (spV K mg g) :=
  fn_V (d := D_is_number) Fn sc_is_number hl hd (by
    intro cdv A outer s H E hr
    have sc := sc_is_number
    have tk : Takes (cxX P w K mg base N_is_number "is_number" st_is_number f cdv A outer s H E) (wE E) := takes_of rfl rfl rfl rfl
    have hp : PassesOwn (model P w) (cxX P w K mg base N_is_number "is_number" st_is_number f cdv A outer s H E).A (cxX P w K mg base N_is_number "is_number" st_is_number f cdv A outer s H E).env (cxX P w K mg base N_is_number "is_number" st_is_number f cdv A outer s H E).xe := passes_of rfl
    exact (Pv.s_one (Pv.s_ret (Pv.v_and (Pv.v_isi T.n_isinstance (Pv.rV (Pv.pe_V 0 (pv 0))) rfl T.n_int (by decide +kernel)) (pe_one (Pv.v_not (Pv.v_isi T.n_isinstance (Pv.rV (Pv.pe_V 0 (pv 0))) rfl T.n_bool (by decide +kernel))))))))
abbrev st_are_signs : Stmt := topS 10
abbrev N_are_signs : List Str := ["text", "sign"]
theorem sc_are_signs : FnScope N_are_signs ["text"] (defScope st_are_signs) := ⟨rfl, rfl, rfl, by decide +kernel, rfl, by decide +kernel, by decide +kernel⟩
theorem b_are_signs {f : Addr} {fd : FuncData} {k : Nat} {g : List PV → R PV} (T : Top mg) (Fn : Fun K "are_signs" "are_signs" st_are_signs f fd) (hl : ∀ ds, g ds ≠ .bad → ds.length = 1) (hd : ∀ ds, g ds ≠ .bad → toV (D_are_signs (fm0 2 ds)) = g ds) :
    FnOk P w K mg base (L2.CX P w) (k + 1) f fd ["text"] (spV K mg g) :=
  fn_V (d := D_are_signs) Fn sc_are_signs hl hd (by
    intro cdv A outer s H E hr
    have sc := sc_are_signs
    have tk : Takes (cxX P w K mg base N_are_signs "are_signs" st_are_signs f cdv A outer s H E) (wE E) := takes_of rfl rfl rfl rfl
    have hp : PassesOwn (model P w) (cxX P w K mg base N_are_signs "are_signs" st_are_signs f cdv A outer s H E).A (cxX P w K mg base N_are_signs "are_signs" st_are_signs f cdv A outer s H E).env (cxX P w K mg base N_are_signs "are_signs" st_are_signs f cdv A outer s H E).xe := passes_of rfl
    exact (Pv.s_one (Pv.s_ret (Pv.v_all rfl T.n_all (Pv.aRcons (Pv.rF (Pv.f_lc [(Str.ofString "sign", 1)] rfl rfl sc.nd (Pv.iR (Pv.i_str (Pv.pe_V 0 (pv 0)))) (blkOk_by (N := N_are_signs) (sc := defScope st_are_signs) (by decide +kernel)) (fun _ _ _ _ _ => (pg_name (i := 1) sc.nd rfl (by first | exact Or.inl rfl | exact Or.inr rfl))) (Pv.tg_name 1) (by decide) (fun _ _ _ _ _ => Pv.tests_nil) (fun _ _ _ _ _ => (Pv.v_and (Pv.v_chain Pv.c_le Pv.c_le (Pv.rV Pv.kStr) (Pv.rV (Pv.pe_V 1 (pv 1))) (Pv.rV Pv.kStr)) (pe_one (Pv.v_cmp (Pv.c_ne hr) (Pv.rV (Pv.v_ord T.n_ord (Pv.aRcons (Pv.rV (Pv.pe_V 1 (pv 1))) Pv.aRnil))) (Pv.rV (Pv.kGlInt rfl T.c_BARRED)))))))) Pv.aRnil)))))
abbrev st_is_value : Stmt := topS 11
abbrev N_is_value : List Str := ["thing", "deep", "one"]
theorem sc_is_value : FnScope N_is_value ["thing", "deep"] (defScope st_is_value) := ⟨rfl, rfl, rfl, by decide +kernel, rfl, by decide +kernel, by decide +kernel⟩
theorem b_is_value {f : Addr} {fd : FuncData} {k : Nat} {g : List PV → R PV} (T : Top mg) (Fn : Fun K "is_value" "is_value" st_is_value f fd) {k_are_signs : Nat} {g_are_signs : List PV → R PV} (C_are_signs : CaV P w K mg base k_are_signs "are_signs" g_are_signs) (h_are_signs : k_are_signs ≤ k) {k_is_value : Nat} {g_is_value : List PV → R PV} (C_is_value : CaV P w K mg base k_is_value "is_value" g_is_value) (h_is_value : k_is_value ≤ k) {k_is_number : Nat} {g_is_number : List PV → R PV} (C_is_number : CaV P w K mg base k_is_number "is_number" g_is_number) (h_is_number : k_is_number ≤ k) (hl : ∀ ds, g ds ≠ .bad → ds.length = 2) (hd : ∀ ds, g ds ≠ .bad → toV ((D_is_value g_are_signs g_is_value g_is_number) (fm0 3 ds)) = g ds) :
    FnOk P w K mg base (L2.CX P w) (k + 1) f fd ["thing", "deep"] (spV K mg g) :=
  fn_V (d := (D_is_value g_are_signs g_is_value g_is_number)) Fn sc_is_value hl hd (by
    intro cdv A outer s H E hr
    have sc := sc_is_value
    have tk : Takes (cxX P w K mg base N_is_value "is_value" st_is_value f cdv A outer s H E) (wE E) := takes_of rfl rfl rfl rfl
    have hp : PassesOwn (model P w) (cxX P w K mg base N_is_value "is_value" st_is_value f cdv A outer s H E).A (cxX P w K mg base N_is_value "is_value" st_is_value f cdv A outer s H E).env (cxX P w K mg base N_is_value "is_value" st_is_value f cdv A outer s H E).xe := passes_of rfl
    exact (Pv.s_cons (Pv.s_if (Pv.tV_test (Pv.v_isi T.n_isinstance (Pv.rV (Pv.pe_V 0 (pv 0))) rfl T.n_str (by decide +kernel))) (Pv.s_one (Pv.s_ret (Pv.v_and (Pv.v_cmp Pv.c_le (Pv.rV (Pv.v_len T.n_len (Pv.aRcons (Pv.rV (Pv.pe_V 0 (pv 0))) Pv.aRnil))) (Pv.rV (Pv.kGlInt rfl T.c_MOST_SIGNS))) (pe_one (Pv.v_call C_are_signs tk hr (Pv.aVcons (Pv.pe_V 0 (pv 0)) Pv.aVnil) h_are_signs))))) Pv.s_nil) (Pv.s_cons (Pv.s_if (Pv.tV_test (Pv.v_isi T.n_isinstance (Pv.rV (Pv.pe_V 0 (pv 0))) rfl T.n_tuple (by decide +kernel))) (Pv.s_one (Pv.s_ret (Pv.v_and (Pv.v_cmp Pv.c_lt (Pv.rV (Pv.pe_V 1 (pv 1))) (Pv.rV (Pv.kGlInt rfl T.c_MOST_WITHIN))) (Pv.v_and (Pv.v_cmp Pv.c_le (Pv.rV (Pv.v_len T.n_len (Pv.aRcons (Pv.rV (Pv.pe_V 0 (pv 0))) Pv.aRnil))) (Pv.rV (Pv.kGlInt rfl T.c_MOST_PARTS))) (pe_one (Pv.v_all rfl T.n_all (Pv.aRcons (Pv.rF (Pv.f_lc [(Str.ofString "one", 2)] rfl rfl sc.nd (Pv.iR (Pv.i_tup (Pv.pe_V 0 (pv 0)))) (blkOk_by (N := N_is_value) (sc := defScope st_is_value) (by decide +kernel)) (fun _ _ _ _ _ => (pg_name (i := 2) sc.nd rfl (by first | exact Or.inl rfl | exact Or.inr rfl))) (Pv.tg_name 2) (by decide) (fun _ _ _ _ _ => Pv.tests_nil) (fun _ _ _ _ _ => (Pv.v_call C_is_value takes0 hr (Pv.aVcons (Pv.pe_V 2 (pv 2)) (Pv.aVcons (Pv.v_add (Pv.rV (Pv.pe_V 1 (pv 1))) (Pv.rV Pv.kInt)) Pv.aVnil)) h_is_value)))) Pv.aRnil))))))) Pv.s_nil) (Pv.s_one (Pv.s_ret (Pv.v_and (Pv.v_call C_is_number tk hr (Pv.aVcons (Pv.pe_V 0 (pv 0)) Pv.aVnil) h_is_number) (pe_one (Pv.v_cmp Pv.c_le (Pv.rV (Pv.v_abs T.n_abs (Pv.aRcons (Pv.rV (Pv.pe_V 0 (pv 0))) Pv.aRnil))) (Pv.rV (Pv.kGlInt rfl T.c_MOST_NUMBER))))))))))
abbrev st_need_value : Stmt := topS 12
abbrev N_need_value : List Str := ["value"]
theorem sc_need_value : FnScope N_need_value ["value"] (defScope st_need_value) := ⟨rfl, rfl, rfl, by decide +kernel, rfl, by decide +kernel, by decide +kernel⟩
theorem b_need_value {f : Addr} {fd : FuncData} {k : Nat} {g : List PV → R PV} (T : Top mg) (Fn : Fun K "need_value" "need_value" st_need_value f fd) {k_is_value : Nat} {g_is_value : List PV → R PV} (C_is_value : CaV P w K mg base k_is_value "is_value" g_is_value) (h_is_value : k_is_value ≤ k) (hl : ∀ ds, g ds ≠ .bad → ds.length = 1) (hd : ∀ ds, g ds ≠ .bad → toV ((D_need_value g_is_value) (fm0 1 ds)) = g ds) :
    FnOk P w K mg base (L2.CX P w) (k + 1) f fd ["value"] (spV K mg g) :=
  fn_V (d := (D_need_value g_is_value)) Fn sc_need_value hl hd (by
    intro cdv A outer s H E hr
    have sc := sc_need_value
    have tk : Takes (cxX P w K mg base N_need_value "need_value" st_need_value f cdv A outer s H E) (wE E) := takes_of rfl rfl rfl rfl
    have hp : PassesOwn (model P w) (cxX P w K mg base N_need_value "need_value" st_need_value f cdv A outer s H E).A (cxX P w K mg base N_need_value "need_value" st_need_value f cdv A outer s H E).env (cxX P w K mg base N_need_value "need_value" st_need_value f cdv A outer s H E).xe := passes_of rfl
    exact (Pv.s_one (Pv.s_if (Pv.t_not (Pv.tV_test (Pv.v_call C_is_value tk hr (Pv.aVcons (Pv.pe_V 0 (pv 0)) (Pv.aVcons Pv.kInt Pv.aVnil)) h_is_value))) (Pv.s_one Pv.s_never) Pv.s_nil)))
abbrev st_weight : Stmt := topS 13
abbrev N_weight : List Str := ["value", "one", "sign"]
theorem sc_weight : FnScope N_weight ["value"] (defScope st_weight) := ⟨rfl, rfl, rfl, by decide +kernel, rfl, by decide +kernel, by decide +kernel⟩
theorem b_weight {f : Addr} {fd : FuncData} {k : Nat} {g : List PV → R PV} (T : Top mg) (Fn : Fun K "weight" "weight" st_weight f fd) {k_weight : Nat} {g_weight : List PV → R PV} (C_weight : CaV P w K mg base k_weight "weight" g_weight) (h_weight : k_weight ≤ k) (hl : ∀ ds, g ds ≠ .bad → ds.length = 1) (hd : ∀ ds, g ds ≠ .bad → toV ((D_weight g_weight) (fm0 3 ds)) = g ds) :
    FnOk P w K mg base (L2.CX P w) (k + 1) f fd ["value"] (spV K mg g) :=
  fn_V (d := (D_weight g_weight)) Fn sc_weight hl hd (by
    intro cdv A outer s H E hr
    have sc := sc_weight
    have tk : Takes (cxX P w K mg base N_weight "weight" st_weight f cdv A outer s H E) (wE E) := takes_of rfl rfl rfl rfl
    have hp : PassesOwn (model P w) (cxX P w K mg base N_weight "weight" st_weight f cdv A outer s H E).A (cxX P w K mg base N_weight "weight" st_weight f cdv A outer s H E).env (cxX P w K mg base N_weight "weight" st_weight f cdv A outer s H E).xe := passes_of rfl
    exact (Pv.s_cons (Pv.s_if (Pv.tV_test (Pv.v_isi T.n_isinstance (Pv.rV (Pv.pe_V 0 (pv 0))) rfl T.n_int (by decide +kernel))) (Pv.s_one (Pv.s_ret (Pv.v_add (Pv.rV (Pv.v_mul (Pv.rV Pv.kInt) (Pv.rV (Pv.v_abs T.n_abs (Pv.aRcons (Pv.rV (Pv.pe_V 0 (pv 0))) Pv.aRnil))))) (Pv.rV (Pv.v_int1 T.n_int (Pv.aRcons (Pv.rV (Pv.v_cmp Pv.c_lt (Pv.rV (Pv.pe_V 0 (pv 0))) (Pv.rV Pv.kInt))) Pv.aRnil)))))) Pv.s_nil) (Pv.s_cons (Pv.s_if (Pv.tV_test (Pv.v_isi T.n_isinstance (Pv.rV (Pv.pe_V 0 (pv 0))) rfl T.n_str (by decide +kernel))) (Pv.s_one (Pv.s_ret (Pv.v_sum rfl T.n_sum (Pv.aRcons (Pv.rF (Pv.f_lc [(Str.ofString "sign", 2)] rfl rfl sc.nd (Pv.iR (Pv.i_str (Pv.pe_V 0 (pv 0)))) (blkOk_by (N := N_weight) (sc := defScope st_weight) (by decide +kernel)) (fun _ _ _ _ _ => (pg_name (i := 2) sc.nd rfl (by first | exact Or.inl rfl | exact Or.inr rfl))) (Pv.tg_name 2) (by decide) (fun _ _ _ _ _ => Pv.tests_nil) (fun _ _ _ _ _ => (Pv.pe_ifS Pv.stGV (Pv.t_cmp (Pv.c_eq hr) (Pv.rV (Pv.pe_V 2 (pv 2))) (Pv.rV Pv.kStr)) Pv.kInt Pv.kInt)))) Pv.aRnil)))) Pv.s_nil) (Pv.s_one (Pv.s_ret (Pv.v_sum rfl T.n_sum (Pv.aRcons (Pv.rF (Pv.f_lc [(Str.ofString "one", 1)] rfl rfl sc.nd (Pv.iR (Pv.i_tup (Pv.pe_V 0 (pv 0)))) (blkOk_by (N := N_weight) (sc := defScope st_weight) (by decide +kernel)) (fun _ _ _ _ _ => (pg_name (i := 1) sc.nd rfl (by first | exact Or.inl rfl | exact Or.inr rfl))) (Pv.tg_name 1) (by decide) (fun _ _ _ _ _ => Pv.tests_nil) (fun _ _ _ _ _ => (Pv.v_add (Pv.rV Pv.kInt) (Pv.rV (Pv.v_call C_weight takes0 hr (Pv.aVcons (Pv.pe_V 1 (pv 1)) Pv.aVnil) h_weight)))))) Pv.aRnil)))))))
abbrev st_number_moves : Stmt := topS 14
abbrev N_number_moves : List Str := ["number", "amount", "sign", "found", "by"]
theorem sc_number_moves : FnScope N_number_moves ["number"] (defScope st_number_moves) := ⟨rfl, rfl, rfl, by decide +kernel, rfl, by decide +kernel, by decide +kernel⟩
theorem b_number_moves {f : Addr} {fd : FuncData} {k : Nat} {g : List PV → R (List PV)} (T : Top mg) (Fn : Fun K "number_moves" "number_moves" st_number_moves f fd) (hl : ∀ ds, g ds ≠ .bad → ds.length = 1) (hd : ∀ ds, g ds ≠ .bad → toF (D_number_moves (fm0 5 ds)) = g ds) :
    FnOk P w K mg base (L2.CX P w) (k + 1) f fd ["number"] (spF K mg g) :=
  fn_F (d := D_number_moves) Fn sc_number_moves hl hd (by
    intro cdv A outer s H E hr
    have sc := sc_number_moves
    have tk : Takes (cxX P w K mg base N_number_moves "number_moves" st_number_moves f cdv A outer s H E) (wE E) := takes_of rfl rfl rfl rfl
    have hp : PassesOwn (model P w) (cxX P w K mg base N_number_moves "number_moves" st_number_moves f cdv A outer s H E).A (cxX P w K mg base N_number_moves "number_moves" st_number_moves f cdv A outer s H E).env (cxX P w K mg base N_number_moves "number_moves" st_number_moves f cdv A outer s H E).xe := passes_of rfl
    exact (Pv.s_cons (Pv.s_if (Pv.t_cmp (Pv.c_eq hr) (Pv.rV (Pv.pe_V 0 (pv 0))) (Pv.rV Pv.kInt)) (Pv.s_one (Pv.s_retF (Pv.f_lst Pv.aVnil))) Pv.s_nil) (Pv.s_cons (Pv.s_set (i := 1) sc.nd (Pv.v_abs T.n_abs (Pv.aRcons (Pv.rV (Pv.pe_V 0 (pv 0))) Pv.aRnil))) (Pv.s_cons (Pv.s_set (i := 2) sc.nd (Pv.pe_ifS Pv.stGV (Pv.t_cmp Pv.c_gt (Pv.rV (Pv.pe_V 0 (pv 0))) (Pv.rV Pv.kInt)) Pv.kInt (Pv.v_neg (Pv.rV Pv.kInt)))) (Pv.s_cons (Pv.s_setF (i := 3) sc.nd (Pv.f_cat (Pv.rF (Pv.f_lst (Pv.aVcons Pv.kInt Pv.aVnil))) (Pv.rF (Pv.pe_ifS Pv.stGF (Pv.t_cmp Pv.c_lt (Pv.rV (Pv.pe_V 0 (pv 0))) (Pv.rV Pv.kInt)) (Pv.f_lst (Pv.aVcons (Pv.pe_V 1 (pv 1)) Pv.aVnil)) (Pv.f_lst Pv.aVnil))))) (Pv.s_cons (Pv.s_set (i := 4) sc.nd (Pv.v_div (Pv.rV (Pv.pe_V 1 (pv 1))) (Pv.rV Pv.kInt))) (Pv.s_cons (Pv.s_while (fun _ => 64) [] hp (Pv.t_cmp Pv.c_gt (Pv.rV (Pv.pe_V 4 (pv 4))) (Pv.rV Pv.kInt)) (Pv.s_cons (Pv.s_app 3 (pv 3) (Pv.v_mul (Pv.rV (Pv.pe_V 2 (pv 2))) (Pv.rV (Pv.v_sub (Pv.rV (Pv.pe_V 1 (pv 1))) (Pv.rV (Pv.pe_V 4 (pv 4))))))) (Pv.s_one (Pv.s_set (i := 4) sc.nd (Pv.v_div (Pv.rV (Pv.pe_V 4 (pv 4))) (Pv.rV Pv.kInt)))))) (Pv.s_one (Pv.s_retO 3 (pv 3))))))))))
abbrev st_all_moves : Stmt := topS 15
abbrev N_all_moves : List Str := ["value", "found", "at", "one"]
theorem sc_all_moves : FnScope N_all_moves ["value"] (defScope st_all_moves) := ⟨rfl, rfl, rfl, by decide +kernel, rfl, by decide +kernel, by decide +kernel⟩
theorem b_all_moves {f : Addr} {fd : FuncData} {k : Nat} {g : List PV → R (List PV)} (T : Top mg) (Fn : Fun K "all_moves" "all_moves" st_all_moves f fd) {k_number_moves : Nat} {g_number_moves : List PV → R (List PV)} (C_number_moves : CaF P w K mg base k_number_moves "number_moves" g_number_moves) (h_number_moves : k_number_moves ≤ k) {k_moves : Nat} {g_moves : List PV → R (List PV)} (C_moves : CaF P w K mg base k_moves "moves" g_moves) (h_moves : k_moves ≤ k) (hl : ∀ ds, g ds ≠ .bad → ds.length = 1) (hd : ∀ ds, g ds ≠ .bad → toF ((D_all_moves g_number_moves g_moves) (fm0 4 ds)) = g ds) :
    FnOk P w K mg base (L2.CX P w) (k + 1) f fd ["value"] (spF K mg g) :=
  fn_F (d := (D_all_moves g_number_moves g_moves)) Fn sc_all_moves hl hd (by
    intro cdv A outer s H E hr
    have sc := sc_all_moves
    have tk : Takes (cxX P w K mg base N_all_moves "all_moves" st_all_moves f cdv A outer s H E) (wE E) := takes_of rfl rfl rfl rfl
    have hp : PassesOwn (model P w) (cxX P w K mg base N_all_moves "all_moves" st_all_moves f cdv A outer s H E).A (cxX P w K mg base N_all_moves "all_moves" st_all_moves f cdv A outer s H E).env (cxX P w K mg base N_all_moves "all_moves" st_all_moves f cdv A outer s H E).xe := passes_of rfl
    exact (Pv.s_cons (Pv.s_if (Pv.tV_test (Pv.v_isi T.n_isinstance (Pv.rV (Pv.pe_V 0 (pv 0))) rfl T.n_int (by decide +kernel))) (Pv.s_one (Pv.s_retF (Pv.f_call C_number_moves tk hr (Pv.aVcons (Pv.pe_V 0 (pv 0)) Pv.aVnil) h_number_moves))) Pv.s_nil) (Pv.s_cons (Pv.s_setLc (i := 1) [(Str.ofString "at", 2)] rfl rfl sc.nd rfl rfl (sw_true rfl rfl rfl (by decide +kernel)) (Pv.iR (Pv.i_rg1 T.n_range (Pv.aRcons (Pv.rV (Pv.v_len T.n_len (Pv.aRcons (Pv.rV (Pv.pe_V 0 (pv 0))) Pv.aRnil))) Pv.aRnil))) (blkOk_by (N := N_all_moves) (sc := defScope st_all_moves) (by decide +kernel)) (fun _ _ _ _ _ => (pg_name (i := 2) sc.nd rfl (by first | exact Or.inl rfl | exact Or.inr rfl))) (Pv.tg_name 2) (by decide) (fun _ _ _ _ _ => Pv.tests_nil) (fun _ _ _ _ _ => (Pv.v_add (Pv.rV (Pv.v_slice (Pv.rV (Pv.pe_V 0 (pv 0))) Pv.o_no (Pv.o_so (Pv.pe_V 2 (pv 2))))) (Pv.rV (Pv.v_slice (Pv.rV (Pv.pe_V 0 (pv 0))) (Pv.o_so (Pv.v_add (Pv.rV (Pv.pe_V 2 (pv 2))) (Pv.rV Pv.kInt))) Pv.o_no))))) (Pv.s_cons (Pv.s_for [2] hp rfl (Pv.i_rg1 T.n_range (Pv.aRcons (Pv.rV (Pv.v_len T.n_len (Pv.aRcons (Pv.rV (Pv.pe_V 0 (pv 0))) Pv.aRnil))) Pv.aRnil)) (pg_name (i := 2) sc.nd rfl (by first | exact Or.inl rfl | exact Or.inr rfl)) (Pv.tg_name 2) (Pv.s_one (Pv.s_if (Pv.tV_test (Pv.v_isi T.n_isinstance (Pv.rV (Pv.pe_V 0 (pv 0))) rfl T.n_str (by decide +kernel))) (Pv.s_one (Pv.s_if (Pv.t_cmp (Pv.c_ne hr) (Pv.rV (Pv.v_idx (Pv.rV (Pv.pe_V 0 (pv 0))) (Pv.rV (Pv.pe_V 2 (pv 2))))) (Pv.rV Pv.kStr)) (Pv.s_one (Pv.s_app 1 (pv 1) (Pv.v_add (Pv.rV (Pv.v_add (Pv.rV (Pv.v_slice (Pv.rV (Pv.pe_V 0 (pv 0))) Pv.o_no (Pv.o_so (Pv.pe_V 2 (pv 2))))) (Pv.rV Pv.kStr))) (Pv.rV (Pv.v_slice (Pv.rV (Pv.pe_V 0 (pv 0))) (Pv.o_so (Pv.v_add (Pv.rV (Pv.pe_V 2 (pv 2))) (Pv.rV Pv.kInt))) Pv.o_no))))) Pv.s_nil)) (Pv.s_one (Pv.s_ext 1 (pv 1) (Pv.vF (Pv.f_lc [(Str.ofString "one", 3)] rfl rfl sc.nd (Pv.iR (Pv.i_lst (Pv.vF (Pv.f_call C_moves tk hr (Pv.aVcons (Pv.v_idx (Pv.rV (Pv.pe_V 0 (pv 0))) (Pv.rV (Pv.pe_V 2 (pv 2)))) Pv.aVnil) h_moves)))) (blkOk_by (N := N_all_moves) (sc := defScope st_all_moves) (by decide +kernel)) (fun _ _ _ _ _ => (pg_name (i := 3) sc.nd rfl (by first | exact Or.inl rfl | exact Or.inr rfl))) (Pv.tg_name 3) (by decide) (fun _ _ _ _ _ => Pv.tests_nil) (fun _ _ _ _ _ => (Pv.v_add (Pv.rV (Pv.v_add (Pv.rV (Pv.v_slice (Pv.rV (Pv.pe_V 0 (pv 0))) Pv.o_no (Pv.o_so (Pv.pe_V 2 (pv 2))))) (Pv.rV (Pv.v_tup (Pv.aVcons (Pv.pe_V 3 (pv 3)) Pv.aVnil))))) (Pv.rV (Pv.v_slice (Pv.rV (Pv.pe_V 0 (pv 0))) (Pv.o_so (Pv.v_add (Pv.rV (Pv.pe_V 2 (pv 2))) (Pv.rV Pv.kInt))) Pv.o_no))))))))))) (Pv.s_one (Pv.s_retO 1 (pv 1)))))))
abbrev st_moves : Stmt := topS 16
abbrev N_moves : List Str := ["value", "found", "one"]
theorem sc_moves : FnScope N_moves ["value"] (defScope st_moves) := ⟨rfl, rfl, rfl, by decide +kernel, rfl, by decide +kernel, by decide +kernel⟩
theorem b_moves {f : Addr} {fd : FuncData} {k : Nat} {g : List PV → R (List PV)} (T : Top mg) (Fn : Fun K "moves" "moves" st_moves f fd) {k_all_moves : Nat} {g_all_moves : List PV → R (List PV)} (C_all_moves : CaF P w K mg base k_all_moves "all_moves" g_all_moves) (h_all_moves : k_all_moves ≤ k) (hl : ∀ ds, g ds ≠ .bad → ds.length = 1) (hd : ∀ ds, g ds ≠ .bad → toF ((D_moves g_all_moves) (fm0 3 ds)) = g ds) :
    FnOk P w K mg base (L2.CX P w) (k + 1) f fd ["value"] (spF K mg g) :=
  fn_F (d := (D_moves g_all_moves)) Fn sc_moves hl hd (by
    intro cdv A outer s H E hr
    have sc := sc_moves
    have tk : Takes (cxX P w K mg base N_moves "moves" st_moves f cdv A outer s H E) (wE E) := takes_of rfl rfl rfl rfl
    have hp : PassesOwn (model P w) (cxX P w K mg base N_moves "moves" st_moves f cdv A outer s H E).A (cxX P w K mg base N_moves "moves" st_moves f cdv A outer s H E).env (cxX P w K mg base N_moves "moves" st_moves f cdv A outer s H E).xe := passes_of rfl
    exact (Pv.s_cons (Pv.s_setF (i := 1) sc.nd (Pv.f_lst Pv.aVnil)) (Pv.s_cons (Pv.s_for [2] hp rfl (Pv.i_lst (Pv.vF (Pv.f_call C_all_moves tk hr (Pv.aVcons (Pv.pe_V 0 (pv 0)) Pv.aVnil) h_all_moves))) (pg_name (i := 2) sc.nd rfl (by first | exact Or.inl rfl | exact Or.inr rfl)) (Pv.tg_name 2) (Pv.s_one (Pv.s_if (Pv.t_cmp (Pv.c_notIn hr) (Pv.rV (Pv.pe_V 2 (pv 2))) (Pv.pe_R 1 (pv 1))) (Pv.s_one (Pv.s_app 1 (pv 1) (Pv.pe_V 2 (pv 2)))) Pv.s_nil))) (Pv.s_one (Pv.s_retO 1 (pv 1))))))
abbrev st__law_cell : Stmt := topS 18
abbrev N__law_cell : List Str := ["script", "k"]
theorem sc__law_cell : FnScope N__law_cell ["script", "k"] (defScope st__law_cell) := ⟨rfl, rfl, rfl, by decide +kernel, rfl, by decide +kernel, by decide +kernel⟩
theorem b__law_cell {f : Addr} {fd : FuncData} {k : Nat} {g : List PV → R PV} (T : Top mg) (Fn : Fun K "_law_cell" "_law_cell" st__law_cell f fd) (hl : ∀ ds, g ds ≠ .bad → ds.length = 2) (hd : ∀ ds, g ds ≠ .bad → toV (D__law_cell (fm0 2 ds)) = g ds) :
    FnOk P w K mg base (L2.CX P w) (k + 1) f fd ["script", "k"] (spV K mg g) :=
  fn_V (d := D__law_cell) Fn sc__law_cell hl hd (by
    intro cdv A outer s H E hr
    have sc := sc__law_cell
    have tk : Takes (cxX P w K mg base N__law_cell "_law_cell" st__law_cell f cdv A outer s H E) (wE E) := takes_of rfl rfl rfl rfl
    have hp : PassesOwn (model P w) (cxX P w K mg base N__law_cell "_law_cell" st__law_cell f cdv A outer s H E).A (cxX P w K mg base N__law_cell "_law_cell" st__law_cell f cdv A outer s H E).env (cxX P w K mg base N__law_cell "_law_cell" st__law_cell f cdv A outer s H E).xe := passes_of rfl
    exact (Pv.s_cons (Pv.s_if (Pv.t_cmp (Pv.c_eq hr) (Pv.rV (Pv.pe_V 0 (pv 0))) (Pv.rF (Pv.f_lst Pv.aVnil))) (Pv.s_one (Pv.s_ret (Pv.v_mul (Pv.rV (Pv.pe_V 1 (pv 1))) (Pv.rV Pv.kInt)))) Pv.s_nil) (Pv.s_one (Pv.s_ret (Pv.v_add (Pv.rV (Pv.v_idx (Pv.rV (Pv.pe_V 0 (pv 0))) (Pv.rV (Pv.v_mod (Pv.rV (Pv.pe_V 1 (pv 1))) (Pv.rV (Pv.v_len T.n_len (Pv.aRcons (Pv.rV (Pv.pe_V 0 (pv 0))) Pv.aRnil))))))) (Pv.rV (Pv.v_mul (Pv.rV (Pv.v_div (Pv.rV (Pv.pe_V 1 (pv 1))) (Pv.rV (Pv.v_len T.n_len (Pv.aRcons (Pv.rV (Pv.pe_V 0 (pv 0))) Pv.aRnil))))) (Pv.rV Pv.kInt))))))))
abbrev st__law_drawn : Stmt := topS 19
abbrev N__law_drawn : List Str := ["cell", "k", "more"]
theorem sc__law_drawn : FnScope N__law_drawn ["cell", "k"] (defScope st__law_drawn) := ⟨rfl, rfl, rfl, by decide +kernel, rfl, by decide +kernel, by decide +kernel⟩
theorem b__law_drawn {f : Addr} {fd : FuncData} {k : Nat} {g : List PV → R PV} (T : Top mg) (Fn : Fun K "_law_drawn" "_law_drawn" st__law_drawn f fd) (hl : ∀ ds, g ds ≠ .bad → ds.length = 2) (hd : ∀ ds, g ds ≠ .bad → toV (D__law_drawn (fm0 3 ds)) = g ds) :
    FnOk P w K mg base (L2.CX P w) (k + 1) f fd ["cell", "k"] (spV K mg g) :=
  fn_V (d := D__law_drawn) Fn sc__law_drawn hl hd (by
    intro cdv A outer s H E hr
    have sc := sc__law_drawn
    have tk : Takes (cxX P w K mg base N__law_drawn "_law_drawn" st__law_drawn f cdv A outer s H E) (wE E) := takes_of rfl rfl rfl rfl
    have hp : PassesOwn (model P w) (cxX P w K mg base N__law_drawn "_law_drawn" st__law_drawn f cdv A outer s H E).A (cxX P w K mg base N__law_drawn "_law_drawn" st__law_drawn f cdv A outer s H E).env (cxX P w K mg base N__law_drawn "_law_drawn" st__law_drawn f cdv A outer s H E).xe := passes_of rfl
    exact (Pv.s_cons (Pv.s_set (i := 2) sc.nd (Pv.v_mod (Pv.rV (Pv.v_add (Pv.rV (Pv.v_mul (Pv.rV (Pv.pe_V 0 (pv 0))) (Pv.rV Pv.kInt))) (Pv.rV (Pv.v_mul (Pv.rV (Pv.v_add (Pv.rV (Pv.pe_V 1 (pv 1))) (Pv.rV Pv.kInt))) (Pv.rV Pv.kInt))))) (Pv.rV Pv.kInt))) (Pv.s_cons (Pv.s_set (i := 2) sc.nd (Pv.v_mod (Pv.rV (Pv.v_mul (Pv.rV (Pv.pe_V 2 (pv 2))) (Pv.rV (Pv.pe_V 2 (pv 2))))) (Pv.rV Pv.kInt))) (Pv.s_cons (Pv.s_set (i := 2) sc.nd (Pv.v_mul (Pv.rV (Pv.v_mul (Pv.rV (Pv.v_add (Pv.rV (Pv.v_mod (Pv.rV (Pv.pe_V 2 (pv 2))) (Pv.rV Pv.kInt))) (Pv.rV Pv.kInt))) (Pv.rV (Pv.v_add (Pv.rV (Pv.v_div (Pv.rV (Pv.pe_V 2 (pv 2))) (Pv.rV Pv.kInt))) (Pv.rV Pv.kInt))))) (Pv.rV (Pv.pe_V 2 (pv 2))))) (Pv.s_one (Pv.s_ret (Pv.v_mod (Pv.rV (Pv.pe_V 2 (pv 2))) (Pv.rV Pv.kInt))))))))
abbrev st__law_signs : Stmt := topS 20
abbrev N__law_signs : List Str := []
theorem sc__law_signs : FnScope N__law_signs [] (defScope st__law_signs) := ⟨rfl, rfl, rfl, by decide +kernel, rfl, by decide +kernel, by decide +kernel⟩
theorem b__law_signs {f : Addr} {fd : FuncData} {k : Nat} {g : List PV → R PV} (T : Top mg) (Fn : Fun K "_law_signs" "_law_signs" st__law_signs f fd) (hl : ∀ ds, g ds ≠ .bad → ds.length = 0) (hd : ∀ ds, g ds ≠ .bad → toV (D__law_signs (fm0 0 ds)) = g ds) :
    FnOk P w K mg base (L2.CX P w) (k + 1) f fd [] (spV K mg g) :=
  fn_V (d := D__law_signs) Fn sc__law_signs hl hd (by
    intro cdv A outer s H E hr
    have sc := sc__law_signs
    have tk : Takes (cxX P w K mg base N__law_signs "_law_signs" st__law_signs f cdv A outer s H E) (wE E) := takes_of rfl rfl rfl rfl
    have hp : PassesOwn (model P w) (cxX P w K mg base N__law_signs "_law_signs" st__law_signs f cdv A outer s H E).A (cxX P w K mg base N__law_signs "_law_signs" st__law_signs f cdv A outer s H E).env (cxX P w K mg base N__law_signs "_law_signs" st__law_signs f cdv A outer s H E).xe := passes_of rfl
    exact (Pv.s_one (Pv.s_ret Pv.kStr)))
abbrev st__law_value : Stmt := topS 21
abbrev N__law_value : List Str := ["more", "deep", "here", "way", "number", "signs", "many", "j"]
theorem sc__law_value : FnScope N__law_value ["more", "deep"] (defScope st__law_value) := ⟨rfl, rfl, rfl, by decide +kernel, rfl, by decide +kernel, by decide +kernel⟩
theorem b__law_value {f : Addr} {fd : FuncData} {k : Nat} {g : List PV → R PV} (T : Top mg) (Fn : Fun K "_law_value" "_law_value" st__law_value f fd) {k__law_signs : Nat} {g__law_signs : List PV → R PV} (C__law_signs : CaV P w K mg base k__law_signs "_law_signs" g__law_signs) (h__law_signs : k__law_signs ≤ k) {k__law_drawn : Nat} {g__law_drawn : List PV → R PV} (C__law_drawn : CaV P w K mg base k__law_drawn "_law_drawn" g__law_drawn) (h__law_drawn : k__law_drawn ≤ k) {k__law_value : Nat} {g__law_value : List PV → R PV} (C__law_value : CaV P w K mg base k__law_value "_law_value" g__law_value) (h__law_value : k__law_value ≤ k) (hl : ∀ ds, g ds ≠ .bad → ds.length = 2) (hd : ∀ ds, g ds ≠ .bad → toV ((D__law_value g__law_signs g__law_drawn g__law_value) (fm0 8 ds)) = g ds) :
    FnOk P w K mg base (L2.CX P w) (k + 1) f fd ["more", "deep"] (spV K mg g) :=
  fn_V (d := (D__law_value g__law_signs g__law_drawn g__law_value)) Fn sc__law_value hl hd (by
    intro cdv A outer s H E hr
    have sc := sc__law_value
    have tk : Takes (cxX P w K mg base N__law_value "_law_value" st__law_value f cdv A outer s H E) (wE E) := takes_of rfl rfl rfl rfl
    have hp : PassesOwn (model P w) (cxX P w K mg base N__law_value "_law_value" st__law_value f cdv A outer s H E).A (cxX P w K mg base N__law_value "_law_value" st__law_value f cdv A outer s H E).env (cxX P w K mg base N__law_value "_law_value" st__law_value f cdv A outer s H E).xe := passes_of rfl
    exact (Pv.s_cons (Pv.s_set (i := 2) sc.nd (Pv.v_div (Pv.rV (Pv.pe_V 0 (pv 0))) (Pv.rV Pv.kInt))) (Pv.s_cons (Pv.s_set (i := 3) sc.nd (Pv.v_mod (Pv.rV (Pv.pe_V 0 (pv 0))) (Pv.rV Pv.kInt))) (Pv.s_cons (Pv.s_if (PW.pt (Pv.w_or (Pv.t_cmp Pv.c_lt (Pv.rV (Pv.pe_V 3 (pv 3))) (Pv.rV Pv.kInt)) (pw_or1 (PW.pt (Pv.w_and (Pv.t_cmp Pv.c_gt (Pv.rV (Pv.pe_V 3 (pv 3))) (Pv.rV Pv.kInt)) (pw_and1 (Pv.t_cmp (Pv.c_eq hr) (Pv.rV (Pv.pe_V 1 (pv 1))) (Pv.rV Pv.kInt)))))))) (Pv.s_cons (Pv.s_set (i := 4) sc.nd (Pv.v_mod (Pv.rV (Pv.v_div (Pv.rV (Pv.pe_V 2 (pv 2))) (Pv.rV Pv.kInt))) (Pv.rV (Pv.v_idx (Pv.rF (Pv.f_lst (Pv.aVcons Pv.kInt (Pv.aVcons Pv.kInt (Pv.aVcons Pv.kInt (Pv.aVcons Pv.kInt Pv.aVnil)))))) (Pv.rV (Pv.v_mod (Pv.rV (Pv.pe_V 2 (pv 2))) (Pv.rV Pv.kInt))))))) (Pv.s_one (Pv.s_ret (Pv.v_idx (Pv.rF (Pv.f_lst (Pv.aVcons (Pv.pe_V 4 (pv 4)) (Pv.aVcons (Pv.v_sub (Pv.rV Pv.kInt) (Pv.rV (Pv.pe_V 4 (pv 4)))) Pv.aVnil)))) (Pv.rV (Pv.v_mod (Pv.rV (Pv.v_div (Pv.rV (Pv.pe_V 2 (pv 2))) (Pv.rV Pv.kInt))) (Pv.rV Pv.kInt))))))) Pv.s_nil) (Pv.s_cons (Pv.s_if (Pv.t_cmp Pv.c_lt (Pv.rV (Pv.pe_V 3 (pv 3))) (Pv.rV Pv.kInt)) (Pv.s_cons (Pv.s_set (i := 5) sc.nd (Pv.v_idx (Pv.rF (Pv.f_lst (Pv.aVcons Pv.kStr (Pv.aVcons (Pv.v_call0 C__law_signs tk hr h__law_signs) Pv.aVnil)))) (Pv.rV (Pv.v_mod (Pv.rV (Pv.pe_V 2 (pv 2))) (Pv.rV Pv.kInt))))) (Pv.s_one (Pv.s_ret (Pv.v_join (Pv.rV Pv.kStr) (Pv.rF (Pv.f_lc [(Str.ofString "j", 7)] rfl rfl sc.nd (Pv.iR (Pv.i_rg1 T.n_range (Pv.aRcons (Pv.rV (Pv.v_idx (Pv.rF (Pv.f_lst (Pv.aVcons Pv.kInt (Pv.aVcons Pv.kInt (Pv.aVcons Pv.kInt (Pv.aVcons Pv.kInt (Pv.aVcons Pv.kInt Pv.aVnil))))))) (Pv.rV (Pv.v_mod (Pv.rV (Pv.v_div (Pv.rV (Pv.pe_V 2 (pv 2))) (Pv.rV Pv.kInt))) (Pv.rV Pv.kInt))))) Pv.aRnil))) (blkOk_by (N := N__law_value) (sc := defScope st__law_value) (by decide +kernel)) (fun _ _ _ _ _ => (pg_name (i := 7) sc.nd rfl (by first | exact Or.inl rfl | exact Or.inr rfl))) (Pv.tg_name 7) (by decide) (fun _ _ _ _ _ => Pv.tests_nil) (fun _ _ _ _ _ => (Pv.v_idx (Pv.rV (Pv.pe_V 5 (pv 5))) (Pv.rV (Pv.v_mod (Pv.rV (Pv.v_call C__law_drawn takes0 hr (Pv.aVcons (Pv.pe_V 2 (pv 2)) (Pv.aVcons (Pv.pe_V 7 (pv 7)) Pv.aVnil)) h__law_drawn)) (Pv.rV (Pv.v_len T.n_len (Pv.aRcons (Pv.rV (Pv.pe_V 5 (pv 5))) Pv.aRnil))))))))))))) Pv.s_nil) (Pv.s_cons (Pv.s_set (i := 6) sc.nd (Pv.v_idx (Pv.rF (Pv.f_lst (Pv.aVcons Pv.kInt (Pv.aVcons Pv.kInt (Pv.aVcons Pv.kInt (Pv.aVcons Pv.kInt (Pv.aVcons (Pv.v_idx (Pv.rF (Pv.f_lst (Pv.aVcons Pv.kInt (Pv.aVcons Pv.kInt Pv.aVnil)))) (Pv.rV (Pv.v_int1 T.n_int (Pv.aRcons (Pv.rV (Pv.v_cmp (Pv.c_eq hr) (Pv.rV (Pv.pe_V 1 (pv 1))) (Pv.rV Pv.kInt))) Pv.aRnil)))) Pv.aVnil))))))) (Pv.rV (Pv.v_mod (Pv.rV (Pv.pe_V 2 (pv 2))) (Pv.rV Pv.kInt))))) (Pv.s_one (Pv.s_ret (Pv.v_tuple T.n_tuple (Pv.aRcons (Pv.rF (Pv.f_lc [(Str.ofString "j", 7)] rfl rfl sc.nd (Pv.iR (Pv.i_rg1 T.n_range (Pv.aRcons (Pv.rV (Pv.pe_V 6 (pv 6))) Pv.aRnil))) (blkOk_by (N := N__law_value) (sc := defScope st__law_value) (by decide +kernel)) (fun _ _ _ _ _ => (pg_name (i := 7) sc.nd rfl (by first | exact Or.inl rfl | exact Or.inr rfl))) (Pv.tg_name 7) (by decide) (fun _ _ _ _ _ => Pv.tests_nil) (fun _ _ _ _ _ => (Pv.v_call C__law_value takes0 hr (Pv.aVcons (Pv.v_call C__law_drawn takes0 hr (Pv.aVcons (Pv.pe_V 2 (pv 2)) (Pv.aVcons (Pv.pe_V 7 (pv 7)) Pv.aVnil)) h__law_drawn) (Pv.aVcons (Pv.v_sub (Pv.rV (Pv.pe_V 1 (pv 1))) (Pv.rV Pv.kInt)) Pv.aVnil)) h__law_value)))) Pv.aRnil))))))))))
abbrev st__law_weight : Stmt := topS 22
abbrev N__law_weight : List Str := ["value", "one", "sign"]
theorem sc__law_weight : FnScope N__law_weight ["value"] (defScope st__law_weight) := ⟨rfl, rfl, rfl, by decide +kernel, rfl, by decide +kernel, by decide +kernel⟩
theorem b__law_weight {f : Addr} {fd : FuncData} {k : Nat} {g : List PV → R PV} (T : Top mg) (Fn : Fun K "_law_weight" "_law_weight" st__law_weight f fd) {k__law_weight : Nat} {g__law_weight : List PV → R PV} (C__law_weight : CaV P w K mg base k__law_weight "_law_weight" g__law_weight) (h__law_weight : k__law_weight ≤ k) (hl : ∀ ds, g ds ≠ .bad → ds.length = 1) (hd : ∀ ds, g ds ≠ .bad → toV ((D__law_weight g__law_weight) (fm0 3 ds)) = g ds) :
    FnOk P w K mg base (L2.CX P w) (k + 1) f fd ["value"] (spV K mg g) :=
  fn_V (d := (D__law_weight g__law_weight)) Fn sc__law_weight hl hd (by
    intro cdv A outer s H E hr
    have sc := sc__law_weight
    have tk : Takes (cxX P w K mg base N__law_weight "_law_weight" st__law_weight f cdv A outer s H E) (wE E) := takes_of rfl rfl rfl rfl
    have hp : PassesOwn (model P w) (cxX P w K mg base N__law_weight "_law_weight" st__law_weight f cdv A outer s H E).A (cxX P w K mg base N__law_weight "_law_weight" st__law_weight f cdv A outer s H E).env (cxX P w K mg base N__law_weight "_law_weight" st__law_weight f cdv A outer s H E).xe := passes_of rfl
    exact (Pv.s_cons (Pv.s_if (Pv.tV_test (Pv.v_isi T.n_isinstance (Pv.rV (Pv.pe_V 0 (pv 0))) rfl T.n_int (by decide +kernel))) (Pv.s_one (Pv.s_ret (Pv.v_idx (Pv.rF (Pv.f_lst (Pv.aVcons (Pv.v_mul (Pv.rV Pv.kInt) (Pv.rV (Pv.pe_V 0 (pv 0)))) (Pv.aVcons (Pv.v_sub (Pv.rV Pv.kInt) (Pv.rV (Pv.v_mul (Pv.rV Pv.kInt) (Pv.rV (Pv.pe_V 0 (pv 0)))))) Pv.aVnil)))) (Pv.rV (Pv.v_int1 T.n_int (Pv.aRcons (Pv.rV (Pv.v_cmp Pv.c_lt (Pv.rV (Pv.pe_V 0 (pv 0))) (Pv.rV Pv.kInt))) Pv.aRnil)))))) Pv.s_nil) (Pv.s_cons (Pv.s_if (Pv.tV_test (Pv.v_isi T.n_isinstance (Pv.rV (Pv.pe_V 0 (pv 0))) rfl T.n_str (by decide +kernel))) (Pv.s_one (Pv.s_ret (Pv.v_add (Pv.rV (Pv.v_len T.n_len (Pv.aRcons (Pv.rV (Pv.pe_V 0 (pv 0))) Pv.aRnil))) (Pv.rV (Pv.v_mul (Pv.rV Pv.kInt) (Pv.rV (Pv.v_len T.n_len (Pv.aRcons (Pv.rF (Pv.f_lc [(Str.ofString "sign", 2)] rfl rfl sc.nd (Pv.iR (Pv.i_str (Pv.pe_V 0 (pv 0)))) (blkOk_by (N := N__law_weight) (sc := defScope st__law_weight) (by decide +kernel)) (fun _ _ _ _ _ => (pg_name (i := 2) sc.nd rfl (by first | exact Or.inl rfl | exact Or.inr rfl))) (Pv.tg_name 2) (by decide) (fun _ _ _ _ _ => (Pv.tests_one (Pv.t_cmp (Pv.c_ne hr) (Pv.rV (Pv.pe_V 2 (pv 2))) (Pv.rV Pv.kStr)))) (fun _ _ _ _ _ => (Pv.pe_V 2 (pv 2))))) Pv.aRnil)))))))) Pv.s_nil) (Pv.s_one (Pv.s_ret (Pv.v_add (Pv.rV (Pv.v_len T.n_len (Pv.aRcons (Pv.rV (Pv.pe_V 0 (pv 0))) Pv.aRnil))) (Pv.rV (Pv.v_sum rfl T.n_sum (Pv.aRcons (Pv.rF (Pv.f_lc [(Str.ofString "one", 1)] rfl rfl sc.nd (Pv.iR (Pv.i_tup (Pv.pe_V 0 (pv 0)))) (blkOk_by (N := N__law_weight) (sc := defScope st__law_weight) (by decide +kernel)) (fun _ _ _ _ _ => (pg_name (i := 1) sc.nd rfl (by first | exact Or.inl rfl | exact Or.inr rfl))) (Pv.tg_name 1) (by decide) (fun _ _ _ _ _ => Pv.tests_nil) (fun _ _ _ _ _ => (Pv.v_call C__law_weight takes0 hr (Pv.aVcons (Pv.pe_V 1 (pv 1)) Pv.aVnil) h__law_weight)))) Pv.aRnil)))))))))
abbrev st__law_nearer : Stmt := topS 23
abbrev N__law_nearer : List Str := ["number", "found", "part", "by"]
theorem sc__law_nearer : FnScope N__law_nearer ["number"] (defScope st__law_nearer) := ⟨rfl, rfl, rfl, by decide +kernel, rfl, by decide +kernel, by decide +kernel⟩
theorem b__law_nearer {f : Addr} {fd : FuncData} {k : Nat} {g : List PV → R PV} (T : Top mg) (Fn : Fun K "_law_nearer" "_law_nearer" st__law_nearer f fd) (hl : ∀ ds, g ds ≠ .bad → ds.length = 1) (hd : ∀ ds, g ds ≠ .bad → toV (D__law_nearer (fm0 4 ds)) = g ds) :
    FnOk P w K mg base (L2.CX P w) (k + 1) f fd ["number"] (spV K mg g) :=
  fn_V (d := D__law_nearer) Fn sc__law_nearer hl hd (by
    intro cdv A outer s H E hr
    have sc := sc__law_nearer
    have tk : Takes (cxX P w K mg base N__law_nearer "_law_nearer" st__law_nearer f cdv A outer s H E) (wE E) := takes_of rfl rfl rfl rfl
    have hp : PassesOwn (model P w) (cxX P w K mg base N__law_nearer "_law_nearer" st__law_nearer f cdv A outer s H E).A (cxX P w K mg base N__law_nearer "_law_nearer" st__law_nearer f cdv A outer s H E).env (cxX P w K mg base N__law_nearer "_law_nearer" st__law_nearer f cdv A outer s H E).xe := passes_of rfl
    exact (Pv.s_cons (Pv.s_setF (i := 1) sc.nd (Pv.f_lst (Pv.aVcons Pv.kInt Pv.aVnil))) (Pv.s_cons (Pv.s_if (Pv.t_cmp Pv.c_lt (Pv.rV (Pv.pe_V 0 (pv 0))) (Pv.rV Pv.kInt)) (Pv.s_one (Pv.s_app 1 (pv 1) (Pv.v_sub (Pv.rV Pv.kInt) (Pv.rV (Pv.pe_V 0 (pv 0)))))) Pv.s_nil) (Pv.s_cons (Pv.s_set (i := 2) sc.nd Pv.kInt) (Pv.s_cons (Pv.s_while (fun _ => 64) [3] hp (Pv.t_cmp Pv.c_gt (Pv.rV (Pv.v_div (Pv.rV (Pv.v_abs T.n_abs (Pv.aRcons (Pv.rV (Pv.pe_V 0 (pv 0))) Pv.aRnil))) (Pv.rV (Pv.pe_V 2 (pv 2))))) (Pv.rV Pv.kInt)) (Pv.s_cons (Pv.s_set (i := 3) sc.nd (Pv.v_div (Pv.rV (Pv.v_abs T.n_abs (Pv.aRcons (Pv.rV (Pv.pe_V 0 (pv 0))) Pv.aRnil))) (Pv.rV (Pv.pe_V 2 (pv 2))))) (Pv.s_cons (Pv.s_app 1 (pv 1) (Pv.pe_ifS Pv.stGV (Pv.t_cmp Pv.c_gt (Pv.rV (Pv.pe_V 0 (pv 0))) (Pv.rV Pv.kInt)) (Pv.v_sub (Pv.rV (Pv.pe_V 0 (pv 0))) (Pv.rV (Pv.pe_V 3 (pv 3)))) (Pv.v_add (Pv.rV (Pv.pe_V 0 (pv 0))) (Pv.rV (Pv.pe_V 3 (pv 3)))))) (Pv.s_one (Pv.s_set (i := 2) sc.nd (Pv.v_mul (Pv.rV Pv.kInt) (Pv.rV (Pv.pe_V 2 (pv 2))))))))) (Pv.s_frz 1 (Pv.s_one (Pv.s_ret (Pv.pe_ifS Pv.stGV (Pv.t_cmp (Pv.c_ne hr) (Pv.rV (Pv.pe_V 0 (pv 0))) (Pv.rV Pv.kInt)) (Pv.pe_V 1 (pv 1)) (Pv.vF (Pv.f_lst Pv.aVnil)))))))))))
abbrev st__law_once : Stmt := topS 24
abbrev N__law_once : List Str := ["some", "found", "one"]
theorem sc__law_once : FnScope N__law_once ["some"] (defScope st__law_once) := ⟨rfl, rfl, rfl, by decide +kernel, rfl, by decide +kernel, by decide +kernel⟩
theorem b__law_once {f : Addr} {fd : FuncData} {k : Nat} {g : List PV → R (List PV)} (T : Top mg) (Fn : Fun K "_law_once" "_law_once" st__law_once f fd) (hl : ∀ ds, g ds ≠ .bad → ds.length = 1) (hd : ∀ ds, g ds ≠ .bad → toF (D__law_once (fm0 3 ds)) = g ds) :
    FnOk P w K mg base (L2.CX P w) (k + 1) f fd ["some"] (spF K mg g) :=
  fn_F (d := D__law_once) Fn sc__law_once hl hd (by
    intro cdv A outer s H E hr
    have sc := sc__law_once
    have tk : Takes (cxX P w K mg base N__law_once "_law_once" st__law_once f cdv A outer s H E) (wE E) := takes_of rfl rfl rfl rfl
    have hp : PassesOwn (model P w) (cxX P w K mg base N__law_once "_law_once" st__law_once f cdv A outer s H E).A (cxX P w K mg base N__law_once "_law_once" st__law_once f cdv A outer s H E).env (cxX P w K mg base N__law_once "_law_once" st__law_once f cdv A outer s H E).xe := passes_of rfl
    exact (Pv.s_cons (Pv.s_setF (i := 1) sc.nd (Pv.f_lst Pv.aVnil)) (Pv.s_cons (Pv.s_for [2] hp rfl (Pv.i_lst (Pv.pe_V 0 (pv 0))) (pg_name (i := 2) sc.nd rfl (by first | exact Or.inl rfl | exact Or.inr rfl)) (Pv.tg_name 2) (Pv.s_one (Pv.s_if (Pv.t_cmp (Pv.c_notIn hr) (Pv.rV (Pv.pe_V 2 (pv 2))) (Pv.pe_R 1 (pv 1))) (Pv.s_one (Pv.s_app 1 (pv 1) (Pv.pe_V 2 (pv 2)))) Pv.s_nil))) (Pv.s_one (Pv.s_retO 1 (pv 1))))))
abbrev st__law_moves : Stmt := topS 25
abbrev N__law_moves : List Str := ["value", "found", "at", "one"]
theorem sc__law_moves : FnScope N__law_moves ["value"] (defScope st__law_moves) := ⟨rfl, rfl, rfl, by decide +kernel, rfl, by decide +kernel, by decide +kernel⟩
theorem b__law_moves {f : Addr} {fd : FuncData} {k : Nat} {g : List PV → R (List PV)} (T : Top mg) (Fn : Fun K "_law_moves" "_law_moves" st__law_moves f fd) {k__law_once : Nat} {g__law_once : List PV → R (List PV)} (C__law_once : CaF P w K mg base k__law_once "_law_once" g__law_once) (h__law_once : k__law_once ≤ k) {k__law_nearer : Nat} {g__law_nearer : List PV → R PV} (C__law_nearer : CaV P w K mg base k__law_nearer "_law_nearer" g__law_nearer) (h__law_nearer : k__law_nearer ≤ k) {k__law_moves : Nat} {g__law_moves : List PV → R (List PV)} (C__law_moves : CaF P w K mg base k__law_moves "_law_moves" g__law_moves) (h__law_moves : k__law_moves ≤ k) (hl : ∀ ds, g ds ≠ .bad → ds.length = 1) (hd : ∀ ds, g ds ≠ .bad → toF ((D__law_moves g__law_once g__law_nearer g__law_moves) (fm0 4 ds)) = g ds) :
    FnOk P w K mg base (L2.CX P w) (k + 1) f fd ["value"] (spF K mg g) :=
  fn_F (d := (D__law_moves g__law_once g__law_nearer g__law_moves)) Fn sc__law_moves hl hd (by
    intro cdv A outer s H E hr
    have sc := sc__law_moves
    have tk : Takes (cxX P w K mg base N__law_moves "_law_moves" st__law_moves f cdv A outer s H E) (wE E) := takes_of rfl rfl rfl rfl
    have hp : PassesOwn (model P w) (cxX P w K mg base N__law_moves "_law_moves" st__law_moves f cdv A outer s H E).A (cxX P w K mg base N__law_moves "_law_moves" st__law_moves f cdv A outer s H E).env (cxX P w K mg base N__law_moves "_law_moves" st__law_moves f cdv A outer s H E).xe := passes_of rfl
    exact (Pv.s_cons (Pv.s_if (Pv.tV_test (Pv.v_isi T.n_isinstance (Pv.rV (Pv.pe_V 0 (pv 0))) rfl T.n_int (by decide +kernel))) (Pv.s_one (Pv.s_retF (Pv.f_call C__law_once tk hr (Pv.aVcons (Pv.v_call C__law_nearer tk hr (Pv.aVcons (Pv.pe_V 0 (pv 0)) Pv.aVnil) h__law_nearer) Pv.aVnil) h__law_once))) Pv.s_nil) (Pv.s_cons (Pv.s_setLc (i := 1) [(Str.ofString "at", 2)] rfl rfl sc.nd rfl rfl (sw_true rfl rfl rfl (by decide +kernel)) (Pv.iR (Pv.i_rg1 T.n_range (Pv.aRcons (Pv.rV (Pv.v_len T.n_len (Pv.aRcons (Pv.rV (Pv.pe_V 0 (pv 0))) Pv.aRnil))) Pv.aRnil))) (blkOk_by (N := N__law_moves) (sc := defScope st__law_moves) (by decide +kernel)) (fun _ _ _ _ _ => (pg_name (i := 2) sc.nd rfl (by first | exact Or.inl rfl | exact Or.inr rfl))) (Pv.tg_name 2) (by decide) (fun _ _ _ _ _ => Pv.tests_nil) (fun _ _ _ _ _ => (Pv.v_add (Pv.rV (Pv.v_slice (Pv.rV (Pv.pe_V 0 (pv 0))) Pv.o_no (Pv.o_so (Pv.pe_V 2 (pv 2))))) (Pv.rV (Pv.v_slice (Pv.rV (Pv.pe_V 0 (pv 0))) (Pv.o_so (Pv.v_add (Pv.rV (Pv.pe_V 2 (pv 2))) (Pv.rV Pv.kInt))) Pv.o_no))))) (Pv.s_cons (Pv.s_for [2] hp rfl (Pv.i_rg1 T.n_range (Pv.aRcons (Pv.rV (Pv.v_len T.n_len (Pv.aRcons (Pv.rV (Pv.pe_V 0 (pv 0))) Pv.aRnil))) Pv.aRnil)) (pg_name (i := 2) sc.nd rfl (by first | exact Or.inl rfl | exact Or.inr rfl)) (Pv.tg_name 2) (Pv.s_one (Pv.s_if (Pv.tV_test (Pv.v_isi T.n_isinstance (Pv.rV (Pv.pe_V 0 (pv 0))) rfl T.n_tuple (by decide +kernel))) (Pv.s_one (Pv.s_setF (i := 1) sc.nd (Pv.f_cat (Pv.pe_R 1 (pv 1)) (Pv.rF (Pv.f_lc [(Str.ofString "one", 3)] rfl rfl sc.nd (Pv.iR (Pv.i_lst (Pv.vF (Pv.f_call C__law_moves tk hr (Pv.aVcons (Pv.v_idx (Pv.rV (Pv.pe_V 0 (pv 0))) (Pv.rV (Pv.pe_V 2 (pv 2)))) Pv.aVnil) h__law_moves)))) (blkOk_by (N := N__law_moves) (sc := defScope st__law_moves) (by decide +kernel)) (fun _ _ _ _ _ => (pg_name (i := 3) sc.nd rfl (by first | exact Or.inl rfl | exact Or.inr rfl))) (Pv.tg_name 3) (by decide) (fun _ _ _ _ _ => Pv.tests_nil) (fun _ _ _ _ _ => (Pv.v_add (Pv.rV (Pv.v_add (Pv.rV (Pv.v_slice (Pv.rV (Pv.pe_V 0 (pv 0))) Pv.o_no (Pv.o_so (Pv.pe_V 2 (pv 2))))) (Pv.rV (Pv.v_tup (Pv.aVcons (Pv.pe_V 3 (pv 3)) Pv.aVnil))))) (Pv.rV (Pv.v_slice (Pv.rV (Pv.pe_V 0 (pv 0))) (Pv.o_so (Pv.v_add (Pv.rV (Pv.pe_V 2 (pv 2))) (Pv.rV Pv.kInt))) Pv.o_no))))))))) (Pv.s_one (Pv.s_if (Pv.t_cmp (Pv.c_ne hr) (Pv.rV (Pv.v_idx (Pv.rV (Pv.pe_V 0 (pv 0))) (Pv.rV (Pv.pe_V 2 (pv 2))))) (Pv.rV Pv.kStr)) (Pv.s_one (Pv.s_app 1 (pv 1) (Pv.v_add (Pv.rV (Pv.v_add (Pv.rV (Pv.v_slice (Pv.rV (Pv.pe_V 0 (pv 0))) Pv.o_no (Pv.o_so (Pv.pe_V 2 (pv 2))))) (Pv.rV Pv.kStr))) (Pv.rV (Pv.v_slice (Pv.rV (Pv.pe_V 0 (pv 0))) (Pv.o_so (Pv.v_add (Pv.rV (Pv.pe_V 2 (pv 2))) (Pv.rV Pv.kInt))) Pv.o_no))))) Pv.s_nil))))) (Pv.s_frz 1 (Pv.s_one (Pv.s_retF (Pv.f_call C__law_once tk hr (Pv.aVcons (Pv.pe_V 1 (pv 1)) Pv.aVnil) h__law_once))))))))
abbrev st_law : Stmt := topS 26
abbrev N_law : List Str := ["script", "k", "more", "value", "told", "one"]
theorem sc_law : FnScope N_law ["script"] (defScope st_law) := ⟨rfl, rfl, rfl, by decide +kernel, rfl, by decide +kernel, by decide +kernel⟩
theorem b_law {f : Addr} {fd : FuncData} {k : Nat} {g : List PV → R PV} (T : Top mg) (Fn : Fun K "law" "law" st_law f fd) {k__law_drawn : Nat} {g__law_drawn : List PV → R PV} (C__law_drawn : CaV P w K mg base k__law_drawn "_law_drawn" g__law_drawn) (h__law_drawn : k__law_drawn ≤ k) {k__law_cell : Nat} {g__law_cell : List PV → R PV} (C__law_cell : CaV P w K mg base k__law_cell "_law_cell" g__law_cell) (h__law_cell : k__law_cell ≤ k) {k__law_value : Nat} {g__law_value : List PV → R PV} (C__law_value : CaV P w K mg base k__law_value "_law_value" g__law_value) (h__law_value : k__law_value ≤ k) {k_moves : Nat} {g_moves : List PV → R (List PV)} (C_moves : CaF P w K mg base k_moves "moves" g_moves) (h_moves : k_moves ≤ k) {k__law_moves : Nat} {g__law_moves : List PV → R (List PV)} (C__law_moves : CaF P w K mg base k__law_moves "_law_moves" g__law_moves) (h__law_moves : k__law_moves ≤ k) {k_weight : Nat} {g_weight : List PV → R PV} (C_weight : CaV P w K mg base k_weight "weight" g_weight) (h_weight : k_weight ≤ k) {k__law_weight : Nat} {g__law_weight : List PV → R PV} (C__law_weight : CaV P w K mg base k__law_weight "_law_weight" g__law_weight) (h__law_weight : k__law_weight ≤ k) {k_need_value : Nat} {g_need_value : List PV → R PV} (C_need_value : CaV P w K mg base k_need_value "need_value" g_need_value) (h_need_value : k_need_value ≤ k) (hl : ∀ ds, g ds ≠ .bad → ds.length = 1) (hd : ∀ ds, g ds ≠ .bad → toV ((D_law g__law_drawn g__law_cell g__law_value g_moves g__law_moves g_weight g__law_weight g_need_value) (fm0 6 ds)) = g ds) :
    FnOk P w K mg base (L2.CX P w) (k + 1) f fd ["script"] (spV K mg g) :=
  fn_V (d := (D_law g__law_drawn g__law_cell g__law_value g_moves g__law_moves g_weight g__law_weight g_need_value)) Fn sc_law hl hd (by
    intro cdv A outer s H E hr
    have sc := sc_law
    have tk : Takes (cxX P w K mg base N_law "law" st_law f cdv A outer s H E) (wE E) := takes_of rfl rfl rfl rfl
    have hp : PassesOwn (model P w) (cxX P w K mg base N_law "law" st_law f cdv A outer s H E).A (cxX P w K mg base N_law "law" st_law f cdv A outer s H E).env (cxX P w K mg base N_law "law" st_law f cdv A outer s H E).xe := passes_of rfl
    exact (Pv.s_cons (Pv.s_for [1, 2, 3, 4, 5] hp rfl (Pv.i_rg1 T.n_range (Pv.aRcons (Pv.rV (Pv.v_max2 rfl T.n_max (Pv.aRcons (Pv.rV Pv.kInt) (Pv.aRcons (Pv.rV (Pv.v_min2 rfl T.n_min (Pv.aRcons (Pv.rV Pv.kInt) (Pv.aRcons (Pv.rV (Pv.v_len T.n_len (Pv.aRcons (Pv.rV (Pv.pe_V 0 (pv 0))) Pv.aRnil))) Pv.aRnil)))) Pv.aRnil)))) Pv.aRnil)) (pg_name (i := 1) sc.nd rfl (by first | exact Or.inl rfl | exact Or.inr rfl)) (Pv.tg_name 1) (Pv.s_cons (Pv.s_set (i := 2) sc.nd (Pv.v_call C__law_drawn tk hr (Pv.aVcons (Pv.v_call C__law_cell tk hr (Pv.aVcons (Pv.pe_V 0 (pv 0)) (Pv.aVcons (Pv.pe_V 1 (pv 1)) Pv.aVnil)) h__law_cell) (Pv.aVcons (Pv.pe_V 1 (pv 1)) Pv.aVnil)) h__law_drawn)) (Pv.s_cons (Pv.s_set (i := 3) sc.nd (Pv.v_call C__law_value tk hr (Pv.aVcons (Pv.v_call C__law_drawn tk hr (Pv.aVcons (Pv.pe_V 2 (pv 2)) (Pv.aVcons Pv.kInt Pv.aVnil)) h__law_drawn) (Pv.aVcons (Pv.v_mod (Pv.rV (Pv.pe_V 2 (pv 2))) (Pv.rV Pv.kInt)) Pv.aVnil)) h__law_value)) (Pv.s_cons (Pv.s_setF (i := 4) sc.nd (Pv.f_call C_moves tk hr (Pv.aVcons (Pv.pe_V 3 (pv 3)) Pv.aVnil) h_moves)) (Pv.s_cons (Pv.s_if (PW.pt (Pv.w_or (Pv.t_not (Pv.tV_test (Pv.v_isi T.n_isinstance (Pv.pe_R 4 (pv 4)) rfl T.n_list (by decide +kernel)))) (Pv.w_or (Pv.t_cmp (Pv.c_ne hr) (Pv.pe_R 4 (pv 4)) (Pv.rF (Pv.f_call C__law_moves tk hr (Pv.aVcons (Pv.pe_V 3 (pv 3)) Pv.aVnil) h__law_moves))) (pw_or1 (Pv.tV_test (Pv.v_any rfl T.n_any (Pv.aRcons (Pv.rF (Pv.f_lc [(Str.ofString "one", 5)] rfl rfl sc.nd (Pv.i_lstR (Pv.pe_R 4 (pv 4))) (blkOk_by (N := N_law) (sc := defScope st_law) (by decide +kernel)) (fun _ _ _ _ _ => (pg_name (i := 5) sc.nd rfl (by first | exact Or.inl rfl | exact Or.inr rfl))) (Pv.tg_name 5) (by decide) (fun _ _ _ _ _ => Pv.tests_nil) (fun _ _ _ _ _ => (Pv.v_isi T.n_isinstance (Pv.rV (Pv.pe_V 5 (pv 5))) rfl T.n_bool (by decide +kernel))))) Pv.aRnil))))))) (Pv.s_one (Pv.s_ret Pv.kBl)) Pv.s_nil) (Pv.s_cons (Pv.s_if (PW.pt (Pv.w_or (Pv.t_cmp (Pv.c_ne hr) (Pv.rV (Pv.v_call C_weight tk hr (Pv.aVcons (Pv.pe_V 3 (pv 3)) Pv.aVnil) h_weight)) (Pv.rV (Pv.v_call C__law_weight tk hr (Pv.aVcons (Pv.pe_V 3 (pv 3)) Pv.aVnil) h__law_weight))) (pw_or1 (Pv.t_not (Pv.tV_test (Pv.v_all rfl T.n_all (Pv.aRcons (Pv.rF (Pv.f_lc [(Str.ofString "one", 5)] rfl rfl sc.nd (Pv.i_lstR (Pv.pe_R 4 (pv 4))) (blkOk_by (N := N_law) (sc := defScope st_law) (by decide +kernel)) (fun _ _ _ _ _ => (pg_name (i := 5) sc.nd rfl (by first | exact Or.inl rfl | exact Or.inr rfl))) (Pv.tg_name 5) (by decide) (fun _ _ _ _ _ => Pv.tests_nil) (fun _ _ _ _ _ => (Pv.v_cmp Pv.c_lt (Pv.rV (Pv.v_call C_weight takes0 hr (Pv.aVcons (Pv.pe_V 5 (pv 5)) Pv.aVnil) h_weight)) (Pv.rV (Pv.v_call C_weight takes0 hr (Pv.aVcons (Pv.pe_V 3 (pv 3)) Pv.aVnil) h_weight)))))) Pv.aRnil))))))) (Pv.s_one (Pv.s_ret Pv.kBl)) Pv.s_nil) (Pv.s_cons (Pv.s_for [5] hp rfl (Pv.i_lst (Pv.vF (Pv.f_slice (Pv.pe_R 4 (pv 4)) Pv.o_no (Pv.o_so Pv.kInt)))) (pg_name (i := 5) sc.nd rfl (by first | exact Or.inl rfl | exact Or.inr rfl)) (Pv.tg_name 5) (Pv.s_one (Pv.s_if (Pv.t_notN (Pv.rV (Pv.v_call C_need_value tk hr (Pv.aVcons (Pv.pe_V 5 (pv 5)) Pv.aVnil) h_need_value))) (Pv.s_one (Pv.s_ret Pv.kBl)) Pv.s_nil))) (Pv.s_cons (Pv.s_app 4 (pv 4) Pv.kNon) (Pv.s_cons (Pv.s_if (Pv.t_cmp (Pv.c_ne hr) (Pv.rF (Pv.f_call C_moves tk hr (Pv.aVcons (Pv.pe_V 3 (pv 3)) Pv.aVnil) h_moves)) (Pv.rF (Pv.f_slice (Pv.pe_R 4 (pv 4)) Pv.o_no (Pv.o_so (Pv.v_neg (Pv.rV Pv.kInt)))))) (Pv.s_one (Pv.s_ret Pv.kBl)) Pv.s_nil) (Pv.s_one (Pv.s_if (Pv.t_cmp (Pv.c_ne hr) (Pv.rV (Pv.v_cmp (Pv.c_eq hr) (Pv.pe_R 4 (pv 4)) (Pv.rF (Pv.f_lst (Pv.aVcons Pv.kNon Pv.aVnil))))) (Pv.rV (Pv.v_cmp (Pv.c_in hr) (Pv.rV (Pv.pe_V 3 (pv 3))) (Pv.rV (Pv.v_tup (Pv.aVcons Pv.kInt (Pv.aVcons Pv.kStr (Pv.aVcons (Pv.v_tup Pv.aVnil) Pv.aVnil)))))))) (Pv.s_one (Pv.s_ret Pv.kBl)) Pv.s_nil))))))))))) (Pv.s_one (Pv.s_ret Pv.kBl))))
end
theorem len_if {α : Type} {ds : List PV} {n : Nat} {r : R α} (h : (if ds.length = n then r else .bad) ≠ .bad) : ds.length = n := Decidable.byContradiction fun z => h (if_neg z)
section
variable {P : Program} {w : World} {K : PySem.W.Frag} {mg : Str → Option Value} {base : Heap}
structure Funs (K : PySem.W.Frag) (mg : Str → Option Value) : Prop where
  e_is_number : ∃ f fd, Fun K "is_number" "is_number" st_is_number f fd ∧ mg "is_number" = some (.ref f) ∧ Binds K fd ["thing"] []
  e_are_signs : ∃ f fd, Fun K "are_signs" "are_signs" st_are_signs f fd ∧ mg "are_signs" = some (.ref f) ∧ Binds K fd ["text"] []
  e_is_value : ∃ f fd, Fun K "is_value" "is_value" st_is_value f fd ∧ mg "is_value" = some (.ref f) ∧ Binds K fd ["thing", "deep"] []
  e_need_value : ∃ f fd, Fun K "need_value" "need_value" st_need_value f fd ∧ mg "need_value" = some (.ref f) ∧ Binds K fd ["value"] []
  e_weight : ∃ f fd, Fun K "weight" "weight" st_weight f fd ∧ mg "weight" = some (.ref f) ∧ Binds K fd ["value"] []
  e_number_moves : ∃ f fd, Fun K "number_moves" "number_moves" st_number_moves f fd ∧ mg "number_moves" = some (.ref f) ∧ Binds K fd ["number"] []
  e_all_moves : ∃ f fd, Fun K "all_moves" "all_moves" st_all_moves f fd ∧ mg "all_moves" = some (.ref f) ∧ Binds K fd ["value"] []
  e_moves : ∃ f fd, Fun K "moves" "moves" st_moves f fd ∧ mg "moves" = some (.ref f) ∧ Binds K fd ["value"] []
  e__law_cell : ∃ f fd, Fun K "_law_cell" "_law_cell" st__law_cell f fd ∧ mg "_law_cell" = some (.ref f) ∧ Binds K fd ["script", "k"] []
  e__law_drawn : ∃ f fd, Fun K "_law_drawn" "_law_drawn" st__law_drawn f fd ∧ mg "_law_drawn" = some (.ref f) ∧ Binds K fd ["cell", "k"] []
  e__law_signs : ∃ f fd, Fun K "_law_signs" "_law_signs" st__law_signs f fd ∧ mg "_law_signs" = some (.ref f) ∧ Binds K fd [] []
  e__law_value : ∃ f fd, Fun K "_law_value" "_law_value" st__law_value f fd ∧ mg "_law_value" = some (.ref f) ∧ Binds K fd ["more", "deep"] []
  e__law_weight : ∃ f fd, Fun K "_law_weight" "_law_weight" st__law_weight f fd ∧ mg "_law_weight" = some (.ref f) ∧ Binds K fd ["value"] []
  e__law_nearer : ∃ f fd, Fun K "_law_nearer" "_law_nearer" st__law_nearer f fd ∧ mg "_law_nearer" = some (.ref f) ∧ Binds K fd ["number"] []
  e__law_once : ∃ f fd, Fun K "_law_once" "_law_once" st__law_once f fd ∧ mg "_law_once" = some (.ref f) ∧ Binds K fd ["some"] []
  e__law_moves : ∃ f fd, Fun K "_law_moves" "_law_moves" st__law_moves f fd ∧ mg "_law_moves" = some (.ref f) ∧ Binds K fd ["value"] []
  e_law : ∃ f fd, Fun K "law" "law" st_law f fd ∧ mg "law" = some (.ref f) ∧ Binds K fd ["script"] []
theorem ok_is_number (T : Top mg) (U : Funs K mg) : CaV P w K mg base 1 "is_number" G_is_number := by
  obtain ⟨f, fd, Fn, m, b⟩ := U.e_is_number
  exact ⟨f, fd, _, b_is_number (k := 0) T Fn  (fun ds h => len_if h) (fun ds h => by unfold G_is_number at h ⊢; rw [if_pos (len_if h)]), m, Fn.kp, b⟩
theorem ok_are_signs (T : Top mg) (U : Funs K mg) : CaV P w K mg base 1 "are_signs" G_are_signs := by
  obtain ⟨f, fd, Fn, m, b⟩ := U.e_are_signs
  exact ⟨f, fd, _, b_are_signs (k := 0) T Fn  (fun ds h => len_if h) (fun ds h => by unfold G_are_signs at h ⊢; rw [if_pos (len_if h)]), m, Fn.kp, b⟩
theorem ok_is_value (T : Top mg) (U : Funs K mg) : ∀ n : Nat, CaV P w K mg base (1 + 1 * n) "is_value" (G_is_value n)
  | 0 => by
    obtain ⟨f, fd, Fn, m, b⟩ := U.e_is_value
    exact ⟨f, fd, _, fn_badV ["thing", "deep"], m, Fn.kp, b⟩
  | n + 1 => by
    have ih := ok_is_value T U n
    obtain ⟨f, fd, Fn, m, b⟩ := U.e_is_value
    exact ⟨f, fd, _, (b_is_value (k := 1 + 1 * n + 0) T Fn (ok_are_signs T U) (by omega) ih (by omega) (ok_is_number T U) (by omega) (fun ds h => len_if (n := 2) (by unfold G_is_value at h; exact h)) (fun ds h => by unfold G_is_value at h ⊢; rw [if_pos (len_if h)])).mono (by omega), m, Fn.kp, b⟩
theorem ok_need_value (T : Top mg) (U : Funs K mg) : CaV P w K mg base 8 "need_value" G_need_value := by
  obtain ⟨f, fd, Fn, m, b⟩ := U.e_need_value
  exact ⟨f, fd, _, b_need_value (k := 7) T Fn (ok_is_value T U 6) (by omega) (fun ds h => len_if h) (fun ds h => by unfold G_need_value at h ⊢; rw [if_pos (len_if h)]), m, Fn.kp, b⟩
theorem ok_weight (T : Top mg) (U : Funs K mg) : ∀ n : Nat, CaV P w K mg base (0 + 1 * n) "weight" (G_weight n)
  | 0 => by
    obtain ⟨f, fd, Fn, m, b⟩ := U.e_weight
    exact ⟨f, fd, _, fn_badV ["value"], m, Fn.kp, b⟩
  | n + 1 => by
    have ih := ok_weight T U n
    obtain ⟨f, fd, Fn, m, b⟩ := U.e_weight
    exact ⟨f, fd, _, (b_weight (k := 0 + 1 * n + 0) T Fn ih (by omega) (fun ds h => len_if (n := 1) (by unfold G_weight at h; exact h)) (fun ds h => by unfold G_weight at h ⊢; rw [if_pos (len_if h)])).mono (by omega), m, Fn.kp, b⟩
theorem ok_number_moves (T : Top mg) (U : Funs K mg) : CaF P w K mg base 1 "number_moves" G_number_moves := by
  obtain ⟨f, fd, Fn, m, b⟩ := U.e_number_moves
  exact ⟨f, fd, _, b_number_moves (k := 0) T Fn  (fun ds h => len_if h) (fun ds h => by unfold G_number_moves at h ⊢; rw [if_pos (len_if h)]), m, Fn.kp, b⟩
theorem ok_all_moves (T : Top mg) (U : Funs K mg) {k : Nat} {g_moves : List PV → R (List PV)} (C_moves : CaF P w K mg base k "moves" g_moves) (hk : 1 ≤ k) : CaF P w K mg base (k + 1) "all_moves" (G_all_moves g_moves) := by
  obtain ⟨f, fd, Fn, m, b⟩ := U.e_all_moves
  exact ⟨f, fd, _, b_all_moves T Fn (ok_number_moves T U) (by omega) C_moves (by omega) (fun ds h => len_if h) (fun ds h => by unfold G_all_moves at h ⊢; rw [if_pos (len_if h)]), m, Fn.kp, b⟩
theorem ok_moves (T : Top mg) (U : Funs K mg) : ∀ n : Nat, CaF P w K mg base (1 + 2 * n) "moves" (G_moves n)
  | 0 => by
    obtain ⟨f, fd, Fn, m, b⟩ := U.e_moves
    exact ⟨f, fd, _, fn_badF ["value"], m, Fn.kp, b⟩
  | n + 1 => by
    have ih := ok_moves T U n
    obtain ⟨f, fd, Fn, m, b⟩ := U.e_moves
    exact ⟨f, fd, _, (b_moves (k := 1 + 2 * n + 1) T Fn (ok_all_moves T U ih (by omega)) (by omega) (fun ds h => len_if (n := 1) (by unfold G_moves at h; exact h)) (fun ds h => by unfold G_moves at h ⊢; rw [if_pos (len_if h)])).mono (by omega), m, Fn.kp, b⟩
theorem ok__law_cell (T : Top mg) (U : Funs K mg) : CaV P w K mg base 1 "_law_cell" G__law_cell := by
  obtain ⟨f, fd, Fn, m, b⟩ := U.e__law_cell
  exact ⟨f, fd, _, b__law_cell (k := 0) T Fn  (fun ds h => len_if h) (fun ds h => by unfold G__law_cell at h ⊢; rw [if_pos (len_if h)]), m, Fn.kp, b⟩
theorem ok__law_drawn (T : Top mg) (U : Funs K mg) : CaV P w K mg base 1 "_law_drawn" G__law_drawn := by
  obtain ⟨f, fd, Fn, m, b⟩ := U.e__law_drawn
  exact ⟨f, fd, _, b__law_drawn (k := 0) T Fn  (fun ds h => len_if h) (fun ds h => by unfold G__law_drawn at h ⊢; rw [if_pos (len_if h)]), m, Fn.kp, b⟩
theorem ok__law_signs (T : Top mg) (U : Funs K mg) : CaV P w K mg base 1 "_law_signs" G__law_signs := by
  obtain ⟨f, fd, Fn, m, b⟩ := U.e__law_signs
  exact ⟨f, fd, _, b__law_signs (k := 0) T Fn  (fun ds h => len_if h) (fun ds h => by unfold G__law_signs at h ⊢; rw [if_pos (len_if h)]), m, Fn.kp, b⟩
theorem ok__law_value (T : Top mg) (U : Funs K mg) : ∀ n : Nat, CaV P w K mg base (1 + 1 * n) "_law_value" (G__law_value n)
  | 0 => by
    obtain ⟨f, fd, Fn, m, b⟩ := U.e__law_value
    exact ⟨f, fd, _, fn_badV ["more", "deep"], m, Fn.kp, b⟩
  | n + 1 => by
    have ih := ok__law_value T U n
    obtain ⟨f, fd, Fn, m, b⟩ := U.e__law_value
    exact ⟨f, fd, _, (b__law_value (k := 1 + 1 * n + 0) T Fn (ok__law_signs T U) (by omega) (ok__law_drawn T U) (by omega) ih (by omega) (fun ds h => len_if (n := 2) (by unfold G__law_value at h; exact h)) (fun ds h => by unfold G__law_value at h ⊢; rw [if_pos (len_if h)])).mono (by omega), m, Fn.kp, b⟩
theorem ok__law_weight (T : Top mg) (U : Funs K mg) : ∀ n : Nat, CaV P w K mg base (0 + 1 * n) "_law_weight" (G__law_weight n)
  | 0 => by
    obtain ⟨f, fd, Fn, m, b⟩ := U.e__law_weight
    exact ⟨f, fd, _, fn_badV ["value"], m, Fn.kp, b⟩
  | n + 1 => by
    have ih := ok__law_weight T U n
    obtain ⟨f, fd, Fn, m, b⟩ := U.e__law_weight
    exact ⟨f, fd, _, (b__law_weight (k := 0 + 1 * n + 0) T Fn ih (by omega) (fun ds h => len_if (n := 1) (by unfold G__law_weight at h; exact h)) (fun ds h => by unfold G__law_weight at h ⊢; rw [if_pos (len_if h)])).mono (by omega), m, Fn.kp, b⟩
theorem ok__law_nearer (T : Top mg) (U : Funs K mg) : CaV P w K mg base 1 "_law_nearer" G__law_nearer := by
  obtain ⟨f, fd, Fn, m, b⟩ := U.e__law_nearer
  exact ⟨f, fd, _, b__law_nearer (k := 0) T Fn  (fun ds h => len_if h) (fun ds h => by unfold G__law_nearer at h ⊢; rw [if_pos (len_if h)]), m, Fn.kp, b⟩
theorem ok__law_once (T : Top mg) (U : Funs K mg) : CaF P w K mg base 1 "_law_once" G__law_once := by
  obtain ⟨f, fd, Fn, m, b⟩ := U.e__law_once
  exact ⟨f, fd, _, b__law_once (k := 0) T Fn  (fun ds h => len_if h) (fun ds h => by unfold G__law_once at h ⊢; rw [if_pos (len_if h)]), m, Fn.kp, b⟩
theorem ok__law_moves (T : Top mg) (U : Funs K mg) : ∀ n : Nat, CaF P w K mg base (1 + 1 * n) "_law_moves" (G__law_moves n)
  | 0 => by
    obtain ⟨f, fd, Fn, m, b⟩ := U.e__law_moves
    exact ⟨f, fd, _, fn_badF ["value"], m, Fn.kp, b⟩
  | n + 1 => by
    have ih := ok__law_moves T U n
    obtain ⟨f, fd, Fn, m, b⟩ := U.e__law_moves
    exact ⟨f, fd, _, (b__law_moves (k := 1 + 1 * n + 0) T Fn (ok__law_once T U) (by omega) (ok__law_nearer T U) (by omega) ih (by omega) (fun ds h => len_if (n := 1) (by unfold G__law_moves at h; exact h)) (fun ds h => by unfold G__law_moves at h ⊢; rw [if_pos (len_if h)])).mono (by omega), m, Fn.kp, b⟩
theorem ok_law (T : Top mg) (U : Funs K mg) {f : Addr} {fd : FuncData} (Fn : Fun K "law" "law" st_law f fd) : FnOk P w K mg base (L2.CX P w) 14 f fd ["script"] (spV K mg G_law) :=
  b_law (k := 13) T Fn (ok__law_drawn T U) (by omega) (ok__law_cell T U) (by omega) (ok__law_value T U 6) (by omega) (ok_moves T U 6) (by omega) (ok__law_moves T U 6) (by omega) (ok_weight T U 6) (by omega) (ok__law_weight T U 6) (by omega) (ok_need_value T U) (by omega) (fun ds h => len_if h) (fun ds h => by unfold G_law at h ⊢; rw [if_pos (len_if h)])
end
theorem all_mk (hpure : ∀ ns : List Int, ns.length ≤ 63 → (∀ z ∈ ns, Builtin.Int.intBits z ≤ 1048576) → G_law [.scr ns] = .ok (.bl true)) {P : Program} {w : World} {K : PySem.W.Frag} {h : Heap} {mg : Str → Option Value} {fa f0 f1 f2 f3 f4 f5 f6 f7 f8 f9 f10 f11 f12 f13 f14 f15 f16 : Addr} (X : K.In h) (G : h.Ns mainGlobals mg) (hfa : mg "law" = some (.ref fa))
    {od0 an0 : Option Addr} {sl0 : Array (Option Value)} {oc0 kV0 dc0 pm0 cd0 ct0 : Value}
    (a0 : PySem.W.nsIn K mainGlobals "is_number" = some (some (.ref f0))) (l0 : K.lookup f0 = some ⟨oc0, od0, .func (PySem.W.fnOf "is_number" "is_number" (defArgs st_is_number) (defBody st_is_number) (defScope st_is_number) .none kV0 dc0 pm0 an0 cd0 ct0), sl0⟩) (c0 : PySem.W.codeIn K cd0 "is_number" = true) (k0 : PySem.W.keepIn K (.ref f0) = true)
    {od1 an1 : Option Addr} {sl1 : Array (Option Value)} {oc1 kV1 dc1 pm1 cd1 ct1 : Value}
    (a1 : PySem.W.nsIn K mainGlobals "are_signs" = some (some (.ref f1))) (l1 : K.lookup f1 = some ⟨oc1, od1, .func (PySem.W.fnOf "are_signs" "are_signs" (defArgs st_are_signs) (defBody st_are_signs) (defScope st_are_signs) .none kV1 dc1 pm1 an1 cd1 ct1), sl1⟩) (c1 : PySem.W.codeIn K cd1 "are_signs" = true) (k1 : PySem.W.keepIn K (.ref f1) = true)
    {od2 an2 : Option Addr} {sl2 : Array (Option Value)} {oc2 kV2 dc2 pm2 cd2 ct2 : Value}
    (a2 : PySem.W.nsIn K mainGlobals "is_value" = some (some (.ref f2))) (l2 : K.lookup f2 = some ⟨oc2, od2, .func (PySem.W.fnOf "is_value" "is_value" (defArgs st_is_value) (defBody st_is_value) (defScope st_is_value) .none kV2 dc2 pm2 an2 cd2 ct2), sl2⟩) (c2 : PySem.W.codeIn K cd2 "is_value" = true) (k2 : PySem.W.keepIn K (.ref f2) = true)
    {od3 an3 : Option Addr} {sl3 : Array (Option Value)} {oc3 kV3 dc3 pm3 cd3 ct3 : Value}
    (a3 : PySem.W.nsIn K mainGlobals "need_value" = some (some (.ref f3))) (l3 : K.lookup f3 = some ⟨oc3, od3, .func (PySem.W.fnOf "need_value" "need_value" (defArgs st_need_value) (defBody st_need_value) (defScope st_need_value) .none kV3 dc3 pm3 an3 cd3 ct3), sl3⟩) (c3 : PySem.W.codeIn K cd3 "need_value" = true) (k3 : PySem.W.keepIn K (.ref f3) = true)
    {od4 an4 : Option Addr} {sl4 : Array (Option Value)} {oc4 kV4 dc4 pm4 cd4 ct4 : Value}
    (a4 : PySem.W.nsIn K mainGlobals "weight" = some (some (.ref f4))) (l4 : K.lookup f4 = some ⟨oc4, od4, .func (PySem.W.fnOf "weight" "weight" (defArgs st_weight) (defBody st_weight) (defScope st_weight) .none kV4 dc4 pm4 an4 cd4 ct4), sl4⟩) (c4 : PySem.W.codeIn K cd4 "weight" = true) (k4 : PySem.W.keepIn K (.ref f4) = true)
    {od5 an5 : Option Addr} {sl5 : Array (Option Value)} {oc5 kV5 dc5 pm5 cd5 ct5 : Value}
    (a5 : PySem.W.nsIn K mainGlobals "number_moves" = some (some (.ref f5))) (l5 : K.lookup f5 = some ⟨oc5, od5, .func (PySem.W.fnOf "number_moves" "number_moves" (defArgs st_number_moves) (defBody st_number_moves) (defScope st_number_moves) .none kV5 dc5 pm5 an5 cd5 ct5), sl5⟩) (c5 : PySem.W.codeIn K cd5 "number_moves" = true) (k5 : PySem.W.keepIn K (.ref f5) = true)
    {od6 an6 : Option Addr} {sl6 : Array (Option Value)} {oc6 kV6 dc6 pm6 cd6 ct6 : Value}
    (a6 : PySem.W.nsIn K mainGlobals "all_moves" = some (some (.ref f6))) (l6 : K.lookup f6 = some ⟨oc6, od6, .func (PySem.W.fnOf "all_moves" "all_moves" (defArgs st_all_moves) (defBody st_all_moves) (defScope st_all_moves) .none kV6 dc6 pm6 an6 cd6 ct6), sl6⟩) (c6 : PySem.W.codeIn K cd6 "all_moves" = true) (k6 : PySem.W.keepIn K (.ref f6) = true)
    {od7 an7 : Option Addr} {sl7 : Array (Option Value)} {oc7 kV7 dc7 pm7 cd7 ct7 : Value}
    (a7 : PySem.W.nsIn K mainGlobals "moves" = some (some (.ref f7))) (l7 : K.lookup f7 = some ⟨oc7, od7, .func (PySem.W.fnOf "moves" "moves" (defArgs st_moves) (defBody st_moves) (defScope st_moves) .none kV7 dc7 pm7 an7 cd7 ct7), sl7⟩) (c7 : PySem.W.codeIn K cd7 "moves" = true) (k7 : PySem.W.keepIn K (.ref f7) = true)
    {od8 an8 : Option Addr} {sl8 : Array (Option Value)} {oc8 kV8 dc8 pm8 cd8 ct8 : Value}
    (a8 : PySem.W.nsIn K mainGlobals "_law_cell" = some (some (.ref f8))) (l8 : K.lookup f8 = some ⟨oc8, od8, .func (PySem.W.fnOf "_law_cell" "_law_cell" (defArgs st__law_cell) (defBody st__law_cell) (defScope st__law_cell) .none kV8 dc8 pm8 an8 cd8 ct8), sl8⟩) (c8 : PySem.W.codeIn K cd8 "_law_cell" = true) (k8 : PySem.W.keepIn K (.ref f8) = true)
    {od9 an9 : Option Addr} {sl9 : Array (Option Value)} {oc9 kV9 dc9 pm9 cd9 ct9 : Value}
    (a9 : PySem.W.nsIn K mainGlobals "_law_drawn" = some (some (.ref f9))) (l9 : K.lookup f9 = some ⟨oc9, od9, .func (PySem.W.fnOf "_law_drawn" "_law_drawn" (defArgs st__law_drawn) (defBody st__law_drawn) (defScope st__law_drawn) .none kV9 dc9 pm9 an9 cd9 ct9), sl9⟩) (c9 : PySem.W.codeIn K cd9 "_law_drawn" = true) (k9 : PySem.W.keepIn K (.ref f9) = true)
    {od10 an10 : Option Addr} {sl10 : Array (Option Value)} {oc10 kV10 dc10 pm10 cd10 ct10 : Value}
    (a10 : PySem.W.nsIn K mainGlobals "_law_signs" = some (some (.ref f10))) (l10 : K.lookup f10 = some ⟨oc10, od10, .func (PySem.W.fnOf "_law_signs" "_law_signs" (defArgs st__law_signs) (defBody st__law_signs) (defScope st__law_signs) .none kV10 dc10 pm10 an10 cd10 ct10), sl10⟩) (c10 : PySem.W.codeIn K cd10 "_law_signs" = true) (k10 : PySem.W.keepIn K (.ref f10) = true)
    {od11 an11 : Option Addr} {sl11 : Array (Option Value)} {oc11 kV11 dc11 pm11 cd11 ct11 : Value}
    (a11 : PySem.W.nsIn K mainGlobals "_law_value" = some (some (.ref f11))) (l11 : K.lookup f11 = some ⟨oc11, od11, .func (PySem.W.fnOf "_law_value" "_law_value" (defArgs st__law_value) (defBody st__law_value) (defScope st__law_value) .none kV11 dc11 pm11 an11 cd11 ct11), sl11⟩) (c11 : PySem.W.codeIn K cd11 "_law_value" = true) (k11 : PySem.W.keepIn K (.ref f11) = true)
    {od12 an12 : Option Addr} {sl12 : Array (Option Value)} {oc12 kV12 dc12 pm12 cd12 ct12 : Value}
    (a12 : PySem.W.nsIn K mainGlobals "_law_weight" = some (some (.ref f12))) (l12 : K.lookup f12 = some ⟨oc12, od12, .func (PySem.W.fnOf "_law_weight" "_law_weight" (defArgs st__law_weight) (defBody st__law_weight) (defScope st__law_weight) .none kV12 dc12 pm12 an12 cd12 ct12), sl12⟩) (c12 : PySem.W.codeIn K cd12 "_law_weight" = true) (k12 : PySem.W.keepIn K (.ref f12) = true)
    {od13 an13 : Option Addr} {sl13 : Array (Option Value)} {oc13 kV13 dc13 pm13 cd13 ct13 : Value}
    (a13 : PySem.W.nsIn K mainGlobals "_law_nearer" = some (some (.ref f13))) (l13 : K.lookup f13 = some ⟨oc13, od13, .func (PySem.W.fnOf "_law_nearer" "_law_nearer" (defArgs st__law_nearer) (defBody st__law_nearer) (defScope st__law_nearer) .none kV13 dc13 pm13 an13 cd13 ct13), sl13⟩) (c13 : PySem.W.codeIn K cd13 "_law_nearer" = true) (k13 : PySem.W.keepIn K (.ref f13) = true)
    {od14 an14 : Option Addr} {sl14 : Array (Option Value)} {oc14 kV14 dc14 pm14 cd14 ct14 : Value}
    (a14 : PySem.W.nsIn K mainGlobals "_law_once" = some (some (.ref f14))) (l14 : K.lookup f14 = some ⟨oc14, od14, .func (PySem.W.fnOf "_law_once" "_law_once" (defArgs st__law_once) (defBody st__law_once) (defScope st__law_once) .none kV14 dc14 pm14 an14 cd14 ct14), sl14⟩) (c14 : PySem.W.codeIn K cd14 "_law_once" = true) (k14 : PySem.W.keepIn K (.ref f14) = true)
    {od15 an15 : Option Addr} {sl15 : Array (Option Value)} {oc15 kV15 dc15 pm15 cd15 ct15 : Value}
    (a15 : PySem.W.nsIn K mainGlobals "_law_moves" = some (some (.ref f15))) (l15 : K.lookup f15 = some ⟨oc15, od15, .func (PySem.W.fnOf "_law_moves" "_law_moves" (defArgs st__law_moves) (defBody st__law_moves) (defScope st__law_moves) .none kV15 dc15 pm15 an15 cd15 ct15), sl15⟩) (c15 : PySem.W.codeIn K cd15 "_law_moves" = true) (k15 : PySem.W.keepIn K (.ref f15) = true)
    {od16 an16 : Option Addr} {sl16 : Array (Option Value)} {oc16 kV16 dc16 pm16 cd16 ct16 : Value}
    (a16 : PySem.W.nsIn K mainGlobals "law" = some (some (.ref f16))) (l16 : K.lookup f16 = some ⟨oc16, od16, .func (PySem.W.fnOf "law" "law" (defArgs st_law) (defBody st_law) (defScope st_law) .none kV16 dc16 pm16 an16 cd16 ct16), sl16⟩) (c16 : PySem.W.codeIn K cd16 "law" = true) (k16 : PySem.W.keepIn K (.ref f16) = true)
    (z_abs : PySem.W.nsIn K mainGlobals "abs" = some none)
    (z_all : PySem.W.nsIn K mainGlobals "all" = some none)
    (z_any : PySem.W.nsIn K mainGlobals "any" = some none)
    (z_bool : PySem.W.nsIn K mainGlobals "bool" = some none)
    (z_int : PySem.W.nsIn K mainGlobals "int" = some none)
    (z_isinstance : PySem.W.nsIn K mainGlobals "isinstance" = some none)
    (z_len : PySem.W.nsIn K mainGlobals "len" = some none)
    (z_list : PySem.W.nsIn K mainGlobals "list" = some none)
    (z_max : PySem.W.nsIn K mainGlobals "max" = some none)
    (z_min : PySem.W.nsIn K mainGlobals "min" = some none)
    (z_ord : PySem.W.nsIn K mainGlobals "ord" = some none)
    (z_range : PySem.W.nsIn K mainGlobals "range" = some none)
    (z_str : PySem.W.nsIn K mainGlobals "str" = some none)
    (z_sum : PySem.W.nsIn K mainGlobals "sum" = some none)
    (z_tuple : PySem.W.nsIn K mainGlobals "tuple" = some none)
    {t_BARRED : Tok} (y_BARRED : PySem.W.nsIn K mainGlobals "BARRED" = some (some (.int 37 t_BARRED)))
    {t_MOST_NUMBER : Tok} (y_MOST_NUMBER : PySem.W.nsIn K mainGlobals "MOST_NUMBER" = some (some (.int 999999 t_MOST_NUMBER)))
    {t_MOST_PARTS : Tok} (y_MOST_PARTS : PySem.W.nsIn K mainGlobals "MOST_PARTS" = some (some (.int 6 t_MOST_PARTS)))
    {t_MOST_SIGNS : Tok} (y_MOST_SIGNS : PySem.W.nsIn K mainGlobals "MOST_SIGNS" = some (some (.int 20 t_MOST_SIGNS)))
    {t_MOST_WITHIN : Tok} (y_MOST_WITHIN : PySem.W.nsIn K mainGlobals "MOST_WITHIN" = some (some (.int 3 t_MOST_WITHIN)))
    : ∃ fd : FuncData, (∀ (s : Shared) (v : Value), BindsTo s fd ⟨[v], []⟩ [("script", v)]) ∧ ∀ base : Heap, K.In base → base.Ns mainGlobals mg → FnOk P w K mg base (L2.CX P w) 14 fa fd ["script"] (spLaw K) := by
  have F0 := fun_mk (st := st_is_number) l0 c0 k0
  have b0 := F0.binds (ps := ["thing"]) fun _ _ _ _ _ _ us hl => match us, hl with | [_], _ => rfl
  have F1 := fun_mk (st := st_are_signs) l1 c1 k1
  have b1 := F1.binds (ps := ["text"]) fun _ _ _ _ _ _ us hl => match us, hl with | [_], _ => rfl
  have F2 := fun_mk (st := st_is_value) l2 c2 k2
  have b2 := F2.binds (ps := ["thing", "deep"]) fun _ _ _ _ _ _ us hl => match us, hl with | [_, _], _ => rfl
  have F3 := fun_mk (st := st_need_value) l3 c3 k3
  have b3 := F3.binds (ps := ["value"]) fun _ _ _ _ _ _ us hl => match us, hl with | [_], _ => rfl
  have F4 := fun_mk (st := st_weight) l4 c4 k4
  have b4 := F4.binds (ps := ["value"]) fun _ _ _ _ _ _ us hl => match us, hl with | [_], _ => rfl
  have F5 := fun_mk (st := st_number_moves) l5 c5 k5
  have b5 := F5.binds (ps := ["number"]) fun _ _ _ _ _ _ us hl => match us, hl with | [_], _ => rfl
  have F6 := fun_mk (st := st_all_moves) l6 c6 k6
  have b6 := F6.binds (ps := ["value"]) fun _ _ _ _ _ _ us hl => match us, hl with | [_], _ => rfl
  have F7 := fun_mk (st := st_moves) l7 c7 k7
  have b7 := F7.binds (ps := ["value"]) fun _ _ _ _ _ _ us hl => match us, hl with | [_], _ => rfl
  have F8 := fun_mk (st := st__law_cell) l8 c8 k8
  have b8 := F8.binds (ps := ["script", "k"]) fun _ _ _ _ _ _ us hl => match us, hl with | [_, _], _ => rfl
  have F9 := fun_mk (st := st__law_drawn) l9 c9 k9
  have b9 := F9.binds (ps := ["cell", "k"]) fun _ _ _ _ _ _ us hl => match us, hl with | [_, _], _ => rfl
  have F10 := fun_mk (st := st__law_signs) l10 c10 k10
  have b10 := F10.binds (ps := []) fun _ _ _ _ _ _ us hl => match us, hl with | [], _ => rfl
  have F11 := fun_mk (st := st__law_value) l11 c11 k11
  have b11 := F11.binds (ps := ["more", "deep"]) fun _ _ _ _ _ _ us hl => match us, hl with | [_, _], _ => rfl
  have F12 := fun_mk (st := st__law_weight) l12 c12 k12
  have b12 := F12.binds (ps := ["value"]) fun _ _ _ _ _ _ us hl => match us, hl with | [_], _ => rfl
  have F13 := fun_mk (st := st__law_nearer) l13 c13 k13
  have b13 := F13.binds (ps := ["number"]) fun _ _ _ _ _ _ us hl => match us, hl with | [_], _ => rfl
  have F14 := fun_mk (st := st__law_once) l14 c14 k14
  have b14 := F14.binds (ps := ["some"]) fun _ _ _ _ _ _ us hl => match us, hl with | [_], _ => rfl
  have F15 := fun_mk (st := st__law_moves) l15 c15 k15
  have b15 := F15.binds (ps := ["value"]) fun _ _ _ _ _ _ us hl => match us, hl with | [_], _ => rfl
  have F16 := fun_mk (st := st_law) l16 c16 k16
  have b16 := F16.binds (ps := ["script"]) fun _ _ _ _ _ _ us hl => match us, hl with | [_], _ => rfl
  have T : Top mg := ⟨PySem.W.mg_none_of X G z_abs, PySem.W.mg_none_of X G z_all, PySem.W.mg_none_of X G z_any, PySem.W.mg_none_of X G z_bool, PySem.W.mg_none_of X G z_int, PySem.W.mg_none_of X G z_isinstance, PySem.W.mg_none_of X G z_len, PySem.W.mg_none_of X G z_list, PySem.W.mg_none_of X G z_max, PySem.W.mg_none_of X G z_min, PySem.W.mg_none_of X G z_ord, PySem.W.mg_none_of X G z_range, PySem.W.mg_none_of X G z_str, PySem.W.mg_none_of X G z_sum, PySem.W.mg_none_of X G z_tuple, ⟨_, PySem.W.mg_of X G y_BARRED⟩, ⟨_, PySem.W.mg_of X G y_MOST_NUMBER⟩, ⟨_, PySem.W.mg_of X G y_MOST_PARTS⟩, ⟨_, PySem.W.mg_of X G y_MOST_SIGNS⟩, ⟨_, PySem.W.mg_of X G y_MOST_WITHIN⟩⟩
  have U : Funs K mg := ⟨⟨_, _, F0, PySem.W.mg_of X G a0, b0⟩, ⟨_, _, F1, PySem.W.mg_of X G a1, b1⟩, ⟨_, _, F2, PySem.W.mg_of X G a2, b2⟩, ⟨_, _, F3, PySem.W.mg_of X G a3, b3⟩, ⟨_, _, F4, PySem.W.mg_of X G a4, b4⟩, ⟨_, _, F5, PySem.W.mg_of X G a5, b5⟩, ⟨_, _, F6, PySem.W.mg_of X G a6, b6⟩, ⟨_, _, F7, PySem.W.mg_of X G a7, b7⟩, ⟨_, _, F8, PySem.W.mg_of X G a8, b8⟩, ⟨_, _, F9, PySem.W.mg_of X G a9, b9⟩, ⟨_, _, F10, PySem.W.mg_of X G a10, b10⟩, ⟨_, _, F11, PySem.W.mg_of X G a11, b11⟩, ⟨_, _, F12, PySem.W.mg_of X G a12, b12⟩, ⟨_, _, F13, PySem.W.mg_of X G a13, b13⟩, ⟨_, _, F14, PySem.W.mg_of X G a14, b14⟩, ⟨_, _, F15, PySem.W.mg_of X G a15, b15⟩, ⟨_, _, F16, PySem.W.mg_of X G a16, b16⟩⟩
  have e := hfa.symm.trans (PySem.W.mg_of X G a16)
  cases e
  exact ⟨PySem.W.fnOf "law" "law" (defArgs st_law) (defBody st_law) (defScope st_law) .none kV16 dc16 pm16 an16 cd16 ct16, fun s v => .of_eq rfl, fun base _ _ => (ok_law T U F16).imp fun vs H Q E z => spLaw_imp hpure z⟩
end Tw

set_option Elab.async false
set_option linter.all false
set_option maxRecDepth 100000
open PySem PySem.W PyProof.Rows
set_option maxHeartbeats 0 in
theorem PySem.Challenge.cw_trywright_k11_whole_moves_holds : PySem.Challenge.rw_trywright_k11_whole_moves.Holds := by
  w_on; o_law; k_head; (case hw => w_witness2)
  k_fill
  refine L2.walk_ofB (l := PySem.Challenge.rw_trywright_k11_whole_moves) (n := 63) (k := 14) (x := "script") (CX := fun w => L2.CX PySem.Challenge.rw_trywright_k11_whole_moves.prog w) (sp := fun w => Pv.spLaw _) rfl (by decide) rfl ⟨rfl, by decide, by decide⟩ (fun w h Y => PySem.W.kIn_of Y) ?F (fun _ _ a ns hl hb _ hS => ⟨a, ns, rfl, hS, hl, hb, fun _ => rfl⟩) (fun _ _ _ _ _ h => Pv.cx_false h)
  case F =>
    intro w mg fa h KX G hmg
    refine' Tw.all_mk Tw.pure KX G hmg ?a0 ?l0 ?c0 ?k0 ?a1 ?l1 ?c1 ?k1 ?a2 ?l2 ?c2 ?k2 ?a3 ?l3 ?c3 ?k3 ?a4 ?l4 ?c4 ?k4 ?a5 ?l5 ?c5 ?k5 ?a6 ?l6 ?c6 ?k6 ?a7 ?l7 ?c7 ?k7 ?a8 ?l8 ?c8 ?k8 ?a9 ?l9 ?c9 ?k9 ?a10 ?l10 ?c10 ?k10 ?a11 ?l11 ?c11 ?k11 ?a12 ?l12 ?c12 ?k12 ?a13 ?l13 ?c13 ?k13 ?a14 ?l14 ?c14 ?k14 ?a15 ?l15 ?c15 ?k15 ?a16 ?l16 ?c16 ?k16 ?z_abs ?z_all ?z_any ?z_bool ?z_int ?z_isinstance ?z_len ?z_list ?z_max ?z_min ?z_ord ?z_range ?z_str ?z_sum ?z_tuple ?y_BARRED ?y_MOST_NUMBER ?y_MOST_PARTS ?y_MOST_SIGNS ?y_MOST_WITHIN
    (case a0 => k_is)
    (case l0 => k_is)
    (case c0 => k_is)
    (case k0 => k_is)
    (case a1 => k_is)
    (case l1 => k_is)
    (case c1 => k_is)
    (case k1 => k_is)
    (case a2 => k_is)
    (case l2 => k_is)
    (case c2 => k_is)
    (case k2 => k_is)
    (case a3 => k_is)
    (case l3 => k_is)
    (case c3 => k_is)
    (case k3 => k_is)
    (case a4 => k_is)
    (case l4 => k_is)
    (case c4 => k_is)
    (case k4 => k_is)
    (case a5 => k_is)
    (case l5 => k_is)
    (case c5 => k_is)
    (case k5 => k_is)
    (case a6 => k_is)
    (case l6 => k_is)
    (case c6 => k_is)
    (case k6 => k_is)
    (case a7 => k_is)
    (case l7 => k_is)
    (case c7 => k_is)
    (case k7 => k_is)
    (case a8 => k_is)
    (case l8 => k_is)
    (case c8 => k_is)
    (case k8 => k_is)
    (case a9 => k_is)
    (case l9 => k_is)
    (case c9 => k_is)
    (case k9 => k_is)
    (case a10 => k_is)
    (case l10 => k_is)
    (case c10 => k_is)
    (case k10 => k_is)
    (case a11 => k_is)
    (case l11 => k_is)
    (case c11 => k_is)
    (case k11 => k_is)
    (case a12 => k_is)
    (case l12 => k_is)
    (case c12 => k_is)
    (case k12 => k_is)
    (case a13 => k_is)
    (case l13 => k_is)
    (case c13 => k_is)
    (case k13 => k_is)
    (case a14 => k_is)
    (case l14 => k_is)
    (case c14 => k_is)
    (case k14 => k_is)
    (case a15 => k_is)
    (case l15 => k_is)
    (case c15 => k_is)
    (case k15 => k_is)
    (case a16 => k_is)
    (case l16 => k_is)
    (case c16 => k_is)
    (case k16 => k_is)
    (case z_abs => k_is)
    (case z_all => k_is)
    (case z_any => k_is)
    (case z_bool => k_is)
    (case z_int => k_is)
    (case z_isinstance => k_is)
    (case z_len => k_is)
    (case z_list => k_is)
    (case z_max => k_is)
    (case z_min => k_is)
    (case z_ord => k_is)
    (case z_range => k_is)
    (case z_str => k_is)
    (case z_sum => k_is)
    (case z_tuple => k_is)
    (case y_BARRED => k_is)
    (case y_MOST_NUMBER => k_is)
    (case y_MOST_PARTS => k_is)
    (case y_MOST_SIGNS => k_is)
    (case y_MOST_WITHIN => k_is)
