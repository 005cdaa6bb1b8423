import PyProof.Rows.All
import Wide.All
import OpenK.AllK
import Wide.FinOn
import HandS.ForMost
import HandS.ForExc
import HandS.IsInst
import HandS.Wide
import HandS.Flow
import HandS.Deep
import HandS.EndBits
import HandS.EndTab
import HandS.HotCalls
import HandS.TupAny
import HandS.Defaults
import HandS.Codes
import HandS.HeadHook4
import HandS.ExcIs
import HandS.ExcField
import KE.KExcIs
import HandS.TupMul
import HandS.Dict
import HandS.HeadWalk
import KE.KStateDown
import HandS.Head0
import HandS.Head1
import HandS.Head2
import HandS.HeadEnd
import PySem.Challenge.RW_trywright_k10_values_and_differences
set_option Elab.async false
set_option linter.all false
set_option maxRecDepth 100000
set_option maxHeartbeats 2000000
/-! Pv: plain values over HandS. A Python value as a tree (PV); a frozen heap F within H; a frame's slots as plain values or lists of its own. -/
namespace Pv
open PySem PySem.Spec PyProof.Rows L2

inductive PV where
  | non
  | bl (b : Bool)
  | int (i : Int)
  | str (x : Str)
  | tup (xs : List PV)
  | lst (xs : List PV)
  | scr (ns : List Int)
  | dct (ks : List Key) (vs : List PV)
  deriving Inhabited

mutual
def Rep (K : PySem.W.Frag) (F : Hp) : PV → V → Prop
  | .non, v => v = .non
  | .bl b, v => v = .bl b
  | .int i, v => v = .int i
  | .str x, v => v = .str x
  | .tup ds, v => ∃ a xs, v = .ref a ∧ SqT K F a xs ∧ RepL K F ds xs
  | .lst ds, v => ∃ a xs, v = .ref a ∧ F a = some (.lst xs) ∧ RepL K F ds xs
  | .scr ns, v => ∃ a, v = .ref a ∧ SqL K F a (ns.map V.int)
  | .dct ks vs, v => ∃ a ws, v = .ref a ∧ F a = some (.dK (ks.zip ws)) ∧ ks.length = vs.length ∧ RepL K F vs ws
def RepL (K : PySem.W.Frag) (F : Hp) : List PV → List V → Prop
  | [], xs => xs = []
  | d :: ds, xs => ∃ x r, xs = x :: r ∧ Rep K F d x ∧ RepL K F ds r
end

theorem sqT_mono {K : PySem.W.Frag} {H H' : Hp} {a : Addr} {xs : List V} (e : Same H H') (h : SqT K H a xs) : SqT K H' a xs := by
  rcases h with (h | ⟨o, h⟩) | h
  · exact .inl (.inl (e _ _ h))
  · exact .inl (.inr ⟨o, e _ _ h⟩)
  · exact .inr h
section
variable {K : PySem.W.Frag} {F F' : Hp}
mutual
theorem Rep.mono (s : Same F F') : ∀ (d : PV) (v : V), Rep K F d v → Rep K F' d v
  | .non, _, h => h
  | .bl _, _, h => h
  | .int _, _, h => h
  | .str _, _, h => h
  | .tup ds, v, h => by
    simp only [Rep] at h ⊢
    obtain ⟨a, xs, e, q, r⟩ := h
    exact ⟨a, xs, e, sqT_mono s q, RepL.mono s ds xs r⟩
  | .lst ds, v, h => by
    simp only [Rep] at h ⊢
    obtain ⟨a, xs, e, q, r⟩ := h
    exact ⟨a, xs, e, s _ _ q, RepL.mono s ds xs r⟩
  | .scr ns, v, h => by
    simp only [Rep] at h ⊢
    obtain ⟨a, e, q⟩ := h
    exact ⟨a, e, s.seq q⟩
  | .dct ks vs, v, h => by
    simp only [Rep] at h ⊢
    obtain ⟨a, ws, e, q, l, r⟩ := h
    exact ⟨a, ws, e, s _ _ q, l, RepL.mono s vs ws r⟩
theorem RepL.mono (s : Same F F') : ∀ (ds : List PV) (vs : List V), RepL K F ds vs → RepL K F' ds vs
  | [], _, h => h
  | d :: ds, vs, h => by
    simp only [RepL] at h ⊢
    obtain ⟨x, r, e, h1, h2⟩ := h
    exact ⟨x, r, e, Rep.mono s d x h1, RepL.mono s ds r h2⟩
end
theorem RepL.len : ∀ {ds : List PV} {vs : List V}, RepL K F ds vs → vs.length = ds.length
  | [], vs, h => by simp only [RepL] at h; subst h; rfl
  | d :: ds, vs, h => by
    simp only [RepL] at h
    obtain ⟨x, r, e, h1, h2⟩ := h
    subst e
    simp only [List.length_cons, RepL.len h2]
theorem RepL.app : ∀ {ds es : List PV} {vs ws : List V}, RepL K F ds vs → RepL K F es ws → RepL K F (ds ++ es) (vs ++ ws)
  | [], es, vs, ws, h, g => by simp only [RepL] at h; subst h; exact g
  | d :: ds, es, vs, ws, h, g => by
    simp only [RepL, List.cons_append] at h ⊢
    obtain ⟨x, r, e, h1, h2⟩ := h
    subst e
    exact ⟨x, r ++ ws, rfl, h1, RepL.app h2 g⟩
theorem RepL.one {d : PV} {v : V} (h : Rep K F d v) : RepL K F [d] [v] := by
  simp only [RepL]
  exact ⟨v, [], rfl, h, rfl⟩
theorem RepL.nil : RepL K F [] [] := by simp only [RepL]
theorem RepL.cons {d : PV} {ds : List PV} {v : V} {vs : List V} (h : Rep K F d v) (t : RepL K F ds vs) : RepL K F (d :: ds) (v :: vs) := by
  simp only [RepL]
  exact ⟨v, vs, rfl, h, t⟩
theorem RepL.get : ∀ {ds : List PV} {vs : List V}, RepL K F ds vs → ∀ {i : Nat} {x : V}, vs[i]? = some x → ∃ d, ds[i]? = some d ∧ Rep K F d x
  | [], vs, h, i, x, e => by simp only [RepL] at h; subst h; simp at e
  | d :: ds, vs, h, i, x, e => by
    simp only [RepL] at h
    obtain ⟨y, r, e1, h1, h2⟩ := h
    subst e1
    cases i with
    | zero => simp at e; subst e; exact ⟨d, rfl, h1⟩
    | succ i => simp at e; simpa using RepL.get h2 e
theorem RepL.get' {ds : List PV} {vs : List V} (h : RepL K F ds vs) {i : Nat} {d : PV} (e : ds[i]? = some d) : ∃ x, vs[i]? = some x ∧ Rep K F d x := by
  have hl := h.len
  have hi : i < vs.length := by
    have := (List.getElem?_eq_some_iff.mp e).1
    omega
  obtain ⟨d', e', r⟩ := h.get (List.getElem?_eq_getElem hi)
  rw [e] at e'
  cases e'
  exact ⟨_, List.getElem?_eq_getElem hi, r⟩
theorem RepL.take : ∀ {ds : List PV} {vs : List V} (n : Nat), RepL K F ds vs → RepL K F (ds.take n) (vs.take n)
  | _, _, 0, _ => by simp only [List.take_zero]; exact .nil
  | [], vs, n + 1, h => by simp only [RepL] at h; subst h; exact .nil
  | d :: ds, vs, n + 1, h => by
    simp only [RepL] at h
    obtain ⟨y, r, e1, h1, h2⟩ := h
    subst e1
    simp only [List.take_succ_cons]
    exact .cons h1 (RepL.take n h2)
theorem RepL.drop : ∀ {ds : List PV} {vs : List V} (n : Nat), RepL K F ds vs → RepL K F (ds.drop n) (vs.drop n)
  | _, _, 0, h => h
  | [], vs, n + 1, h => by simp only [RepL] at h; subst h; exact .nil
  | d :: ds, vs, n + 1, h => by
    simp only [RepL] at h
    obtain ⟨y, r, e1, h1, h2⟩ := h
    subst e1
    simp only [List.drop_succ_cons]
    exact RepL.drop n h2
end

/-! ### the frozen part and the rest: a step of evaluation -/
/-- the tables of code objects that grow: each with the name that its lambdas bear -/
class TabCx where
  T : List (Addr × Str)
variable [TabCx]
def NoTab (o : HO) : Prop := ∀ ps, o ≠ .tbl ps
/-- F is frozen within H; the tables stand -/
structure Fz (F H : Hp) : Prop where
  same : Same F H
  tabs : LamX.Tabs TabCx.T H
  noT : ∀ a o, F a = some o → NoTab o
theorem Fz.free {F H : Hp} (s : Fz F H) {a : Addr} (h : H a = none) : F a = none := s.same.free h
theorem Fz.up {F H : Hp} (s : Fz F H) {a : Addr} {o : HO} (h : F a = some o) : H a = some o := s.same a o h
structure Step (F H F' H' : Hp) : Prop where
  s0 : Fz F H
  s1 : Same F F'
  s2 : Fz F' H'
  keep : ∀ a o, H a = some o → F a = none → NoTab o → H' a = some o ∧ F' a = none
theorem Step.refl {F H : Hp} (s : Fz F H) : Step F H F H := ⟨s, Same.refl _, s, fun _ _ h1 h2 _ => ⟨h1, h2⟩⟩
theorem Step.trans {F H F1 H1 F2 H2 : Hp} (a : Step F H F1 H1) (b : Step F1 H1 F2 H2) : Step F H F2 H2 :=
  ⟨a.s0, a.s1.trans b.s1, b.s2, fun x o h n t => let ⟨h1, n1⟩ := a.keep x o h n t; b.keep x o h1 n1 t⟩
theorem Step.old {F H F' H' : Hp} (st : Step F H F' H') {a : Addr} {o : HO} (h : H a = some o) (t : NoTab o := by intro _ z; cases z) : H' a = some o := by
  cases e : F a with
  | none => exact (st.keep a o h e t).1
  | some u =>
    have h2 := st.s0.up e
    rw [h] at h2
    cases h2
    exact st.s2.up (st.s1 a o e)
/-- nothing but, perhaps, a table stands there -/
def Fresh (H : Hp) (a : Addr) : Prop := ∀ o, H a = some o → ¬ NoTab o
theorem Fresh.of {H : Hp} {a : Addr} (h : H a = none) : Fresh H a := fun o e => by rw [h] at e; cases e
theorem Fresh.ne {H : Hp} {a p : Addr} {u : HO} (f : Fresh H p) (e : H a = some u) (t : NoTab u) : a ≠ p := fun z => by subst z; exact f u e t
theorem Step.back {F H F' H' : Hp} (st : Step F H F' H') {a : Addr} (h : Fresh H' a) : Fresh H a := fun o e t => h o (st.old e t) t
theorem tabs_new {H : Hp} {p : Addr} {o : HO} (t : LamX.Tabs TabCx.T H) (hp : H p = none) : LamX.Tabs TabCx.T (upd H p o) := t.ext fun b u h => by rw [upd_ne (ne_of_none h hp)]; exact h
/-- a new object, not frozen -/
theorem Step.new {F H : Hp} {p : Addr} {o : HO} (s : Fz F H) (hp : H p = none) : Step F H F (upd H p o) :=
  ⟨s, Same.refl _, ⟨fun a u e => by rw [upd_ne (ne_of_none (s.up e) hp)]; exact s.up e, tabs_new s.tabs hp, s.noT⟩, fun a u h n _ => ⟨by rw [upd_ne (ne_of_none h hp)]; exact h, n⟩⟩
/-- a new object, frozen at once -/
theorem Step.frz {F H : Hp} {p : Addr} {o : HO} (s : Fz F H) (hp : H p = none) (t : NoTab o := by intro _ z; cases z) : Step F H (upd F p o) (upd H p o) :=
  ⟨s, fun a u e => by rw [upd_ne (ne_of_none (s.up e) hp)]; exact e,
   ⟨fun a u e => by
    by_cases q : a = p
    · subst q; rw [upd_same] at e ⊢; exact e
    · rw [upd_ne q] at e ⊢; exact s.up e, tabs_new s.tabs hp, fun a u e => by
    by_cases q : a = p
    · subst q; rw [upd_same] at e; cases e; exact t
    · rw [upd_ne q] at e; exact s.noT a u e⟩,
   fun a u h n _ => by
    have q : a ≠ p := ne_of_none h hp
    exact ⟨by rw [upd_ne q]; exact h, by rw [upd_ne q]; exact n⟩⟩
/-- what is new is frozen later -/
theorem Step.freeze {F H F' H' : Hp} (st : Step F H F' H') {p : Addr} {o : HO} (hp : Fresh H p) (h' : H' p = some o) (hn : F' p = none) (t : NoTab o := by intro _ z; cases z) : Step F H (upd F' p o) H' :=
  ⟨st.s0, fun a u e => by
    have q : a ≠ p := hp.ne (st.s0.up e) (st.s0.noT a u e)
    rw [upd_ne q]; exact st.s1 a u e,
   ⟨fun a u e => by
    by_cases q : a = p
    · subst q; rw [upd_same] at e; cases e; exact h'
    · rw [upd_ne q] at e; exact st.s2.up e, st.s2.tabs, fun a u e => by
    by_cases q : a = p
    · subst q; rw [upd_same] at e; cases e; exact t
    · rw [upd_ne q] at e; exact st.s2.noT a u e⟩,
   fun a u h n t => by
    have q : a ≠ p := hp.ne h t
    obtain ⟨h1, h2⟩ := st.keep a u h n t
    exact ⟨h1, by rw [upd_ne q]; exact h2⟩⟩
theorem same_frz {F : Hp} {p : Addr} {o : HO} (hn : F p = none) : Same F (upd F p o) := fun a u e => by
  rw [upd_ne (ne_of_none e hn)]; exact e
/-- a list is written: the tables stay -/
theorem tabs_lst {H : Hp} {a : Addr} {xs : List V} {o : HO} (t : LamX.Tabs TabCx.T H) (h : H a = some (.lst xs)) : LamX.Tabs TabCx.T (upd H a o) := fun p hp => by
  obtain ⟨ps, h1, h2, h3⟩ := t p hp
  have n : ∀ b u, H b = some u → u ≠ .lst xs → b ≠ a := fun b u e z y => by rw [y, h] at e; exact z (Option.some.inj e).symm
  refine ⟨ps, by rw [upd_ne (n _ _ h1 fun z => by cases z)]; exact h1, h2, fun pos cv hc => ?_⟩
  obtain ⟨c, e1, e2⟩ := h3 pos cv hc
  exact ⟨c, e1, by rw [upd_ne (n _ _ e2 fun z => by unfold LamX.CodeO at z; cases z)]; exact e2⟩

/-! ### outcomes -/
inductive Ex where
  | cls (n : Str)
  | trb (word what : PV)
inductive R (α : Type) where
  | ok (a : α)
  | ex (e : Ex)
  | bad
def R.bind {α β : Type} : R α → (α → R β) → R β
  | .ok a, k => k a
  | .ex e, _ => .ex e
  | .bad, _ => .bad
@[simp] theorem R.bind_ok {α β : Type} (a : α) (k : α → R β) : (R.ok a).bind k = k a := rfl
@[simp] theorem R.bind_ex {α β : Type} (e : Ex) (k : α → R β) : (R.ex e : R α).bind k = .ex e := rfl
@[simp] theorem R.bind_bad {α β : Type} (k : α → R β) : (R.bad : R α).bind k = .bad := rfl
def RP {α : Type} (r : R α) (A : α → Prop) (B : Ex → Prop) : Prop := match r with
  | .ok a => A a
  | .ex e => B e
  | .bad => False

/-! ### frames -/
inductive Slot where
  | un
  | pv (d : PV)
  | own (l : List PV)
  | exn (a : Addr) (d : Option Addr) (e : Ex)
abbrev Fm := List Slot
def SlotOk (K : PySem.W.Frag) (F H : Hp) (v : Option (Option V)) : Slot → Prop
  | .un => True
  | .pv d => ∃ x, v = some (some x) ∧ Rep K F d x
  | .own l => ∃ a xs, v = some (some (.ref a)) ∧ H a = some (.lst xs) ∧ F a = none ∧ RepL K F l xs
  | .exn a dd e => v = some (some (.ref a)) ∧ (∀ d, dd = some d → ∃ fs, F d = some (.xd fs)) ∧ ∀ w1 w2, e = .trb w1 w2 → ∃ d x y, dd = some d ∧ F d = some (.xd [("what", y), ("word", x)]) ∧ Rep K F w1 x ∧ Rep K F w2 y
def isOwn : Slot → Bool
  | .own _ => true
  | _ => false
structure FmOk (K : PySem.W.Frag) (F H : Hp) (σ : L2.St) (env : Fm) : Prop where
  s0 : Fz F H
  len : env.length = σ.length
  at' : ∀ (i : Nat) (s : Slot), env[i]? = some s → SlotOk K F H σ[i]? s
  one : ∀ (i j : Nat) (s t : Slot) (a : Addr), env[i]? = some s → env[j]? = some t → isOwn s = true → isOwn t = true → σ[i]? = some (some (.ref a)) → σ[j]? = some (some (.ref a)) → i = j
theorem FmOk.step {K : PySem.W.Frag} {F H F' H' : Hp} {σ : L2.St} {env : Fm} (h : FmOk K F H σ env) (st : Step F H F' H') : FmOk K F' H' σ env := by
  refine ⟨st.s2, h.len, fun i s e => ?_, h.one⟩
  have q := h.at' i s e
  cases s with
  | un => trivial
  | pv d => obtain ⟨x, e1, r⟩ := q; exact ⟨x, e1, r.mono st.s1⟩
  | own l =>
    obtain ⟨a, xs, e1, h1, n1, r⟩ := q
    obtain ⟨h2, n2⟩ := st.keep a _ h1 n1 (fun _ z => by cases z)
    exact ⟨a, xs, e1, h2, n2, r.mono st.s1⟩
  | exn a dd e =>
    obtain ⟨e1, q0, q⟩ := q
    refine ⟨e1, fun d z => let ⟨fs, h⟩ := q0 d z; ⟨fs, st.s1 _ _ h⟩, fun w1 w2 z => ?_⟩
    obtain ⟨d, x, y, h1, h2, h3, h4⟩ := q w1 w2 z
    exact ⟨d, x, y, h1, st.s1 _ _ h2, h3.mono st.s1, h4.mono st.s1⟩

/-! ### readings -/
/-- a value that is read: a list may be the frame's own -/
def RD (K : PySem.W.Frag) (F H : Hp) : PV → V → Prop
  | .lst l, v => ∃ a xs, v = .ref a ∧ H a = some (.lst xs) ∧ RepL K F l xs
  | d, v => Rep K F d v
theorem RD.of {K : PySem.W.Frag} {F H : Hp} (s : Fz F H) : ∀ {d : PV} {v : V}, Rep K F d v → RD K F H d v
  | .non, _, h => h
  | .bl _, _, h => h
  | .int _, _, h => h
  | .str _, _, h => h
  | .tup _, _, h => h
  | .scr _, _, h => h
  | .dct _ _, _, h => h
  | .lst l, v, h => by
    simp only [Rep] at h
    obtain ⟨a, xs, e, h1, r⟩ := h
    exact ⟨a, xs, e, s.up h1, r⟩
theorem RD.step {K : PySem.W.Frag} {F H F' H' : Hp} (st : Step F H F' H') : ∀ {d : PV} {v : V}, RD K F H d v → RD K F' H' d v
  | .non, _, h => h
  | .bl _, _, h => h
  | .int _, _, h => h
  | .str _, _, h => h
  | .tup _, _, h => Rep.mono st.s1 _ _ h
  | .scr _, _, h => Rep.mono st.s1 _ _ h
  | .dct _ _, _, h => Rep.mono st.s1 _ _ h
  | .lst l, v, h => by
    obtain ⟨a, xs, e, h1, r⟩ := h
    exact ⟨a, xs, e, st.old h1, r.mono st.s1⟩
def RDL (K : PySem.W.Frag) (F H : Hp) : List PV → List V → Prop
  | [], xs => xs = []
  | d :: ds, xs => ∃ x r, xs = x :: r ∧ RD K F H d x ∧ RDL K F H ds r
theorem RDL.step {K : PySem.W.Frag} {F H F' H' : Hp} (st : Step F H F' H') : ∀ {ds : List PV} {vs : List V}, RDL K F H ds vs → RDL K F' H' ds vs
  | [], _, h => h
  | d :: ds, vs, h => by
    obtain ⟨x, r, e, h1, h2⟩ := h
    exact ⟨x, r, e, h1.step st, h2.step st⟩
theorem RDL.of {K : PySem.W.Frag} {F H : Hp} (s : Fz F H) : ∀ {ds : List PV} {vs : List V}, RepL K F ds vs → RDL K F H ds vs
  | [], _, h => by simp only [RepL] at h; exact h
  | d :: ds, vs, h => by
    simp only [RepL] at h
    obtain ⟨x, r, e, h1, h2⟩ := h
    exact ⟨x, r, e, RD.of s h1, RDL.of s h2⟩

/-- what an exception is -/
def RepX (K : PySem.W.Frag) (mg : Str → Option Value) (F : Hp) : Ex → Value → Option Addr → Prop
  | .cls n, c, d => ∃ C, mg n = some (.ref C) ∧ c = .ref C ∧ d = none
  | .trb a b, c, d => ∃ C dd x y, mg "Trouble" = some (.ref C) ∧ c = .ref C ∧ d = some dd ∧ F dd = some (.xd [("what", y), ("word", x)]) ∧ Rep K F a x ∧ Rep K F b y
/-- the three wishes: a value (frozen), a new list of one's own, a thing that is read -/
def GV (K : PySem.W.Frag) (F H : Hp) (Q : VK) (d : PV) : Prop := ∀ x F' H', Step F H F' H' → Rep K F' d x → Q x H'
def GF (K : PySem.W.Frag) (F H : Hp) (Q : VK) (l : List PV) : Prop := ∀ a xs F' H', Step F H F' H' → Fresh H a → F' a = none → H' a = some (.lst xs) → RepL K F' l xs → Q (.ref a) H'
def GR (K : PySem.W.Frag) (F H : Hp) (Q : VK) (d : PV) : Prop := ∀ x F' H', Step F H F' H' → RD K F' H' d x → Q x H'
def GX (K : PySem.W.Frag) (mg : Str → Option Value) (F H : Hp) (σ : L2.St) (W : WX) (e : Ex) : Prop := ∀ cls dd F' H', Step F H F' H' → RepX K mg F' e cls dd → W cls dd σ H'
def tG {α : Type} (K : PySem.W.Frag) (mg : Str → Option Value) (W : WX) (G : Hp → Hp → VK → α → Prop) (d : Fm → R α) : TE := fun σ H Q =>
  ∃ F env, FmOk K F H σ env ∧ RP (d env) (G F H Q) (GX K mg F H σ W)
abbrev tV (K : PySem.W.Frag) (mg : Str → Option Value) (W : WX) (d : Fm → R PV) : TE := tG K mg W (GV K) d
abbrev tF (K : PySem.W.Frag) (mg : Str → Option Value) (W : WX) (d : Fm → R (List PV)) : TE := tG K mg W (GF K) d
abbrev tR (K : PySem.W.Frag) (mg : Str → Option Value) (W : WX) (d : Fm → R PV) : TE := tG K mg W (GR K) d
/-- argument lists: values; things read -/
def GVL (K : PySem.W.Frag) (F H : Hp) (Q : List V → Hp → Prop) (ds : List PV) : Prop := ∀ xs F' H', Step F H F' H' → RepL K F' ds xs → Q xs H'
def GRL (K : PySem.W.Frag) (F H : Hp) (Q : List V → Hp → Prop) (ds : List PV) : Prop := ∀ xs F' H', Step F H F' H' → RDL K F' H' ds xs → Q xs H'
def tAG (K : PySem.W.Frag) (mg : Str → Option Value) (W : WX) (G : Hp → Hp → (List V → Hp → Prop) → List PV → Prop) (d : Fm → R (List PV)) : TA := fun σ H Q =>
  ∃ F env, FmOk K F H σ env ∧ RP (d env) (G F H Q) (GX K mg F H σ W)
/-- tests -/
def GT (F H : Hp) (Q : Bool → Hp → Prop) (b : Bool) : Prop := ∀ F' H', Step F H F' H' → Q b H'
def tT (K : PySem.W.Frag) (mg : Str → Option Value) (W : WX) (d : Fm → R Bool) : TT := fun σ H Q =>
  ∃ F env, FmOk K F H σ env ∧ RP (d env) (GT F H Q) (GX K mg F H σ W)

/-! wishes stay along a step -/
section
variable {K : PySem.W.Frag} {mg : Str → Option Value} {F H F' H' : Hp}
theorem GV.step {Q : VK} {d : PV} (g : GV K F H Q d) (st : Step F H F' H') : GV K F' H' Q d := fun x F2 H2 s2 r => g x F2 H2 (st.trans s2) r
theorem GF.step {Q : VK} {d : List PV} (g : GF K F H Q d) (st : Step F H F' H') : GF K F' H' Q d := fun x xs F2 H2 s2 n r => g x xs F2 H2 (st.trans s2) (st.back n) r
theorem GR.step {Q : VK} {d : PV} (g : GR K F H Q d) (st : Step F H F' H') : GR K F' H' Q d := fun x F2 H2 s2 r => g x F2 H2 (st.trans s2) r
theorem GX.step {σ : L2.St} {W : WX} {e : Ex} (g : GX K mg F H σ W e) (st : Step F H F' H') : GX K mg F' H' σ W e := fun c d F2 H2 s2 r => g c d F2 H2 (st.trans s2) r
theorem GT.step {Q : Bool → Hp → Prop} {b : Bool} (g : GT F H Q b) (st : Step F H F' H') : GT F' H' Q b := fun F2 H2 s2 => g F2 H2 (st.trans s2)
theorem GVL.step {Q : List V → Hp → Prop} {d : List PV} (g : GVL K F H Q d) (st : Step F H F' H') : GVL K F' H' Q d := fun x F2 H2 s2 r => g x F2 H2 (st.trans s2) r
theorem GRL.step {Q : List V → Hp → Prop} {d : List PV} (g : GRL K F H Q d) (st : Step F H F' H') : GRL K F' H' Q d := fun x F2 H2 s2 r => g x F2 H2 (st.trans s2) r
/-- a wish that stays -/
structure Stays {α β : Type} (G : Hp → Hp → β → α → Prop) : Prop where
  up : ∀ (F H F' H' : Hp) (Q : β) (d : α), G F H Q d → Step F H F' H' → G F' H' Q d
theorem stGV : Stays (GV K) := ⟨fun _ _ _ _ _ _ g s => GV.step g s⟩
theorem stGF : Stays (GF K) := ⟨fun _ _ _ _ _ _ g s => GF.step g s⟩
theorem stGR : Stays (GR K) := ⟨fun _ _ _ _ _ _ g s => GR.step g s⟩
theorem stGT : Stays GT := ⟨fun _ _ _ _ _ _ g s => GT.step g s⟩
theorem stGVL : Stays (GVL K) := ⟨fun _ _ _ _ _ _ g s => GVL.step g s⟩
theorem stGRL : Stays (GRL K) := ⟨fun _ _ _ _ _ _ g s => GRL.step g s⟩
end

/-! ### judgements by another reading -/
section
variable {X : Cx}
theorem PE.imp {e : Expr} {t t' : TE} (h : PE X e t) (i : ∀ σ H Q, t' σ H Q → t σ H Q) : PE X e t' := ⟨fun pins s σ H Q I q => h.run pins s σ H Q I (i σ H Q q)⟩
theorem PT.imp {e : Expr} {t t' : TT} (h : PT X e t) (i : ∀ σ H Q, t' σ H Q → t σ H Q) : PT X e t' := ⟨fun pins s σ H Q I q => h.run pins s σ H Q I (i σ H Q q)⟩
theorem PA.imp {e : List Expr} {t t' : TA} (h : PA X e t) (i : ∀ σ H Q, t' σ H Q → t σ H Q) : PA X e t' := ⟨fun pos pins s σ H Q I q => h.run pos pins s σ H Q I (i σ H Q q)⟩
theorem PS.imp {e : Stmt} {t t' : TS} (h : PS X e t) (i : ∀ D σ H, t' D σ H → t D σ H) : PS X e t' := ⟨fun pins s σ H D I q => h.run pins s σ H D I (i D σ H q)⟩
theorem PSs.imp {e : List Stmt} {t t' : TS} (h : PSs X e t) (i : ∀ D σ H, t' D σ H → t D σ H) : PSs X e t' := ⟨fun pins s σ H D I q => h.run pins s σ H D I (i D σ H q)⟩
end
end Pv

set_option Elab.async false
set_option linter.all false
set_option maxRecDepth 100000
set_option maxHeartbeats 2000000
/-! PvB: rules for expressions over plain values. -/
namespace Pv
open PySem PySem.Spec PyProof.Rows L2
variable [TabCx]

def ofO {α : Type} : Option α → R α
  | some a => .ok a
  | none => .bad
@[simp] theorem ofO_some {α : Type} (a : α) : ofO (some a) = .ok a := rfl
@[simp] theorem ofO_none {α : Type} : (ofO none : R α) = .bad := rfl
/-! ### what is reckoned -/
def dV (i : Nat) : Fm → R PV := fun env => match env[i]? with
  | some (.pv d) => .ok d
  | _ => .bad
def dR (i : Nat) : Fm → R PV := fun env => match env[i]? with
  | some (.pv d) => .ok d
  | some (.own l) => .ok (.lst l)
  | _ => .bad
def dC (d : PV) : Fm → R PV := fun _ => .ok d
def d1 {α : Type} (f : PV → Option α) (da : Fm → R PV) : Fm → R α := fun env => (da env).bind fun x => ofO (f x)
def d2 {α : Type} (f : PV → PV → Option α) (da db : Fm → R PV) : Fm → R α := fun env => (da env).bind fun x => (db env).bind fun y => ofO (f x y)
def d3 {α : Type} (f : PV → PV → PV → Option α) (da db dc : Fm → R PV) : Fm → R α := fun env => (da env).bind fun x => (db env).bind fun y => (dc env).bind fun z => ofO (f x y z)
def dNil : Fm → R (List PV) := fun _ => .ok []
def dCons (da : Fm → R PV) (dr : Fm → R (List PV)) : Fm → R (List PV) := fun env => (da env).bind fun x => (dr env).bind fun xs => .ok (x :: xs)
def dL (d : Fm → R (List PV)) : Fm → R PV := fun env => (d env).bind fun l => .ok (.lst l)
def dTup (d : Fm → R (List PV)) : Fm → R PV := fun env => (d env).bind fun l => if l.length ≤ sizeLine then .ok (.tup l) else .bad
def dLst (d : Fm → R (List PV)) : Fm → R (List PV) := fun env => (d env).bind fun l => if l.length ≤ sizeLine then .ok l else .bad
def dCall {α : Type} (f : List PV → R α) (d : Fm → R (List PV)) : Fm → R α := fun env => (d env).bind f
def dB (d : Fm → R PV) : Fm → R Bool := fun env => (d env).bind fun v => match v with
  | .bl b => .ok b
  | _ => .bad
def dBv (d : Fm → R Bool) : Fm → R PV := fun env => (d env).bind fun b => .ok (.bl b)
def dIf {α : Type} (c : Fm → R Bool) (a b : Fm → R α) : Fm → R α := fun env => (c env).bind fun k => match k with
  | true => a env
  | false => b env
def dAnd (a b : Fm → R Bool) : Fm → R Bool := dIf a b (fun _ => .ok false)
def dOr (a b : Fm → R Bool) : Fm → R Bool := dIf a (fun _ => .ok true) b
def dNot (a : Fm → R Bool) : Fm → R Bool := fun env => (a env).bind fun k => .ok (!k)

section
variable {X : Cx} {W : WX}
abbrev xV (X : Cx) (W : WX) (d : Fm → R PV) : TE := tV X.K X.mg W d
abbrev xF (X : Cx) (W : WX) (d : Fm → R (List PV)) : TE := tF X.K X.mg W d
abbrev xR (X : Cx) (W : WX) (d : Fm → R PV) : TE := tR X.K X.mg W d
abbrev xVL (X : Cx) (W : WX) (d : Fm → R (List PV)) : TA := tAG X.K X.mg W (GVL X.K) d
abbrev xRL (X : Cx) (W : WX) (d : Fm → R (List PV)) : TA := tAG X.K X.mg W (GRL X.K) d
abbrev xT (X : Cx) (W : WX) (d : Fm → R Bool) : TT := tT X.K X.mg W d

/-! ### from one wish to another -/
theorem rV {e : Expr} {d : Fm → R PV} (h : PE X e (xV X W d)) : PE X e (xR X W d) := PE.imp h fun σ H Q ⟨F, env, ok, p⟩ => by
  refine ⟨F, env, ok, ?_⟩
  cases q : d env with
  | ok v => rw [q] at p; exact fun x F' H' st r => p x F' H' st (RD.of st.s2 r)
  | ex e => rw [q] at p; exact p
  | bad => rw [q] at p; exact p
theorem vF {e : Expr} {d : Fm → R (List PV)} (h : PE X e (xF X W d)) : PE X e (xV X W (dL d)) := PE.imp h fun σ H Q ⟨F, env, ok, p⟩ => by
  refine ⟨F, env, ok, ?_⟩
  unfold dL at p
  cases q : d env with
  | ok v =>
    rw [q] at p
    intro a xs F' H' st hn hf hx r
    refine p (.ref a) (upd F' a (.lst xs)) H' (st.freeze hn hx hf) ?_
    simp only [Rep]
    exact ⟨a, xs, rfl, upd_same, r.mono (same_frz hf)⟩
  | ex e => rw [q] at p; exact p
  | bad => rw [q] at p; exact p
theorem rF {e : Expr} {d : Fm → R (List PV)} (h : PE X e (xF X W d)) : PE X e (xR X W (dL d)) := rV (vF h)

/-! ### in a row -/
section
variable {K : PySem.W.Frag} {mg : Str → Option Value} {α β : Type}
theorem seq1 {G : Hp → Hp → β → α → Prop} {da : Fm → R PV} {f : Fm → PV → R α} {σ : L2.St} {H : Hp} {Q : β} {r : V → Hp → Prop} (sG : Stays G)
    (h : ∃ F env, FmOk K F H σ env ∧ RP ((da env).bind (f env)) (G F H Q) (GX K mg F H σ W))
    (hr : ∀ F H x a env, FmOk K F H σ env → RD K F H a x → RP (f env a) (G F H Q) (GX K mg F H σ W) → r x H) : tR K mg W da σ H r := by
  obtain ⟨F, env, ok, p⟩ := h
  refine ⟨F, env, ok, ?_⟩
  cases q : da env with
  | ok v =>
    rw [q] at p
    intro x F' H' st rx
    refine hr F' H' x v env (ok.step st) rx ?_
    have p' : RP (f env v) (G F H Q) (GX K mg F H σ W) := p
    cases q2 : f env v with
    | ok u => rw [q2] at p'; exact sG.up _ _ _ _ _ _ p' st
    | ex e => rw [q2] at p'; exact GX.step p' st
    | bad => rw [q2] at p'; exact p'
  | ex e => rw [q] at p; exact p
  | bad => rw [q] at p; exact p
theorem seq2 {G : Hp → Hp → β → α → Prop} {da db : Fm → R PV} {f : PV → PV → R α} {σ : L2.St} {H : Hp} {Q : β} {r : V → V → Hp → Prop} (sG : Stays G)
    (h : ∃ F env, FmOk K F H σ env ∧ RP ((da env).bind fun x => (db env).bind fun y => f x y) (G F H Q) (GX K mg F H σ W))
    (hr : ∀ F H x y a b, Fz F H → RD K F H a x → RD K F H b y → RP (f a b) (G F H Q) (GX K mg F H σ W) → r x y H) :
    tR K mg W da σ H fun x H1 => tR K mg W db σ H1 fun y H2 => r x y H2 := by
  obtain ⟨F, env, ok, p⟩ := h
  refine ⟨F, env, ok, ?_⟩
  cases q : da env with
  | ok v =>
    rw [q] at p
    intro x F1 H1 st1 rx
    refine ⟨F1, env, ok.step st1, ?_⟩
    have p1 : RP ((db env).bind fun y => f v y) (G F H Q) (GX K mg F H σ W) := p
    cases q1 : db env with
    | ok u =>
      rw [q1] at p1
      intro y F2 H2 st2 ry
      refine hr F2 H2 x y v u st2.s2 (rx.step st2) ry ?_
      have p2 : RP (f v u) (G F H Q) (GX K mg F H σ W) := p1
      cases q2 : f v u with
      | ok z => rw [q2] at p2; exact sG.up _ _ _ _ _ _ (sG.up _ _ _ _ _ _ p2 st1) st2
      | ex e => rw [q2] at p2; exact GX.step (GX.step p2 st1) st2
      | bad => rw [q2] at p2; exact p2
    | ex e => rw [q1] at p1; exact GX.step p1 st1
    | bad => rw [q1] at p1; exact p1
  | ex e => rw [q] at p; exact p
  | bad => rw [q] at p; exact p
end

/-! ### names and constants -/
theorem pe_V {e : Expr} (i : Nat) (h : PE X e (tVar i)) : PE X e (xV X W (dV i)) := PE.imp h fun σ H Q ⟨F, env, ok, p⟩ => by
  unfold dV at p
  cases q : env[i]? with
  | none => rw [q] at p; exact p.elim
  | some s =>
    rw [q] at p
    have at1 := ok.at' i s q
    cases s with
    | un => exact p.elim
    | exn _ _ _ => exact p.elim
    | own l => exact p.elim
    | pv d =>
      obtain ⟨x, e1, r⟩ := at1
      exact ⟨x, e1, p x F H (Step.refl ok.s0) r⟩
theorem pe_R {e : Expr} (i : Nat) (h : PE X e (tVar i)) : PE X e (xR X W (dR i)) := PE.imp h fun σ H Q ⟨F, env, ok, p⟩ => by
  unfold dR at p
  cases q : env[i]? with
  | none => rw [q] at p; exact p.elim
  | some s =>
    rw [q] at p
    have at1 := ok.at' i s q
    cases s with
    | un => exact p.elim
    | exn _ _ _ => exact p.elim
    | own l =>
      obtain ⟨a, xs, e1, h1, n1, r⟩ := at1
      exact ⟨_, e1, p _ F H (Step.refl ok.s0) ⟨a, xs, rfl, h1, r⟩⟩
    | pv d =>
      obtain ⟨x, e1, r⟩ := at1
      exact ⟨x, e1, p x F H (Step.refl ok.s0) (RD.of ok.s0 r)⟩
theorem pe_K {e : Expr} {v : V} {d : PV} (h : PE X e (tC v)) (r : ∀ F, Rep X.K F d v) : PE X e (xV X W (dC d)) := PE.imp h fun σ H Q ⟨F, env, ok, p⟩ => p v F H (Step.refl ok.s0) (r F)
theorem kInt {i : Int} {j : Nat} {pos : Pos} : PE X (.Constant (.int i) j pos) (xV X W (dC (.int i))) := pe_K pe_int fun _ => by simp only [Rep]
theorem kStr {i : Str} {j : Nat} {pos : Pos} : PE X (.Constant (.str i) j pos) (xV X W (dC (.str i))) := pe_K pe_str fun _ => by simp only [Rep]
theorem kBl {i : Bool} {j : Nat} {pos : Pos} : PE X (.Constant (.bool i) j pos) (xV X W (dC (.bl i))) := pe_K pe_bl fun _ => by simp only [Rep]
theorem kNon {j : Nat} {pos : Pos} : PE X (.Constant .none j pos) (xV X W (dC .non)) := pe_K pe_non fun _ => by simp only [Rep]
theorem kGlInt {x : Str} {pos : Pos} {i : Int} (hg : Gl X x) (hm : ∃ t, X.mg x = some (.int i t)) (hd : (x == ("__debug__" : Str)) = false := by decide) : PE X (.Name x pos) (xV X W (dC (.int i))) := by
  obtain ⟨t, hm⟩ := hm
  exact pe_K (pe_glob (v := .int i) hg hm ⟨t, rfl⟩ hd) fun _ => by simp only [Rep]
theorem kGlStr {x : Str} {pos : Pos} {i : Str} (hg : Gl X x) (hm : ∃ t, X.mg x = some (.str i t)) (hd : (x == ("__debug__" : Str)) = false := by decide) : PE X (.Name x pos) (xV X W (dC (.str i))) := by
  obtain ⟨t, hm⟩ := hm
  exact pe_K (pe_glob (v := .str i) hg hm ⟨t, rfl⟩ hd) fun _ => by simp only [Rep]
/-- a module's constant that is an object -/
theorem kGlRef {x : Str} {pos : Pos} {a : Addr} {d : PV} (hg : Gl X x) (hm : X.mg x = some (.ref a)) (r : ∀ F, Rep X.K F d (.ref a)) (hd : (x == ("__debug__" : Str)) = false := by decide) : PE X (.Name x pos) (xV X W (dC d)) :=
  pe_K (pe_glob (v := .ref a) hg hm rfl hd) r

/-! ### operators by what they make of values -/
def OpS {α : Type} (K : PySem.W.Frag) (r : R2) (f : PV → PV → Option α) (G : Hp → Hp → VK → α → Prop) : Prop :=
  ∀ F H x y a b v Q, Fz F H → RD K F H a x → RD K F H b y → f a b = some v → G F H Q v → r x y H Q
theorem pe_bin {α : Type} {G : Hp → Hp → VK → α → Prop} {a b : Expr} {op : Operator} {r : R2} {f : PV → PV → Option α} {da db : Fm → R PV} {pos : Pos} (ho : OpR X (binaryOp op) r) (hf : OpS X.K r f G) (sG : Stays G)
    (ha : PE X a (xR X W da)) (hb : PE X b (xR X W db)) : PE X (.BinOp a op b pos) (tG X.K X.mg W G (d2 f da db)) := PE.imp (pe_op ho ha hb) fun σ H Q h => by
  refine seq2 sG h fun F H x y a b s ra rb p => ?_
  cases q : f a b with
  | none => rw [q] at p; exact p.elim
  | some v => rw [q] at p; exact hf F H x y a b v Q s ra rb q p
theorem pe_cmpS {a b : Expr} {op : CmpOp} {r : R2} {f : PV → PV → Option PV} {da db : Fm → R PV} {pos : Pos} (ho : OpR X (compareOp op) r) (hf : OpS X.K r f (GV X.K))
    (ha : PE X a (xR X W da)) (hb : PE X b (xR X W db)) (hm : behindInMarks op b = false) : PE X (.Compare a [op] [b] pos) (xV X W (d2 f da db)) := PE.imp (pe_cmpR ho ha hb hm) fun σ H Q h => by
  refine seq2 stGV h fun F H x y a b s ra rb p => ?_
  cases q : f a b with
  | none => rw [q] at p; exact p.elim
  | some v => rw [q] at p; exact hf F H x y a b v Q s ra rb q p
/-- a comparison that hands back a truth -/
def OpB (K : PySem.W.Frag) (r : R2) (f : PV → PV → Option Bool) : Prop :=
  ∀ F H x y a b v (Q : VK), Fz F H → RD K F H a x → RD K F H b y → f a b = some v → Q (.bl v) H → r x y H Q
theorem pt_cmpS {a b : Expr} {op : CmpOp} {r : R2} {f : PV → PV → Option Bool} {da db : Fm → R PV} {pos : Pos} (ho : OpR X (compareOp op) r) (hf : OpB X.K r f)
    (ha : PE X a (xR X W da)) (hb : PE X b (xR X W db)) (hm : behindInMarks op b = false) : PT X (.Compare a [op] [b] pos) (xT X W (d2 f da db)) := PT.imp (pt_cmpR ho ha hb hm) fun σ H Q h => by
  refine seq2 stGT h fun F H x y a b s ra rb p => ?_
  cases q : f a b with
  | none => rw [q] at p; exact p.elim
  | some v => rw [q] at p; exact hf F H x y a b v _ s ra rb q ⟨v, rfl, p F H (Step.refl s)⟩
theorem pe_cmpB {a b : Expr} {op : CmpOp} {r : R2} {f : PV → PV → Option Bool} {da db : Fm → R PV} {pos : Pos} (ho : OpR X (compareOp op) r) (hf : OpB X.K r f)
    (ha : PE X a (xR X W da)) (hb : PE X b (xR X W db)) (hm : behindInMarks op b = false) : PE X (.Compare a [op] [b] pos) (xV X W (dBv (d2 f da db))) := PE.imp (pe_cmpR ho ha hb hm) fun σ H Q ⟨F, env, ok, p⟩ => by
  have h : ∃ F env, FmOk X.K F H σ env ∧ RP ((da env).bind fun x => (db env).bind fun y => (ofO (f x y)).bind fun b => .ok (PV.bl b)) (GV X.K F H Q) (GX X.K X.mg F H σ W) := by
    refine ⟨F, env, ok, ?_⟩
    unfold dBv d2 at p
    cases q : da env with
    | ok v =>
      rw [q] at p
      cases q1 : db env with
      | ok u => simp only [q1, R.bind_ok] at p ⊢; exact p
      | ex e => simp only [q1, R.bind_ok, R.bind_ex] at p ⊢; exact p
      | bad => simp only [q1, R.bind_ok, R.bind_bad] at p ⊢; exact p
    | ex e => rw [q] at p; exact p
    | bad => rw [q] at p; exact p
  refine seq2 stGV h fun F H x y a b s ra rb p => ?_
  cases q : f a b with
  | none => rw [q] at p; exact p.elim
  | some v => rw [q] at p; exact hf F H x y a b v _ s ra rb q (p _ F H (Step.refl s) (by simp only [Rep]))
/-- a < b < c -/
def dChain (f g : PV → PV → Option Bool) (da db dc : Fm → R PV) : Fm → R Bool := fun env => (da env).bind fun x => (db env).bind fun y => (ofO (f x y)).bind fun k => match k with
  | true => (dc env).bind fun z => ofO (g y z)
  | false => .ok false
theorem chain_go {K : PySem.W.Frag} {mg : Str → Option Value} {r r' : R2} {f g : PV → PV → Option Bool} {da db dc : Fm → R PV} {σ : L2.St} {H : Hp} {Q : VK} (hf : OpB K r f) (hg : OpB K r' g)
    (h : ∃ F env, FmOk K F H σ env ∧ RP (dChain f g da db dc env) (fun b => ∀ F' H', Step F H F' H' → Q (.bl b) H') (GX K mg F H σ W)) : tChain r r' (tR K mg W da) (tR K mg W db) (tR K mg W dc) σ H Q := by
  obtain ⟨F, env, ok, p⟩ := h
  refine ⟨F, env, ok, ?_⟩
  unfold dChain at p
  cases q : da env with
  | ok v =>
    rw [q] at p
    intro x F1 H1 st1 rx
    refine ⟨F1, env, ok.step st1, ?_⟩
    simp only [R.bind_ok] at p
    cases q1 : db env with
    | ok u =>
      rw [q1] at p
      intro y F2 H2 st2 ry
      simp only [R.bind_ok] at p
      cases q2 : f v u with
      | none => rw [q2] at p; exact p.elim
      | some k =>
        rw [q2] at p
        refine hf F2 H2 x y v u k _ st2.s2 (rx.step st2) ry q2 ⟨k, rfl, ?_⟩
        cases k with
        | false =>
          rw [if_neg Bool.false_ne_true]
          exact p F2 H2 (st1.trans st2)
        | true =>
          rw [if_pos rfl]
          refine ⟨F2, env, (ok.step st1).step st2, ?_⟩
          simp only [ofO_some, R.bind_ok] at p
          cases q3 : dc env with
          | ok w =>
            rw [q3] at p
            intro z F3 H3 st3 rz
            simp only [R.bind_ok] at p
            cases q4 : g u w with
            | none => rw [q4] at p; exact p.elim
            | some b => rw [q4] at p; exact hg F3 H3 y z u w b _ st3.s2 (ry.step st3) rz q4 (p F3 H3 ((st1.trans st2).trans st3))
          | ex e => rw [q3] at p; exact GX.step (GX.step p st1) st2
          | bad => rw [q3] at p; exact p
    | ex e => rw [q1] at p; exact GX.step p st1
    | bad => rw [q1] at p; exact p
  | ex e => rw [q] at p; exact p
  | bad => rw [q] at p; exact p
theorem pe_chainS {op op' : CmpOp} {a b c : Expr} {r r' : R2} {f g : PV → PV → Option Bool} {da db dc : Fm → R PV} {pos : Pos} (ho : OpR X (compareOp op) r) (hf : OpB X.K r f) (ho' : OpR X (compareOp op') r') (hg : OpB X.K r' g)
    (ha : PE X a (xR X W da)) (hb : PE X b (xR X W db)) (hc : PE X c (xR X W dc)) (hm : lastMarks [op, op'] [b, c] = false := by with_unfolding_all rfl) : PE X (.Compare a [op, op'] [b, c] pos) (xV X W (dBv (dChain f g da db dc))) :=
  PE.imp (pe_chain ho ho' ha hb hc hm) fun σ H Q ⟨F, env, ok, p⟩ => chain_go hf hg (mg := X.mg) ⟨F, env, ok, by
    unfold dBv at p
    cases q : dChain f g da db dc env with
    | ok b => rw [q] at p; exact fun F' H' st => p _ F' H' st (by simp only [Rep])
    | ex e => rw [q] at p; exact p
    | bad => rw [q] at p; exact p⟩
theorem pt_chainS {op op' : CmpOp} {a b c : Expr} {r r' : R2} {f g : PV → PV → Option Bool} {da db dc : Fm → R PV} {pos : Pos} (ho : OpR X (compareOp op) r) (hf : OpB X.K r f) (ho' : OpR X (compareOp op') r') (hg : OpB X.K r' g)
    (ha : PE X a (xR X W da)) (hb : PE X b (xR X W db)) (hc : PE X c (xR X W dc)) (hm : lastMarks [op, op'] [b, c] = false := by with_unfolding_all rfl) : PT X (.Compare a [op, op'] [b, c] pos) (xT X W (dChain f g da db dc)) :=
  PT.imp (pt_chain ho ho' ha hb hc hm) fun σ H Q ⟨F, env, ok, p⟩ => chain_go (Q := fun x H' => ∃ k, x = .bl k ∧ Q k H') hf hg (mg := X.mg) ⟨F, env, ok, by
    cases q : dChain f g da db dc env with
    | ok b => rw [q] at p; exact fun F' H' st => ⟨b, rfl, p F' H' st⟩
    | ex e => rw [q] at p; exact p
    | bad => rw [q] at p; exact p⟩

/-! ### truths -/
theorem go_tB {d : Fm → R PV} {σ : L2.St} {H : Hp} {Q : Bool → Hp → Prop} (h : xT X W (dB d) σ H Q) : tB (xV X W d) σ H Q := by
  obtain ⟨F, env, ok, p⟩ := h
  refine ⟨F, env, ok, ?_⟩
  unfold dB at p
  cases q : d env with
  | ok v =>
    rw [q] at p
    intro x F' H' st r
    cases v with
    | bl b =>
      simp only [Rep] at r
      exact ⟨b, r, p F' H' st⟩
    | non => exact p.elim
    | int i => exact p.elim
    | str i => exact p.elim
    | tup i => exact p.elim
    | lst i => exact p.elim
    | scr i => exact p.elim
    | dct _ _ => exact p.elim
  | ex e => rw [q] at p; exact p
  | bad => rw [q] at p; exact p
/-- a value as a test (a call, a name) -/
theorem tV_test {e : Expr} {d : Fm → R PV} (h : PE X e (xV X W d)) (he : ∀ whole, isTrue e X.env whole = (do let v ← whole; standAt e.pos; holding [v] (truthy v)) := by intro _; rfl) : PT X e (xT X W (dB d)) :=
  PT.imp (pt_val h he) fun σ H Q h => go_tB h
theorem go_if {K : PySem.W.Frag} {mg : Str → Option Value} {α β : Type} {G : Hp → Hp → β → α → Prop} {c : Fm → R Bool} {a b : Fm → R α} {σ : L2.St} {H : Hp} {Q : β} {P1 P2 : Hp → Prop} (sG : Stays G)
    (h : ∃ F env, FmOk K F H σ env ∧ RP (dIf c a b env) (G F H Q) (GX K mg F H σ W))
    (h1 : ∀ H, (∃ F env, FmOk K F H σ env ∧ RP (a env) (G F H Q) (GX K mg F H σ W)) → P1 H) (h2 : ∀ H, (∃ F env, FmOk K F H σ env ∧ RP (b env) (G F H Q) (GX K mg F H σ W)) → P2 H) :
    tT K mg W c σ H fun k H1 => if k = true then P1 H1 else P2 H1 := by
  obtain ⟨F, env, ok, p⟩ := h
  refine ⟨F, env, ok, ?_⟩
  unfold dIf at p
  have up : ∀ {t : R α} {F' H' : Hp}, Step F H F' H' → RP t (G F H Q) (GX K mg F H σ W) → RP t (G F' H' Q) (GX K mg F' H' σ W) := fun {t F' H'} st p => by
    cases t with
    | ok v => exact sG.up _ _ _ _ _ _ p st
    | ex e => exact GX.step p st
    | bad => exact p
  cases q : c env with
  | ok k =>
    rw [q] at p
    intro F' H' st
    cases k with
    | true => rw [if_pos rfl]; exact h1 H' ⟨F', env, ok.step st, up st p⟩
    | false => rw [if_neg Bool.false_ne_true]; exact h2 H' ⟨F', env, ok.step st, up st p⟩
  | ex e => rw [q] at p; exact p
  | bad => rw [q] at p; exact p
theorem pe_ifS {α : Type} {G : Hp → Hp → VK → α → Prop} {c a b : Expr} {dc : Fm → R Bool} {da db : Fm → R α} {pos : Pos} (sG : Stays G) (hc : PT X c (xT X W dc)) (ha : PE X a (tG X.K X.mg W G da)) (hb : PE X b (tG X.K X.mg W G db)) :
    PE X (.IfExp c a b pos) (tG X.K X.mg W G (dIf dc da db)) := PE.imp (pe_ifExp hc ha hb) fun σ H Q h => go_if sG h (fun H h => h) (fun H h => h)
theorem bl_true {F H : Hp} {Q : Bool → Hp → Prop} {b : Bool} (g : GT F H Q b) (s : Fz F H) : Q b H := g F H (Step.refl s)
theorem w_and {a b : Expr} {rest : List Expr} {da db : Fm → R Bool} {pos : Pos} (ha : PT X a (xT X W da)) (hb : PW X (.BoolOp .And (b :: rest) pos) (xT X W db)) : PW X (.BoolOp .And (a :: b :: rest) pos) (xT X W (dAnd da db)) :=
  ⟨fun whole pins s σ H Q I h => (pw_and ha hb).run whole pins s σ H Q I (go_if stGT h (fun H h => h) fun H ⟨F, env, ok, p⟩ => bl_true p ok.s0)⟩
theorem w_or {a b : Expr} {rest : List Expr} {da db : Fm → R Bool} {pos : Pos} (ha : PT X a (xT X W da)) (hb : PW X (.BoolOp .Or (b :: rest) pos) (xT X W db)) : PW X (.BoolOp .Or (a :: b :: rest) pos) (xT X W (dOr da db)) :=
  ⟨fun whole pins s σ H Q I h => (pw_or ha hb).run whole pins s σ H Q I (go_if stGT h (fun H ⟨F, env, ok, p⟩ => bl_true p ok.s0) fun H h => h)⟩
theorem t_not {a : Expr} {da : Fm → R Bool} {pos : Pos} (ha : PT X a (xT X W da)) : PT X (.UnaryOp .Not a pos) (xT X W (dNot da)) := PT.imp (pt_not ha) fun σ H Q ⟨F, env, ok, p⟩ => by
  refine ⟨F, env, ok, ?_⟩
  unfold dNot at p
  cases q : da env with
  | ok k => rw [q] at p; exact p
  | ex e => rw [q] at p; exact p
  | bad => rw [q] at p; exact p
/-- and, or, not as values -/
def dAndV (a b : Fm → R PV) : Fm → R PV := dIf (dB a) b (fun _ => .ok (.bl false))
def dOrV (a b : Fm → R PV) : Fm → R PV := dIf (dB a) (fun _ => .ok (.bl true)) b
def dNotV (a : Fm → R PV) : Fm → R PV := fun env => (dB a env).bind fun k => .ok (.bl (!k))
theorem gv_here {K : PySem.W.Frag} {F H : Hp} {Q : VK} {d : PV} {x : V} (g : GV K F H Q d) (s : Fz F H) (r : Rep K F d x) : Q x H := g x F H (Step.refl s) r
theorem v_and {a b : Expr} {rest : List Expr} {da db : Fm → R PV} {pos : Pos} (ha : PE X a (xV X W da)) (hb : PE X (.BoolOp .And (b :: rest) pos) (xV X W db)) : PE X (.BoolOp .And (a :: b :: rest) pos) (xV X W (dAndV da db)) :=
  PE.imp (pe_and ha hb) fun σ H Q h => go_tB (Q := fun c H1 => if c = true then xV X W db σ H1 Q else Q (.bl false) H1) (go_if stGV h (fun H h => h) fun H ⟨F, env, ok, p⟩ => gv_here p ok.s0 (by simp only [Rep]))
theorem v_or {a b : Expr} {rest : List Expr} {da db : Fm → R PV} {pos : Pos} (ha : PE X a (xV X W da)) (hb : PE X (.BoolOp .Or (b :: rest) pos) (xV X W db)) : PE X (.BoolOp .Or (a :: b :: rest) pos) (xV X W (dOrV da db)) :=
  PE.imp (pe_or ha hb) fun σ H Q h => go_tB (Q := fun c H1 => if c = true then Q (.bl true) H1 else xV X W db σ H1 Q) (go_if stGV h (fun H ⟨F, env, ok, p⟩ => gv_here p ok.s0 (by simp only [Rep])) fun H h => h)
theorem v_not {a : Expr} {da : Fm → R PV} {pos : Pos} (ha : PE X a (xV X W da)) : PE X (.UnaryOp .Not a pos) (xV X W (dNotV da)) := PE.imp (pe_not ha) fun σ H Q ⟨F, env, ok, p⟩ =>
  go_tB (Q := fun c H1 => Q (.bl (!c)) H1) ⟨F, env, ok, by
    unfold dNotV at p
    cases q : dB da env with
    | ok k => rw [q] at p; exact fun F' H' st => p _ F' H' st (by simp only [Rep])
    | ex e => rw [q] at p; exact p
    | bad => rw [q] at p; exact p⟩

/-! ### argument lists -/
theorem aVnil : PA X [] (xVL X W dNil) := PA.imp pa_nil fun σ H Q ⟨F, env, ok, p⟩ => p [] F H (Step.refl ok.s0) .nil
theorem aRnil : PA X [] (xRL X W dNil) := PA.imp pa_nil fun σ H Q ⟨F, env, ok, p⟩ => p [] F H (Step.refl ok.s0) rfl
theorem aVcons {e : Expr} {es : List Expr} {da : Fm → R PV} {dr : Fm → R (List PV)} (ha : PE X e (xV X W da)) (hr : PA X es (xVL X W dr)) (hs : starEach (e :: es) X.env = (false, eval e X.env) :: starEach es X.env := by rfl) : PA X (e :: es) (xVL X W (dCons da dr)) :=
  PA.imp (pa_cons ha hr hs) fun σ H Q ⟨F, env, ok, p⟩ => by
    refine ⟨F, env, ok, ?_⟩
    unfold dCons at p
    cases q : da env with
    | ok v =>
      rw [q] at p
      intro x F1 H1 st1 rx
      refine ⟨F1, env, ok.step st1, ?_⟩
      simp only [R.bind_ok] at p
      cases q1 : dr env with
      | ok vs =>
        rw [q1] at p
        intro xs F2 H2 st2 rs
        exact p (x :: xs) F2 H2 (st1.trans st2) (.cons (rx.mono st2.s1) rs)
      | ex e => rw [q1] at p; exact GX.step p st1
      | bad => rw [q1] at p; exact p
    | ex e => rw [q] at p; exact p
    | bad => rw [q] at p; exact p
theorem aRcons {e : Expr} {es : List Expr} {da : Fm → R PV} {dr : Fm → R (List PV)} (ha : PE X e (xR X W da)) (hr : PA X es (xRL X W dr)) (hs : starEach (e :: es) X.env = (false, eval e X.env) :: starEach es X.env := by rfl) : PA X (e :: es) (xRL X W (dCons da dr)) :=
  PA.imp (pa_cons ha hr hs) fun σ H Q ⟨F, env, ok, p⟩ => by
    refine ⟨F, env, ok, ?_⟩
    unfold dCons at p
    cases q : da env with
    | ok v =>
      rw [q] at p
      intro x F1 H1 st1 rx
      refine ⟨F1, env, ok.step st1, ?_⟩
      simp only [R.bind_ok] at p
      cases q1 : dr env with
      | ok vs =>
        rw [q1] at p
        intro xs F2 H2 st2 rs
        exact p (x :: xs) F2 H2 (st1.trans st2) ⟨x, xs, rfl, rx.step st2, rs⟩
      | ex e => rw [q1] at p; exact GX.step p st1
      | bad => rw [q1] at p; exact p
    | ex e => rw [q] at p; exact p
    | bad => rw [q] at p; exact p
/-- what follows an argument list -/
theorem seqA {K : PySem.W.Frag} {mg : Str → Option Value} {α : Type} {G : Hp → Hp → VK → α → Prop} {d : Fm → R (List PV)} {f : List PV → R α} {σ : L2.St} {H : Hp} {Q : VK} {r : List V → Hp → Prop} (sG : Stays G)
    (h : ∃ F env, FmOk K F H σ env ∧ RP ((d env).bind f) (G F H Q) (GX K mg F H σ W))
    (hr : ∀ F H xs ds, Fz F H → RDL K F H ds xs → RP (f ds) (G F H Q) (GX K mg F H σ W) → r xs H) : tAG K mg W (GRL K) d σ H r := by
  obtain ⟨F, env, ok, p⟩ := h
  refine ⟨F, env, ok, ?_⟩
  cases q : d env with
  | ok v =>
    rw [q] at p
    intro xs F' H' st rx
    refine hr F' H' xs v st.s2 rx ?_
    have p' : RP (f v) (G F H Q) (GX K mg F H σ W) := p
    cases q2 : f v with
    | ok u => rw [q2] at p'; exact sG.up _ _ _ _ _ _ p' st
    | ex e => rw [q2] at p'; exact GX.step p' st
    | bad => rw [q2] at p'; exact p'
  | ex e => rw [q] at p; exact p
  | bad => rw [q] at p; exact p
theorem seqV {K : PySem.W.Frag} {mg : Str → Option Value} {α : Type} {G : Hp → Hp → VK → α → Prop} {d : Fm → R (List PV)} {f : List PV → R α} {σ : L2.St} {H : Hp} {Q : VK} {r : List V → Hp → Prop} (sG : Stays G)
    (h : ∃ F env, FmOk K F H σ env ∧ RP ((d env).bind f) (G F H Q) (GX K mg F H σ W))
    (hr : ∀ F H xs ds, Fz F H → RepL K F ds xs → RP (f ds) (G F H Q) (GX K mg F H σ W) → r xs H) : tAG K mg W (GVL K) d σ H r := by
  obtain ⟨F, env, ok, p⟩ := h
  refine ⟨F, env, ok, ?_⟩
  cases q : d env with
  | ok v =>
    rw [q] at p
    intro xs F' H' st rx
    refine hr F' H' xs v st.s2 rx ?_
    have p' : RP (f v) (G F H Q) (GX K mg F H σ W) := p
    cases q2 : f v with
    | ok u => rw [q2] at p'; exact sG.up _ _ _ _ _ _ p' st
    | ex e => rw [q2] at p'; exact GX.step p' st
    | bad => rw [q2] at p'; exact p'
  | ex e => rw [q] at p; exact p
  | bad => rw [q] at p; exact p
/-- displays -/
theorem v_tup {es : List Expr} {d : Fm → R (List PV)} {n : Nat} {pos : Pos} (h : PA X es (xVL X W d)) : PE X (.Tuple es n pos) (xV X W (dTup d)) := PE.imp (pe_tup h) fun σ H Q h => by
  refine seqV stGV h fun F H xs ds s r p => ?_
  by_cases c : ds.length ≤ sizeLine
  · rw [if_pos c] at p
    refine ⟨by rw [r.len]; exact c, fun q hq => p (.ref q) (upd F q (.tup xs)) _ (Step.frz s hq) ?_⟩
    simp only [Rep]
    exact ⟨q, xs, rfl, SqT.of upd_same, r.mono (same_frz (s.free hq))⟩
  · rw [if_neg c] at p; exact p.elim
theorem f_lst {es : List Expr} {d : Fm → R (List PV)} {pos : Pos} (h : PA X es (xVL X W d)) : PE X (.List es pos) (xF X W (dLst d)) := PE.imp (pe_lst h) fun σ H Q h => by
  refine seqV stGF h fun F H xs ds s r p => ?_
  by_cases c : ds.length ≤ sizeLine
  · rw [if_pos c] at p
    exact ⟨by rw [r.len]; exact c, fun q hq => p q xs F _ (Step.new s hq) (.of hq) (s.free hq) upd_same r⟩
  · rw [if_neg c] at p; exact p.elim
/-- built-in functions and types, by what they make of values -/
def CaS {α : Type} (K : PySem.W.Frag) (r : List V → Hp → VK → Prop) (f : List PV → Option α) (G : Hp → Hp → VK → α → Prop) : Prop :=
  ∀ F H xs ds v Q, Fz F H → RDL K F H ds xs → f ds = some v → G F H Q v → r xs H Q
theorem pe_callBS {α : Type} {G : Hp → Hp → VK → α → Prop} {x : Str} {p pos : Pos} {e : Expr} {es : List Expr} {id : String} {r : List V → Hp → VK → Prop} {f : List PV → Option α} {d : Fm → R (List PV)} (hc : CallR X (.builtin id) r) (hf : CaS X.K r f G) (sG : Stays G)
    (hg : Gl X x) (hm : X.mg x = none) (hv : bootBuiltins x = some (.builtin id)) (ha : PA X (e :: es) (xRL X W d)) (hn : x ≠ "__name__" := by decide) (hdb : (x == ("__debug__" : Str)) = false := by decide)
    (he : starEach (e :: es) X.env = (false, eval e X.env) :: starEach es X.env := by rfl) (hpl : (backTo pos (starEach es X.env)).any (·.1) = false := by rfl) : PE X (.Call (.Name x p) (e :: es) [] pos) (tG X.K X.mg W G (dCall (fun ds => ofO (f ds)) d)) :=
  PE.imp (pe_callB hc hg hm hv ha hn hdb he hpl) fun σ H Q h => seqA sG h fun F H xs ds s r p => by
    cases q : f ds with
    | none => rw [q] at p; exact p.elim
    | some v => rw [q] at p; exact hf F H xs ds v Q s r q p
theorem pe_callTS {α : Type} {G : Hp → Hp → VK → α → Prop} {x : Str} {p pos : Pos} {e : Expr} {es : List Expr} {T : String} {r : List V → Hp → VK → Prop} {f : List PV → Option α} {d : Fm → R (List PV)} (hc : CallR X (.type T) r) (hf : CaS X.K r f G) (sG : Stays G)
    (hg : Gl X x) (hm : X.mg x = none) (hv : bootBuiltins x = some (.type T)) (ha : PA X (e :: es) (xRL X W d)) (hn : x ≠ "__name__" := by decide) (hdb : (x == ("__debug__" : Str)) = false := by decide)
    (he : starEach (e :: es) X.env = (false, eval e X.env) :: starEach es X.env := by rfl) (hpl : (backTo pos (starEach es X.env)).any (·.1) = false := by rfl) : PE X (.Call (.Name x p) (e :: es) [] pos) (tG X.K X.mg W G (dCall (fun ds => ofO (f ds)) d)) :=
  PE.imp (pe_callTy hc hg hm hv ha hn hdb he hpl) fun σ H Q h => seqA sG h fun F H xs ds s r p => by
    cases q : f ds with
    | none => rw [q] at p; exact p.elim
    | some v => rw [q] at p; exact hf F H xs ds v Q s r q p
/-- a subscript -/
theorem pe_ixS {a b : Expr} {r : R2} {f : PV → PV → Option PV} {da db : Fm → R PV} {pos : Pos} (ho : IxR X r) (hf : OpS X.K r f (GV X.K)) (ha : PE X a (xR X W da)) (hb : PE X b (xR X W db)) (hs : PlainIx b) : PE X (.Subscript a b pos) (xV X W (d2 f da db)) :=
  PE.imp (pe_ix ho ha hb hs) fun σ H Q h => by
    refine seq2 stGV h fun F H x y a b s ra rb p => ?_
    cases q : f a b with
    | none => rw [q] at p; exact p.elim
    | some v => rw [q] at p; exact hf F H x y a b v Q s ra rb q p
end
end Pv

set_option Elab.async false
set_option linter.all false
set_option maxRecDepth 100000
set_option maxHeartbeats 2000000
/-! PvC: operators and built-ins over plain values. -/
namespace Pv
open PySem PySem.Spec PyProof.Rows L2
variable [TabCx]

/-! ### as data -/
mutual
def toD : PV → PyData
  | .non => .none
  | .bl b => .bool b
  | .int i => .int i
  | .str x => .str x
  | .tup xs => .tuple (toDs xs)
  | .lst xs => .list (toDs xs)
  | .scr ns => .list (ns.map .int)
  | .dct _ _ => .str ⟨#[1114112]⟩
def toDs : List PV → List PyData
  | [] => []
  | x :: xs => toD x :: toDs xs
end
theorem toDs_map : ∀ xs : List PV, toDs xs = xs.map toD
  | [] => by simp only [toDs, List.map_nil]
  | x :: xs => by simp only [toDs, List.map_cons, toDs_map xs]
section
variable {K : PySem.W.Frag} {F H : Hp}
theorem dpInts : ∀ ns : List Int, DpAll K H (ns.map V.int) (ns.map PyData.int)
  | [] => .nil
  | n :: ns => .cons (.int n) (dpInts ns)
mutual
theorem Rep.dp (s : Fz F H) : ∀ (d : PV) (v : V), (toD d).canLay0 = true → Rep K F d v → Dp K H v (toD d)
  | .non, v, _, h => by simp only [Rep] at h; subst h; simp only [toD]; exact .non
  | .bl b, v, _, h => by simp only [Rep] at h; subst h; simp only [toD]; exact .bl b
  | .int b, v, _, h => by simp only [Rep] at h; subst h; simp only [toD]; exact .int b
  | .str b, v, _, h => by simp only [Rep] at h; subst h; simp only [toD]; exact .str b
  | .tup ds, v, c, h => by
    simp only [Rep] at h
    obtain ⟨a, xs, rfl, q, r⟩ := h
    simp only [toD, PyData.canLay0] at c ⊢
    exact .tup (sqT_mono s.same q) (RepL.dp s ds xs c r)
  | .lst ds, v, c, h => by
    simp only [Rep] at h
    obtain ⟨a, xs, rfl, q, r⟩ := h
    simp only [toD, PyData.canLay0] at c ⊢
    exact .lst (SqL.of (s.same _ _ q)) (RepL.dp s ds xs c r)
  | .scr ns, v, _, h => by
    simp only [Rep] at h
    obtain ⟨a, rfl, q⟩ := h
    simp only [toD]
    exact .lst (s.same.seq q) (dpInts ns)
  | .dct ks vs, v, c, h => by
    simp only [toD, PyData.canLay0] at c
    exact absurd c (by decide +kernel)
theorem RepL.dp (s : Fz F H) : ∀ (ds : List PV) (vs : List V), PyData.canLayAll0 (toDs ds) = true → RepL K F ds vs → DpAll K H vs (toDs ds)
  | [], vs, _, h => by simp only [RepL] at h; subst h; simp only [toDs]; exact .nil
  | d :: ds, vs, c, h => by
    simp only [RepL] at h
    obtain ⟨x, r, rfl, h1, h2⟩ := h
    simp only [toDs, PyData.canLayAll0, Bool.and_eq_true] at c ⊢
    exact .cons (Rep.dp s d x c.1 h1) (RepL.dp s ds r c.2 h2)
end
theorem RD.dp0 (s : Fz F H) {d : PV} {v : V} (c : (toD d).canLay0 = true) (h : RD K F H d v) : Dp K H v (toD d) := by
  cases d with
  | lst l =>
    obtain ⟨a, xs, rfl, h1, r⟩ := h
    simp only [toD, PyData.canLay0] at c ⊢
    exact .lst (SqL.of h1) (RepL.dp s l xs c r)
  | non => exact Rep.dp s _ _ c h
  | bl b => exact Rep.dp s _ _ c h
  | int b => exact Rep.dp s _ _ c h
  | str b => exact Rep.dp s _ _ c h
  | tup b => exact Rep.dp s _ _ c h
  | scr b => exact Rep.dp s _ _ c h
  | dct _ _ => exact Rep.dp s _ _ c h
theorem RD.dp (s : Fz F H) {d : PV} {v : V} (c : SeqAt.shaped (toD d) = true) (h : RD K F H d v) : Dp K H v (toD d) := RD.dp0 s (SeqAt.canLay_of_shaped c) h
end
/-! what is read of each kind -/
section
variable {K : PySem.W.Frag} {F H : Hp} {v : V}
theorem RD.int {i : Int} (h : RD K F H (.int i) v) : v = .int i := by simpa only [RD, Rep] using h
theorem RD.bl {i : Bool} (h : RD K F H (.bl i) v) : v = .bl i := by simpa only [RD, Rep] using h
theorem RD.str {i : Str} (h : RD K F H (.str i) v) : v = .str i := by simpa only [RD, Rep] using h
theorem RD.non (h : RD K F H .non v) : v = .non := by simpa only [RD, Rep] using h
theorem RD.tup {l : List PV} (h : RD K F H (.tup l) v) : ∃ a xs, v = .ref a ∧ SqT K F a xs ∧ RepL K F l xs := by simpa only [RD, Rep] using h
theorem RD.lst {l : List PV} (h : RD K F H (.lst l) v) : ∃ a xs, v = .ref a ∧ H a = some (.lst xs) ∧ RepL K F l xs := h
theorem RD.scr {l : List Int} (h : RD K F H (.scr l) v) : ∃ a, v = .ref a ∧ SqL K F a (l.map V.int) := by simpa only [RD, Rep] using h
theorem RD.dct {ks : List Key} {l : List PV} (h : RD K F H (.dct ks l) v) : ∃ a ws, v = .ref a ∧ F a = some (.dK (ks.zip ws)) ∧ ks.length = l.length ∧ RepL K F l ws := by simpa only [RD, Rep] using h
theorem RDL.one {d : PV} {xs : List V} (h : RDL K F H [d] xs) : ∃ x, xs = [x] ∧ RD K F H d x := by
  obtain ⟨x, r, e, h1, h2⟩ := h
  cases (show r = [] from h2)
  exact ⟨x, e, h1⟩
theorem RDL.two {d e : PV} {xs : List V} (h : RDL K F H [d, e] xs) : ∃ x y, xs = [x, y] ∧ RD K F H d x ∧ RD K F H e y := by
  obtain ⟨x, r, e, h1, h2⟩ := h
  obtain ⟨y, rfl, h3⟩ := h2.one
  exact ⟨x, y, e, h1, h3⟩
theorem repNew {xs : List V} {l : List PV} {p : Addr} (s : Fz F H) (hp : H p = none) (r : RepL K F l xs) : Rep K (upd F p (.tup xs)) (.tup l) (.ref p) := by
  simp only [Rep]
  exact ⟨p, xs, rfl, SqT.of upd_same, r.mono (same_frz (s.free hp))⟩
theorem repTup {xs : List V} {l : List PV} {p : Addr} (q : SqT K F p xs) (r : RepL K F l xs) : Rep K F (.tup l) (.ref p) := by
  simp only [Rep]
  exact ⟨p, xs, rfl, q, r⟩
end

/-! ### + - * // % -/
def pAdd : PV → PV → Option PV
  | .int i, .int j => some (.int (i + j))
  | .str a, .str b => if a.length + b.length ≤ sizeLine then some (.str (a ++ b)) else none
  | .tup a, .tup b => if a.length + b.length ≤ sizeLine then some (.tup (a ++ b)) else none
  | _, _ => none
def fCat : PV → PV → Option (List PV)
  | .lst a, .lst b => if a.length + b.length ≤ sizeLine then some (a ++ b) else none
  | _, _ => none
def pSub : PV → PV → Option PV
  | .int i, .int j => some (.int (i - j))
  | _, _ => none
def mulB (a b : Int) : Bool := !(decide (Builtin.Int.intBits a > shortFactorBits) && decide (Builtin.Int.intBits b > shortFactorBits) && Builtin.Int.intTooBig (Builtin.Int.intBits a + Builtin.Int.intBits b))
theorem mulB_ok {a b : Int} (h : mulB a b = true) : IntMulOk a b := by
  unfold IntMulOk
  unfold mulB at h
  intro z
  rw [z] at h
  exact Bool.noConfusion h
theorem mulB_of {a b : Int} (h : IntMulOk a b) : mulB a b = true := by
  unfold IntMulOk at h
  unfold mulB
  cases q : (decide (Builtin.Int.intBits a > shortFactorBits) && decide (Builtin.Int.intBits b > shortFactorBits) && Builtin.Int.intTooBig (Builtin.Int.intBits a + Builtin.Int.intBits b)) with
  | true => exact absurd q h
  | false => rfl
def pMul : PV → PV → Option PV
  | .int i, .int j => if mulB i j = true then some (.int (i * j)) else none
  | _, _ => none
def pDiv : PV → PV → Option PV
  | .int i, .int j => if 0 < j ∧ j.natAbs.log2 < 9000 then some (.int (i / j)) else none
  | _, _ => none
def pMod : PV → PV → Option PV
  | .int i, .int j => if 0 < j then some (.int (i % j)) else none
  | _, _ => none
def pPow : PV → PV → Option PV
  | .int i, .int j => if 0 ≤ j ∧ j ≤ 1000000 ∧ i.natAbs < 2 ^ 64 then some (.int (i ^ j.toNat)) else none
  | _, _ => none
section
variable {X : Cx} {W : WX}
def rPlus (K : PySem.W.Frag) : R2 := fun x y H Q => (rI0 (fun i j => V.int (i + j)) x y H Q ∨ (∃ i j, x = .str i ∧ y = .str j ∧ i.length + j.length ≤ sizeLine ∧ Q (.str (i ++ j)) H)) ∨ rCatA K x y H Q
theorem op_plus : OpR X (binaryOp .Add) (rPlus X.K) := (op_add.or op_add_str).or op_catA
theorem os_plus {K : PySem.W.Frag} : OpS K (rPlus K) pAdd (GV K) := by
  intro F H x y a b v Q s ra rb e g
  cases a with
  | int i =>
    cases b with
    | int j =>
      cases ra.int
      cases rb.int
      cases e
      exact .inl (.inl ⟨i, j, rfl, rfl, gv_here g s (by simp only [Rep])⟩)
    | non => cases e
    | bl _ => cases e
    | str _ => cases e
    | tup _ => cases e
    | lst _ => cases e
    | scr _ => cases e
    | dct _ _ => cases e
  | str i =>
    cases b with
    | str j =>
      cases ra.str
      cases rb.str
      simp only [pAdd] at e
      split at e
      · rename_i c
        cases e
        exact .inl (.inr ⟨i, j, rfl, rfl, c, gv_here g s (by simp only [Rep])⟩)
      · cases e
    | non => cases e
    | bl _ => cases e
    | int _ => cases e
    | tup _ => cases e
    | lst _ => cases e
    | scr _ => cases e
    | dct _ _ => cases e
  | tup i =>
    cases b with
    | tup j =>
      obtain ⟨a1, xs, rfl, q1, r1⟩ := ra.tup
      obtain ⟨a2, ys, rfl, q2, r2⟩ := rb.tup
      simp only [pAdd] at e
      split at e
      · rename_i c
        cases e
        refine .inr ⟨a1, a2, xs, ys, rfl, rfl, sqT_mono s.same q1, sqT_mono s.same q2, by rw [r1.len, r2.len]; exact c, fun z => ?_, fun _ z => ?_, fun _ _ p hp => ?_⟩
        · subst z
          have l1 := r1.len
          have z1 : i = [] := List.eq_nil_of_length_eq_zero l1.symm
          subst z1
          exact gv_here g s (repTup q2 r2)
        · subst z
          have l2 := r2.len
          have z2 : j = [] := List.eq_nil_of_length_eq_zero l2.symm
          subst z2
          exact gv_here g s (repTup q1 (by rw [List.append_nil]; exact r1))
        · exact g _ _ _ (Step.frz s hp) (repNew s hp (r1.app r2))
      · cases e
    | non => cases e
    | bl _ => cases e
    | int _ => cases e
    | str _ => cases e
    | lst _ => cases e
    | scr _ => cases e
    | dct _ _ => cases e
  | non => cases e
  | bl _ => cases e
  | lst _ => cases e
  | scr _ => cases e
  | dct _ _ => cases e
theorem os_cat {K : PySem.W.Frag} : OpS K rCat fCat (GF K) := by
  intro F H x y a b v Q s ra rb e g
  cases a with
  | lst i =>
    cases b with
    | lst j =>
      obtain ⟨a1, xs, rfl, q1, r1⟩ := ra.lst
      obtain ⟨a2, ys, rfl, q2, r2⟩ := rb.lst
      simp only [fCat] at e
      split at e
      · rename_i c
        cases e
        exact ⟨a1, a2, xs, ys, rfl, rfl, q1, q2, by rw [r1.len, r2.len]; exact c, fun p hp => g p _ F _ (Step.new s hp) (.of hp) (s.free hp) upd_same (r1.app r2)⟩
      · cases e
    | non => cases e
    | bl _ => cases e
    | int _ => cases e
    | str _ => cases e
    | tup _ => cases e
    | scr _ => cases e
    | dct _ _ => cases e
  | non => cases e
  | bl _ => cases e
  | int _ => cases e
  | str _ => cases e
  | tup _ => cases e
  | scr _ => cases e
  | dct _ _ => cases e
/-- an operator of two ints -/
theorem os_int {K : PySem.W.Frag} {r : R2} {f : PV → PV → Option PV} {C : Int → Int → Prop} {g : Int → Int → Int} (hr : ∀ i j H Q, C i j → Q (.int (g i j)) H → r (.int i) (.int j) H Q)
    (hf : ∀ a b v, f a b = some v → ∃ i j, a = .int i ∧ b = .int j ∧ C i j ∧ v = .int (g i j)) : OpS K r f (GV K) := by
  intro F H x y a b v Q s ra rb e gq
  obtain ⟨i, j, rfl, rfl, c, rfl⟩ := hf a b v e
  cases ra.int
  cases rb.int
  exact hr i j H Q c (gv_here gq s (by simp only [Rep]))
theorem os_sub {K : PySem.W.Frag} : OpS K (rI0 fun i j => .int (i - j)) pSub (GV K) := os_int (C := fun _ _ => True) (g := fun i j => i - j) (fun i j H Q _ q => ⟨i, j, rfl, rfl, q⟩) fun a b v e => by
  unfold pSub at e
  split at e
  · cases e; exact ⟨_, _, rfl, rfl, trivial, rfl⟩
  · cases e
theorem op_mulX : OpR X (binaryOp .Mult) (rI (fun i j => mulB i j = true) fun i j => .int (i * j)) := opI fun _ _ _ _ _ _ _ hc q => mul_int q (mulB_ok hc)
theorem os_mul {K : PySem.W.Frag} : OpS K (rI (fun i j => mulB i j = true) fun i j => .int (i * j)) pMul (GV K) := os_int (C := fun i j => mulB i j = true) (g := fun i j => i * j) (fun i j H Q c q => ⟨i, j, rfl, rfl, c, q⟩) fun a b v e => by
  unfold pMul at e
  split at e
  · split at e
    · rename_i c; cases e; exact ⟨_, _, rfl, rfl, c, rfl⟩
    · cases e
  · cases e
theorem os_div {K : PySem.W.Frag} : OpS K (rI CDivW fun i j => .int (i / j)) pDiv (GV K) := os_int (C := CDivW) (g := fun i j => i / j) (fun i j H Q c q => ⟨i, j, rfl, rfl, c, q⟩) fun a b v e => by
  unfold pDiv at e
  split at e
  · split at e
    · rename_i c; cases e; exact ⟨_, _, rfl, rfl, c, rfl⟩
    · cases e
  · cases e
theorem os_mod {K : PySem.W.Frag} : OpS K (rI (fun _ j => 0 < j) fun i j => .int (i % j)) pMod (GV K) := os_int (C := fun _ j => 0 < j) (g := fun i j => i % j) (fun i j H Q c q => ⟨i, j, rfl, rfl, c, q⟩) fun a b v e => by
  unfold pMod at e
  split at e
  · split at e
    · rename_i c; cases e; exact ⟨_, _, rfl, rfl, c, rfl⟩
    · cases e
  · cases e
theorem os_pow {K : PySem.W.Frag} : OpS K (rI CPow fun i j => .int (i ^ j.toNat)) pPow (GV K) := os_int (C := CPow) (g := fun i j => i ^ j.toNat) (fun i j H Q c q => ⟨i, j, rfl, rfl, c, q⟩) fun a b v e => by
  unfold pPow at e
  split at e
  · split at e
    · rename_i c; cases e; exact ⟨_, _, rfl, rfl, c, rfl⟩
    · cases e
  · cases e
theorem v_add {a b : Expr} {da db : Fm → R PV} {pos : Pos} (ha : PE X a (xR X W da)) (hb : PE X b (xR X W db)) : PE X (.BinOp a .Add b pos) (xV X W (d2 pAdd da db)) := pe_bin op_plus os_plus stGV ha hb
theorem f_cat {a b : Expr} {da db : Fm → R PV} {pos : Pos} (ha : PE X a (xR X W da)) (hb : PE X b (xR X W db)) : PE X (.BinOp a .Add b pos) (xF X W (d2 fCat da db)) := pe_bin op_cat os_cat stGF ha hb
theorem v_sub {a b : Expr} {da db : Fm → R PV} {pos : Pos} (ha : PE X a (xR X W da)) (hb : PE X b (xR X W db)) : PE X (.BinOp a .Sub b pos) (xV X W (d2 pSub da db)) := pe_bin op_sub os_sub stGV ha hb
theorem v_mul {a b : Expr} {da db : Fm → R PV} {pos : Pos} (ha : PE X a (xR X W da)) (hb : PE X b (xR X W db)) : PE X (.BinOp a .Mult b pos) (xV X W (d2 pMul da db)) := pe_bin op_mulX os_mul stGV ha hb
theorem v_div {a b : Expr} {da db : Fm → R PV} {pos : Pos} (ha : PE X a (xR X W da)) (hb : PE X b (xR X W db)) : PE X (.BinOp a .FloorDiv b pos) (xV X W (d2 pDiv da db)) := pe_bin op_fdivW os_div stGV ha hb
theorem v_mod {a b : Expr} {da db : Fm → R PV} {pos : Pos} (ha : PE X a (xR X W da)) (hb : PE X b (xR X W db)) : PE X (.BinOp a .Mod b pos) (xV X W (d2 pMod da db)) := pe_bin op_mod os_mod stGV ha hb
theorem v_pow {a b : Expr} {da db : Fm → R PV} {pos : Pos} (ha : PE X a (xR X W da)) (hb : PE X b (xR X W db)) : PE X (.BinOp a .Pow b pos) (xV X W (d2 pPow da db)) := pe_bin op_pow os_pow stGV ha hb
def pNeg : PV → Option PV
  | .int i => some (.int (-i))
  | _ => none
theorem v_neg {a : Expr} {da : Fm → R PV} {pos : Pos} (ha : PE X a (xR X W da)) : PE X (.UnaryOp .USub a pos) (xV X W (d1 pNeg da)) := PE.imp (pe_un un_neg ha) fun σ H Q h => by
  refine seq1 stGV h fun F H x a env ok ra p => ?_
  cases a with
  | int i => cases ra.int; exact ⟨i, rfl, gv_here p ok.s0 (by simp only [Rep])⟩
  | non => exact p.elim
  | bl _ => exact p.elim
  | str _ => exact p.elim
  | tup _ => exact p.elim
  | lst _ => exact p.elim
  | scr _ => exact p.elim
  | dct _ _ => exact p.elim

/-! ### comparisons -/
def pLt : PV → PV → Option Bool
  | .int i, .int j => some (decide (i < j))
  | .str a, .str b => some (decide (a.cps.toList < b.cps.toList))
  | _, _ => none
def pLe : PV → PV → Option Bool
  | .int i, .int j => some (decide (i ≤ j))
  | .str a, .str b => some (!decide (b.cps.toList < a.cps.toList))
  | _, _ => none
def pGt (a b : PV) : Option Bool := match a, b with
  | .int i, .int j => some (decide (j < i))
  | _, _ => none
def pGe (a b : PV) : Option Bool := match a, b with
  | .int i, .int j => some (decide (j ≤ i))
  | _, _ => none
def pEq (a b : PV) : Option Bool := if SeqAt.shaped (toD a) = true ∧ SeqAt.shaped (toD b) = true then some (PyData.eqv (toD a) (toD b)) else none
def pNe (a b : PV) : Option Bool := if SeqAt.shaped (toD a) = true ∧ SeqAt.shaped (toD b) = true then some (!PyData.eqv (toD a) (toD b)) else none
def inL (a : PV) (l : List PV) : Bool := l.any fun z => PyData.eqv (toD z) (toD a)
def inStr (a b : Str) : Bool := !(Builtin.Str.occurrences b a 0 b.length 1).isEmpty
def pIn (a b : PV) : Option Bool := match a, b with
  | a, .lst l => if SeqAt.shaped (toD a) = true ∧ SeqAt.shaped (toD (.lst l)) = true then some (inL a l) else none
  | a, .tup l => if SeqAt.shaped (toD a) = true ∧ SeqAt.shaped (toD (.tup l)) = true then some (inL a l) else none
  | .str x, .str y => some (inStr x y)
  | _, _ => none
def pNotIn (a b : PV) : Option Bool := (pIn a b).map (!·)
def rTwo (r r' : R2) : R2 := fun x y H Q => r x y H Q ∨ r' x y H Q
theorem ob_lt {K : PySem.W.Frag} : OpB K (rTwo (rI0 fun i j => .bl (decide (i < j))) (fun x y H Q => ∃ i j, x = .str i ∧ y = .str j ∧ Q (.bl (decide (i.cps.toList < j.cps.toList))) H)) pLt := by
  intro F H x y a b v Q s ra rb e q
  unfold pLt at e
  split at e
  · cases e; cases ra.int; cases rb.int; exact .inl ⟨_, _, rfl, rfl, q⟩
  · cases e; cases ra.str; cases rb.str; exact .inr ⟨_, _, rfl, rfl, q⟩
  · cases e
theorem ob_le {K : PySem.W.Frag} : OpB K (rTwo (rI0 fun i j => .bl (decide (i ≤ j))) (fun x y H Q => ∃ i j, x = .str i ∧ y = .str j ∧ Q (.bl (!decide (j.cps.toList < i.cps.toList))) H)) pLe := by
  intro F H x y a b v Q s ra rb e q
  unfold pLe at e
  split at e
  · cases e; cases ra.int; cases rb.int; exact .inl ⟨_, _, rfl, rfl, q⟩
  · cases e; cases ra.str; cases rb.str; exact .inr ⟨_, _, rfl, rfl, q⟩
  · cases e
theorem ob_gt {K : PySem.W.Frag} : OpB K (rI0 fun i j => .bl (decide (j < i))) pGt := by
  intro F H x y a b v Q s ra rb e q
  unfold pGt at e
  split at e
  · cases e; cases ra.int; cases rb.int; exact ⟨_, _, rfl, rfl, q⟩
  · cases e
theorem ob_ge {K : PySem.W.Frag} : OpB K (rI0 fun i j => .bl (decide (j ≤ i))) pGe := by
  intro F H x y a b v Q s ra rb e q
  unfold pGe at e
  split at e
  · cases e; cases ra.int; cases rb.int; exact ⟨_, _, rfl, rfl, q⟩
  · cases e
theorem ob_eq {K : PySem.W.Frag} : OpB K (rEqD K) pEq := by
  intro F H x y a b v Q s ra rb e q
  unfold pEq at e
  split at e
  · rename_i c
    cases e
    exact ⟨_, _, RD.dp s c.1 ra, RD.dp s c.2 rb, c.1, c.2, q⟩
  · cases e
theorem ob_ne {K : PySem.W.Frag} : OpB K (rNeD K) pNe := by
  intro F H x y a b v Q s ra rb e q
  unfold pNe at e
  split at e
  · rename_i c
    cases e
    exact ⟨_, _, RD.dp s c.1 ra, RD.dp s c.2 rb, c.1, c.2, q⟩
  · cases e
/-- in a tuple -/
def rInT (K : PySem.W.Frag) (neg : Bool) : R2 := fun x y H Q => ∃ d ds, Dp K H x d ∧ Dp K H y (.tuple ds) ∧ SeqAt.shaped d = true ∧ SeqAt.shaped (.tuple ds) = true ∧ Q (.bl (if neg then !ds.any fun z => PyData.eqv z d else ds.any fun z => PyData.eqv z d)) H
theorem op_inT (hu : X.A.units + 65 < cLine) : OpR X (compareOp .In) (rInT X.K false) := by
  intro pins s σ H x y v u Q I rx ry h
  obtain ⟨d, ds, hd, he, sd, se, q⟩ := h
  obtain ⟨as, r1⟩ := Dp.reads I d x v hd rx
  obtain ⟨bs, r2⟩ := Dp.reads I (.tuple ds) y u he ry
  exact SeqAt.in_tuple_reads r2 r1 (SeqAt.canLay_of_shaped se) (SeqAt.canLay_of_shaped sd) (room_in_shaped sd hu) ⟨.bl _, H, I, rfl, q⟩
theorem op_notInT (hu : X.A.units + 65 < cLine) : OpR X (compareOp .NotIn) (rInT X.K true) := by
  intro pins s σ H x y v u Q I rx ry h
  obtain ⟨d, ds, hd, he, sd, se, q⟩ := h
  obtain ⟨as, r1⟩ := Dp.reads I d x v hd rx
  obtain ⟨bs, r2⟩ := Dp.reads I (.tuple ds) y u he ry
  exact SeqAt.notIn_tuple_reads r2 r1 (SeqAt.canLay_of_shaped se) (SeqAt.canLay_of_shaped sd) (room_in_shaped sd hu) ⟨.bl _, H, I, rfl, q⟩
theorem inL_any (a : PV) (l : List PV) : (toDs l).any (fun z => PyData.eqv z (toD a)) = inL a l := by
  rw [toDs_map, List.any_map]
  rfl
theorem ob_in {K : PySem.W.Frag} : OpB K (rTwo (rInD K) (rTwo (rInT K false) (fun x y H Q => ∃ i j, x = .str i ∧ y = .str j ∧ Q (.bl (!(Builtin.Str.occurrences j i 0 j.length 1).isEmpty)) H))) pIn := by
  intro F H x y a b v Q s ra rb e q
  unfold pIn at e
  split at e
  · split at e
    · rename_i c
      cases e
      have h2 := RD.dp s c.2 rb
      simp only [toD] at h2 c
      exact .inl ⟨_, _, RD.dp s c.1 ra, h2, c.1, c.2, by rw [inL_any]; exact q⟩
    · cases e
  · split at e
    · rename_i c
      cases e
      have h2 := RD.dp s c.2 rb
      simp only [toD] at h2 c
      exact .inr (.inl ⟨_, _, RD.dp s c.1 ra, h2, c.1, c.2, by rw [inL_any]; exact q⟩)
    · cases e
  · cases e; cases ra.str; cases rb.str; exact .inr (.inr ⟨_, _, rfl, rfl, q⟩)
  · cases e
theorem ob_notIn {K : PySem.W.Frag} : OpB K (rTwo (rNotInD K) (rTwo (rInT K true) (fun x y H Q => ∃ i j, x = .str i ∧ y = .str j ∧ Q (.bl (!(!(Builtin.Str.occurrences j i 0 j.length 1).isEmpty))) H))) pNotIn := by
  intro F H x y a b v Q s ra rb e q
  unfold pNotIn pIn at e
  split at e
  · split at e
    · rename_i c
      cases e
      have h2 := RD.dp s c.2 rb
      simp only [toD] at h2 c
      exact .inl ⟨_, _, RD.dp s c.1 ra, h2, c.1, c.2, by rw [inL_any]; exact q⟩
    · cases e
  · split at e
    · rename_i c
      cases e
      have h2 := RD.dp s c.2 rb
      simp only [toD] at h2 c
      exact .inr (.inl ⟨_, _, RD.dp s c.1 ra, h2, c.1, c.2, by rw [inL_any]; exact q⟩)
    · cases e
  · cases e; cases ra.str; cases rb.str; exact .inr (.inr ⟨_, _, rfl, rfl, q⟩)
  · cases e
/-- the comparisons with their rules: a CmpR is what the rules pt_c, pe_c ask -/
structure CmpR (X : Cx) (op : CmpOp) (f : PV → PV → Option Bool) : Prop where
  ex : ∃ r, OpR X (compareOp op) r ∧ OpB X.K r f
theorem c_lt : CmpR X .Lt pLt := ⟨_, op_lt.or op_lt_str, ob_lt⟩
theorem c_le : CmpR X .LtE pLe := ⟨_, op_le.or op_le_str, ob_le⟩
theorem c_gt : CmpR X .Gt pGt := ⟨_, op_gt, ob_gt⟩
theorem c_ge : CmpR X .GtE pGe := ⟨_, op_ge, ob_ge⟩
theorem c_eq {k : Nat} (hr : Room k X.A) : CmpR X .Eq pEq := ⟨_, op_eqD hr.units, ob_eq⟩
theorem c_ne {k : Nat} (hr : Room k X.A) : CmpR X .NotEq pNe := ⟨_, op_neD hr.units, ob_ne⟩
theorem units65 {k : Nat} {A : Around} (hr : Room k A) : A.units + 65 < cLine := by have := hr.un; omega
theorem c_in {k : Nat} (hr : Room k X.A) : CmpR X .In pIn := ⟨_, (op_inD (units65 hr)).or ((op_inT (units65 hr)).or op_in_str), ob_in⟩
theorem c_notIn {k : Nat} (hr : Room k X.A) : CmpR X .NotIn pNotIn := ⟨_, (op_notInD (units65 hr)).or ((op_notInT (units65 hr)).or op_notin_str), ob_notIn⟩
theorem t_cmp {a b : Expr} {op : CmpOp} {f : PV → PV → Option Bool} {da db : Fm → R PV} {pos : Pos} (c : CmpR X op f) (ha : PE X a (xR X W da)) (hb : PE X b (xR X W db)) (hm : behindInMarks op b = false := by rfl) :
    PT X (.Compare a [op] [b] pos) (xT X W (d2 f da db)) := by
  obtain ⟨r, h1, h2⟩ := c.ex
  exact pt_cmpS h1 h2 ha hb hm
theorem v_cmp {a b : Expr} {op : CmpOp} {f : PV → PV → Option Bool} {da db : Fm → R PV} {pos : Pos} (c : CmpR X op f) (ha : PE X a (xR X W da)) (hb : PE X b (xR X W db)) (hm : behindInMarks op b = false := by rfl) :
    PE X (.Compare a [op] [b] pos) (xV X W (dBv (d2 f da db))) := by
  obtain ⟨r, h1, h2⟩ := c.ex
  exact pe_cmpB h1 h2 ha hb hm
theorem t_chain {a b c : Expr} {op op' : CmpOp} {f g : PV → PV → Option Bool} {da db dc : Fm → R PV} {pos : Pos} (c1 : CmpR X op f) (c2 : CmpR X op' g) (ha : PE X a (xR X W da)) (hb : PE X b (xR X W db)) (hc : PE X c (xR X W dc))
    (hm : lastMarks [op, op'] [b, c] = false := by with_unfolding_all rfl) : PT X (.Compare a [op, op'] [b, c] pos) (xT X W (dChain f g da db dc)) := by
  obtain ⟨r, h1, h2⟩ := c1.ex
  obtain ⟨r', h1', h2'⟩ := c2.ex
  exact pt_chainS h1 h2 h1' h2' ha hb hc hm
theorem v_chain {a b c : Expr} {op op' : CmpOp} {f g : PV → PV → Option Bool} {da db dc : Fm → R PV} {pos : Pos} (c1 : CmpR X op f) (c2 : CmpR X op' g) (ha : PE X a (xR X W da)) (hb : PE X b (xR X W db)) (hc : PE X c (xR X W dc))
    (hm : lastMarks [op, op'] [b, c] = false := by with_unfolding_all rfl) : PE X (.Compare a [op, op'] [b, c] pos) (xV X W (dBv (dChain f g da db dc))) := by
  obtain ⟨r, h1, h2⟩ := c1.ex
  obtain ⟨r', h1', h2'⟩ := c2.ex
  exact pe_chainS h1 h2 h1' h2' ha hb hc hm
/-- is None, is not None -/
def isNon : PV → Bool
  | .non => true
  | _ => false
theorem isNon_V {K : PySem.W.Frag} {F H : Hp} {d : PV} {v : V} (h : RD K F H d v) : decide (v = .non) = isNon d := by
  cases d with
  | non => cases h.non; rfl
  | bl _ => cases h.bl; rfl
  | int _ => cases h.int; rfl
  | str _ => cases h.str; rfl
  | tup _ => obtain ⟨a, xs, rfl, _⟩ := h.tup; rfl
  | lst _ => obtain ⟨a, xs, rfl, _⟩ := h.lst; rfl
  | scr _ => obtain ⟨a, rfl, _⟩ := h.scr; rfl
  | dct _ _ => obtain ⟨a, ws, rfl, _⟩ := h.dct; rfl
def pIsN (a : PV) : Option Bool := some (isNon a)
def pNotN (a : PV) : Option Bool := some (!isNon a)
theorem t_isN {a : Expr} {da : Fm → R PV} {j : Nat} {pos pos' : Pos} (ha : PE X a (xR X W da)) : PT X (.Compare a [.Is] [.Constant .none j pos'] pos) (xT X W (d1 pIsN da)) := PT.imp (pt_cmp (pc_isN ha)) fun σ H Q h => by
  refine seq1 stGT h fun F H x a env ok ra p => ?_
  exact ⟨_, by rw [isNon_V ra], bl_true p ok.s0⟩
theorem t_notN {a : Expr} {da : Fm → R PV} {j : Nat} {pos pos' : Pos} (ha : PE X a (xR X W da)) : PT X (.Compare a [.IsNot] [.Constant .none j pos'] pos) (xT X W (d1 pNotN da)) := PT.imp (pt_cmp (pc_notN ha)) fun σ H Q h => by
  refine seq1 stGT h fun F H x a env ok ra p => ?_
  exact ⟨_, by rw [isNon_V ra], bl_true p ok.s0⟩

/-! ### places and slices -/
def pIdx : PV → PV → Option PV
  | .lst l, .int i => atI l i
  | .tup l, .int i => atI l i
  | .scr l, .int i => (atI l i).map .int
  | .str z, .int i => if z.length ≤ sizeLine then (atI z.cps.toList i).map fun c => .str ⟨#[c]⟩ else none
  | _, _ => none
theorem RepL.atI {K : PySem.W.Frag} {F : Hp} {l : List PV} {xs : List V} {i : Int} {d : PV} (r : RepL K F l xs) (h : L2.atI l i = some d) : ∃ x, L2.atI xs i = some x ∧ Rep K F d x := by
  unfold L2.atI at h ⊢
  rw [r.len]
  cases q : ixN l.length i with
  | none => rw [q] at h; cases h
  | some j =>
    rw [q] at h
    exact r.get' h
theorem os_idx {K : PySem.W.Frag} : OpS K (rIx K) pIdx (GV K) := by
  intro F H x y a b v Q s ra rb e g
  unfold pIdx at e
  split at e
  · cases rb.int
    obtain ⟨a1, xs, rfl, q1, r1⟩ := ra.lst
    obtain ⟨z, e1, r2⟩ := r1.atI e
    exact .inl ⟨a1, xs, _, z, rfl, rfl, SqL.of q1, e1, gv_here g s r2⟩
  · cases rb.int
    obtain ⟨a1, xs, rfl, q1, r1⟩ := ra.tup
    obtain ⟨z, e1, r2⟩ := r1.atI e
    exact .inr (.inl ⟨a1, xs, _, z, rfl, rfl, sqT_mono s.same q1, e1, gv_here g s r2⟩)
  · cases rb.int
    obtain ⟨a1, rfl, q1⟩ := ra.scr
    rename_i l i
    cases q2 : L2.atI l i with
    | none => rw [q2] at e; cases e
    | some n =>
      rw [q2] at e
      cases e
      refine .inl ⟨a1, _, _, .int n, rfl, rfl, s.same.seq q1, ?_, gv_here g s (by simp only [Rep])⟩
      unfold L2.atI at q2 ⊢
      rw [List.length_map]
      cases q3 : ixN l.length i with
      | none => rw [q3] at q2; cases q2
      | some j =>
        rw [q3] at q2
        have q2' : l[j]? = some n := q2
        show (l.map V.int)[j]? = some (.int n)
        rw [List.getElem?_map, q2']
        rfl
  · cases rb.int
    cases ra.str
    split at e
    · rename_i z i c
      cases q2 : L2.atI z.cps.toList i with
      | none => rw [q2] at e; cases e
      | some n =>
        rw [q2] at e
        cases e
        exact .inr (.inr ⟨_, _, n, rfl, rfl, c, q2, gv_here g s (by simp only [Rep])⟩)
    · cases e
  · cases e
theorem v_idx {a b : Expr} {da db : Fm → R PV} {pos : Pos} (ha : PE X a (xR X W da)) (hb : PE X b (xR X W db)) (hs : PlainIx b := by exact fun _ _ => rfl) : PE X (.Subscript a b pos) (xV X W (d2 pIdx da db)) := pe_ixS ix_seq os_idx ha hb hs
def cutP {α : Type} (xs : List α) (lo hi : Option Int) : List α := (xs.drop (HT.sIx xs.length 0 lo)).take (HT.sIx xs.length xs.length hi - HT.sIx xs.length 0 lo)
theorem RepL.cut {K : PySem.W.Frag} {F : Hp} {l : List PV} {xs : List V} (r : RepL K F l xs) (lo hi : Option Int) : RepL K F (cutP l lo hi) (cutV xs lo hi) := by
  unfold cutP cutV
  rw [r.len]
  exact (r.drop _).take _
/-- a bound of a slice -/
def dNo : Fm → R (Option Int) := fun _ => .ok none
def dSo (d : Fm → R PV) : Fm → R (Option Int) := fun env => (d env).bind fun v => match v with
  | .int i => .ok (some i)
  | _ => .bad
def GO (F H : Hp) (Q : Option Int → Hp → Prop) (b : Option Int) : Prop := ∀ F' H', Step F H F' H' → Q b H'
def xO (X : Cx) (W : WX) (d : Fm → R (Option Int)) : TO := fun σ H Q => ∃ F env, FmOk X.K F H σ env ∧ RP (d env) (GO F H Q) (GX X.K X.mg F H σ W)
theorem o_no : PO X none (xO X W dNo) := ⟨fun pins s σ H Q I ⟨F, env, ok, p⟩ => po_none.run pins s σ H Q I (p F H (Step.refl ok.s0))⟩
theorem o_so {e : Expr} {d : Fm → R PV} (h : PE X e (xV X W d)) : PO X (some e) (xO X W (dSo d)) := ⟨fun pins s σ H Q I ⟨F, env, ok, p⟩ => (po_some h).run pins s σ H Q I (by
  refine ⟨F, env, ok, ?_⟩
  unfold dSo at p
  cases q : d env with
  | ok v =>
    rw [q] at p
    intro x F' H' st r
    cases v with
    | int i => simp only [Rep] at r; exact ⟨i, r, p F' H' st⟩
    | non => exact p.elim
    | bl _ => exact p.elim
    | str _ => exact p.elim
    | tup _ => exact p.elim
    | lst _ => exact p.elim
    | scr _ => exact p.elim
    | dct _ _ => exact p.elim
  | ex e => rw [q] at p; exact p
  | bad => rw [q] at p; exact p)⟩
def dSl {α : Type} (f : PV → Option Int → Option Int → Option α) (da : Fm → R PV) (dl dh : Fm → R (Option Int)) : Fm → R α := fun env => (da env).bind fun x => (dl env).bind fun l => (dh env).bind fun h => ofO (f x l h)
def pSl : PV → Option Int → Option Int → Option PV
  | .str z, lo, hi => if z.length ≤ sizeLine then some (.str (cutS z lo hi)) else none
  | .tup l, lo, hi => some (.tup (cutP l lo hi))
  | _, _, _ => none
def fSl : PV → Option Int → Option Int → Option (List PV)
  | .lst l, lo, hi => some (cutP l lo hi)
  | _, _, _ => none
theorem seqSl {α : Type} {G : Hp → Hp → VK → α → Prop} {da : Fm → R PV} {dl dh : Fm → R (Option Int)} {f : PV → Option Int → Option Int → Option α} {σ : L2.St} {H : Hp} {Q : VK} {r : V → Option Int → Option Int → Hp → Prop} (sG : Stays G)
    (h : tG X.K X.mg W G (dSl f da dl dh) σ H Q)
    (hr : ∀ F H x a l u v, Fz F H → RD X.K F H a x → f a l u = some v → G F H Q v → r x l u H) :
    xR X W da σ H fun x H1 => xO X W dl σ H1 fun l H2 => xO X W dh σ H2 fun u H3 => r x l u H3 := by
  obtain ⟨F, env, ok, p⟩ := h
  refine ⟨F, env, ok, ?_⟩
  unfold dSl at p
  cases q : da env with
  | ok v =>
    rw [q] at p
    intro x F1 H1 st1 rx
    refine ⟨F1, env, ok.step st1, ?_⟩
    simp only [R.bind_ok] at p
    cases q1 : dl env with
    | ok l =>
      rw [q1] at p
      intro F2 H2 st2
      refine ⟨F2, env, (ok.step st1).step st2, ?_⟩
      simp only [R.bind_ok] at p
      cases q2 : dh env with
      | ok u =>
        rw [q2] at p
        intro F3 H3 st3
        simp only [R.bind_ok] at p
        cases q3 : f v l u with
        | none => rw [q3] at p; exact p.elim
        | some z => rw [q3] at p; exact hr F3 H3 x v l u z st3.s2 ((rx.step st2).step st3) q3 (sG.up _ _ _ _ _ _ p ((st1.trans st2).trans st3))
      | ex e => rw [q2] at p; exact GX.step (GX.step p st1) st2
      | bad => rw [q2] at p; exact p
    | ex e => rw [q1] at p; exact GX.step p st1
    | bad => rw [q1] at p; exact p
  | ex e => rw [q] at p; exact p
  | bad => rw [q] at p; exact p
theorem v_slice {e : Expr} {lo hi : Option Expr} {da : Fm → R PV} {dl dh : Fm → R (Option Int)} {pos p2 : Pos} (ha : PE X e (xR X W da)) (hl : PO X lo (xO X W dl)) (hh : PO X hi (xO X W dh)) : PE X (.Subscript e (.Slice lo hi none p2) pos) (xV X W (dSl pSl da dl dh)) :=
  PE.imp (pe_slice (sl_str.or sl_tupA) ha hl hh) fun σ H Q h => by
    refine seqSl stGV h fun F H x a l u v s ra e g => ?_
    unfold pSl at e
    split at e
    · split at e
      · rename_i c
        cases e
        cases ra.str
        exact .inl ⟨_, rfl, c, gv_here g s (by simp only [Rep])⟩
      · cases e
    · cases e
      obtain ⟨a1, xs, rfl, q1, r1⟩ := ra.tup
      refine .inr ⟨a1, xs, rfl, sqT_mono s.same q1, fun z => ?_, fun z p hp => ?_⟩
      · refine gv_here g s (repTup q1 ?_)
        have h0 := r1.cut l u
        have e0 : cutV xs l u = xs := by
          unfold cutV
          rw [z.1, z.2, List.drop_zero, Nat.sub_zero]
          exact List.take_length
        rw [e0] at h0
        exact h0
      · exact g _ _ _ (Step.frz s hp) (repNew s hp (r1.cut l u))
    · cases e
theorem f_slice {e : Expr} {lo hi : Option Expr} {da : Fm → R PV} {dl dh : Fm → R (Option Int)} {pos p2 : Pos} (ha : PE X e (xR X W da)) (hl : PO X lo (xO X W dl)) (hh : PO X hi (xO X W dh)) : PE X (.Subscript e (.Slice lo hi none p2) pos) (xF X W (dSl fSl da dl dh)) :=
  PE.imp (pe_slice sl_list ha hl hh) fun σ H Q h => by
    refine seqSl stGF h fun F H x a l u v s ra e g => ?_
    unfold fSl at e
    split at e
    · cases e
      obtain ⟨a1, xs, rfl, q1, r1⟩ := ra.lst
      exact ⟨a1, xs, rfl, SqL.of q1, fun p hp => g p _ F _ (Step.new s hp) (.of hp) (s.free hp) upd_same (r1.cut l u)⟩
    · cases e

/-! ### built-ins -/
def pLen : List PV → Option PV
  | [.lst l] => some (.int l.length)
  | [.tup l] => some (.int l.length)
  | [.scr l] => some (.int l.length)
  | [.str z] => if z.length ≤ sizeLine then some (.int z.length) else none
  | _ => none
theorem cs_len {K : PySem.W.Frag} : CaS K (fun xs H Q => (∃ p ys, xs = [.ref p] ∧ (SqL K H p ys ∨ SqT K H p ys) ∧ Q (.int ys.length) H) ∨ (∃ z, xs = [.str z] ∧ z.length ≤ sizeLine ∧ Q (.int z.length) H)) pLen (GV K) := by
  intro F H xs ds v Q s r e g
  unfold pLen at e
  split at e
  · cases e
    obtain ⟨x, rfl, rx⟩ := r.one
    obtain ⟨a1, ys, rfl, q1, r1⟩ := rx.lst
    exact .inl ⟨a1, ys, rfl, .inl (SqL.of q1), gv_here g s (by simp only [Rep, r1.len])⟩
  · cases e
    obtain ⟨x, rfl, rx⟩ := r.one
    obtain ⟨a1, ys, rfl, q1, r1⟩ := rx.tup
    exact .inl ⟨a1, ys, rfl, .inr (sqT_mono s.same q1), gv_here g s (by simp only [Rep, r1.len])⟩
  · cases e
    obtain ⟨x, rfl, rx⟩ := r.one
    obtain ⟨a1, rfl, q1⟩ := rx.scr
    exact .inl ⟨a1, _, rfl, .inl (s.same.seq q1), gv_here g s (by simp only [Rep, List.length_map])⟩
  · split at e
    · rename_i c
      cases e
      obtain ⟨x, rfl, rx⟩ := r.one
      cases rx.str
      exact .inr ⟨_, rfl, c, gv_here g s (by simp only [Rep])⟩
    · cases e
  · cases e
theorem v_len {e : Expr} {es : List Expr} {d : Fm → R (List PV)} {p pos : Pos} (hm : X.mg "len" = none) (ha : PA X (e :: es) (xRL X W d)) (hg : Gl X "len" := by rfl) (he : starEach (e :: es) X.env = (false, eval e X.env) :: starEach es X.env := by rfl) (hpl : (backTo pos (starEach es X.env)).any (·.1) = false := by rfl) :
    PE X (.Call (.Name "len" p) (e :: es) [] pos) (xV X W (dCall (fun ds => ofO (pLen ds)) d)) := pe_callBS (call_len_seq.or call_len_str) cs_len stGV hg hm PySem.boot_len ha (by decide) (by decide) he hpl
def pAbs : List PV → Option PV
  | [.int i] => some (.int (if i < 0 then -i else i))
  | _ => none
theorem v_abs {e : Expr} {es : List Expr} {d : Fm → R (List PV)} {p pos : Pos} (hm : X.mg "abs" = none) (ha : PA X (e :: es) (xRL X W d)) (hg : Gl X "abs" := by rfl) (he : starEach (e :: es) X.env = (false, eval e X.env) :: starEach es X.env := by rfl) (hpl : (backTo pos (starEach es X.env)).any (·.1) = false := by rfl) :
    PE X (.Call (.Name "abs" p) (e :: es) [] pos) (xV X W (dCall (fun ds => ofO (pAbs ds)) d)) := pe_callBS call_abs (by
      intro F H xs ds v Q s r e g
      unfold pAbs at e
      split at e
      · cases e
        obtain ⟨x, rfl, rx⟩ := r.one
        cases rx.int
        exact ⟨_, rfl, gv_here g s (by simp only [Rep])⟩
      · cases e) stGV hg hm PyProof.Rows.boot_abs ha (by decide) (by decide) he hpl
def pMin2 : List PV → Option PV
  | [.int i, .int j] => some (.int (if j < i then j else i))
  | _ => none
def pMax2 : List PV → Option PV
  | [.int i, .int j] => some (.int (if j > i then j else i))
  | _ => none
theorem v_min2 {e : Expr} {es : List Expr} {d : Fm → R (List PV)} {p pos : Pos} (hc : X.calm = true) (hm : X.mg "min" = none) (ha : PA X (e :: es) (xRL X W d)) (hg : Gl X "min" := by rfl) (he : starEach (e :: es) X.env = (false, eval e X.env) :: starEach es X.env := by rfl) (hpl : (backTo pos (starEach es X.env)).any (·.1) = false := by rfl) :
    PE X (.Call (.Name "min" p) (e :: es) [] pos) (xV X W (dCall (fun ds => ofO (pMin2 ds)) d)) := pe_callBS (call_min2 hc) (by
      intro F H xs ds v Q s r e g
      unfold pMin2 at e
      split at e
      · cases e
        obtain ⟨x, y, rfl, rx, ry⟩ := r.two
        cases rx.int
        cases ry.int
        exact ⟨_, _, rfl, gv_here g s (by simp only [Rep])⟩
      · cases e) stGV hg hm (by decide +kernel) ha (by decide) (by decide) he hpl
theorem v_max2 {e : Expr} {es : List Expr} {d : Fm → R (List PV)} {p pos : Pos} (hc : X.calm = true) (hm : X.mg "max" = none) (ha : PA X (e :: es) (xRL X W d)) (hg : Gl X "max" := by rfl) (he : starEach (e :: es) X.env = (false, eval e X.env) :: starEach es X.env := by rfl) (hpl : (backTo pos (starEach es X.env)).any (·.1) = false := by rfl) :
    PE X (.Call (.Name "max" p) (e :: es) [] pos) (xV X W (dCall (fun ds => ofO (pMax2 ds)) d)) := pe_callBS (call_max2 hc) (by
      intro F H xs ds v Q s r e g
      unfold pMax2 at e
      split at e
      · cases e
        obtain ⟨x, y, rfl, rx, ry⟩ := r.two
        cases rx.int
        cases ry.int
        exact ⟨_, _, rfl, gv_here g s (by simp only [Rep])⟩
      · cases e) stGV hg hm (by decide +kernel) ha (by decide) (by decide) he hpl
def pOrd : List PV → Option PV
  | [.str x] => if x.length = 1 then some (.int (x.cps.getD 0 0 : Nat)) else none
  | _ => none
theorem v_ord {e : Expr} {es : List Expr} {d : Fm → R (List PV)} {p pos : Pos} (hm : X.mg "ord" = none) (ha : PA X (e :: es) (xRL X W d)) (hg : Gl X "ord" := by rfl) (he : starEach (e :: es) X.env = (false, eval e X.env) :: starEach es X.env := by rfl) (hpl : (backTo pos (starEach es X.env)).any (·.1) = false := by rfl) :
    PE X (.Call (.Name "ord" p) (e :: es) [] pos) (xV X W (dCall (fun ds => ofO (pOrd ds)) d)) := pe_callBS call_ord (by
      intro F H xs ds v Q s r e g
      unfold pOrd at e
      split at e
      · split at e
        · rename_i c
          cases e
          obtain ⟨x, rfl, rx⟩ := r.one
          cases rx.str
          exact ⟨_, rfl, c, gv_here g s (by simp only [Rep])⟩
        · cases e
      · cases e) stGV hg hm (by decide +kernel) ha (by decide) (by decide) he hpl
def pInt1 : List PV → Option PV
  | [.int i] => some (.int i)
  | [.bl k] => some (.int (if k then 1 else 0))
  | _ => none
theorem v_int1 {e : Expr} {es : List Expr} {d : Fm → R (List PV)} {p pos : Pos} (hm : X.mg "int" = none) (ha : PA X (e :: es) (xRL X W d)) (hg : Gl X "int" := by rfl) (he : starEach (e :: es) X.env = (false, eval e X.env) :: starEach es X.env := by rfl) (hpl : (backTo pos (starEach es X.env)).any (·.1) = false := by rfl) :
    PE X (.Call (.Name "int" p) (e :: es) [] pos) (xV X W (dCall (fun ds => ofO (pInt1 ds)) d)) := pe_callTS call_int1 (by
      intro F H xs ds v Q s r e g
      unfold pInt1 at e
      split at e
      · cases e
        obtain ⟨x, rfl, rx⟩ := r.one
        cases rx.int
        exact .inl ⟨_, rfl, gv_here g s (by simp only [Rep])⟩
      · cases e
        obtain ⟨x, rfl, rx⟩ := r.one
        cases rx.bl
        exact .inr ⟨_, rfl, gv_here g s (by simp only [Rep])⟩
      · cases e) stGV hg hm (by decide +kernel) ha (by decide) (by decide) he hpl
/-- lists of one kind -/
def intsOf : List PV → Option (List Int)
  | [] => some []
  | .int i :: r => (intsOf r).map (i :: ·)
  | _ :: _ => none
def blsOf : List PV → Option (List Bool)
  | [] => some []
  | .bl i :: r => (blsOf r).map (i :: ·)
  | _ :: _ => none
def strsOf : List PV → Option (List Str)
  | [] => some []
  | .str i :: r => (strsOf r).map (i :: ·)
  | _ :: _ => none
theorem intsOf_rep {K : PySem.W.Frag} {F : Hp} : ∀ {l : List PV} {xs : List V} {ns : List Int}, RepL K F l xs → intsOf l = some ns → xs = ns.map V.int
  | [], xs, ns, r, e => by simp only [RepL] at r; subst r; cases e; rfl
  | .int i :: l, xs, ns, r, e => by
    simp only [RepL, Rep] at r
    obtain ⟨x, t, rfl, rfl, r2⟩ := r
    simp only [intsOf] at e
    cases q : intsOf l with
    | none => rw [q] at e; cases e
    | some m => rw [q] at e; cases e; rw [intsOf_rep r2 q]; rfl
  | .non :: _, _, _, _, e => by cases e
  | .bl _ :: _, _, _, _, e => by cases e
  | .str _ :: _, _, _, _, e => by cases e
  | .tup _ :: _, _, _, _, e => by cases e
  | .lst _ :: _, _, _, _, e => by cases e
  | .scr _ :: _, _, _, _, e => by cases e
theorem blsOf_rep {K : PySem.W.Frag} {F : Hp} : ∀ {l : List PV} {xs : List V} {ns : List Bool}, RepL K F l xs → blsOf l = some ns → xs = ns.map V.bl
  | [], xs, ns, r, e => by simp only [RepL] at r; subst r; cases e; rfl
  | .bl i :: l, xs, ns, r, e => by
    simp only [RepL, Rep] at r
    obtain ⟨x, t, rfl, rfl, r2⟩ := r
    simp only [blsOf] at e
    cases q : blsOf l with
    | none => rw [q] at e; cases e
    | some m => rw [q] at e; cases e; rw [blsOf_rep r2 q]; rfl
  | .non :: _, _, _, _, e => by cases e
  | .int _ :: _, _, _, _, e => by cases e
  | .str _ :: _, _, _, _, e => by cases e
  | .tup _ :: _, _, _, _, e => by cases e
  | .lst _ :: _, _, _, _, e => by cases e
  | .scr _ :: _, _, _, _, e => by cases e
theorem strsOf_rep {K : PySem.W.Frag} {F : Hp} : ∀ {l : List PV} {xs : List V} {ns : List Str}, RepL K F l xs → strsOf l = some ns → xs = ns.map V.str
  | [], xs, ns, r, e => by simp only [RepL] at r; subst r; cases e; rfl
  | .str i :: l, xs, ns, r, e => by
    simp only [RepL, Rep] at r
    obtain ⟨x, t, rfl, rfl, r2⟩ := r
    simp only [strsOf] at e
    cases q : strsOf l with
    | none => rw [q] at e; cases e
    | some m => rw [q] at e; cases e; rw [strsOf_rep r2 q]; rfl
  | .non :: _, _, _, _, e => by cases e
  | .int _ :: _, _, _, _, e => by cases e
  | .bl _ :: _, _, _, _, e => by cases e
  | .tup _ :: _, _, _, _, e => by cases e
  | .lst _ :: _, _, _, _, e => by cases e
  | .scr _ :: _, _, _, _, e => by cases e
def pSum : List PV → Option PV
  | [.lst l] => (intsOf l).map fun ns => .int ns.sum
  | _ => none
def pAll : List PV → Option PV
  | [.lst l] => (blsOf l).map fun ns => .bl (ns.all id)
  | _ => none
def pAny : List PV → Option PV
  | [.lst l] => (blsOf l).map fun ns => .bl (ns.any id)
  | _ => none
theorem v_sum {e : Expr} {es : List Expr} {d : Fm → R (List PV)} {p pos : Pos} (hc : X.calm = true) (hm : X.mg "sum" = none) (ha : PA X (e :: es) (xRL X W d)) (hg : Gl X "sum" := by rfl) (he : starEach (e :: es) X.env = (false, eval e X.env) :: starEach es X.env := by rfl) (hpl : (backTo pos (starEach es X.env)).any (·.1) = false := by rfl) :
    PE X (.Call (.Name "sum" p) (e :: es) [] pos) (xV X W (dCall (fun ds => ofO (pSum ds)) d)) := pe_callBS (cr_sum hc) (by
      intro F H xs ds v Q s r e g
      unfold pSum at e
      split at e
      · rename_i l
        cases q : intsOf l with
        | none => rw [q] at e; cases e
        | some ns =>
          rw [q] at e
          cases e
          obtain ⟨x, rfl, rx⟩ := r.one
          obtain ⟨a1, ys, rfl, q1, r1⟩ := rx.lst
          have e2 := intsOf_rep r1 q
          subst e2
          exact ⟨a1, ns, rfl, SqL.of q1, gv_here g s (by simp only [Rep])⟩
      · cases e) stGV hg hm (by decide +kernel) ha (by decide) (by decide) he hpl
theorem v_all {e : Expr} {es : List Expr} {d : Fm → R (List PV)} {p pos : Pos} (hc : X.calm = true) (hm : X.mg "all" = none) (ha : PA X (e :: es) (xRL X W d)) (hg : Gl X "all" := by rfl) (he : starEach (e :: es) X.env = (false, eval e X.env) :: starEach es X.env := by rfl) (hpl : (backTo pos (starEach es X.env)).any (·.1) = false := by rfl) :
    PE X (.Call (.Name "all" p) (e :: es) [] pos) (xV X W (dCall (fun ds => ofO (pAll ds)) d)) := pe_callBS (cr_all hc) (by
      intro F H xs ds v Q s r e g
      unfold pAll at e
      split at e
      · rename_i l
        cases q : blsOf l with
        | none => rw [q] at e; cases e
        | some ns =>
          rw [q] at e
          cases e
          obtain ⟨x, rfl, rx⟩ := r.one
          obtain ⟨a1, ys, rfl, q1, r1⟩ := rx.lst
          have e2 := blsOf_rep r1 q
          subst e2
          exact ⟨a1, ns, rfl, SqL.of q1, gv_here g s (by simp only [Rep])⟩
      · cases e) stGV hg hm (by decide +kernel) ha (by decide) (by decide) he hpl
theorem v_any {e : Expr} {es : List Expr} {d : Fm → R (List PV)} {p pos : Pos} (hc : X.calm = true) (hm : X.mg "any" = none) (ha : PA X (e :: es) (xRL X W d)) (hg : Gl X "any" := by rfl) (he : starEach (e :: es) X.env = (false, eval e X.env) :: starEach es X.env := by rfl) (hpl : (backTo pos (starEach es X.env)).any (·.1) = false := by rfl) :
    PE X (.Call (.Name "any" p) (e :: es) [] pos) (xV X W (dCall (fun ds => ofO (pAny ds)) d)) := pe_callBS (cr_any hc) (by
      intro F H xs ds v Q s r e g
      unfold pAny at e
      split at e
      · rename_i l
        cases q : blsOf l with
        | none => rw [q] at e; cases e
        | some ns =>
          rw [q] at e
          cases e
          obtain ⟨x, rfl, rx⟩ := r.one
          obtain ⟨a1, ys, rfl, q1, r1⟩ := rx.lst
          have e2 := blsOf_rep r1 q
          subst e2
          exact ⟨a1, ns, rfl, SqL.of q1, gv_here g s (by simp only [Rep])⟩
      · cases e) stGV hg hm (by decide +kernel) ha (by decide) (by decide) he hpl
def pTuple : List PV → Option PV
  | [.lst l] => some (.tup l)
  | _ => none
theorem v_tuple {e : Expr} {es : List Expr} {d : Fm → R (List PV)} {p pos : Pos} (hm : X.mg "tuple" = none) (ha : PA X (e :: es) (xRL X W d)) (hg : Gl X "tuple" := by rfl) (he : starEach (e :: es) X.env = (false, eval e X.env) :: starEach es X.env := by rfl) (hpl : (backTo pos (starEach es X.env)).any (·.1) = false := by rfl) :
    PE X (.Call (.Name "tuple" p) (e :: es) [] pos) (xV X W (dCall (fun ds => ofO (pTuple ds)) d)) := pe_callTS call_tuple_of (by
      intro F H xs ds v Q s r e g
      unfold pTuple at e
      split at e
      · cases e
        obtain ⟨x, rfl, rx⟩ := r.one
        obtain ⟨a1, ys, rfl, q1, r1⟩ := rx.lst
        exact ⟨a1, ys, rfl, .inl ⟨SqL.of q1, fun l hl => g _ _ _ (Step.frz s hl) (repNew s hl r1)⟩⟩
      · cases e) stGV hg hm (by decide +kernel) ha (by decide) (by decide) he hpl
/-- isinstance(e, T), T a built-in type -/
def kindOf : PV → String
  | .non => "NoneType"
  | .bl _ => "bool"
  | .int _ => "int"
  | .str _ => "str"
  | .tup _ => "tuple"
  | .lst _ => "list"
  | .scr _ => "list"
  | .dct _ _ => "dict"
theorem tyX_of {K : PySem.W.Frag} {F H : Hp} {d : PV} {v : V} (s : Fz F H) (h : RD K F H d v) : TyX K H v (.type (kindOf d)) := by
  cases d with
  | non => cases h.non; exact .base .non
  | bl b => cases h.bl; exact .base (.bl b)
  | int i => cases h.int; exact .base (.int i)
  | str x => cases h.str; exact .base (.str x)
  | tup l =>
    obtain ⟨a, xs, rfl, q, _⟩ := h.tup
    rcases sqT_mono s.same q with (q | ⟨o, q⟩) | ⟨o, its, n, h1, h2, _⟩
    · exact .base (.tup q)
    · exact .fTuple q
    · exact .kTuple h1 h2
  | lst l => obtain ⟨a, xs, rfl, q, _⟩ := h.lst; exact .base (.lst q)
  | scr l =>
    obtain ⟨a, rfl, q⟩ := h.scr
    rcases s.same.seq q with (q | ⟨o, q⟩) | ⟨o, its, n, h1, h2, _⟩
    · exact .base (.lst q)
    · exact .base (.frz q)
    · exact .kList h1 h2
  | dct ks vs =>
    obtain ⟨a, ws, rfl, q, _⟩ := h.dct
    exact .base (.dK (s.up q))
def pIsi (T : String) (a : PV) : Option PV := (kitB (kindOf a) T).map .bl
theorem v_isi {e : Expr} {da : Fm → R PV} {T : String} {x : Str} {p p2 pos : Pos} (hm : X.mg "isinstance" = none) (ha : PE X e (xR X W da)) (gT : Gl X x) (mT : X.mg x = none) (bT : bootBuiltins x = some (.type T)) (hg : Gl X "isinstance" := by rfl)
    (hn : x ≠ "__name__" := by decide) (hd : (x == ("__debug__" : Str)) = false := by decide)
    (hs : starEach [e, .Name x p2] X.env = (false, eval e X.env) :: starEach [.Name x p2] X.env := by rfl) (hs2 : starEach [.Name x p2] X.env = (false, eval (.Name x p2) X.env) :: starEach [] X.env := by rfl)
    (hpl : (backTo pos (starEach [.Name x p2] X.env)).any (·.1) = false := by rfl) :
    PE X (.Call (.Name "isinstance" p) [e, .Name x p2] [] pos) (xV X W (d1 (pIsi T) da)) := by
  have h2 : PE X (.Name x p2) (tC (.ty T)) := pe_bltn (v := .ty T) gT mT bT rfl hn hd
  refine PE.imp (pe_callB call_isi hg hm (by decide +kernel) (pa_cons ha (pa_cons h2 pa_nil hs2) hs) (by decide) (by decide) hs hpl) fun σ H Q h => ?_
  refine seq1 stGV h fun F H x a env ok ra p => ?_
  unfold pIsi at p
  cases q : kitB (kindOf a) T with
  | none => rw [q] at p; exact p.elim
  | some b =>
    rw [q] at p
    exact ⟨x, .ty T, _, _, b, rfl, .ty T, tyX_of ok.s0 ra, kit_ty q, gv_here p ok.s0 (by simp only [Rep])⟩
/-- sep.join(list) -/
def pJoin (a : Str) : PV → Option PV
  | .lst l => (strsOf l).bind fun ys => if (ys.map (·.length)).sum + ys.length * a.length ≤ 16777216 then some (.str (Txt.join a ys)) else none
  | _ => none
def dJoin (da db : Fm → R PV) : Fm → R PV := fun env => (da env).bind fun x => match x with
  | .str a => (db env).bind fun y => ofO (pJoin a y)
  | _ => .bad
theorem v_join {o e : Expr} {da db : Fm → R PV} {apos pos : Pos} (ho : PE X o (xR X W da)) (he : PE X e (xR X W db)) (hs : starEach [e] X.env = [(false, eval e X.env)] := by rfl) (hbase : attributeBase o "join" X.env (eval o X.env) = eval o X.env := by rfl) (hline : (apos.endLine == pos.line) = true := by rfl) :
    PE X (.Call (.Attribute o "join" apos) [e] [] pos) (xV X W (dJoin da db)) := PE.imp (pe_join ho he hs hbase hline) fun σ H Q h => by
  refine seq1 stGV h fun F H x a env ok ra p => ?_
  cases a with
  | str a =>
    cases ra.str
    refine ⟨⟨a, rfl⟩, seq1 (f := fun _ y => ofO (pJoin a y)) stGV ⟨F, env, ok, p⟩ fun F H y b env ok rb p => ?_⟩
    cases b with
    | lst l =>
      obtain ⟨a1, ys, rfl, h1, r1⟩ := rb.lst
      simp only [pJoin] at p
      cases q3 : strsOf l with
      | none => rw [q3] at p; exact p.elim
      | some zs =>
        rw [q3] at p
        simp only [Option.bind_some] at p
        by_cases c : (zs.map (·.length)).sum + zs.length * a.length ≤ 16777216
        · rw [if_pos c] at p
          have e2 := strsOf_rep r1 q3
          subst e2
          exact ⟨a, a1, zs, rfl, rfl, .inl (SqL.of h1), c, gv_here p ok.s0 (by simp only [Rep])⟩
        · rw [if_neg c] at p; exact p.elim
    | non => exact p.elim
    | bl _ => exact p.elim
    | int _ => exact p.elim
    | str _ => exact p.elim
    | tup _ => exact p.elim
    | scr _ => exact p.elim
    | dct _ _ => exact p.elim
  | non => exact p.elim
  | bl _ => exact p.elim
  | int _ => exact p.elim
  | tup _ => exact p.elim
  | lst _ => exact p.elim
  | scr _ => exact p.elim
  | dct _ _ => exact p.elim
end
end Pv

set_option Elab.async false
set_option linter.all false
set_option maxRecDepth 100000
set_option maxHeartbeats 2000000
/-! PvD: what is walked, comprehensions, statements, defs. -/
namespace Pv
open PySem PySem.Spec PyProof.Rows L2
variable [TabCx]

/-! ### what is walked -/
def WalksR (K : PySem.W.Frag) (F H : Hp) (J : It) (ds : List PV) : Prop := ∀ F' H', Step F H F' H' → (∀ i d, ds[i]? = some d → J.go i H' ∧ ∀ x H2, J.yld i H' x H2 → ∃ F2, Step F' H' F2 H2 ∧ Rep K F2 d x) ∧ J.stop ds.length H'
def Walks (K : PySem.W.Frag) (F : Hp) (J : It) (ds : List PV) : Prop := ∀ F' H', Same F F' → Fz F' H' → (∀ i d, ds[i]? = some d → J.go i H' ∧ ∀ x H2, J.yld i H' x H2 → ∃ F2, Step F' H' F2 H2 ∧ Rep K F2 d x) ∧ J.stop ds.length H'
theorem Walks.r {K : PySem.W.Frag} {F H : Hp} {J : It} {ds : List PV} (h : Walks K F J ds) : WalksR K F H J ds := fun F' H' st => h F' H' st.s1 st.s2
def GI (K : PySem.W.Frag) (F H : Hp) (R : It → Hp → Prop) (ds : List PV) : Prop := ∀ J F' H', Step F H F' H' → Walks K F' J ds → R J H'
def GIR (K : PySem.W.Frag) (F H : Hp) (R : It → Hp → Prop) (ds : List PV) : Prop := ∀ J F' H', Step F H F' H' → WalksR K F' H' J ds → R J H'
def tI (K : PySem.W.Frag) (mg : Str → Option Value) (W : WX) (G : Hp → Hp → (It → Hp → Prop) → List PV → Prop) (d : Fm → R (List PV)) : TI := fun σ H R => ∃ F env, FmOk K F H σ env ∧ RP (d env) (G F H R) (GX K mg F H σ W)
abbrev xI (X : Cx) (W : WX) (d : Fm → R (List PV)) : TI := tI X.K X.mg W (GI X.K) d
abbrev xIR (X : Cx) (W : WX) (d : Fm → R (List PV)) : TI := tI X.K X.mg W (GIR X.K) d
theorem PI.imp {X : Cx} {tg iter : Expr} {t t' : TI} (h : PI X tg iter t) (i : ∀ σ H R, t' σ H R → t σ H R) : PI X tg iter t' := ⟨fun pins s σ H R I q => h.run pins s σ H R I (i σ H R q)⟩
section
variable {X : Cx} {W : WX} {tg : Expr}
theorem iR {iter : Expr} {d : Fm → R (List PV)} (h : PI X tg iter (xI X W d)) : PI X tg iter (xIR X W d) := PI.imp h fun σ H R ⟨F, env, ok, p⟩ => by
  refine ⟨F, env, ok, ?_⟩
  cases q : d env with
  | ok v => rw [q] at p; exact fun J F' H' st w => p J F' H' st w.r
  | ex e => rw [q] at p; exact p
  | bad => rw [q] at p; exact p
/-- the items of a list, a tuple, a text -/
def lstIt : PV → Option (List PV)
  | .lst l => some l
  | _ => none
def tupIt : PV → Option (List PV)
  | .tup l => some l
  | _ => none
def chr1 (c : Nat) : PV := .str ⟨#[c]⟩
def strIt : PV → Option (List PV)
  | .str x => some (x.cps.toList.map chr1)
  | _ => none
theorem walks_lst {K : PySem.W.Frag} {F : Hp} {a : Addr} {xs : List V} {l : List PV} (h : F a = some (.lst xs)) (r : RepL K F l xs) : Walks K F (Itl K a) l := by
  intro F' H' s1 s2
  have h2 : SqL K H' a xs := SqL.of (s2.same _ _ (s1 _ _ h))
  refine ⟨fun i d e => ?_, xs, h2, by rw [r.len]; exact Nat.le_refl _⟩
  obtain ⟨x, e1, r1⟩ := r.get' e
  refine ⟨⟨xs, x, h2, e1⟩, fun y H2 ⟨e2, e3⟩ => ?_⟩
  subst e2
  have e4 := e3 xs h2
  rw [e1] at e4
  cases e4
  exact ⟨F', Step.refl s2, r1.mono s1⟩
theorem walksR_lst {K : PySem.W.Frag} {F H : Hp} {a : Addr} {xs : List V} {l : List PV} (h : H a = some (.lst xs)) (r : RepL K F l xs) : WalksR K F H (Itl K a) l := by
  intro F' H' st
  have h2 : SqL K H' a xs := SqL.of (st.old h)
  refine ⟨fun i d e => ?_, xs, h2, by rw [r.len]; exact Nat.le_refl _⟩
  obtain ⟨x, e1, r1⟩ := r.get' e
  refine ⟨⟨xs, x, h2, e1⟩, fun y H2 ⟨e2, e3⟩ => ?_⟩
  subst e2
  have e4 := e3 xs h2
  rw [e1] at e4
  cases e4
  exact ⟨F', Step.refl st.s2, r1.mono st.s1⟩
theorem walks_tup {K : PySem.W.Frag} {F : Hp} {a : Addr} {xs : List V} {l : List PV} (h : SqT K F a xs) (r : RepL K F l xs) : Walks K F (Itt K a) l := by
  intro F' H' s1 s2
  have h2 : SqT K H' a xs := sqT_mono s2.same (sqT_mono s1 h)
  refine ⟨fun i d e => ?_, xs, h2, by rw [r.len]; exact Nat.le_refl _⟩
  obtain ⟨x, e1, r1⟩ := r.get' e
  refine ⟨⟨xs, x, h2, e1⟩, fun y H2 ⟨e2, e3⟩ => ?_⟩
  subst e2
  have e4 := e3 xs h2
  rw [e1] at e4
  cases e4
  exact ⟨F', Step.refl s2, r1.mono s1⟩
theorem walks_str {K : PySem.W.Frag} {F : Hp} (x : Str) : Walks K F (Its x) (x.cps.toList.map chr1) := by
  intro F' H' s1 s2
  refine ⟨fun i d e => ?_, ?_⟩
  · rw [List.getElem?_map] at e
    cases q : x.cps.toList[i]? with
    | none => rw [q] at e; cases e
    | some c =>
      rw [q] at e
      cases e
      have hi : i < x.cps.size := by
        have := (List.getElem?_eq_some_iff.mp q).1
        simpa using this
      refine ⟨hi, fun y H2 ⟨e2, c', e3, e4⟩ => ?_⟩
      subst e2 e4
      have e5 : c' = c := by
        have q' : x.cps[i]? = some c := by simpa using q
        rw [e3] at q'
        exact Option.some.inj q'
      subst e5
      exact ⟨F', Step.refl s2, by simp only [chr1, Rep]⟩
  · show x.cps.size ≤ _
    rw [List.length_map, Array.length_toList]
    exact Nat.le_refl _
theorem seqI {K : PySem.W.Frag} {mg : Str → Option Value} {da : Fm → R PV} {f : PV → Option (List PV)} {σ : L2.St} {H : Hp} {Z : It → Hp → Prop} {r : V → Hp → Prop}
    (h : tI K mg W (GIR K) (d1 f da) σ H Z)
    (hr : ∀ F H x a l, Fz F H → RD K F H a x → f a = some l → GIR K F H Z l → r x H) : tR K mg W da σ H r := by
  obtain ⟨F, env, ok, p⟩ := h
  refine ⟨F, env, ok, ?_⟩
  unfold d1 at p
  cases q : da env with
  | ok v =>
    rw [q] at p
    simp only [R.bind_ok] at p
    intro x F1 H1 st rx
    cases q2 : f v with
    | none => rw [q2] at p; exact p.elim
    | some l => rw [q2] at p; exact hr F1 H1 x v l st.s2 rx q2 fun J F' H' st' w => p J F' H' (st.trans st') w
  | ex e => rw [q] at p; exact p
  | bad => rw [q] at p; exact p
theorem seqIV {K : PySem.W.Frag} {mg : Str → Option Value} {da : Fm → R PV} {f : PV → Option (List PV)} {σ : L2.St} {H : Hp} {Z : It → Hp → Prop} {r : V → Hp → Prop}
    (h : tI K mg W (GI K) (d1 f da) σ H Z)
    (hr : ∀ F H x a l, Fz F H → Rep K F a x → f a = some l → GI K F H Z l → r x H) : tV K mg W da σ H r := by
  obtain ⟨F, env, ok, p⟩ := h
  refine ⟨F, env, ok, ?_⟩
  unfold d1 at p
  cases q : da env with
  | ok v =>
    rw [q] at p
    simp only [R.bind_ok] at p
    intro x F1 H1 st rx
    cases q2 : f v with
    | none => rw [q2] at p; exact p.elim
    | some l => rw [q2] at p; exact hr F1 H1 x v l st.s2 rx q2 fun J F' H' st' w => p J F' H' (st.trans st') w
  | ex e => rw [q] at p; exact p
  | bad => rw [q] at p; exact p
theorem i_lst {e : Expr} {da : Fm → R PV} (h : PE X e (xV X W da)) : PI X tg e (xI X W (d1 lstIt da)) := PI.imp (pi_list h) fun σ H R h => by
  refine seqIV h fun F H x a l s ra e g => ?_
  cases a with
  | lst l' =>
    cases e
    simp only [Rep] at ra
    obtain ⟨a1, xs, rfl, q1, r1⟩ := ra
    exact ⟨a1, rfl, ⟨xs, SqL.of (s.same _ _ q1)⟩, g _ F H (Step.refl s) (walks_lst q1 r1)⟩
  | non => cases e
  | bl _ => cases e
  | int _ => cases e
  | str _ => cases e
  | tup _ => cases e
  | scr _ => cases e
  | dct _ _ => cases e
theorem i_lstR {e : Expr} {da : Fm → R PV} (h : PE X e (xR X W da)) : PI X tg e (xIR X W (d1 lstIt da)) := PI.imp (pi_list h) fun σ H R h => by
  refine seqI h fun F H x a l s ra e g => ?_
  cases a with
  | lst l' =>
    cases e
    obtain ⟨a1, xs, rfl, q1, r1⟩ := ra.lst
    exact ⟨a1, rfl, ⟨xs, SqL.of q1⟩, g _ F H (Step.refl s) (walksR_lst q1 r1)⟩
  | non => cases e
  | bl _ => cases e
  | int _ => cases e
  | str _ => cases e
  | tup _ => cases e
  | scr _ => cases e
  | dct _ _ => cases e
theorem i_tup {e : Expr} {da : Fm → R PV} (h : PE X e (xV X W da)) : PI X tg e (xI X W (d1 tupIt da)) := PI.imp (pi_tup h) fun σ H R h => by
  refine seqIV h fun F H x a l s ra e g => ?_
  cases a with
  | tup l' =>
    cases e
    simp only [Rep] at ra
    obtain ⟨a1, xs, rfl, q1, r1⟩ := ra
    exact ⟨a1, rfl, ⟨xs, sqT_mono s.same q1⟩, g _ F H (Step.refl s) (walks_tup q1 r1)⟩
  | non => cases e
  | bl _ => cases e
  | int _ => cases e
  | str _ => cases e
  | lst _ => cases e
  | scr _ => cases e
  | dct _ _ => cases e
theorem i_str {e : Expr} {da : Fm → R PV} (h : PE X e (xV X W da)) : PI X tg e (xI X W (d1 strIt da)) := PI.imp (pi_str h) fun σ H R h => by
  refine seqIV h fun F H x a l s ra e g => ?_
  cases a with
  | str x' =>
    cases e
    simp only [Rep] at ra
    exact ⟨x', ra, g _ F H (Step.refl s) (walks_str x')⟩
  | non => cases e
  | bl _ => cases e
  | int _ => cases e
  | tup _ => cases e
  | lst _ => cases e
  | scr _ => cases e
  | dct _ _ => cases e
/-! range(n), range(a, b) -/
/-- within the bounds of a range -/
def smI (j : Int) : Bool := Nat.ble j.natAbs 4611686018427387903
theorem smI_ok {j : Int} (h : smI j = true) : -(2 ^ 62) ≤ j ∧ j < 2 ^ 62 := by
  have := Nat.le_of_ble_eq_true h
  omega
theorem smI_of {j : Int} (h : j.natAbs ≤ 4611686018427387903) : smI j = true := Nat.ble_eq_true_of_le h
def rgIt1 : List PV → Option (List PV)
  | [.int j] => if smI j = true then some ((List.range j.toNat).map fun (k : Nat) => .int (0 + (k : Int))) else none
  | _ => none
def rgIt2 : List PV → Option (List PV)
  | [.int i, .int j] => if smI i = true ∧ smI j = true then some ((List.range (j - i).toNat).map fun (k : Nat) => .int (i + (k : Int))) else none
  | _ => none
theorem walks_rng {K : PySem.W.Frag} {F : Hp} (lo : Int) (n : Nat) : Walks K F (Itr lo n) ((List.range n).map fun (k : Nat) => .int (lo + (k : Int))) := by
  intro F' H' s1 s2
  refine ⟨fun i d e => ?_, ?_⟩
  · rw [List.getElem?_map] at e
    by_cases hi : i < n
    · rw [List.getElem?_range hi] at e
      cases e
      refine ⟨hi, fun y H2 ⟨e2, e3⟩ => ?_⟩
      subst e2 e3
      exact ⟨F', Step.refl s2, by simp only [Rep]⟩
    · rw [List.getElem?_eq_none (by rw [List.length_range]; omega)] at e
      cases e
  · show n ≤ _
    rw [List.length_map, List.length_range]
    exact Nat.le_refl _
theorem seqAI {K : PySem.W.Frag} {mg : Str → Option Value} {d : Fm → R (List PV)} {f : List PV → Option (List PV)} {σ : L2.St} {H : Hp} {Z : It → Hp → Prop} {r : List V → Hp → Prop}
    (h : tI K mg W (GI K) (dCall (fun ds => ofO (f ds)) d) σ H Z)
    (hr : ∀ F H xs ds l, Fz F H → RDL K F H ds xs → f ds = some l → GI K F H Z l → r xs H) : tAG K mg W (GRL K) d σ H r := by
  obtain ⟨F, env, ok, p⟩ := h
  refine ⟨F, env, ok, ?_⟩
  unfold dCall at p
  cases q : d env with
  | ok v =>
    rw [q] at p
    simp only [R.bind_ok] at p
    intro x F1 H1 st rx
    cases q2 : f v with
    | none => rw [q2] at p; exact p.elim
    | some l => rw [q2] at p; exact hr F1 H1 x v l st.s2 rx q2 fun J F' H' st' w => p J F' H' (st.trans st') w
  | ex e => rw [q] at p; exact p
  | bad => rw [q] at p; exact p
theorem i_rg1 {a : Expr} {d : Fm → R (List PV)} {p pos : Pos} (hm : X.mg "range" = none) (ha : PA X [a] (xRL X W d)) (hg : Gl X "range" := by rfl) (hs : starEach [a] X.env = [(false, eval a X.env)] := by rfl) :
    PI X tg (.Call (.Name "range" p) [a] [] pos) (xI X W (dCall (fun ds => ofO (rgIt1 ds)) d)) := PI.imp (pi_range1 hg hm ha hs) fun σ H Z h => by
  refine seqAI h fun F H xs ds l s r e g => ?_
  unfold rgIt1 at e
  split at e
  · split at e
    · rename_i c
      cases e
      obtain ⟨x, rfl, rx⟩ := r.one
      cases rx.int
      exact ⟨_, rfl, (smI_ok c).1, (smI_ok c).2, g _ F H (Step.refl s) (walks_rng 0 _)⟩
    · cases e
  · cases e
theorem i_rg2 {a b : Expr} {d : Fm → R (List PV)} {p pos : Pos} (hm : X.mg "range" = none) (ha : PA X [a, b] (xRL X W d)) (hg : Gl X "range" := by rfl) (hs : starEach [a, b] X.env = [(false, eval a X.env), (false, eval b X.env)] := by rfl) (hs2 : starEach [b] X.env = [(false, eval b X.env)] := by rfl) :
    PI X tg (.Call (.Name "range" p) [a, b] [] pos) (xI X W (dCall (fun ds => ofO (rgIt2 ds)) d)) := PI.imp (pi_range2 hg hm ha hs hs2) fun σ H Z h => by
  refine seqAI h fun F H xs ds l s r e g => ?_
  unfold rgIt2 at e
  split at e
  · split at e
    · rename_i c
      cases e
      obtain ⟨x, y, rfl, rx, ry⟩ := r.two
      cases rx.int
      cases ry.int
      exact ⟨_, _, rfl, ⟨(smI_ok c.1).1, (smI_ok c.1).2, (smI_ok c.2).1, (smI_ok c.2).2⟩, g _ F H (Step.refl s) (walks_rng _ _)⟩
    · cases e
  · cases e
end

/-! ### targets -/
abbrev Tgt := PV → Fm → Option Fm
def tgN (i : Nat) : Tgt := fun d env => if i < env.length then some (env.set i (.pv d)) else none
structure Bs where
  Fb : Hp
  F0 : Hp
  H0 : Hp
def FmSt (K : PySem.W.Frag) (B : Bs) (F H : Hp) (σ : L2.St) (env : Fm) : Prop := FmOk K F H σ env ∧ (Step B.F0 B.H0 F H ∧ Same B.Fb F) ∧ ∀ (i : Nat) (s : Slot) (a : Addr), env[i]? = some s → isOwn s = true → σ[i]? = some (some (.ref a)) → Fresh B.H0 a
theorem FmOk.setPv {K : PySem.W.Frag} {F H : Hp} {σ : L2.St} {env : Fm} {i : Nat} {d : PV} {x : V} (h : FmOk K F H σ env) (hi : i < env.length) (r : Rep K F d x) : FmOk K F H (σ.set i (some x)) (env.set i (.pv d)) := by
  refine ⟨h.s0, by rw [List.length_set, List.length_set]; exact h.len, fun j s e => ?_, fun j k s t a ej ek os ot hj hk => ?_⟩
  · by_cases c : i = j
    · subst c
      rw [List.getElem?_set_self hi] at e
      cases e
      exact ⟨x, by rw [List.getElem?_set_self (by rw [← h.len]; exact hi)], r⟩
    · rw [List.getElem?_set_ne c] at e ⊢
      exact h.at' j s e
  · by_cases cj : i = j
    · subst cj
      rw [List.getElem?_set_self hi] at ej
      cases ej
      cases os
    · by_cases ck : i = k
      · subst ck
        rw [List.getElem?_set_self hi] at ek
        cases ek
        cases ot
      · rw [List.getElem?_set_ne cj] at ej hj
        rw [List.getElem?_set_ne ck] at ek hk
        exact h.one j k s t a ej ek os ot hj hk
theorem FmOk.setOwn {K : PySem.W.Frag} {F H : Hp} {σ : L2.St} {env : Fm} {i : Nat} {l : List PV} {xs : List V} {a : Addr} (h : FmOk K F H σ env) (hi : i < env.length) (ha : H a = some (.lst xs)) (hf : F a = none) (r : RepL K F l xs)
    (hn : ∀ (j : Nat) (s : Slot), env[j]? = some s → isOwn s = true → σ[j]? ≠ some (some (.ref a))) : FmOk K F H (σ.set i (some (.ref a))) (env.set i (.own l)) := by
  have hs : i < σ.length := by rw [← h.len]; exact hi
  refine ⟨h.s0, by rw [List.length_set, List.length_set]; exact h.len, fun j s e => ?_, fun j k s t b ej ek os ot hj hk => ?_⟩
  · by_cases c : i = j
    · subst c
      rw [List.getElem?_set_self hi] at e
      cases e
      exact ⟨a, xs, by rw [List.getElem?_set_self hs], ha, hf, r⟩
    · rw [List.getElem?_set_ne c] at e ⊢
      exact h.at' j s e
  · by_cases cj : i = j
    · by_cases ck : i = k
      · exact cj.symm.trans ck
      · subst cj
        rw [List.getElem?_set_self hs] at hj
        cases hj
        rw [List.getElem?_set_ne ck] at ek hk
        exact absurd hk (hn k t ek ot)
    · by_cases ck : i = k
      · subst ck
        rw [List.getElem?_set_self hs] at hk
        cases hk
        rw [List.getElem?_set_ne cj] at ej hj
        exact absurd hj (hn j s ej os)
      · rw [List.getElem?_set_ne cj] at ej hj
        rw [List.getElem?_set_ne ck] at ek hk
        exact h.one j k s t b ej ek os ot hj hk
/-- slots forgotten -/
def clr (env : Fm) : List Nat → Fm
  | [] => env
  | i :: r => (clr env r).set i .un
theorem clr_len (env : Fm) : ∀ l : List Nat, (clr env l).length = env.length
  | [] => rfl
  | i :: r => by unfold clr; rw [List.length_set, clr_len env r]
theorem clr_at (env : Fm) : ∀ (l : List Nat) (j : Nat) (s : Slot), (clr env l)[j]? = some s → s = .un ∨ (env[j]? = some s ∧ j ∉ l)
  | [], j, s, e => .inr ⟨e, by simp⟩
  | i :: r, j, s, e => by
    unfold clr at e
    by_cases c : i = j
    · subst c
      by_cases hi : i < (clr env r).length
      · rw [List.getElem?_set_self hi] at e; cases e; exact .inl rfl
      · rw [List.getElem?_eq_none (by rw [List.length_set]; omega)] at e; cases e
    · rw [List.getElem?_set_ne c] at e
      rcases clr_at env r j s e with h | ⟨h1, h2⟩
      · exact .inl h
      · exact .inr ⟨h1, fun z => by rcases List.mem_cons.mp z with z | z; exact c z.symm; exact h2 z⟩
theorem FmOk.clr {K : PySem.W.Frag} {F H : Hp} {σ : L2.St} {env : Fm} (h : FmOk K F H σ env) (l : List Nat) : FmOk K F H σ (clr env l) := by
  refine ⟨h.s0, by rw [clr_len]; exact h.len, fun j s e => ?_, fun j k s t a ej ek os ot hj hk => ?_⟩
  · rcases clr_at env l j s e with z | ⟨z, _⟩
    · subst z; trivial
    · exact h.at' j s z
  · rcases clr_at env l j s ej with z | ⟨z, _⟩
    · subst z; cases os
    · rcases clr_at env l k t ek with y | ⟨y, _⟩
      · subst y; cases ot
      · exact h.one j k s t a z y os ot hj hk
theorem wipe_ne {σ : L2.St} {j : Nat} : ∀ {l : List Nat}, j ∉ l → (wipe σ l)[j]? = σ[j]?
  | [], _ => rfl
  | i :: r, h => by
    unfold wipe
    rw [List.getElem?_set_ne (fun e => h (by rw [e]; exact List.mem_cons_self))]
    exact wipe_ne fun z => h (List.mem_cons_of_mem _ z)
theorem FmOk.wipe {K : PySem.W.Frag} {F H : Hp} {σ : L2.St} {env : Fm} (h : FmOk K F H σ env) (l : List Nat) : FmOk K F H (wipe σ l) (Pv.clr env l) := by
  refine ⟨h.s0, by rw [clr_len, wipe_length]; exact h.len, fun j s e => ?_, fun j k s t a ej ek os ot hj hk => ?_⟩
  · rcases clr_at env l j s e with z | ⟨z, n⟩
    · subst z; trivial
    · have q := h.at' j s z
      rw [wipe_ne n]
      exact q
  · rcases clr_at env l j s ej with z | ⟨z, n⟩
    · subst z; cases os
    · rcases clr_at env l k t ek with y | ⟨y, m⟩
      · subst y; cases ot
      · rw [wipe_ne n] at hj
        rw [wipe_ne m] at hk
        exact h.one j k s t a z y os ot hj hk
/-- a target's rule: at the frozen heap F -/
def TgS (K : PySem.W.Frag) (g : TG) (t : Tgt) (js : List Nat) : Prop := ∀ F H σ env x d env' (Q : L2.St → Hp → Prop), FmOk K F H σ env → Rep K F d x → t d env = some env' →
  (∀ σ', FmOk K F H σ' env' → (∀ j, j ∉ js → σ'[j]? = σ[j]?) → (∀ j, j ∉ js → env'[j]? = env[j]?) → (∀ j s, j ∈ js → env'[j]? = some s → isOwn s = false) → σ'.length = σ.length → Q σ' H) → g x σ H Q
theorem tg_name {K : PySem.W.Frag} (i : Nat) : TgS K (gName i) (tgN i) [i] := by
  intro F H σ env x d env' Q ok r e q
  unfold tgN at e
  split at e
  · rename_i hi
    cases e
    refine q _ (ok.setPv hi r) (fun j hj => ?_) (fun j hj => ?_) (fun j s hj es => ?_) (List.length_set ..)
    · rw [List.getElem?_set_ne (fun z => hj (by rw [z]; exact List.mem_cons_self))]
    · rw [List.getElem?_set_ne (fun z => hj (by rw [z]; exact List.mem_cons_self))]
    · rw [List.mem_singleton] at hj
      subst hj
      rw [List.getElem?_set_self hi] at es
      cases es
      rfl
  · cases e
end Pv

set_option Elab.async false
set_option linter.all false
set_option maxRecDepth 100000
set_option maxHeartbeats 2000000
/-! PvE: comprehensions, statements, defs. -/
namespace Pv
open PySem PySem.Spec PyProof.Rows L2
variable [TabCx]

theorem Step.mut {F H F' H' : Hp} (st : Step F H F' H') {p : Addr} {o : HO} {xs : List V} (hl : H' p = some (.lst xs)) (hp : Fresh H p) (hn : F' p = none) : Step F H F' (upd H' p o) :=
  ⟨st.s0, st.s1, ⟨fun a u e => by
    have q : a ≠ p := ne_of_none e hn
    rw [upd_ne q]; exact st.s2.up e, tabs_lst st.s2.tabs hl, st.s2.noT⟩,
   fun a u h n t => by
    have q : a ≠ p := hp.ne h t
    rw [upd_ne q]; exact st.keep a u h n t⟩
theorem noTab_lst {xs : List V} : NoTab (.lst xs) := fun _ z => by cases z
theorem wipe_in {σ : L2.St} {j : Nat} : ∀ {l : List Nat}, j ∈ l → j < σ.length → (wipe σ l)[j]? = some none
  | [], h, _ => by cases h
  | i :: r, h, hj => by
    unfold wipe
    by_cases c : i = j
    · subst c
      rw [List.getElem?_set_self (by rw [wipe_length]; exact hj)]
    · rw [List.getElem?_set_ne c]
      rcases List.mem_cons.mp h with z | z
      · exact absurd z.symm c
      · exact wipe_in z hj
theorem wipe_eq {σ σ' : L2.St} {vs js : List Nat} (hl : σ'.length = (wipe σ vs).length) (hj : ∀ j ∈ js, j ∈ vs) (h : ∀ j, j ∉ js → σ'[j]? = (wipe σ vs)[j]?) : wipe σ' vs = wipe σ vs := by
  apply List.ext_getElem?
  intro j
  have hl2 : σ'.length = σ.length := by rw [hl, wipe_length]
  by_cases c : j ∈ vs
  · by_cases d : j < σ.length
    · rw [wipe_in c (by rw [hl2]; exact d), wipe_in c d]
    · rw [List.getElem?_eq_none (by rw [wipe_length]; omega), List.getElem?_eq_none (by rw [wipe_length]; omega)]
  · rw [wipe_ne c, h j (fun z => c (hj j z))]
def WF : WX := fun _ _ _ _ => False
def noX {α : Type} : R α → R α
  | .ex _ => .bad
  | r => r
def lcGo (t : Tgt) (tt : Fm → R Bool) (te : Fm → R PV) (env : Fm) : List PV → R (List PV)
  | [] => .ok []
  | d :: ds => match t d env with
    | none => .bad
    | some e1 => (tt e1).bind fun b => match b with
      | true => (te e1).bind fun v => (lcGo t tt te env ds).bind fun r => .ok (v :: r)
      | false => lcGo t tt te env ds
def dLc (vs : List Nat) (t : Tgt) (tt : Fm → R Bool) (te : Fm → R PV) (src : Fm → R (List PV)) : Fm → R (List PV) := fun env => (src env).bind fun ds =>
  if ds.length ≤ sizeLine then noX (lcGo t tt te (clr env vs) ds) else .bad
def dYes : Fm → R Bool := fun _ => .ok true
section
variable {X : Cx} {W : WX}
theorem lc_go {vs js : List Nat} {g : TG} {t : Tgt} {tt : Fm → R Bool} {te : Fm → R PV} {src : Fm → R (List PV)} {σ : L2.St} {H : Hp} {Q : VK} (tS : TgS X.K g t js) (hjs : ∀ j ∈ js, j ∈ vs)
    (h : xF X W (dLc vs t tt te src) σ H Q) : tLc (xIR X W src) g (tT X.K X.mg WF tt) (tV X.K X.mg WF te) vs σ H Q := by
  obtain ⟨F, env, fo, p⟩ := h
  refine ⟨F, env, fo, ?_⟩
  unfold dLc at p
  cases q : src env with
  | ex e => rw [q] at p; exact p
  | bad => rw [q] at p; exact p
  | ok ds =>
    rw [q] at p
    simp only [R.bind_ok] at p
    intro J F1 H1 st1 wk D hD
    by_cases hz : ds.length ≤ sizeLine
    · rw [if_pos hz] at p
      cases q1 : lcGo t tt te (clr env vs) ds with
      | bad => rw [q1] at p; exact p.elim
      | ex e => rw [q1] at p; exact p.elim
      | ok l =>
        rw [q1] at p
        have p' : GF X.K F H Q l := p
        refine ⟨fun i m H' => m = ds.length - i ∧ i ≤ ds.length ∧ ∃ F' acc ys rest, Step F1 H1 F' H' ∧ F' D = none ∧ H' D = some (.lst ys) ∧ RepL X.K F' acc ys ∧ acc.length ≤ i ∧ lcGo t tt te (clr env vs) (ds.drop i) = .ok rest ∧ l = acc ++ rest,
          ⟨ds.length, by simp, Nat.zero_le _, F1, [], [], l, Step.new st1.s2 hD, st1.s2.free hD, upd_same, .nil, Nat.le_refl _, q1, rfl⟩, ?_⟩
        rintro i m H' ⟨rfl, hi, F', acc, ys, rest, st, fD, eD, r, hacc, hgo, hl⟩
        obtain ⟨w1, w2⟩ := wk F' H' st
        by_cases hlt : i < ds.length
        · obtain ⟨d, hd⟩ : ∃ d, ds[i]? = some d := ⟨_, List.getElem?_eq_getElem hlt⟩
          obtain ⟨go, yl⟩ := w1 i d hd
          have hdrop : ds.drop i = d :: ds.drop (i + 1) := by
            rw [List.drop_eq_getElem_cons hlt]
            rw [List.getElem?_eq_getElem hlt] at hd
            cases hd
            rfl
          rw [hdrop, lcGo] at hgo
          refine .inr ⟨go, fun H'' => ∃ F' acc ys rest, Step F1 H1 F' H'' ∧ F' D = none ∧ H'' D = some (.lst ys) ∧ RepL X.K F' acc ys ∧ acc.length ≤ i + 1 ∧ lcGo t tt te (clr env vs) (ds.drop (i + 1)) = .ok rest ∧ l = acc ++ rest,
            fun H'' hN => ⟨ds.length - (i + 1), by omega, rfl, hlt, hN⟩, fun x H2 hy => ?_⟩
          obtain ⟨F2, st2, rx⟩ := yl x H2 hy
          cases qt : t d (clr env vs) with
          | none => rw [qt] at hgo; cases hgo
          | some e1 =>
            rw [qt] at hgo
            simp only at hgo
            have fw := ((fo.step st1).step (st.trans st2)).wipe vs
            refine tS F2 H2 (wipe σ vs) (clr env vs) x d e1 _ fw rx qt fun σ2 ok2 h1 h2 h3 h4 => ⟨wipe_eq h4 hjs h1, F2, e1, ok2, ?_⟩
            obtain ⟨eD2, fD2⟩ := st2.keep D _ eD fD noTab_lst
            cases qb : tt e1 with
            | bad => rw [qb] at hgo; cases hgo
            | ex e => rw [qb] at hgo; cases hgo
            | ok b =>
              rw [qb] at hgo
              simp only [R.bind_ok] at hgo
              intro F3 H3 st3
              obtain ⟨eD3, fD3⟩ := st3.keep D _ eD2 fD2 noTab_lst
              cases b with
              | false =>
                rw [if_neg Bool.false_ne_true]
                exact ⟨F3, acc, ys, rest, (st.trans st2).trans st3, fD3, eD3, r.mono (st2.s1.trans st3.s1), by omega, hgo, hl⟩
              | true =>
                rw [if_pos rfl]
                refine ⟨F3, e1, ok2.step st3, ?_⟩
                cases qv : te e1 with
                | bad => rw [qv] at hgo; cases hgo
                | ex e => rw [qv] at hgo; cases hgo
                | ok v =>
                  rw [qv] at hgo
                  simp only [R.bind_ok] at hgo
                  cases qr : lcGo t tt te (clr env vs) (ds.drop (i + 1)) with
                  | bad => rw [qr] at hgo; cases hgo
                  | ex e => rw [qr] at hgo; cases hgo
                  | ok rest' =>
                    rw [qr] at hgo
                    cases hgo
                    intro y F4 H4 st4 ry
                    obtain ⟨eD4, fD4⟩ := st4.keep D _ eD3 fD3 noTab_lst
                    refine ⟨ys, eD4, by rw [r.len]; omega, F4, acc ++ [v], ys ++ [y], rest', (((st.trans st2).trans st3).trans st4).mut eD4 (.of hD) fD4, fD4, upd_same, (r.mono ((st2.s1.trans st3.s1).trans st4.s1)).app (.one ry), ?_, rfl, ?_⟩
                    · rw [List.length_append, List.length_singleton]; omega
                    · rw [hl, List.append_assoc]; rfl
        · have e : i = ds.length := by omega
          subst e
          refine .inl ⟨w2, ?_⟩
          rw [List.drop_length, lcGo] at hgo
          cases hgo
          rw [List.append_nil] at hl
          subst hl
          exact p' D ys F' H' (st1.trans st) (st1.back (.of hD)) fD eD r
    · rw [if_neg hz] at p; exact p.elim
theorem tests_nil : PTs X [] (xT X W dYes) := ⟨fun pins s σ H Q I ⟨F, env, ok, p⟩ => pts_nil.run pins s σ H Q I (p F H (Step.refl ok.s0))⟩
theorem tests_one {c : Expr} {d : Fm → R Bool} (h : PT X c (xT X W d)) : PTs X [c] (xT X W d) := pts_one h
theorem f_lc {elt tg iter : Expr} {ifs : List Expr} {scope : Scope} {pos : Pos} {g : TG} {t : Tgt} {js vs : List Nat} {tt : Fm → R Bool} {te : Fm → R PV} {src : Fm → R (List PV)} (own : List (Str × Nat)) (hvs : own.map (·.2) = vs) (hc : X.calm = true) (hN : X.N.Nodup) (hi : PI X tg iter (xIR X W src)) (ok : BlkOk X.N X.env.scope scope own)
    (hg : ∀ (s : Shared) (H : Hp) (C : Addr) (cl : List (Str × Addr)) (fp : List Addr), PG (X.blk s H scope (compEnvC scope cl C X.env) fp) tg g) (tS : TgS X.K g t js) (hjs : ∀ j ∈ js, j ∈ vs)
    (ht : ∀ (s : Shared) (H : Hp) (C : Addr) (cl : List (Str × Addr)) (fp : List Addr), PTs (X.blk s H scope (compEnvC scope cl C X.env) fp) ifs (xT (X.blk s H scope (compEnvC scope cl C X.env) fp) WF tt))
    (he : ∀ (s : Shared) (H : Hp) (C : Addr) (cl : List (Str × Addr)) (fp : List Addr), PE (X.blk s H scope (compEnvC scope cl C X.env) fp) elt (xV (X.blk s H scope (compEnvC scope cl C X.env) fp) WF te)) (hs : ∀ x, foldedSetIterable iter X.env x = pure x := by intro _; rfl) :
    PE X (.ListComp elt [⟨tg, iter, ifs, 0⟩] scope pos) (xF X W (dLc vs t tt te src)) := by
  subst hvs
  exact PE.imp (pe_lc hc hN hi ok hg ht he hs) fun σ H Q h => lc_go tS hjs h

/-! ### statements -/
inductive RS where
  | nx (env : Fm)
  | rt (v : PV)
  | rf (l : List PV)
  | bk (env : Fm)
  | ct (env : Fm)
  | ex (e : Ex) (env : Fm)
  | bad
def SPs (K : PySem.W.Frag) (mg : Str → Option Value) (W : WX) (B : Bs) (D : Ends) : RS → Prop
  | .nx e' => ∀ σ' F' H', FmSt K B F' H' σ' e' → D.nx σ' H'
  | .rt v => ∀ x F' H', Step B.F0 B.H0 F' H' → Rep K F' v x → D.rt x H'
  | .rf l => ∀ a xs F' H', Step B.F0 B.H0 F' H' → Fresh B.H0 a → F' a = none → H' a = some (.lst xs) → RepL K F' l xs → D.rt (.ref a) H'
  | .bk e' => ∀ σ' F' H', FmSt K B F' H' σ' e' → D.bk σ' H'
  | .ct e' => ∀ σ' F' H', FmSt K B F' H' σ' e' → D.ct σ' H'
  | .ex e e' => ∀ c dd σ' F' H', FmSt K B F' H' σ' e' → RepX K mg F' e c dd → W c dd σ' H'
  | .bad => False
def tS (K : PySem.W.Frag) (mg : Str → Option Value) (W : WX) (d : Fm → RS) : TS := fun D σ H => ∃ B F env, FmSt K B F H σ env ∧ SPs K mg W B D (d env)
abbrev xS (X : Cx) (W : WX) (d : Fm → RS) : TS := tS X.K X.mg W d
def dSeq (a b : Fm → RS) : Fm → RS := fun env => match a env with
  | .nx e => b e
  | r => r
def dSkip : Fm → RS := fun env => .nx env
def dSet (i : Nat) (d : Fm → R PV) : Fm → RS := fun env => match d env with
  | .ok v => if i < env.length then .nx (env.set i (.pv v)) else .bad
  | .ex e => .ex e env
  | .bad => .bad
def dSetF (i : Nat) (d : Fm → R (List PV)) : Fm → RS := fun env => match d env with
  | .ok v => if i < env.length then .nx (env.set i (.own v)) else .bad
  | .ex e => .ex e env
  | .bad => .bad
def dRet (d : Fm → R PV) : Fm → RS := fun env => match d env with
  | .ok v => .rt v
  | .ex e => .ex e env
  | .bad => .bad
def dRetF (d : Fm → R (List PV)) : Fm → RS := fun env => match d env with
  | .ok v => .rf v
  | .ex e => .ex e env
  | .bad => .bad
def dRetO (i : Nat) : Fm → RS := fun env => match env[i]? with
  | some (.own l) => .rf l
  | _ => .bad
def dIfS (c : Fm → R Bool) (a b : Fm → RS) : Fm → RS := fun env => match c env with
  | .ok true => a env
  | .ok false => b env
  | .ex e => .ex e env
  | .bad => .bad
def dExpr (d : Fm → R PV) : Fm → RS := fun env => match d env with
  | .ok _ => .nx env
  | .ex e => .ex e env
  | .bad => .bad
def dApp (i : Nat) (d : Fm → R PV) : Fm → RS := fun env => match env[i]? with
  | some (.own l) => (match d env with
    | .ok v => if l.length < sizeLine then .nx (env.set i (.own (l ++ [v]))) else .bad
    | .ex e => .ex e env
    | .bad => .bad)
  | _ => .bad
def dExt (i : Nat) (d : Fm → R PV) : Fm → RS := fun env => match env[i]? with
  | some (.own l) => (match d env with
    | .ok (.lst m) => if l.length + m.length ≤ sizeLine then .nx (env.set i (.own (l ++ m))) else .bad
    | .ok _ => .bad
    | .ex e => .ex e env
    | .bad => .bad)
  | _ => .bad
/-- a list of one's own is a value from here on -/
def frzS (i : Nat) (env : Fm) : Fm := match env[i]? with
  | some (.own l) => env.set i (.pv (.lst l))
  | _ => env
def dFrz (i : Nat) (d : Fm → RS) : Fm → RS := fun env => d (frzS i env)
def forGo (t : Tgt) (body : Fm → RS) (wp : List Nat) : List PV → Fm → RS
  | [], env => .nx env
  | d :: ds, env => match t d env with
    | none => .bad
    | some e1 => match body e1 with
      | .nx e2 => forGo t body wp ds (clr e2 wp)
      | .ct e2 => forGo t body wp ds (clr e2 wp)
      | .bk e2 => .nx (clr e2 wp)
      | .rt v => .rt v
      | .rf l => .rf l
      | .ex e e' => .ex e e'
      | .bad => .bad
def dFor (src : Fm → R (List PV)) (t : Tgt) (body : Fm → RS) (wp : List Nat) : Fm → RS := fun env => match src env with
  | .ok ds => forGo t body wp ds (clr env wp)
  | .ex e => .ex e env
  | .bad => .bad
def whGo (c : Fm → R Bool) (body : Fm → RS) (wp : List Nat) : Nat → Fm → RS
  | 0, _ => .bad
  | n + 1, env => match c env with
    | .ok true => (match body env with
      | .nx e2 => whGo c body wp n (clr e2 wp)
      | .ct e2 => whGo c body wp n (clr e2 wp)
      | .bk e2 => .nx (clr e2 wp)
      | .rt v => .rt v
      | .rf l => .rf l
      | .ex e e' => .ex e e'
      | .bad => .bad)
    | .ok false => .nx env
    | .ex e => .ex e env
    | .bad => .bad
def dWhile (m : Fm → Nat) (c : Fm → R Bool) (body : Fm → RS) (wp : List Nat) : Fm → RS := fun env => whGo c body wp (m env) (clr env wp)

variable {B : Bs}
theorem FmSt.step {K : PySem.W.Frag} {F H F' H' : Hp} {σ : L2.St} {env : Fm} (h : FmSt K B F H σ env) (st : Step F H F' H') : FmSt K B F' H' σ env := ⟨h.1.step st, ⟨h.2.1.1.trans st, h.2.1.2.trans st.s1⟩, h.2.2⟩
theorem FmSt.clr {K : PySem.W.Frag} {F H : Hp} {σ : L2.St} {env : Fm} (h : FmSt K B F H σ env) (l : List Nat) : FmSt K B F H σ (Pv.clr env l) := ⟨h.1.clr l, h.2.1, fun i s a e o e2 => by
  rcases clr_at env l i s e with z | ⟨z, _⟩
  · subst z; cases o
  · exact h.2.2 i s a z o e2⟩
theorem FmSt.setPv {K : PySem.W.Frag} {F H : Hp} {σ : L2.St} {env : Fm} {i : Nat} {d : PV} {x : V} (h : FmSt K B F H σ env) (hi : i < env.length) (r : Rep K F d x) : FmSt K B F H (σ.set i (some x)) (env.set i (.pv d)) :=
  ⟨h.1.setPv hi r, h.2.1, fun j s a e o e2 => by
    by_cases c : i = j
    · subst c; rw [List.getElem?_set_self hi] at e; cases e; cases o
    · rw [List.getElem?_set_ne c] at e e2; exact h.2.2 j s a e o e2⟩
/-- an own list at a fresh address goes into a slot -/
theorem FmSt.setOwn {K : PySem.W.Frag} {F H F' H' : Hp} {σ : L2.St} {env : Fm} {i : Nat} {l : List PV} {xs : List V} {a : Addr} (h : FmSt K B F H σ env) (st : Step F H F' H') (hi : i < env.length) (hn : Fresh H a) (ha : H' a = some (.lst xs)) (hf : F' a = none) (r : RepL K F' l xs) :
    FmSt K B F' H' (σ.set i (some (.ref a))) (env.set i (.own l)) := by
  have hz : Fresh B.H0 a := h.2.1.1.back hn
  refine ⟨(h.1.step st).setOwn hi ha hf r fun j s e o e2 => ?_, ⟨h.2.1.1.trans st, h.2.1.2.trans st.s1⟩, fun j s b e o e2 => ?_⟩
  · have q := h.1.at' j s e
    cases s with
    | un => cases o
    | exn _ _ _ => cases o
    | pv d => cases o
    | own m =>
      obtain ⟨b, ys, e3, h3, _⟩ := q
      rw [e2] at e3
      cases e3
      exact hn _ h3 noTab_lst
  · have hs : i < σ.length := by rw [← h.1.len]; exact hi
    by_cases c : i = j
    · subst c
      rw [List.getElem?_set_self hs] at e2
      cases e2
      exact hz
    · rw [List.getElem?_set_ne c] at e e2; exact h.2.2 j s b e o e2
/-- an own list grows -/
theorem FmSt.grow {K : PySem.W.Frag} {F H : Hp} {σ : L2.St} {env : Fm} {i : Nat} {l m : List PV} {xs ys : List V} {a : Addr} (h : FmSt K B F H σ env) (hi : env[i]? = some (.own l)) (hs : σ[i]? = some (some (.ref a))) (ha : H a = some (.lst xs)) (hf : F a = none) (r : RepL K F m ys) :
    FmSt K B F (upd H a (.lst ys)) σ (env.set i (.own m)) := by
  have hil : i < env.length := (List.getElem?_eq_some_iff.mp hi).1
  have hz : Fresh B.H0 a := h.2.2 i _ a hi rfl hs
  have st := h.2.1.1.mut (o := .lst ys) ha hz hf
  refine ⟨⟨st.s2, by rw [List.length_set]; exact h.1.len, fun j s e => ?_, fun j k s t b ej ek os ot hj hk => ?_⟩, ⟨st, h.2.1.2⟩, fun j s b e o e2 => ?_⟩
  · by_cases c : i = j
    · subst c
      rw [List.getElem?_set_self hil] at e
      cases e
      exact ⟨a, ys, hs, upd_same, hf, r⟩
    · rw [List.getElem?_set_ne c] at e
      have q := h.1.at' j s e
      cases s with
      | un => trivial
      | exn _ _ _ => exact q
      | pv d => exact q
      | own n =>
        obtain ⟨b, zs, e1, h1, n1, r1⟩ := q
        have nb : b ≠ a := fun z => by
          subst z
          exact c (h.1.one i j _ _ b hi e rfl rfl hs e1)
        exact ⟨b, zs, e1, by rw [upd_ne nb]; exact h1, n1, r1⟩
  · have own_at : ∀ {j : Nat} {s : Slot}, (env.set i (.own m))[j]? = some s → isOwn s = true → ∃ s', env[j]? = some s' ∧ isOwn s' = true := fun {j s} e o => by
      by_cases c : i = j
      · subst c; exact ⟨_, hi, rfl⟩
      · rw [List.getElem?_set_ne c] at e; exact ⟨s, e, o⟩
    obtain ⟨s', e1, o1⟩ := own_at ej os
    obtain ⟨t', e2, o2⟩ := own_at ek ot
    exact h.1.one j k s' t' b e1 e2 o1 o2 hj hk
  · by_cases c : i = j
    · subst c; rw [hs] at e2; cases e2; exact hz
    · rw [List.getElem?_set_ne c] at e; exact h.2.2 j s b e o e2
/-- an own list is frozen -/
theorem FmSt.frz {K : PySem.W.Frag} {F H : Hp} {σ : L2.St} {env : Fm} (i : Nat) (h : FmSt K B F H σ env) : ∃ F', FmSt K B F' H σ (frzS i env) := by
  unfold frzS
  split
  · rename_i l e
    obtain ⟨a, xs, es, ha, hf, r⟩ := h.1.at' i _ e
    have hil : i < env.length := (List.getElem?_eq_some_iff.mp e).1
    have hz : Fresh B.H0 a := h.2.2 i _ a e rfl es
    have st := h.2.1.1.freeze hz ha hf
    refine ⟨upd F a (.lst xs), ⟨st.s2, by rw [List.length_set]; exact h.1.len, fun j s e2 => ?_, fun j k s t b ej ek os ot hj hk => ?_⟩, ⟨st, h.2.1.2.trans (same_frz hf)⟩, fun j s b e2 o e3 => ?_⟩
    · by_cases c : i = j
      · subst c
        rw [List.getElem?_set_self hil] at e2
        cases e2
        exact ⟨.ref a, es, by simp only [Rep]; exact ⟨a, xs, rfl, upd_same, r.mono (same_frz hf)⟩⟩
      · rw [List.getElem?_set_ne c] at e2
        have q := h.1.at' j s e2
        cases s with
        | un => trivial
        | exn b dd ee =>
          obtain ⟨e1, q0, q⟩ := q
          refine ⟨e1, fun d z => let ⟨fs, h⟩ := q0 d z; ⟨fs, same_frz hf _ _ h⟩, fun w1 w2 z => ?_⟩
          obtain ⟨d, x, y, h1, h2, h3, h4⟩ := q w1 w2 z
          exact ⟨d, x, y, h1, same_frz hf _ _ h2, h3.mono (same_frz hf), h4.mono (same_frz hf)⟩
        | pv d => obtain ⟨x, e3, r3⟩ := q; exact ⟨x, e3, r3.mono (same_frz hf)⟩
        | own n =>
          obtain ⟨b, zs, e1, h1, n1, r1⟩ := q
          have nb : b ≠ a := fun z => by
            subst z
            exact c (h.1.one i j _ _ b e e2 rfl rfl es e1)
          exact ⟨b, zs, e1, h1, by rw [upd_ne nb]; exact n1, r1.mono (same_frz hf)⟩
    · have nj : i ≠ j := fun z => by subst z; rw [List.getElem?_set_self hil] at ej; cases ej; cases os
      have nk : i ≠ k := fun z => by subst z; rw [List.getElem?_set_self hil] at ek; cases ek; cases ot
      rw [List.getElem?_set_ne nj] at ej
      rw [List.getElem?_set_ne nk] at ek
      exact h.1.one j k s t b ej ek os ot hj hk
    · have nj : i ≠ j := fun z => by subst z; rw [List.getElem?_set_self hil] at e2; cases e2; cases o
      rw [List.getElem?_set_ne nj] at e2
      exact h.2.2 j s b e2 o e3
  · exact ⟨F, h⟩
/-- an expression in a statement -/
theorem GXs {K : PySem.W.Frag} {mg : Str → Option Value} {F H : Hp} {σ : L2.St} {env : Fm} {D : Ends} {e : Ex} (fs : FmSt K B F H σ env) (p : SPs K mg W B D (.ex e env)) : GX K mg F H σ W e := fun c dd F' H' st r => p c dd σ F' H' (fs.step st) r

theorem s_cons {st : Stmt} {rest : List Stmt} {a b : Fm → RS} (h1 : PS X st (xS X W a)) (h2 : PSs X rest (xS X W b)) : PSs X (st :: rest) (xS X W (dSeq a b)) := PSs.imp (pss_cons h1 h2) fun D σ H ⟨B, F, env, fs, p⟩ => by
  refine ⟨B, F, env, fs, ?_⟩
  unfold dSeq at p
  cases q : a env with
  | nx e => rw [q] at p; exact fun σ' F' H' fs' => ⟨B, F', e, fs', p⟩
  | rt v => rw [q] at p; exact p
  | rf v => rw [q] at p; exact p
  | bk v => rw [q] at p; exact p
  | ct v => rw [q] at p; exact p
  | ex v w => rw [q] at p; exact p
  | bad => rw [q] at p; exact p
theorem s_one {st : Stmt} {a : Fm → RS} (h1 : PS X st (xS X W a)) : PSs X [st] (xS X W a) := pss_one h1
theorem s_nil : PSs X [] (xS X W dSkip) := PSs.imp pss_nil fun D σ H ⟨B, F, env, fs, p⟩ => p σ F H fs
theorem s_frz {sts : List Stmt} {d : Fm → RS} (i : Nat) (h : PSs X sts (xS X W d)) : PSs X sts (xS X W (dFrz i d)) := PSs.imp h fun D σ H ⟨B, F, env, fs, p⟩ => by
  obtain ⟨F', fs'⟩ := fs.frz i
  exact ⟨B, F', _, fs', p⟩
theorem go_set {i : Nat} {d : Fm → R PV} {D : Ends} {σ : L2.St} {H : Hp} (h : xS X W (dSet i d) D σ H) : xV X W d σ H fun x H1 => D.nx (σ.set i (some x)) H1 := by
  obtain ⟨B, F, env, fs, p⟩ := h
  refine ⟨F, env, fs.1, ?_⟩
  unfold dSet at p
  cases q : d env with
  | ok v =>
    rw [q] at p
    simp only at p
    split at p
    · rename_i hi
      exact fun x F' H' st r => p _ F' H' ((fs.step st).setPv hi r)
    · exact p.elim
  | ex e => rw [q] at p; exact GXs fs p
  | bad => rw [q] at p; exact p
theorem go_setF {i : Nat} {d : Fm → R (List PV)} {D : Ends} {σ : L2.St} {H : Hp} (h : xS X W (dSetF i d) D σ H) : xF X W d σ H fun x H1 => D.nx (σ.set i (some x)) H1 := by
  obtain ⟨B, F, env, fs, p⟩ := h
  refine ⟨F, env, fs.1, ?_⟩
  unfold dSetF at p
  cases q : d env with
  | ok v =>
    rw [q] at p
    simp only at p
    split at p
    · rename_i hi
      exact fun a xs F' H' st hn hf ha r => p _ F' H' (fs.setOwn st hi hn ha hf r)
    · exact p.elim
  | ex e => rw [q] at p; exact GXs fs p
  | bad => rw [q] at p; exact p
theorem s_set {i : Nat} {x : Str} {e : Expr} {d : Fm → R PV} {pos pos' : Pos} (hN : X.N.Nodup) (he : PE X e (xV X W d)) (hi : X.N[i]? = some x := by rfl) (hx : Loc X.env.scope x := by first | exact Or.inl rfl | exact Or.inr rfl) (hs : swapsWith e (some (.Name x pos')) pos.line X.env = pure false := by rfl)
    (hf : X.fn x = true ∨ X.env.scope.names.lookup x = some .local := by first | exact .inl rfl | exact .inr rfl | assumption) : PS X (.Assign [.Name x pos'] e pos) (xS X W (dSet i d)) := PS.imp (ps_set hN hi hx he hs hf) fun D σ H h => go_set h
theorem s_setF {i : Nat} {x : Str} {e : Expr} {d : Fm → R (List PV)} {pos pos' : Pos} (hN : X.N.Nodup) (he : PE X e (xF X W d)) (hi : X.N[i]? = some x := by rfl) (hx : Loc X.env.scope x := by first | exact Or.inl rfl | exact Or.inr rfl) (hs : swapsWith e (some (.Name x pos')) pos.line X.env = pure false := by rfl)
    (hf : X.fn x = true ∨ X.env.scope.names.lookup x = some .local := by first | exact .inl rfl | exact .inr rfl | assumption) : PS X (.Assign [.Name x pos'] e pos) (xS X W (dSetF i d)) := PS.imp (ps_set hN hi hx he hs hf) fun D σ H h => go_setF h
/-- name = [..] on one line -/
theorem s_setLc {i : Nat} {y : Str} {py : Pos} {elt tg iter : Expr} {ifs : List Expr} {scope : Scope} {pos spos : Pos} {g : TG} {t : Tgt} {js vs : List Nat} {tt : Fm → R Bool} {te : Fm → R PV} {src : Fm → R (List PV)} (own : List (Str × Nat)) (hvs : own.map (·.2) = vs) (hc : X.calm = true) (hN : X.N.Nodup) (hy : X.N[i]? = some y) (hyl : X.env.scope.names.lookup y = some .local)
    (hsw : swapsWith (.ListComp elt [⟨tg, iter, ifs, 0⟩] scope pos) (some (.Name y py)) spos.line X.env = pure true) (hi : PI X tg iter (xIR X W src)) (ok : BlkOk X.N X.env.scope scope own)
    (hg : ∀ (s : Shared) (H : Hp) (C : Addr) (cl : List (Str × Addr)) (fp : List Addr), PG (X.blk s H scope (compEnvC scope cl C X.env) fp) tg g) (tS : TgS X.K g t js) (hjs : ∀ j ∈ js, j ∈ vs)
    (ht : ∀ (s : Shared) (H : Hp) (C : Addr) (cl : List (Str × Addr)) (fp : List Addr), PTs (X.blk s H scope (compEnvC scope cl C X.env) fp) ifs (xT (X.blk s H scope (compEnvC scope cl C X.env) fp) WF tt))
    (he : ∀ (s : Shared) (H : Hp) (C : Addr) (cl : List (Str × Addr)) (fp : List Addr), PE (X.blk s H scope (compEnvC scope cl C X.env) fp) elt (xV (X.blk s H scope (compEnvC scope cl C X.env) fp) WF te)) (hs : ∀ x, foldedSetIterable iter X.env x = pure x := by intro _; rfl) :
    PS X (.Assign [.Name y py] (.ListComp elt [⟨tg, iter, ifs, 0⟩] scope pos) spos) (xS X W (dSetF i (dLc vs t tt te src))) := by
  subst hvs
  exact PS.imp (ps_setLc hc hN hy hyl hsw hi ok hg ht he hs) fun D σ H h => lc_go tS hjs (go_setF h)
theorem s_ret {e : Expr} {d : Fm → R PV} {pos : Pos} (he : PE X e (xV X W d)) : PS X (.Return (some e) pos) (xS X W (dRet d)) := PS.imp (ps_ret he) fun D σ H ⟨B, F, env, fs, p⟩ => by
  refine ⟨F, env, fs.1, ?_⟩
  unfold dRet at p
  cases q : d env with
  | ok v => rw [q] at p; exact fun x F' H' st r => p x F' H' (fs.2.1.1.trans st) r
  | ex e => rw [q] at p; exact GXs fs p
  | bad => rw [q] at p; exact p
theorem s_retF {e : Expr} {d : Fm → R (List PV)} {pos : Pos} (he : PE X e (xF X W d)) : PS X (.Return (some e) pos) (xS X W (dRetF d)) := PS.imp (ps_ret he) fun D σ H ⟨B, F, env, fs, p⟩ => by
  refine ⟨F, env, fs.1, ?_⟩
  unfold dRetF at p
  cases q : d env with
  | ok v => rw [q] at p; exact fun a xs F' H' st hn hf ha r => p a xs F' H' (fs.2.1.1.trans st) (fs.2.1.1.back hn) hf ha r
  | ex e => rw [q] at p; exact GXs fs p
  | bad => rw [q] at p; exact p
theorem s_retO {e : Expr} {pos : Pos} (i : Nat) (he : PE X e (tVar i)) : PS X (.Return (some e) pos) (xS X W (dRetO i)) := PS.imp (ps_ret he) fun D σ H ⟨B, F, env, fs, p⟩ => by
  unfold dRetO at p
  split at p
  · rename_i l e
    obtain ⟨a, xs, es, ha, hf, r⟩ := fs.1.at' i _ e
    exact ⟨.ref a, es, p a xs F H fs.2.1.1 (fs.2.2 i _ a e rfl es) hf ha r⟩
  · exact p.elim
theorem s_if {c : Expr} {a b : List Stmt} {dc : Fm → R Bool} {da db : Fm → RS} {pos : Pos} (hc : PT X c (xT X W dc)) (ha : PSs X a (xS X W da)) (hb : PSs X b (xS X W db)) : PS X (.If c a b pos) (xS X W (dIfS dc da db)) := PS.imp (ps_if hc ha hb) fun D σ H ⟨B, F, env, fs, p⟩ => by
  refine ⟨F, env, fs.1, ?_⟩
  unfold dIfS at p
  cases q : dc env with
  | ok k =>
    rw [q] at p
    intro F' H' st
    cases k with
    | true => rw [if_pos rfl]; exact ⟨B, F', env, fs.step st, p⟩
    | false => rw [if_neg Bool.false_ne_true]; exact ⟨B, F', env, fs.step st, p⟩
  | ex e => rw [q] at p; exact GXs fs p
  | bad => rw [q] at p; exact p
theorem s_expr {e : Expr} {d : Fm → R PV} {pos : Pos} (he : PE X e (xV X W d)) (hs : swapsWith e none pos.line X.env = pure false := by rfl) : PS X (.Expr e pos) (xS X W (dExpr d)) := PS.imp (ps_expr he hs) fun D σ H ⟨B, F, env, fs, p⟩ => by
  refine ⟨F, env, fs.1, ?_⟩
  unfold dExpr at p
  cases q : d env with
  | ok v => rw [q] at p; exact fun x F' H' st r => p σ F' H' (fs.step st)
  | ex e => rw [q] at p; exact GXs fs p
  | bad => rw [q] at p; exact p
theorem s_never {st : Stmt} : PS X st (xS X W fun _ => .bad) := PS.imp ps_never fun D σ H ⟨B, F, env, fs, p⟩ => p
theorem s_app {o e : Expr} {d : Fm → R PV} {apos cpos pos : Pos} (i : Nat) (ho : PE X o (tVar i)) (he : PE X e (xV X W d)) (hbase : attributeBase o "append" X.env (eval o X.env) = eval o X.env := by rfl)
    (hfew : ((backTo cpos (starEach [e] X.env)).all (fun x => !x.1) && (backToKw cpos (keywordEach [] X.env)).all (fun x => x.1.isSome) && decide ([e].length + ([] : List Keyword).length + (if ([] : List Keyword).isEmpty then 0 else 1) < 30)) = true := by rfl)
    (hline : (apos.endLine == cpos.line) = true := by rfl) (hs : starEach [e] X.env = (false, eval e X.env) :: starEach [] X.env := by rfl) (hplain : (backTo cpos (starEach [] X.env)).any (·.1) = false := by rfl)
    (hsw : swapsWith (.Call (.Attribute o "append" apos) [e] [] cpos) none pos.line X.env = pure false := by rfl) :
    PS X (.Expr (.Call (.Attribute o "append" apos) [e] [] cpos) pos) (xS X W (dApp i d)) :=
  PS.imp (ps_expr (pe_bm PySem.F.plainAttrs_list PySem.F.slot_list_append PySem.F.type_list_append mt_append ho (pa_cons he pa_nil hs) hbase hfew hline hs hplain) hsw) fun D σ H ⟨B, F, env, fs, p⟩ => by
    unfold dApp at p
    split at p
    · rename_i l e
      obtain ⟨a, xs, es, ha, hf, r⟩ := fs.1.at' i _ e
      refine ⟨.ref a, es, .inl ⟨rfl, _, SqL.of ha⟩, F, env, fs.1, ?_⟩
      cases q : d env with
      | ok v =>
        rw [q] at p
        simp only at p
        split at p
        · rename_i hz
          intro y F' H' st ry
          obtain ⟨ha', hf'⟩ := st.keep a _ ha hf noTab_lst
          exact ⟨a, xs, y, rfl, rfl, ha', by rw [r.len]; exact hz, p σ F' _ ((fs.step st).grow e es ha' hf' ((r.mono st.s1).app (.one ry)))⟩
        · exact p.elim
      | ex e => rw [q] at p; exact GXs fs p
      | bad => rw [q] at p; exact p
    · exact p.elim
theorem s_ext {o e : Expr} {d : Fm → R PV} {apos cpos pos : Pos} (i : Nat) (ho : PE X o (tVar i)) (he : PE X e (xV X W d)) (hbase : attributeBase o "extend" X.env (eval o X.env) = eval o X.env := by rfl)
    (hfew : ((backTo cpos (starEach [e] X.env)).all (fun x => !x.1) && (backToKw cpos (keywordEach [] X.env)).all (fun x => x.1.isSome) && decide ([e].length + ([] : List Keyword).length + (if ([] : List Keyword).isEmpty then 0 else 1) < 30)) = true := by rfl)
    (hline : (apos.endLine == cpos.line) = true := by rfl) (hs : starEach [e] X.env = (false, eval e X.env) :: starEach [] X.env := by rfl) (hplain : (backTo cpos (starEach [] X.env)).any (·.1) = false := by rfl)
    (hsw : swapsWith (.Call (.Attribute o "extend" apos) [e] [] cpos) none pos.line X.env = pure false := by rfl) :
    PS X (.Expr (.Call (.Attribute o "extend" apos) [e] [] cpos) pos) (xS X W (dExt i d)) :=
  PS.imp (ps_expr (pe_bm PySem.F.plainAttrs_list PySem.F.slot_list_extend PySem.F.type_list_extend mt_extend ho (pa_cons he pa_nil hs) hbase hfew hline hs hplain) hsw) fun D σ H ⟨B, F, env, fs, p⟩ => by
    unfold dExt at p
    split at p
    · rename_i l e
      obtain ⟨a, xs, es, ha, hf, r⟩ := fs.1.at' i _ e
      refine ⟨.ref a, es, .inl ⟨rfl, _, SqL.of ha⟩, F, env, fs.1, ?_⟩
      cases q : d env with
      | ok v =>
        rw [q] at p
        cases v with
        | lst m =>
          simp only at p
          split at p
          · rename_i hz
            intro y F' H' st ry
            simp only [Rep] at ry
            obtain ⟨b, ys, rfl, hb, rb⟩ := ry
            obtain ⟨ha', hf'⟩ := st.keep a _ ha hf noTab_lst
            exact ⟨a, b, xs, ys, rfl, rfl, ha', st.s2.up hb, by rw [r.len, rb.len]; exact hz, p σ F' _ ((fs.step st).grow e es ha' hf' ((r.mono st.s1).app rb))⟩
          · exact p.elim
        | non => exact p.elim
        | bl _ => exact p.elim
        | int _ => exact p.elim
        | str _ => exact p.elim
        | tup _ => exact p.elim
        | scr _ => exact p.elim
        | dct _ _ => exact p.elim
      | ex e => rw [q] at p; exact GXs fs p
      | bad => rw [q] at p; exact p
    · exact p.elim
theorem FmSt.base {K : PySem.W.Frag} {F H G : Hp} {σ : L2.St} {env : Fm} (h : FmSt K { B with Fb := G } F H σ env) (s : Same B.Fb G) : FmSt K B F H σ env := ⟨h.1, ⟨h.2.1.1, s.trans h.2.1.2⟩, h.2.2⟩
theorem s_for {tg iter : Expr} {body : List Stmt} {g : TG} {t : Tgt} {js : List Nat} {src : Fm → R (List PV)} {db : Fm → RS} {pos : Pos} (wp : List Nat) (hp : PassesOwn (model X.prog X.w) X.A X.env X.xe) (hc : X.calm = true) (hi : PI X tg iter (xI X W src)) (hg : PG X tg g) (tS' : TgS X.K g t js) (hb : PSs X body (xS X W db))
    (hs : ∀ x, foldedSetIterable iter X.env x = pure x := by intro _; rfl) : PS X (.For tg iter body [] pos) (xS X W (dFor src t db wp)) := PS.imp (ps_for hp hc hi hg hb hs) fun D σ H ⟨B, F, env, fs, p⟩ => by
  refine ⟨F, env, fs.1, ?_⟩
  unfold dFor at p
  cases q : src env with
  | ex e => rw [q] at p; exact GXs fs p
  | bad => rw [q] at p; exact p
  | ok ds =>
    rw [q] at p
    simp only at p
    intro J F1 H1 st1 wk
    have fs1 := fs.step st1
    have sB : Same B.Fb F1 := fs1.2.1.2
    refine ⟨fun i m σ' H' => m = ds.length - i ∧ i ≤ ds.length ∧ ∃ F' env', FmSt X.K { B with Fb := F1 } F' H' σ' env' ∧ SPs X.K X.mg W B D (forGo t db wp (ds.drop i) env'), ⟨ds.length, by simp, Nat.zero_le _, F1, _, FmSt.clr (B := { B with Fb := F1 }) ⟨fs1.1, ⟨fs1.2.1.1, Same.refl _⟩, fs1.2.2⟩ wp, p⟩, ?_⟩
    rintro i m σ' H' ⟨rfl, hi, F', env', fs', p'⟩
    obtain ⟨w1, w2⟩ := wk F' H' fs'.2.1.2 fs'.1.s0
    by_cases hlt : i < ds.length
    · obtain ⟨d, hd⟩ : ∃ d, ds[i]? = some d := ⟨_, List.getElem?_eq_getElem hlt⟩
      obtain ⟨go, yl⟩ := w1 i d hd
      have hdrop : ds.drop i = d :: ds.drop (i + 1) := by
        rw [List.drop_eq_getElem_cons hlt]
        rw [List.getElem?_eq_getElem hlt] at hd
        cases hd
        rfl
      rw [hdrop, forGo] at p'
      refine .inr ⟨go, fun σ2 H2 => ∃ F2 env2, FmSt X.K { B with Fb := F1 } F2 H2 σ2 env2 ∧ SPs X.K X.mg W B D (forGo t db wp (ds.drop (i + 1)) (clr env2 wp)), fun σ2 H2 ⟨F2, env2, f2, p2⟩ => ⟨ds.length - (i + 1), by omega, rfl, hlt, F2, _, f2.clr wp, p2⟩, fun x H2 hy => ?_⟩
      obtain ⟨F2, st2, rx⟩ := yl x H2 hy
      cases qt : t d env' with
      | none => rw [qt] at p'; exact p'.elim
      | some e1 =>
        rw [qt] at p'
        simp only at p'
        have f2 := fs'.step st2
        refine tS' F2 H2 σ' env' x d e1 _ f2.1 rx qt fun σ2 ok2 h1 h2 h3 h4 => ⟨{ B with Fb := F1 }, F2, e1, ⟨ok2, f2.2.1, fun j s a ej o ea => ?_⟩, ?_⟩
        · by_cases c : j ∈ js
          · rw [h3 j s c ej] at o; cases o
          · rw [h2 j c] at ej; rw [h1 j c] at ea; exact f2.2.2 j s a ej o ea
        · cases qb : db e1 with
          | nx e2 => rw [qb] at p'; exact fun σ3 F3 H3 f3 => ⟨F3, e2, f3, p'⟩
          | ct e2 => rw [qb] at p'; exact fun σ3 F3 H3 f3 => ⟨F3, e2, f3, p'⟩
          | bk e2 => rw [qb] at p'; exact fun σ3 F3 H3 f3 => p' σ3 F3 H3 ((f3.base sB).clr wp)
          | rt v => rw [qb] at p'; exact p'
          | rf v => rw [qb] at p'; exact p'
          | ex v w => rw [qb] at p'; exact fun c dd σ3 F3 H3 f3 r => p' c dd σ3 F3 H3 (f3.base sB) r
          | bad => rw [qb] at p'; exact p'
    · have e : i = ds.length := by omega
      subst e
      rw [List.drop_length, forGo] at p'
      exact .inl ⟨w2, p' σ' F' H' (fs'.base sB)⟩
theorem s_while {c : Expr} {body : List Stmt} {dc : Fm → R Bool} {db : Fm → RS} {pos : Pos} (m : Fm → Nat) (wp : List Nat) (hp : PassesOwn (model X.prog X.w) X.A X.env X.xe) (hc : PT X c (xT X W dc)) (hb : PSs X body (xS X W db)) : PS X (.While c body [] pos) (xS X W (dWhile m dc db wp)) :=
  PS.imp (ps_while hp hc hb) fun D σ H ⟨B, F, env, fs, p⟩ => by
    refine ⟨fun n σ' H' => ∃ F' env', FmSt X.K B F' H' σ' env' ∧ SPs X.K X.mg W B D (whGo dc db wp n env'), ⟨m env, F, _, fs.clr wp, p⟩, ?_⟩
    rintro n σ' H' ⟨F', env', fs', p'⟩
    cases n with
    | zero => exact p'.elim
    | succ n =>
      rw [whGo] at p'
      refine ⟨F', env', fs'.1, ?_⟩
      cases q : dc env' with
      | ex e => rw [q] at p'; exact GXs fs' p'
      | bad => rw [q] at p'; exact p'
      | ok k =>
        rw [q] at p'
        intro F2 H2 st
        have f2 := fs'.step st
        cases k with
        | false => rw [if_neg Bool.false_ne_true]; exact p' σ' F2 H2 f2
        | true =>
          rw [if_pos rfl]
          simp only at p'
          refine ⟨fun σ2 H2 => ∃ F2 env2, FmSt X.K B F2 H2 σ2 env2 ∧ SPs X.K X.mg W B D (whGo dc db wp n (clr env2 wp)), fun σ2 H2 ⟨F2, env2, f2, p2⟩ => ⟨n, Nat.lt_succ_self n, F2, _, f2.clr wp, p2⟩, B, F2, env', f2, ?_⟩
          cases qb : db env' with
          | nx e2 => rw [qb] at p'; exact fun σ3 F3 H3 f3 => ⟨F3, e2, f3, p'⟩
          | ct e2 => rw [qb] at p'; exact fun σ3 F3 H3 f3 => ⟨F3, e2, f3, p'⟩
          | bk e2 => rw [qb] at p'; exact fun σ3 F3 H3 f3 => p' σ3 F3 H3 (f3.clr wp)
          | rt v => rw [qb] at p'; exact p'
          | rf v => rw [qb] at p'; exact p'
          | ex v w => rw [qb] at p'; exact p'
          | bad => rw [qb] at p'; exact p'

/-! ### defs -/
def spV (K : PySem.W.Frag) (mg : Str → Option Value) (f : List PV → R PV) : Sp := fun vs H Q E => ∃ F ds, Fz F H ∧ RepL K F ds vs ∧ RP (f ds) (GV K F H Q) (fun e => ∀ cls dd F' H', Step F H F' H' → RepX K mg F' e cls dd → E cls dd H')
def spF (K : PySem.W.Frag) (mg : Str → Option Value) (f : List PV → R (List PV)) : Sp := fun vs H Q E => ∃ F ds, Fz F H ∧ RepL K F ds vs ∧ RP (f ds) (GF K F H Q) (fun e => ∀ cls dd F' H', Step F H F' H' → RepX K mg F' e cls dd → E cls dd H')
def fm0 (n : Nat) (ds : List PV) : Fm := ds.map .pv ++ List.replicate (n - ds.length) .un
def toV : RS → R PV
  | .nx _ => .ok .non
  | .rt v => .ok v
  | .ex e _ => .ex e
  | _ => .bad
def toF : RS → R (List PV)
  | .rf l => .ok l
  | .ex e _ => .ex e
  | _ => .bad
theorem fm0_at {n : Nat} {ds : List PV} {i : Nat} {s : Slot} (h : (fm0 n ds)[i]? = some s) : s = .un ∨ ∃ d, ds[i]? = some d ∧ s = .pv d := by
  unfold fm0 at h
  by_cases c : i < ds.length
  · rw [List.getElem?_append_left (by rw [List.length_map]; exact c), List.getElem?_map] at h
    cases q : ds[i]? with
    | none => rw [q] at h; cases h
    | some d => rw [q] at h; cases h; exact .inr ⟨d, rfl, rfl⟩
  · rw [List.getElem?_append_right (by rw [List.length_map]; omega)] at h
    have := List.mem_of_getElem? h
    exact .inl (List.eq_of_mem_replicate this)
theorem fmSt0 {K : PySem.W.Frag} {F H : Hp} {N : List Str} {ds : List PV} {vs : List V} (s : Fz F H) (r : RepL K F ds vs) : FmSt K ⟨F, F, H⟩ F H (start N vs) (fm0 N.length ds) := by
  refine ⟨⟨s, ?_, fun i s' e => ?_, fun i j s' t a ei ej oi oj _ _ => ?_⟩, ⟨Step.refl s, Same.refl _⟩, fun i s' a e o _ => ?_⟩
  · unfold fm0 L2.start
    simp only [List.length_append, List.length_map, List.length_replicate, r.len]
  · rcases fm0_at e with z | ⟨d, h1, h2⟩
    · subst z; trivial
    · subst h2
      obtain ⟨x, ex, rx⟩ := r.get' h1
      refine ⟨x, ?_, rx⟩
      unfold L2.start
      have hi : i < vs.length := (List.getElem?_eq_some_iff.mp ex).1
      rw [List.getElem?_append_left (by rw [List.length_map]; exact hi), List.getElem?_map, ex]
      rfl
  · rcases fm0_at ei with z | ⟨d, h1, h2⟩
    · subst z; cases oi
    · subst h2; cases oi
  · rcases fm0_at e with z | ⟨d, h1, h2⟩
    · subst z; cases o
    · subst h2; cases o
end
section
variable {P : Program} {w : World} {K : PySem.W.Frag} {mg : Str → Option Value} {base : Heap}
/-- around a body nothing is let out -/
theorem takes0 {X : Cx} : L2N.Takes X (fun _ _ _ _ => False) := fun _ _ x => by
  obtain ⟨_, _, _, _, _, _, _, _, _, _, _, _, _, _, _, _, z⟩ := x
  exact z.elim
theorem fun_okN {x qual : Str} {st : Stmt} {f : Addr} {fd : FuncData} {N ps : List Str} {k : Nat} {sp : Sp} (F : Fun K x qual st f fd) (S : FnScope N ps (defScope st)) (len : ∀ vs H Q E, sp vs H Q E → vs.length = ps.length)
    (hbody : ∀ (cdv : Value) (A : Around) (outer : List Env) (s : Shared) (H : Hp) (vs : List V) (Q : VK) (E : XK), fd.code = cdv → Room k (A.deeper (envOfC qual (defScope st) s.heap.objs.size f cdv)) → sp vs H Q E →
      ∃ t, PSs (cxOf (L2N.CX P w) P w K mg base N qual (defScope st) f cdv A outer s H E) (defBody st) t ∧ t { nx := fun _ H' => Q .non H', rt := Q } (start N vs) H) : FnOk P w K mg base (L2N.CX P w) (k + 1) f fd ps sp := by
  obtain ⟨oc, od, kV, doc, pm, an, cdv, ct, osl, rfl, lk, hcd⟩ := F.ex
  exact fn_of lk hcd S len fun A outer s H vs Q E hr hsp => hbody cdv A outer s H vs Q E rfl hr hsp
theorem fun_ofD {x qual : Str} {st : Stmt} {f : Addr} {fd : FuncData} (F : FunD K x qual (defArgs st) (defBody st) (defScope st) [] [] f fd) : Fun K x qual st f fd := by
  obtain ⟨⟨oc, od, dV, kV, doc, pm, an, cdv, ct, osl, e, lk, hcd, hd, _⟩, kp⟩ := F
  rcases hd with ⟨_, h1⟩ | ⟨z, _⟩
  · subst h1
    exact ⟨⟨oc, od, kV, doc, pm, an, cdv, ct, osl, e, lk, hcd⟩, kp⟩
  · exact absurd rfl z
abbrev cxX (P : Program) (w : World) (K : PySem.W.Frag) (mg : Str → Option Value) (base : Heap) (N : List Str) (qual : Str) (st : Stmt) (f : Addr) (cdv : Value) (A : Around) (outer : List Env) (s : Shared) (H : Hp) (E : XK) : Cx := cxOf (L2N.CX P w) P w K mg base N qual (defScope st) f cdv A outer s H E
abbrev wE (E : XK) : WX := fun c d _ H => E c d H
theorem fn_V {x qual : Str} {st : Stmt} {f : Addr} {fd : FuncData} {N ps : List Str} {k : Nat} {g : List PV → R PV} {d : Fm → RS} (Fn : Fun K x qual st f fd) (S : FnScope N ps (defScope st)) (hl : ∀ ds, g ds ≠ .bad → ds.length = ps.length)
    (hd : ∀ ds, g ds ≠ .bad → toV (d (fm0 N.length ds)) = g ds)
    (body : ∀ (cdv : Value) (A : Around) (outer : List Env) (s : Shared) (H : Hp) (E : XK), fd.code = cdv → Room k (A.deeper (envOfC qual (defScope st) s.heap.objs.size f cdv)) → PSs (cxX P w K mg base N qual st f cdv A outer s H E) (defBody st) (xS (cxX P w K mg base N qual st f cdv A outer s H E) (wE E) d)) :
    FnOk P w K mg base (L2N.CX P w) (k + 1) f fd ps (spV K mg g) := by
  have nb : ∀ {ds : List PV} {A : PV → Prop} {Bx : Ex → Prop}, RP (g ds) A Bx → g ds ≠ .bad := fun {ds A Bx} p z => by rw [z] at p; exact p
  refine fun_okN Fn S (fun vs H Q E h => ?_) (fun cdv A outer s H vs Q E hcv hr h => ⟨_, body cdv A outer s H E hcv hr, ?_⟩)
  · obtain ⟨F, ds, s0, r, p⟩ := h
    rw [r.len]
    exact hl ds (nb p)
  · obtain ⟨F, ds, s0, r, p⟩ := h
    refine ⟨⟨F, F, H⟩, F, fm0 N.length ds, fmSt0 s0 r, ?_⟩
    have e := hd ds (nb p)
    cases q : d (fm0 N.length ds) with
    | nx e' =>
      rw [q] at e
      have e2 : g ds = .ok .non := e.symm
      rw [e2] at p
      exact fun σ' F' H' fs => p .non F' H' fs.2.1.1 (by simp only [Rep])
    | rt v =>
      rw [q] at e
      have e2 : g ds = .ok v := e.symm
      rw [e2] at p
      exact fun y F' H' st r => p y F' H' st r
    | rf v =>
      rw [q] at e
      have e2 : g ds = .bad := e.symm
      rw [e2] at p
      exact p.elim
    | bk v =>
      rw [q] at e
      have e2 : g ds = .bad := e.symm
      rw [e2] at p
      exact p.elim
    | ct v =>
      rw [q] at e
      have e2 : g ds = .bad := e.symm
      rw [e2] at p
      exact p.elim
    | ex v w' =>
      rw [q] at e
      have e2 : g ds = .ex v := e.symm
      rw [e2] at p
      exact fun c dd σ' F' H' fs r => p c dd F' H' fs.2.1.1 r
    | bad =>
      rw [q] at e
      have e2 : g ds = .bad := e.symm
      rw [e2] at p
      exact p.elim
theorem fn_F {x qual : Str} {st : Stmt} {f : Addr} {fd : FuncData} {N ps : List Str} {k : Nat} {g : List PV → R (List PV)} {d : Fm → RS} (Fn : Fun K x qual st f fd) (S : FnScope N ps (defScope st)) (hl : ∀ ds, g ds ≠ .bad → ds.length = ps.length)
    (hd : ∀ ds, g ds ≠ .bad → toF (d (fm0 N.length ds)) = g ds)
    (body : ∀ (cdv : Value) (A : Around) (outer : List Env) (s : Shared) (H : Hp) (E : XK), fd.code = cdv → Room k (A.deeper (envOfC qual (defScope st) s.heap.objs.size f cdv)) → PSs (cxX P w K mg base N qual st f cdv A outer s H E) (defBody st) (xS (cxX P w K mg base N qual st f cdv A outer s H E) (wE E) d)) :
    FnOk P w K mg base (L2N.CX P w) (k + 1) f fd ps (spF K mg g) := by
  have nb : ∀ {ds : List PV} {A : List PV → Prop} {Bx : Ex → Prop}, RP (g ds) A Bx → g ds ≠ .bad := fun {ds A Bx} p z => by rw [z] at p; exact p
  refine fun_okN Fn S (fun vs H Q E h => ?_) (fun cdv A outer s H vs Q E hcv hr h => ⟨_, body cdv A outer s H E hcv hr, ?_⟩)
  · obtain ⟨F, ds, s0, r, p⟩ := h
    rw [r.len]
    exact hl ds (nb p)
  · obtain ⟨F, ds, s0, r, p⟩ := h
    refine ⟨⟨F, F, H⟩, F, fm0 N.length ds, fmSt0 s0 r, ?_⟩
    have e := hd ds (nb p)
    cases q : d (fm0 N.length ds) with
    | rf v =>
      rw [q] at e
      have e2 : g ds = .ok v := e.symm
      rw [e2] at p
      exact fun a xs F' H' st hn hf ha r => p a xs F' H' st hn hf ha r
    | ex v w' =>
      rw [q] at e
      have e2 : g ds = .ex v := e.symm
      rw [e2] at p
      exact fun c dd σ' F' H' fs r => p c dd F' H' fs.2.1.1 r
    | nx v =>
      rw [q] at e
      have e2 : g ds = .bad := e.symm
      rw [e2] at p
      exact p.elim
    | rt v =>
      rw [q] at e
      have e2 : g ds = .bad := e.symm
      rw [e2] at p
      exact p.elim
    | bk v =>
      rw [q] at e
      have e2 : g ds = .bad := e.symm
      rw [e2] at p
      exact p.elim
    | ct v =>
      rw [q] at e
      have e2 : g ds = .bad := e.symm
      rw [e2] at p
      exact p.elim
    | bad =>
      rw [q] at e
      have e2 : g ds = .bad := e.symm
      rw [e2] at p
      exact p.elim
end
/-! ### calls -/
/-- a def that may be called by its name -/
structure CaV (P : Program) (w : World) (K : PySem.W.Frag) (mg : Str → Option Value) (base : Heap) (k : Nat) (x : Str) (g : List PV → R PV) : Prop where
  ex : ∃ f fd ps, FnOk P w K mg base (L2N.CX P w) k f fd ps (spV K mg g) ∧ mg x = some (.ref f) ∧ PySem.W.keepIn K (.ref f) = true ∧ Binds K fd ps []
structure CaF (P : Program) (w : World) (K : PySem.W.Frag) (mg : Str → Option Value) (base : Heap) (k : Nat) (x : Str) (g : List PV → R (List PV)) : Prop where
  ex : ∃ f fd ps, FnOk P w K mg base (L2N.CX P w) k f fd ps (spF K mg g) ∧ mg x = some (.ref f) ∧ PySem.W.keepIn K (.ref f) = true ∧ Binds K fd ps []
section
variable {X : Cx} {W : WX} {k j : Nat} {x : Str} {p pos : Pos} {e : Expr} {es : List Expr} {d : Fm → R (List PV)}
theorem go_call {α : Type} {G : Hp → Hp → VK → α → Prop} {g : List PV → R α} {σ : L2.St} {H : Hp} {Q : VK} {K : PySem.W.Frag} {mg : Str → Option Value} (sG : Stays G) (h : tG K mg W G (dCall g d) σ H Q) :
    tAG K mg W (GVL K) d σ H fun vs H1 => ∃ F ds, Fz F H1 ∧ RepL K F ds vs ∧ RP (g ds) (G F H1 Q) (fun e => ∀ cls dd F' H', Step F H1 F' H' → RepX K mg F' e cls dd → W cls dd σ H') :=
  seqV sG h fun F H xs ds s r p => ⟨F, ds, s, r, p⟩
theorem v_call {g : List PV → R PV} (c : CaV X.prog X.w X.K X.mg X.base k x g) (tk : L2N.Takes X W) (hr : Room j X.A) (ha : PA X (e :: es) (xVL X W d)) (hk : k ≤ j := by omega) (hg : Gl X x := by rfl) (hdb : (x == ("__debug__" : Str)) = false := by decide)
    (he : starEach (e :: es) X.env = (false, eval e X.env) :: starEach es X.env := by rfl) (hpl : (backTo pos (starEach es X.env)).any (·.1) = false := by rfl) : PE X (.Call (.Name x p) (e :: es) [] pos) (xV X W (dCall g d)) := by
  obtain ⟨f, fd, ps, F, m, kp, b⟩ := c.ex
  exact PE.imp (pe_callS F (hr.mono hk) hg m kp b (fun σ => L2N.passAt tk σ) ha hdb he hpl) fun σ H Q h => go_call stGV h
theorem f_call {g : List PV → R (List PV)} (c : CaF X.prog X.w X.K X.mg X.base k x g) (tk : L2N.Takes X W) (hr : Room j X.A) (ha : PA X (e :: es) (xVL X W d)) (hk : k ≤ j := by omega) (hg : Gl X x := by rfl) (hdb : (x == ("__debug__" : Str)) = false := by decide)
    (he : starEach (e :: es) X.env = (false, eval e X.env) :: starEach es X.env := by rfl) (hpl : (backTo pos (starEach es X.env)).any (·.1) = false := by rfl) : PE X (.Call (.Name x p) (e :: es) [] pos) (xF X W (dCall g d)) := by
  obtain ⟨f, fd, ps, F, m, kp, b⟩ := c.ex
  exact PE.imp (pe_callS F (hr.mono hk) hg m kp b (fun σ => L2N.passAt tk σ) ha hdb he hpl) fun σ H Q h => go_call stGF h
theorem go_call0 {α : Type} {G : Hp → Hp → VK → α → Prop} {g : List PV → R α} {σ : L2.St} {H : Hp} {Q : VK} {K : PySem.W.Frag} {mg : Str → Option Value} (h : tG K mg W G (dCall g dNil) σ H Q) :
    ∃ F ds, Fz F H ∧ RepL K F ds [] ∧ RP (g ds) (G F H Q) (fun e => ∀ cls dd F' H', Step F H F' H' → RepX K mg F' e cls dd → W cls dd σ H') := by
  obtain ⟨F, env, ok, p⟩ := h
  exact ⟨F, [], ok.s0, .nil, p⟩
theorem pe_callS0 {CX : CXT} {f : Addr} {fd : FuncData} {ps : List Str} {sp : Sp} {E : L2.St → XK} (F : FnOk X.prog X.w X.K X.mg X.base CX k f fd ps sp) (hr : Room k X.A) (hg : Gl X x) (hm : X.mg x = some (.ref f)) (hk : PySem.W.keepIn X.K (.ref f) = true) (hb : Binds X.K fd ps []) (hx : ∀ σ, PassesAt CX X σ (E σ))
    (hdb : (x == ("__debug__" : Str)) = false := by decide) : PE X (.Call (.Name x p) [] [] pos) (fun σ H Q => sp [] H Q (E σ)) := by
  refine ⟨fun pins s σ H Q I h => ?_⟩
  refine wpAny_Call_Name_kw (ld_glob I hg hm ?_ hdb)
  exact PySem.W.callWith_K0 I.kIn hk (run_fnS (us := []) F hr hb (hx σ) I .nil h)
theorem v_call0 {g : List PV → R PV} (c : CaV X.prog X.w X.K X.mg X.base k x g) (tk : L2N.Takes X W) (hr : Room j X.A) (hk : k ≤ j := by omega) (hg : Gl X x := by rfl) (hdb : (x == ("__debug__" : Str)) = false := by decide) : PE X (.Call (.Name x p) [] [] pos) (xV X W (dCall g dNil)) := by
  obtain ⟨f, fd, ps, F, m, kp, b⟩ := c.ex
  exact PE.imp (pe_callS0 F (hr.mono hk) hg m kp b (fun σ => L2N.passAt tk σ) hdb) fun σ H Q h => go_call0 h
theorem f_call0 {g : List PV → R (List PV)} (c : CaF X.prog X.w X.K X.mg X.base k x g) (tk : L2N.Takes X W) (hr : Room j X.A) (hk : k ≤ j := by omega) (hg : Gl X x := by rfl) (hdb : (x == ("__debug__" : Str)) = false := by decide) : PE X (.Call (.Name x p) [] [] pos) (xF X W (dCall g dNil)) := by
  obtain ⟨f, fd, ps, F, m, kp, b⟩ := c.ex
  exact PE.imp (pe_callS0 F (hr.mono hk) hg m kp b (fun σ => L2N.passAt tk σ) hdb) fun σ H Q h => go_call0 h
end
section
variable {P : Program} {w : World} {K : PySem.W.Frag} {mg : Str → Option Value} {base : Heap}
theorem fn_badV {k : Nat} {f : Addr} {fd : FuncData} (ps : List Str) : FnOk P w K mg base (L2N.CX P w) k f fd ps (spV K mg fun _ => .bad) :=
  ⟨fun vs H Q E ⟨F, ds, _, _, p⟩ => p.elim, fun A outer s H args us vs Q E _ _ _ _ ⟨F, ds, _, _, p⟩ => p.elim⟩
theorem fn_badF {k : Nat} {f : Addr} {fd : FuncData} (ps : List Str) : FnOk P w K mg base (L2N.CX P w) k f fd ps (spF K mg fun _ => .bad) :=
  ⟨fun vs H Q E ⟨F, ds, _, _, p⟩ => p.elim, fun A outer s H args us vs Q E _ _ _ _ ⟨F, ds, _, _, p⟩ => p.elim⟩
/-- the law's promise -/
def spLaw (K : PySem.W.Frag) : Sp := fun vs H Q _ => ∃ (a : Addr) (ns : List Int), vs = [.ref a] ∧ SqL K H a (ns.map V.int) ∧ ns.length ≤ 63 ∧ (∀ z ∈ ns, Builtin.Int.intBits z ≤ 1048576) ∧ (∀ p ∈ TabCx.T, H p.1 = some (.tbl #[])) ∧ ∀ H', Q (.bl true) H'
def notabs (H : Hp) : Hp := fun a => match H a with
  | some (.tbl _) => none
  | o => o
theorem spLaw_imp {g : List PV → R PV} (hp : ∀ ns : List Int, ns.length ≤ 63 → (∀ z ∈ ns, Builtin.Int.intBits z ≤ 1048576) → g [.scr ns] = .ok (.bl true)) {vs : List V} {H : Hp} {Q : VK} {E : XK} (h : spLaw K vs H Q E) : spV K mg g vs H Q E := by
  obtain ⟨a, ns, rfl, hS, hl, hb, hT, q⟩ := h
  have up : ∀ b o, H b = some o → NoTab o → notabs H b = some o := fun b o e t => by
    unfold notabs
    rw [e]
    cases o with
    | tbl ps => exact absurd rfl (t ps)
    | _ => rfl
  have dn : ∀ b o, notabs H b = some o → H b = some o ∧ NoTab o := fun b o e => by
    unfold notabs at e
    cases q : H b with
    | none => rw [q] at e; cases e
    | some u =>
      rw [q] at e
      cases u with
      | tbl ps => cases e
      | _ => cases e; exact ⟨rfl, fun _ z => by cases z⟩
  have hS' : SqL K (notabs H) a (ns.map V.int) := by
    rcases hS with (h | ⟨o, h⟩) | h
    · exact .inl (.inl (up _ _ h fun _ z => by cases z))
    · exact .inl (.inr ⟨o, up _ _ h fun _ z => by cases z⟩)
    · exact .inr h
  refine ⟨notabs H, [.scr ns], ⟨fun b o e => (dn b o e).1, fun p hp => .nil (hT p hp), fun b o e => (dn b o e).2⟩, .one (by simp only [Rep]; exact ⟨a, rfl, hS'⟩), ?_⟩
  rw [hp ns hl hb]
  intro x F' H' _ r
  simp only [Rep] at r
  subst r
  exact q H'
theorem cx_false {outer : List Env} {H : Hp} {s : Shared} {e : Value} {s' : Shared} (h : L2N.CX P w outer H s (fun _ _ _ => False) e s') : False := by
  obtain ⟨_, _, _, _, _, _, _, _, _, _, _, _, z⟩ := h
  exact z
end
end Pv

set_option Elab.async false
set_option linter.all false
set_option maxRecDepth 100000
set_option maxHeartbeats 2000000
/-! PvF: how plain values are reckoned. -/
namespace Pv
open PySem PySem.Spec PyProof.Rows L2
local instance : TabCx := ⟨[]⟩
@[simp] theorem isi_int_dct (ks : List Key) (vs : List PV) : pIsi "int" (.dct ks vs) = some (.bl false) := by
  show (kitB "dict" "int").map PV.bl = _
  rw [show kitB "dict" "int" = some false by decide +kernel]
  rfl
@[simp] theorem isi_str_dct (ks : List Key) (vs : List PV) : pIsi "str" (.dct ks vs) = some (.bl false) := by
  show (kitB "dict" "str").map PV.bl = _
  rw [show kitB "dict" "str" = some false by decide +kernel]
  rfl
@[simp] theorem isi_tuple_dct (ks : List Key) (vs : List PV) : pIsi "tuple" (.dct ks vs) = some (.bl false) := by
  show (kitB "dict" "tuple").map PV.bl = _
  rw [show kitB "dict" "tuple" = some false by decide +kernel]
  rfl
@[simp] theorem isi_list_dct (ks : List Key) (vs : List PV) : pIsi "list" (.dct ks vs) = some (.bl false) := by
  show (kitB "dict" "list").map PV.bl = _
  rw [show kitB "dict" "list" = some false by decide +kernel]
  rfl
@[simp] theorem isi_bool_dct (ks : List Key) (vs : List PV) : pIsi "bool" (.dct ks vs) = some (.bl false) := by
  show (kitB "dict" "bool").map PV.bl = _
  rw [show kitB "dict" "bool" = some false by decide +kernel]
  rfl
@[simp] theorem isi_int_non : pIsi "int" .non = some (.bl false) := by
  show (kitB "NoneType" "int").map PV.bl = _
  rw [show kitB "NoneType" "int" = some false by decide +kernel]
  rfl
@[simp] theorem isi_int_bl (b : Bool) : pIsi "int" (.bl b) = some (.bl true) := by
  show (kitB "bool" "int").map PV.bl = _
  rw [show kitB "bool" "int" = some true by decide +kernel]
  rfl
@[simp] theorem isi_int_int (i : Int) : pIsi "int" (.int i) = some (.bl true) := by
  show (kitB "int" "int").map PV.bl = _
  rw [show kitB "int" "int" = some true by decide +kernel]
  rfl
@[simp] theorem isi_int_str (x : Str) : pIsi "int" (.str x) = some (.bl false) := by
  show (kitB "str" "int").map PV.bl = _
  rw [show kitB "str" "int" = some false by decide +kernel]
  rfl
@[simp] theorem isi_int_tup (l : List PV) : pIsi "int" (.tup l) = some (.bl false) := by
  show (kitB "tuple" "int").map PV.bl = _
  rw [show kitB "tuple" "int" = some false by decide +kernel]
  rfl
@[simp] theorem isi_int_lst (l : List PV) : pIsi "int" (.lst l) = some (.bl false) := by
  show (kitB "list" "int").map PV.bl = _
  rw [show kitB "list" "int" = some false by decide +kernel]
  rfl
@[simp] theorem isi_int_scr (l : List Int) : pIsi "int" (.scr l) = some (.bl false) := by
  show (kitB "list" "int").map PV.bl = _
  rw [show kitB "list" "int" = some false by decide +kernel]
  rfl
@[simp] theorem isi_str_non : pIsi "str" .non = some (.bl false) := by
  show (kitB "NoneType" "str").map PV.bl = _
  rw [show kitB "NoneType" "str" = some false by decide +kernel]
  rfl
@[simp] theorem isi_str_bl (b : Bool) : pIsi "str" (.bl b) = some (.bl false) := by
  show (kitB "bool" "str").map PV.bl = _
  rw [show kitB "bool" "str" = some false by decide +kernel]
  rfl
@[simp] theorem isi_str_int (i : Int) : pIsi "str" (.int i) = some (.bl false) := by
  show (kitB "int" "str").map PV.bl = _
  rw [show kitB "int" "str" = some false by decide +kernel]
  rfl
@[simp] theorem isi_str_str (x : Str) : pIsi "str" (.str x) = some (.bl true) := by
  show (kitB "str" "str").map PV.bl = _
  rw [show kitB "str" "str" = some true by decide +kernel]
  rfl
@[simp] theorem isi_str_tup (l : List PV) : pIsi "str" (.tup l) = some (.bl false) := by
  show (kitB "tuple" "str").map PV.bl = _
  rw [show kitB "tuple" "str" = some false by decide +kernel]
  rfl
@[simp] theorem isi_str_lst (l : List PV) : pIsi "str" (.lst l) = some (.bl false) := by
  show (kitB "list" "str").map PV.bl = _
  rw [show kitB "list" "str" = some false by decide +kernel]
  rfl
@[simp] theorem isi_str_scr (l : List Int) : pIsi "str" (.scr l) = some (.bl false) := by
  show (kitB "list" "str").map PV.bl = _
  rw [show kitB "list" "str" = some false by decide +kernel]
  rfl
@[simp] theorem isi_tuple_non : pIsi "tuple" .non = some (.bl false) := by
  show (kitB "NoneType" "tuple").map PV.bl = _
  rw [show kitB "NoneType" "tuple" = some false by decide +kernel]
  rfl
@[simp] theorem isi_tuple_bl (b : Bool) : pIsi "tuple" (.bl b) = some (.bl false) := by
  show (kitB "bool" "tuple").map PV.bl = _
  rw [show kitB "bool" "tuple" = some false by decide +kernel]
  rfl
@[simp] theorem isi_tuple_int (i : Int) : pIsi "tuple" (.int i) = some (.bl false) := by
  show (kitB "int" "tuple").map PV.bl = _
  rw [show kitB "int" "tuple" = some false by decide +kernel]
  rfl
@[simp] theorem isi_tuple_str (x : Str) : pIsi "tuple" (.str x) = some (.bl false) := by
  show (kitB "str" "tuple").map PV.bl = _
  rw [show kitB "str" "tuple" = some false by decide +kernel]
  rfl
@[simp] theorem isi_tuple_tup (l : List PV) : pIsi "tuple" (.tup l) = some (.bl true) := by
  show (kitB "tuple" "tuple").map PV.bl = _
  rw [show kitB "tuple" "tuple" = some true by decide +kernel]
  rfl
@[simp] theorem isi_tuple_lst (l : List PV) : pIsi "tuple" (.lst l) = some (.bl false) := by
  show (kitB "list" "tuple").map PV.bl = _
  rw [show kitB "list" "tuple" = some false by decide +kernel]
  rfl
@[simp] theorem isi_tuple_scr (l : List Int) : pIsi "tuple" (.scr l) = some (.bl false) := by
  show (kitB "list" "tuple").map PV.bl = _
  rw [show kitB "list" "tuple" = some false by decide +kernel]
  rfl
@[simp] theorem isi_list_non : pIsi "list" .non = some (.bl false) := by
  show (kitB "NoneType" "list").map PV.bl = _
  rw [show kitB "NoneType" "list" = some false by decide +kernel]
  rfl
@[simp] theorem isi_list_bl (b : Bool) : pIsi "list" (.bl b) = some (.bl false) := by
  show (kitB "bool" "list").map PV.bl = _
  rw [show kitB "bool" "list" = some false by decide +kernel]
  rfl
@[simp] theorem isi_list_int (i : Int) : pIsi "list" (.int i) = some (.bl false) := by
  show (kitB "int" "list").map PV.bl = _
  rw [show kitB "int" "list" = some false by decide +kernel]
  rfl
@[simp] theorem isi_list_str (x : Str) : pIsi "list" (.str x) = some (.bl false) := by
  show (kitB "str" "list").map PV.bl = _
  rw [show kitB "str" "list" = some false by decide +kernel]
  rfl
@[simp] theorem isi_list_tup (l : List PV) : pIsi "list" (.tup l) = some (.bl false) := by
  show (kitB "tuple" "list").map PV.bl = _
  rw [show kitB "tuple" "list" = some false by decide +kernel]
  rfl
@[simp] theorem isi_list_lst (l : List PV) : pIsi "list" (.lst l) = some (.bl true) := by
  show (kitB "list" "list").map PV.bl = _
  rw [show kitB "list" "list" = some true by decide +kernel]
  rfl
@[simp] theorem isi_list_scr (l : List Int) : pIsi "list" (.scr l) = some (.bl true) := by
  show (kitB "list" "list").map PV.bl = _
  rw [show kitB "list" "list" = some true by decide +kernel]
  rfl
@[simp] theorem isi_bool_non : pIsi "bool" .non = some (.bl false) := by
  show (kitB "NoneType" "bool").map PV.bl = _
  rw [show kitB "NoneType" "bool" = some false by decide +kernel]
  rfl
@[simp] theorem isi_bool_bl (b : Bool) : pIsi "bool" (.bl b) = some (.bl true) := by
  show (kitB "bool" "bool").map PV.bl = _
  rw [show kitB "bool" "bool" = some true by decide +kernel]
  rfl
@[simp] theorem isi_bool_int (i : Int) : pIsi "bool" (.int i) = some (.bl false) := by
  show (kitB "int" "bool").map PV.bl = _
  rw [show kitB "int" "bool" = some false by decide +kernel]
  rfl
@[simp] theorem isi_bool_str (x : Str) : pIsi "bool" (.str x) = some (.bl false) := by
  show (kitB "str" "bool").map PV.bl = _
  rw [show kitB "str" "bool" = some false by decide +kernel]
  rfl
@[simp] theorem isi_bool_tup (l : List PV) : pIsi "bool" (.tup l) = some (.bl false) := by
  show (kitB "tuple" "bool").map PV.bl = _
  rw [show kitB "tuple" "bool" = some false by decide +kernel]
  rfl
@[simp] theorem isi_bool_lst (l : List PV) : pIsi "bool" (.lst l) = some (.bl false) := by
  show (kitB "list" "bool").map PV.bl = _
  rw [show kitB "list" "bool" = some false by decide +kernel]
  rfl
@[simp] theorem isi_bool_scr (l : List Int) : pIsi "bool" (.scr l) = some (.bl false) := by
  show (kitB "list" "bool").map PV.bl = _
  rw [show kitB "list" "bool" = some false by decide +kernel]
  rfl
/-! ### texts -/
def mk (l : List Nat) : Str := ⟨l.toArray⟩
@[simp] theorem mk_len (l : List Nat) : (mk l).length = l.length := by simp [mk, Str.length]
@[simp] theorem mk_app (a b : List Nat) : mk a ++ mk b = mk (a ++ b) := by
  show Str.append (mk a) (mk b) = mk (a ++ b)
  simp [mk, Str.append]
@[simp] theorem mk_cps (l : List Nat) : (mk l).cps.toList = l := by simp [mk]
theorem mk_cpsA (l : List Nat) : (mk l).cps = l.toArray := rfl
theorem mk_inj {a b : List Nat} (h : mk a = mk b) : a = b := by
  have := congrArg (fun x : Str => x.cps.toList) h
  simpa using this
@[simp] theorem mk_beq (a b : List Nat) : (mk a == mk b) = decide (a = b) := by
  by_cases h : a = b
  · subst h; simp
  · rw [decide_eq_false h]
    exact beq_eq_false_iff_ne.mpr fun z => h (mk_inj z)
theorem mk_one (c : Nat) : (⟨#[c]⟩ : Str) = mk [c] := rfl
theorem mk_of (x : Str) : x = mk x.cps.toList := by
  cases x
  simp [mk]
/-! ### slices -/
theorem cutP_to {α : Type} (l : List α) (k : Nat) : cutP l none (some (k : Int)) = l.take k := by
  unfold cutP
  rw [HT.sIx_none, HT.sIx_nat, List.drop_zero, Nat.sub_zero]
  by_cases h : k ≤ l.length
  · rw [Nat.min_eq_left h]
  · rw [Nat.min_eq_right (by omega), List.take_of_length_le (Nat.le_refl _), List.take_of_length_le (by omega)]
theorem cutP_from {α : Type} (l : List α) (k : Nat) : cutP l (some (k : Int)) none = l.drop k := by
  unfold cutP
  rw [HT.sIx_none, HT.sIx_nat]
  by_cases h : k ≤ l.length
  · rw [Nat.min_eq_left h]
    exact List.take_of_length_le (by rw [List.length_drop]; omega)
  · rw [Nat.min_eq_right (by omega), List.drop_eq_nil_of_le (Nat.le_refl _), List.drop_eq_nil_of_le (by omega)]
    simp
theorem cutP_from1 {α : Type} (l : List α) (k : Nat) : cutP l (some ((k : Int) + 1)) none = l.drop (k + 1) := cutP_from l (k + 1)
theorem cutP_last {α : Type} (l : List α) : cutP l none (some (-1)) = l.take (l.length - 1) := by
  unfold cutP
  rw [HT.sIx_none, List.drop_zero, Nat.sub_zero]
  congr 1
  show (if (-1 : Int) < 0 then ((-1 : Int) + (l.length : Int)).toNat else min (-1 : Int).toNat l.length) = _
  rw [if_pos (by decide)]
  omega
theorem cutS_mk (l : List Nat) (lo hi : Option Int) : cutS (mk l) lo hi = mk (cutP l lo hi) := by
  unfold cutS cutP
  rw [mk_len, mk_cps]
  rfl
/-! ### places -/
theorem atI_in {α : Type} {l : List α} {k : Nat} (h : k < l.length) : L2.atI l (k : Int) = some l[k] := atI_nat (List.getElem?_eq_getElem h)
/-! ### comprehensions -/
theorem lc_map {i : Nat} {te : Fm → R PV} {env : Fm} {f : PV → PV} (hi : i < env.length) : ∀ {ds : List PV}, (∀ d ∈ ds, te (env.set i (.pv d)) = .ok (f d)) → lcGo (tgN i) dYes te env ds = .ok (ds.map f)
  | [], _ => rfl
  | d :: ds, h => by
    rw [lcGo]
    simp only [tgN, if_pos hi, dYes, R.bind_ok]
    rw [h d List.mem_cons_self, lc_map hi fun x hx => h x (List.mem_cons_of_mem _ hx)]
    rfl
theorem lc_filter {i : Nat} {tt : Fm → R Bool} {te : Fm → R PV} {env : Fm} {b : PV → Bool} {f : PV → PV} (hi : i < env.length) : ∀ {ds : List PV}, (∀ d ∈ ds, tt (env.set i (.pv d)) = .ok (b d)) → (∀ d ∈ ds, b d = true → te (env.set i (.pv d)) = .ok (f d)) → lcGo (tgN i) tt te env ds = .ok ((ds.filter b).map f)
  | [], _, _ => rfl
  | d :: ds, h, h2 => by
    rw [lcGo]
    simp only [tgN, if_pos hi]
    rw [h d List.mem_cons_self]
    have ih := lc_filter hi (fun x hx => h x (List.mem_cons_of_mem _ hx)) fun x hx => h2 x (List.mem_cons_of_mem _ hx)
    cases q : b d with
    | true =>
      simp only [R.bind_ok]
      rw [h2 d List.mem_cons_self q, ih, List.filter_cons_of_pos q]
      rfl
    | false =>
      simp only [R.bind_ok]
      rw [ih, List.filter_cons_of_neg (by rw [q]; decide)]
theorem dLc_map {vs : List Nat} {i : Nat} {te : Fm → R PV} {src : Fm → R (List PV)} {env : Fm} {ds : List PV} (f : PV → PV) (hs : src env = .ok ds) (hz : ds.length ≤ sizeLine) (hi : i < env.length) (h : ∀ d ∈ ds, te ((clr env vs).set i (.pv d)) = .ok (f d)) :
    dLc vs (tgN i) dYes te src env = .ok (ds.map f) := by
  unfold dLc
  rw [hs]
  simp only [R.bind_ok, if_pos hz]
  rw [lc_map (by rw [clr_len]; exact hi) h]
  rfl
theorem dLc_filter {vs : List Nat} {i : Nat} {tt : Fm → R Bool} {te : Fm → R PV} {src : Fm → R (List PV)} {env : Fm} {ds : List PV} (b : PV → Bool) (f : PV → PV) (hs : src env = .ok ds) (hz : ds.length ≤ sizeLine) (hi : i < env.length) (hb : ∀ d ∈ ds, tt ((clr env vs).set i (.pv d)) = .ok (b d)) (h : ∀ d ∈ ds, b d = true → te ((clr env vs).set i (.pv d)) = .ok (f d)) :
    dLc vs (tgN i) tt te src env = .ok ((ds.filter b).map f) := by
  unfold dLc
  rw [hs]
  simp only [R.bind_ok, if_pos hz]
  rw [lc_filter (by rw [clr_len]; exact hi) hb h]
  rfl
/-! ### loops -/
theorem for_fold {α : Type} {t : Tgt} {body : Fm → RS} {wp : List Nat} (P : α → Fm) (step : α → PV → α) : ∀ (ds : List PV) (a : α), (∀ a d, d ∈ ds → ∃ e1 e2, t d (P a) = some e1 ∧ (body e1 = .nx e2 ∨ body e1 = .ct e2) ∧ clr e2 wp = P (step a d)) → forGo t body wp ds (P a) = .nx (P (ds.foldl step a))
  | [], a, _ => rfl
  | d :: ds, a, h => by
    obtain ⟨e1, e2, h1, h2, h3⟩ := h a d List.mem_cons_self
    rw [forGo, h1]
    have ih := for_fold P step ds (step a d) fun b x hx => h b x (List.mem_cons_of_mem _ hx)
    rcases h2 with h2 | h2
    · simp only [h2, h3]
      exact ih
    · simp only [h2, h3]
      exact ih
/-- the turns by their number -/
theorem for_inv {t : Tgt} {body : Fm → RS} {wp : List Nat} : ∀ (ds : List PV) (Jv : Nat → Fm → Prop) (e0 : Fm), Jv 0 e0 → (∀ i e d, ds[i]? = some d → Jv i e → ∃ e1 e2, t d e = some e1 ∧ (body e1 = .nx e2 ∨ body e1 = .ct e2) ∧ Jv (i + 1) (clr e2 wp)) → ∃ e', forGo t body wp ds e0 = .nx e' ∧ Jv ds.length e'
  | [], Jv, e0, h0, _ => ⟨e0, rfl, h0⟩
  | d :: ds, Jv, e0, h0, hs => by
    obtain ⟨e1, e2, h1, h2, h3⟩ := hs 0 e0 d rfl h0
    obtain ⟨e', r1, r2⟩ := for_inv (t := t) (body := body) (wp := wp) ds (fun i e => Jv (i + 1) e) (clr e2 wp) h3 (fun i e x hx hi => hs (i + 1) e x (by simpa using hx) hi)
    refine ⟨e', ?_, r2⟩
    rw [forGo, h1]
    rcases h2 with h2 | h2
    · simp only [h2]; exact r1
    · simp only [h2]; exact r1
/-! ### shapes -/
theorem shaped_of {d : PyData} (h1 : d.canLay0 = true) (h2 : d.depth ≤ 64) : SeqAt.shaped d = true := by
  unfold SeqAt.shaped
  rw [h1, decide_eq_true h2]
  rfl
theorem eq_rng (n : Nat) : (List.range n).map (fun (k : Nat) => PV.int (0 + (k : Int))) = (List.range n).map fun (k : Nat) => PV.int (k : Int) := by
  congr 1
  funext k
  rw [Int.zero_add]

/-! ### the pieces, applied -/
section
variable (env : Fm)
@[simp] theorem dV_ap (i : Nat) : dV i env = match env[i]? with | some (.pv d) => .ok d | _ => .bad := rfl
@[simp] theorem dR_ap (i : Nat) : dR i env = match env[i]? with | some (.pv d) => .ok d | some (.own l) => .ok (.lst l) | _ => .bad := rfl
@[simp] theorem dC_ap (d : PV) : dC d env = .ok d := rfl
@[simp] theorem d1_ap {α : Type} (f : PV → Option α) (a : Fm → R PV) : d1 f a env = (a env).bind fun x => ofO (f x) := rfl
@[simp] theorem d2_ap {α : Type} (f : PV → PV → Option α) (a b : Fm → R PV) : d2 f a b env = (a env).bind fun x => (b env).bind fun y => ofO (f x y) := rfl
@[simp] theorem dNil_ap : dNil env = .ok [] := rfl
@[simp] theorem dCons_ap (a : Fm → R PV) (r : Fm → R (List PV)) : dCons a r env = (a env).bind fun x => (r env).bind fun xs => .ok (x :: xs) := rfl
@[simp] theorem dL_ap (d : Fm → R (List PV)) : dL d env = (d env).bind fun l => .ok (.lst l) := rfl
@[simp] theorem dTup_ap (d : Fm → R (List PV)) : dTup d env = (d env).bind fun l => if l.length ≤ sizeLine then .ok (.tup l) else .bad := rfl
@[simp] theorem dLst_ap (d : Fm → R (List PV)) : dLst d env = (d env).bind fun l => if l.length ≤ sizeLine then .ok l else .bad := rfl
@[simp] theorem dCall_ap {α : Type} (f : List PV → R α) (d : Fm → R (List PV)) : dCall f d env = (d env).bind f := rfl
@[simp] theorem dB_ap (d : Fm → R PV) : dB d env = (d env).bind fun v => match v with | .bl b => .ok b | _ => .bad := rfl
@[simp] theorem dBv_ap (d : Fm → R Bool) : dBv d env = (d env).bind fun b => .ok (.bl b) := rfl
@[simp] theorem dIf_ap {α : Type} (c : Fm → R Bool) (a b : Fm → R α) : dIf c a b env = (c env).bind fun k => match k with | true => a env | false => b env := rfl
@[simp] theorem dAnd_ap (a b : Fm → R Bool) : dAnd a b env = (a env).bind fun k => match k with | true => b env | false => .ok false := rfl
@[simp] theorem dOr_ap (a b : Fm → R Bool) : dOr a b env = (a env).bind fun k => match k with | true => .ok true | false => b env := rfl
@[simp] theorem dNot_ap (a : Fm → R Bool) : dNot a env = (a env).bind fun k => .ok (!k) := rfl
@[simp] theorem dChain_ap (f g : PV → PV → Option Bool) (a b c : Fm → R PV) : dChain f g a b c env = (a env).bind fun x => (b env).bind fun y => (ofO (f x y)).bind fun k => match k with | true => (c env).bind fun z => ofO (g y z) | false => .ok false := rfl
@[simp] theorem dAndV_ap (a b : Fm → R PV) : dAndV a b env = (dB a env).bind fun k => match k with | true => b env | false => .ok (.bl false) := rfl
@[simp] theorem dOrV_ap (a b : Fm → R PV) : dOrV a b env = (dB a env).bind fun k => match k with | true => .ok (.bl true) | false => b env := rfl
@[simp] theorem dNotV_ap (a : Fm → R PV) : dNotV a env = (dB a env).bind fun k => .ok (.bl (!k)) := rfl
@[simp] theorem dSl_ap {α : Type} (f : PV → Option Int → Option Int → Option α) (a : Fm → R PV) (l h : Fm → R (Option Int)) : dSl f a l h env = (a env).bind fun x => (l env).bind fun l => (h env).bind fun h => ofO (f x l h) := rfl
@[simp] theorem dNo_ap : dNo env = .ok none := rfl
@[simp] theorem dSo_ap (d : Fm → R PV) : dSo d env = (d env).bind fun v => match v with | .int i => .ok (some i) | _ => .bad := rfl
@[simp] theorem dJoin_ap (a b : Fm → R PV) : dJoin a b env = (a env).bind fun x => match x with | .str a => (b env).bind fun y => ofO (pJoin a y) | _ => .bad := rfl
@[simp] theorem dYes_ap : dYes env = .ok true := rfl
@[simp] theorem dSeq_ap (a b : Fm → RS) : dSeq a b env = match a env with | .nx e => b e | r => r := rfl
@[simp] theorem dSkip_ap : dSkip env = .nx env := rfl
@[simp] theorem dSet_ap (i : Nat) (d : Fm → R PV) : dSet i d env = match d env with | .ok v => if i < env.length then .nx (env.set i (.pv v)) else .bad | .ex e => .ex e env | .bad => .bad := rfl
@[simp] theorem dSetF_ap (i : Nat) (d : Fm → R (List PV)) : dSetF i d env = match d env with | .ok v => if i < env.length then .nx (env.set i (.own v)) else .bad | .ex e => .ex e env | .bad => .bad := rfl
@[simp] theorem dRet_ap (d : Fm → R PV) : dRet d env = match d env with | .ok v => .rt v | .ex e => .ex e env | .bad => .bad := rfl
@[simp] theorem dRetF_ap (d : Fm → R (List PV)) : dRetF d env = match d env with | .ok v => .rf v | .ex e => .ex e env | .bad => .bad := rfl
@[simp] theorem dRetO_ap (i : Nat) : dRetO i env = match env[i]? with | some (.own l) => .rf l | _ => .bad := rfl
@[simp] theorem dIfS_ap (c : Fm → R Bool) (a b : Fm → RS) : dIfS c a b env = match c env with | .ok true => a env | .ok false => b env | .ex e => .ex e env | .bad => .bad := rfl
@[simp] theorem dExpr_ap (d : Fm → R PV) : dExpr d env = match d env with | .ok _ => .nx env | .ex e => .ex e env | .bad => .bad := rfl
@[simp] theorem dApp_ap (i : Nat) (d : Fm → R PV) : dApp i d env = match env[i]? with | some (.own l) => (match d env with | .ok v => if l.length < sizeLine then .nx (env.set i (.own (l ++ [v]))) else .bad | .ex e => .ex e env | .bad => .bad) | _ => .bad := rfl
@[simp] theorem dExt_ap (i : Nat) (d : Fm → R PV) : dExt i d env = match env[i]? with | some (.own l) => (match d env with | .ok (.lst m) => if l.length + m.length ≤ sizeLine then .nx (env.set i (.own (l ++ m))) else .bad | .ok _ => .bad | .ex e => .ex e env | .bad => .bad) | _ => .bad := rfl
@[simp] theorem dFrz_ap (i : Nat) (d : Fm → RS) : dFrz i d env = d (frzS i env) := rfl
@[simp] theorem frzS_ap (i : Nat) : frzS i env = match env[i]? with | some (.own l) => env.set i (.pv (.lst l)) | _ => env := rfl
@[simp] theorem toV_nx (e : Fm) : toV (.nx e) = .ok .non := rfl
@[simp] theorem toV_rt (v : PV) : toV (.rt v) = .ok v := rfl
@[simp] theorem toV_ex (x : Ex) (e : Fm) : toV (.ex x e) = .ex x := rfl
@[simp] theorem toV_bad : toV .bad = .bad := rfl
@[simp] theorem toF_rf (v : List PV) : toF (.rf v) = .ok v := rfl
@[simp] theorem toF_ex (x : Ex) (e : Fm) : toF (.ex x e) = .ex x := rfl
@[simp] theorem clr_nil : clr env [] = env := rfl
@[simp] theorem clr_cons (i : Nat) (r : List Nat) : clr env (i :: r) = (clr env r).set i .un := rfl
end
@[simp] theorem tgN_ap (i : Nat) (d : PV) (env : Fm) : tgN i d env = if i < env.length then some (env.set i (.pv d)) else none := rfl
/-! ### operators on known kinds -/
@[simp] theorem pAdd_ii (i j : Int) : pAdd (.int i) (.int j) = some (.int (i + j)) := rfl
@[simp] theorem pAdd_ss (a b : Str) : pAdd (.str a) (.str b) = if a.length + b.length ≤ sizeLine then some (.str (a ++ b)) else none := rfl
@[simp] theorem pAdd_tt (a b : List PV) : pAdd (.tup a) (.tup b) = if a.length + b.length ≤ sizeLine then some (.tup (a ++ b)) else none := rfl
@[simp] theorem fCat_ll (a b : List PV) : fCat (.lst a) (.lst b) = if a.length + b.length ≤ sizeLine then some (a ++ b) else none := rfl
@[simp] theorem pSub_ii (i j : Int) : pSub (.int i) (.int j) = some (.int (i - j)) := rfl
@[simp] theorem pMul_ii (i j : Int) : pMul (.int i) (.int j) = if mulB i j = true then some (.int (i * j)) else none := rfl
@[simp] theorem pMod_ii (i j : Int) : pMod (.int i) (.int j) = if 0 < j then some (.int (i % j)) else none := rfl
theorem pDiv_ii (i j : Int) : pDiv (.int i) (.int j) = if 0 < j ∧ j.natAbs.log2 < 9000 then some (.int (i / j)) else none := rfl
theorem log2_small {n : Nat} (h : n < 9000) : n.log2 < 9000 := Nat.lt_of_le_of_lt (Nat.log2_le_self n) h
theorem pDiv_small {i j : Int} (h0 : 0 < j) (h : j < 9000) : pDiv (.int i) (.int j) = some (.int (i / j)) := by
  rw [pDiv_ii, if_pos ⟨h0, log2_small (by omega)⟩]
@[simp] theorem pNeg_i (i : Int) : pNeg (.int i) = some (.int (-i)) := rfl
@[simp] theorem pLt_ii (i j : Int) : pLt (.int i) (.int j) = some (decide (i < j)) := rfl
@[simp] theorem pLe_ii (i j : Int) : pLe (.int i) (.int j) = some (decide (i ≤ j)) := rfl
@[simp] theorem pGt_ii (i j : Int) : pGt (.int i) (.int j) = some (decide (j < i)) := rfl
@[simp] theorem pGe_ii (i j : Int) : pGe (.int i) (.int j) = some (decide (j ≤ i)) := rfl
theorem sh_int (i : Int) : SeqAt.shaped (.int i) = true := shaped_of (by simp only [PyData.canLay0]) (by simp only [PyData.depth]; omega)
theorem sh_bool (i : Bool) : SeqAt.shaped (.bool i) = true := shaped_of (by simp only [PyData.canLay0]) (by simp only [PyData.depth]; omega)
theorem sh_none : SeqAt.shaped .none = true := shaped_of (by simp only [PyData.canLay0]) (by simp only [PyData.depth]; omega)
theorem strOk_mk {l : List Nat} (h : ∀ c ∈ l, c < 1114112) : PyData.strOk (mk l) = true := by
  unfold PyData.strOk
  rw [mk_cpsA, Array.all_eq_true]
  intro i hi
  simp only [List.getElem_toArray]
  exact decide_eq_true (h _ (List.getElem_mem _))
theorem sh_str {l : List Nat} (h : ∀ c ∈ l, c < 1114112) : SeqAt.shaped (.str (mk l)) = true := shaped_of (by simp only [PyData.canLay0]; exact strOk_mk h) (by simp only [PyData.depth]; omega)
@[simp] theorem pEq_ii (i j : Int) : pEq (.int i) (.int j) = some (decide (i = j)) := by
  unfold pEq
  simp only [toD, sh_int, PyData.eqv]
  rfl
@[simp] theorem pNe_ii (i j : Int) : pNe (.int i) (.int j) = some (!decide (i = j)) := by
  unfold pNe
  simp only [toD, sh_int, PyData.eqv]
  rfl
theorem pEq_ss {a b : List Nat} (ha : ∀ c ∈ a, c < 1114112) (hb : ∀ c ∈ b, c < 1114112) : pEq (.str (mk a)) (.str (mk b)) = some (decide (a = b)) := by
  unfold pEq
  simp only [toD, sh_str ha, sh_str hb, PyData.eqv, mk_beq]
  rfl
theorem pNe_ss {a b : List Nat} (ha : ∀ c ∈ a, c < 1114112) (hb : ∀ c ∈ b, c < 1114112) : pNe (.str (mk a)) (.str (mk b)) = some (!decide (a = b)) := by
  unfold pNe
  simp only [toD, sh_str ha, sh_str hb, PyData.eqv, mk_beq]
  rfl
@[simp] theorem pIdx_l (l : List PV) (i : Int) : pIdx (.lst l) (.int i) = L2.atI l i := rfl
@[simp] theorem pIdx_t (l : List PV) (i : Int) : pIdx (.tup l) (.int i) = L2.atI l i := rfl
@[simp] theorem pIdx_c (l : List Int) (i : Int) : pIdx (.scr l) (.int i) = (L2.atI l i).map .int := rfl
theorem pIdx_s {l : List Nat} {k : Nat} (h : k < l.length) (hz : l.length ≤ 1000) : pIdx (.str (mk l)) (.int (k : Int)) = some (chr1 l[k]) := by
  show (if (mk l).length ≤ sizeLine then (L2.atI (mk l).cps.toList (k : Int)).map fun c => PV.str ⟨#[c]⟩ else none) = _
  rw [mk_len, mk_cps, atI_in h, if_pos (by rw [sizeLine_eq]; omega)]
  rfl
@[simp] theorem pLen_l (l : List PV) : pLen [.lst l] = some (.int l.length) := rfl
@[simp] theorem pLen_t (l : List PV) : pLen [.tup l] = some (.int l.length) := rfl
@[simp] theorem pLen_c (l : List Int) : pLen [.scr l] = some (.int l.length) := rfl
theorem pLen_s {l : List Nat} (hz : l.length ≤ 1000) : pLen [.str (mk l)] = some (.int l.length) := by
  show (if (mk l).length ≤ sizeLine then some (PV.int (mk l).length) else none) = _
  rw [mk_len, if_pos (by rw [sizeLine_eq]; omega)]
@[simp] theorem pAbs_i (i : Int) : pAbs [.int i] = some (.int i.natAbs) := by
  show some (PV.int (if i < 0 then -i else i)) = _
  congr 2
  split <;> omega
@[simp] theorem pMin2_ii (i j : Int) : pMin2 [.int i, .int j] = some (.int (min i j)) := by
  show some (PV.int (if j < i then j else i)) = _
  congr 2
  rw [Int.min_def]
  split <;> split <;> omega
@[simp] theorem pMax2_ii (i j : Int) : pMax2 [.int i, .int j] = some (.int (max i j)) := by
  show some (PV.int (if j > i then j else i)) = _
  congr 2
  rw [Int.max_def]
  split <;> split <;> omega
@[simp] theorem pInt1_i (i : Int) : pInt1 [.int i] = some (.int i) := rfl
@[simp] theorem pInt1_b (k : Bool) : pInt1 [.bl k] = some (.int (if k then 1 else 0)) := rfl
@[simp] theorem pOrd_c (c : Nat) : pOrd [chr1 c] = some (.int (c : Int)) := rfl
@[simp] theorem pTuple_l (l : List PV) : pTuple [.lst l] = some (.tup l) := rfl
@[simp] theorem pIsN_ap (a : PV) : pIsN a = some (isNon a) := rfl
@[simp] theorem pNotN_ap (a : PV) : pNotN a = some (!isNon a) := rfl
@[simp] theorem isNon_non : isNon .non = true := rfl
@[simp] theorem lstIt_l (l : List PV) : lstIt (.lst l) = some l := rfl
@[simp] theorem tupIt_t (l : List PV) : tupIt (.tup l) = some l := rfl
@[simp] theorem strIt_s (l : List Nat) : strIt (.str (mk l)) = some (l.map chr1) := by
  show some ((mk l).cps.toList.map chr1) = _
  rw [mk_cps]
theorem rg1 {n : Nat} (h : n ≤ 1000) : rgIt1 [.int (n : Int)] = some ((List.range n).map fun (k : Nat) => PV.int (k : Int)) := by
  have c : smI (n : Int) = true := smI_of (by omega)
  simp only [rgIt1]
  rw [if_pos c, eq_rng, Int.toNat_natCast]
theorem ints_map (l : List Int) : intsOf (l.map .int) = some l := by
  induction l with
  | nil => rfl
  | cons a l ih => simp only [List.map_cons, intsOf, ih, Option.map_some]
theorem bls_map (l : List Bool) : blsOf (l.map .bl) = some l := by
  induction l with
  | nil => rfl
  | cons a l ih => simp only [List.map_cons, blsOf, ih, Option.map_some]
theorem strs_map (l : List Str) : strsOf (l.map .str) = some l := by
  induction l with
  | nil => rfl
  | cons a l ih => simp only [List.map_cons, strsOf, ih, Option.map_some]
theorem pSum_m (l : List Int) : pSum [.lst (l.map .int)] = some (.int l.sum) := by
  show (intsOf (l.map .int)).map _ = _
  rw [ints_map]; rfl
theorem pAll_m (l : List Bool) : pAll [.lst (l.map .bl)] = some (.bl (l.all id)) := by
  show (blsOf (l.map .bl)).map _ = _
  rw [bls_map]; rfl
theorem pAny_m (l : List Bool) : pAny [.lst (l.map .bl)] = some (.bl (l.any id)) := by
  show (blsOf (l.map .bl)).map _ = _
  rw [bls_map]; rfl
theorem pAll_f {α : Type} (f : α → Bool) (l : List α) : pAll [.lst (l.map (PV.bl ∘ f))] = some (.bl (l.all f)) := by
  rw [← List.map_map, pAll_m, List.all_map]; rfl
theorem pAny_f {α : Type} (f : α → Bool) (l : List α) : pAny [.lst (l.map (PV.bl ∘ f))] = some (.bl (l.any f)) := by
  rw [← List.map_map, pAny_m, List.any_map]; rfl
theorem pSum_f {α : Type} (f : α → Int) (l : List α) : pSum [.lst (l.map (PV.int ∘ f))] = some (.int (l.map f).sum) := by
  rw [← List.map_map, pSum_m]
/-! ### texts put together -/
theorem join_mk (a : List Nat) (ys : List (List Nat)) : Txt.join (mk a) (ys.map mk) = mk (TL.joinL a ys) := SX.join_S a ys
theorem joinL_one : ∀ l : List Nat, TL.joinL [] (l.map fun c => [c]) = l
  | [] => rfl
  | [c] => rfl
  | c :: d :: r => by
    have ih := joinL_one (d :: r)
    simp only [List.map_cons] at ih ⊢
    simp only [TL.joinL, ih, List.nil_append, List.cons_append]
theorem strs_chr (l : List Nat) : strsOf (l.map chr1) = some ((l.map fun c => [c]).map mk) := by
  induction l with
  | nil => rfl
  | cons c l ih =>
    simp only [List.map_cons, chr1, strsOf] at ih ⊢
    rw [ih]
    rfl
theorem pJoin_chr {l : List Nat} (h : l.length ≤ 1000) : pJoin (mk []) (.lst (l.map chr1)) = some (.str (mk l)) := by
  show (strsOf (l.map chr1)).bind _ = _
  rw [strs_chr]
  have e : (((l.map fun c => [c]).map mk).map (·.length)).sum = l.length := by
    simp only [List.map_map]
    induction l with
    | nil => rfl
    | cons c l ih =>
      have := ih (by simp at h; omega)
      simp only [List.map_cons, List.sum_cons, Function.comp, mk_len, List.length_cons, List.length_nil] at this ⊢
      omega
  simp only [Option.bind_some]
  rw [if_pos (by rw [e]; simp; omega), join_mk, joinL_one]
theorem atI_pick {α : Type} {l : List α} {x : Int} (h0 : 0 ≤ x) (h1 : x < l.length) : ∃ k, ∃ h : k < l.length, x = (k : Int) ∧ L2.atI l x = some l[k] := by
  obtain ⟨k, rfl⟩ : ∃ k : Nat, x = (k : Int) := ⟨x.toNat, by omega⟩
  exact ⟨k, by omega, rfl, atI_in (by omega)⟩
/-! ### lengths that are small -/
theorem sz {n : Nat} (h : n ≤ 100000) : n ≤ sizeLine := by rw [sizeLine_eq]; omega
theorem szl {n : Nat} (h : n ≤ 100000) : n < sizeLine := by rw [sizeLine_eq]; omega
end Pv

set_option Elab.async false
set_option linter.all false
set_option maxRecDepth 100000
set_option maxHeartbeats 2000000
/-! PvG: raise, a lambda handed to the law's told. -/
namespace Pv
open PySem PySem.Spec PyProof.Rows L2
variable [TabCx]
/-! ### raise -/
structure Exc1 (K : PySem.W.Frag) (mg : Str → Option Value) (n : Str) : Prop where
  ex : ∃ C, mg n = some (.ref C) ∧ PySem.W.excIn K C He.veBase "ValueError.__new__" = true ∧ PySem.W.keepIn K (.ref C) = true ∧ PySem.W.subIn K (.ref C) (.type "BaseException") = some true ∧ PySem.W.typeIn K (.ref C) = some (.type "type")
def dRaise (e : Ex) : Fm → RS := fun env => .ex e env
theorem s_raise {X : Cx} {W : WX} {x m : Str} {j : Nat} {p p2 pos pos' : Pos} (T : Exc1 X.K X.mg x) (hc : X.calm = true) (tk : L2N.Takes X W) (hg : Gl X x := by rfl) (hdb : (x == ("__debug__" : Str)) = false := by decide) :
    PS X (.Raise (some (.Call (.Name x p) [.Constant (.str m) j p2] [] pos)) none pos') (xS X W (dRaise (.cls x))) := by
  obtain ⟨C, gC, q, kC, s1, t1⟩ := T.ex
  exact PS.imp (L2N.ps_raise hc tk (L2N.pmk_own PySem.F.excBase_ValueError q gC kC (raises_own s1 t1) hg hdb)) fun D σ H ⟨B, F, env, fs, p⟩ => p (.ref C) none σ F H fs ⟨C, gC, rfl, rfl⟩

/-! ### a lambda -/
/-- the lambda's body's context; what it lets out has no context of its own -/
def lamN (X : Cx) (A : Around) (outer : List Env) (s : Shared) (H : Hp) (E : XK) (scope : Scope) (f c' : Addr) : Cx :=
  (LamX.lamCx X A outer s H E scope f c').tr [] fun e s' => wpAny (model X.prog X.w) (A.deeper (LamX.lamEnv X scope s.heap.objs.size f c')) (leaving (LamX.lamEnv X scope s.heap.objs.size f c') e) (fun _ s'' => L2N.CX X.prog X.w outer H s E e s'') (fun e' s'' => L2N.CX X.prog X.w outer H s E e' s'') s'
theorem lamN_takes {X : Cx} {A : Around} {outer : List Env} {s : Shared} {H : Hp} {E : XK} {scope : Scope} {f c' : Addr} : L2N.Takes (lamN X A outer s H E scope f c') (wE E) := L2N.takes_of rfl rfl rfl rfl
section
variable {X : Cx} {pins : List (Addr × Obj)} {σ : L2.St} {H HZ : Hp} {s s1 : Shared}
theorem act_N {CXg : CXT} {Eg : XK} {Ng : List Str} {qg : Str} {sg : Scope} {g f c' : Addr} {cdg pm ctv : Value} {params : Arguments} {body : Expr} {scope : Scope} {k i : Nat} {a : Str} {pn : List (Addr × Obj)} {xe : Value → Shared → Prop} {W : WX} {E : XK} {tb : TE} {p1 p2 : Pos}
    (I : Inv X pins σ H s) (L : LamX.LamS X.env.scope scope) (hf : s.heap.get? f = some (PySem.W.kla_obj "<lambda>" (X.env.qual ++ "<lambda>") params body scope (cloFrom X.env.cells scope.names []) pm c' ctv)) (hfn : H f = none) (hfr : f ∉ frs X.stack)
    (hbind : bindArgs (PySem.W.kla_fn "<lambda>" (X.env.qual ++ "<lambda>") params body scope (cloFrom X.env.cells scope.names []) pm (.ref c') ctv) ⟨[], []⟩ = pure [])
    (tk : L2N.Takes ((cxOf CXg X.prog X.w X.K X.mg X.base Ng qg sg g cdg X.A X.stack s H Eg).tr pn xe) W) (hW : ∀ cls d σ' H', E cls d H' → W cls d σ' H') (hr : Room (k + 1) (X.A.deeper (envOfC qg sg s.heap.objs.size g cdg)))
    (hbody : ∀ (A : Around) (outer : List Env) (s : Shared) (H : Hp), Room k (A.deeper (LamX.lamEnv X scope s.heap.objs.size f c')) → PE (lamN X A outer s H E scope f c') body tb)
    (hN : Ng[i]? = some a) (hv : Vis sg a) (hd : (a == ("__debug__" : Str)) = false := by decide) (hcd : (a == ("__classdict__" : Str)) = false := by decide) :
    PE ((cxOf CXg X.prog X.w X.K X.mg X.base Ng qg sg g cdg X.A X.stack s H Eg).tr pn xe) (.Call (.Name a p1) [] [] p2)
      (fun σZ HZ Q => σZ[i]? = some (some (.ref f)) ∧ HZ c' = some (LamX.CodeO c' (X.env.qual ++ "<lambda>")) ∧ tb σ HZ Q) := by
  refine ⟨fun pinsZ sZ σZ HZ Q IZ h => ?_⟩
  obtain ⟨hs, hc, ht⟩ := h
  refine wpAny_Call_Name_kw (thn ((pe_var (pos := p1) (i := i) hN hv hd hcd).run pinsZ sZ σZ HZ (fun v H1 => v = .ref f ∧ H1 = HZ) IZ ⟨.ref f, hs, rfl, rfl⟩) fun u s1 ⟨v, H1, I1, r1, q1⟩ => ?_)
  obtain ⟨ev, eH⟩ := q1
  subst ev
  rw [eH] at I1
  obtain rfl : u = Value.ref f := r1
  have of1 := I1.base.keep f _ hf hfn hfr (fun z => nomatch (show f ∈ ([] : List Addr) from z))
  refine PySem.W.callWith_F0 ⟨_, _, _, _, of1⟩ ?_
  have un : Un (frs X.stack) [] H HZ s.heap s1.heap := I1.base
  obtain ⟨⟨oc, vs, t, hoc, hdc, hvc⟩, _, _⟩ := I1.hok c' _ hc
  have rc : codeAny (model X.prog X.w) (X.A.deeper (envOfC qg sg s.heap.objs.size g cdg)) (.call (.ref f) ⟨[], []⟩) (CR (L2N.CX X.prog X.w) (envOfC qg sg s.heap.objs.size g cdg :: X.stack) X.prog X.w HZ s1 Q E) s1 := by
    refine PySem.W.kla_callFunE hr.depth of1 rfl L.co L.gen rfl ⟨c', oc, vs, t, rfl, hoc, hdc, hvc⟩ ?_
    rw [hbind]
    refine wpAny_pure (wpAny_newFunctionEnv (fun y hy => (L.own y hy).2) (fun y hy => absurd hy (by simp)) (fun h₁ hns hsb => ⟨I1.nolimit.fresh _ hsb, ?_⟩) L.kind)
    show codeAny _ _ (.expr body (LamX.lamEnv X scope s1.heap.objs.size f c')) _ _
    have kp : ∀ b o, s1.heap.get? b = some o → h₁.get? b = some o := fun b o e => hsb.extBut b o (Nat.ne_of_lt (Heap.lt_size e)) (Heap.get?_push_of_some _ e)
    have J := (LamX.lam_start2 (E := E) (f := f) (c' := c') (tk := s1.toks + ([] : List (Str × Value)).length) I L I1.env0 hr.hd un hns kp).toTry (pins := []) fun e s' => wpAny (model X.prog X.w) ((X.A.deeper (envOfC qg sg s.heap.objs.size g cdg)).deeper (LamX.lamEnv X scope s1.heap.objs.size f c')) (leaving (LamX.lamEnv X scope s1.heap.objs.size f c') e) (fun _ s'' => L2N.CX X.prog X.w (envOfC qg sg s.heap.objs.size g cdg :: X.stack) HZ s1 E e s'') (fun e' s'' => L2N.CX X.prog X.w (envOfC qg sg s.heap.objs.size g cdg :: X.stack) HZ s1 E e' s'') s'
    refine PySem.W.kla_codeExpr (wpAny_mono ((hbody _ _ s1 HZ (hr.deeper _)).run [] _ _ HZ Q J ht) (fun v s' hq => ?_) fun e s' hq => hq)
    obtain ⟨w', H', J', rv, q⟩ := hq
    exact ⟨w', H', J'.os, J'.bare, J'.base, J'.hok, rv, q⟩
  have hx : Passes (L2N.CX X.prog X.w) ((cxOf CXg X.prog X.w X.K X.mg X.base Ng qg sg g cdg X.A X.stack s H Eg).tr pn xe) E := L2N.passes_call tk hW
  refine wpAny_call (codeAny_mono rc fun r s' hq => ?_)
  cases r with
  | error e => exact hx pinsZ σZ HZ s1 e s' I1 hq
  | ok fl =>
    cases fl with
    | ret u => exact I1.after hq
    | next => exact False.elim hq
    | brk => exact False.elim hq
    | cont => exact False.elim hq
end
/-- the def that calls what it got -/
def Gives (P : Program) (w : World) (K : PySem.W.Frag) (mg : Str → Option Value) (base : Heap) (j : Nat) (Ng : List Str) (x : Str) (sg : Scope) (g : Addr) (cdg : Value) (bg : List Stmt) (a : Str) (TT : (XK → Hp → VK → Prop) → Hp → VK → Prop) : Prop :=
  ∀ (q : Str) (A : Around) (stack : List Env) (f c' : Addr) (s : Shared) (H : Hp) (Q : VK) (tl : XK → Hp → VK → Prop), Room j (A.deeper (envOfC x sg s.heap.objs.size g cdg)) →
    (∀ (W : WX) (pn : List (Addr × Obj)) (xe : Value → Shared → Prop) (E : XK) (p1 p2 : Pos), L2N.Takes ((cxOf C8.CX0 P w K mg base Ng x sg g cdg A stack s H C8.E0).tr pn xe) W → (∀ cls d σ' H', E cls d H' → W cls d σ' H') →
      PE ((cxOf C8.CX0 P w K mg base Ng x sg g cdg A stack s H C8.E0).tr pn xe) (.Call (.Name a p1) [] [] p2) (fun σZ HZ Q => σZ[0]? = some (some (.ref f)) ∧ HZ c' = some (LamX.CodeO c' q) ∧ tl E HZ Q)) →
    H c' = some (LamX.CodeO c' q) → TT tl H Q →
    ∃ t, PSs (cxOf C8.CX0 P w K mg base Ng x sg g cdg A stack s H C8.E0).nox bg t ∧ t { nx := fun _ H' => Q .non H', rt := Q } (L2.start Ng [.ref f]) H
/-- the word of what is let out, as a value -/
def wordOf : Ex → PV
  | .cls n => .tup [.str "refused", .str n]
  | .trb a b => .tup [.str "refused", a, b]
def goodEx : Ex → Bool
  | .cls n => (["BadValue", "BadSteps", "BadHouse", "BadName", "BadChoice", "BadRecord"] : List Str).contains n
  | .trb _ _ => true
def TTold (K : PySem.W.Frag) (mg : Str → Option Value) : (XK → Hp → VK → Prop) → Hp → VK → Prop := fun tl H Q =>
  tl (fun cls dd H' => ∃ F' e, Fz F' H' ∧ RepX K mg F' e cls dd ∧ goodEx e = true ∧ GV K F' H' Q (wordOf e)) H Q
/-- the law's told, as it stands -/
structure Told (P : Program) (w : World) (K : PySem.W.Frag) (mg : Str → Option Value) (base : Heap) (j : Nat) (x : Str) : Prop where
  ex : ∃ (g : Addr) (pg : Arguments) (bg : List Stmt) (sg : Scope) (dV kV doc pm cdv ct oc : Value) (an od : Option Addr) (osl : Array (Option Value)) (Ng : List Str) (a : Str),
    mg x = some (.ref g) ∧ PySem.W.keepIn K (.ref g) = true ∧ K.lookup g = some ⟨oc, od, .func (PySem.W.fnOf x x pg bg sg dV kV doc pm an cdv ct), osl⟩ ∧ PySem.W.codeIn K cdv x = true ∧ L2.Binds K (PySem.W.fnOf x x pg bg sg dV kV doc pm an cdv ct) [a] [] ∧ FnScope Ng [a] sg ∧ Ng[0]? = some a ∧ Vis sg a ∧
      (a == ("__debug__" : Str)) = false ∧ (a == ("__classdict__" : Str)) = false ∧ Gives P w K mg base j Ng x sg g cdv bg a (TTold K mg)
/-- a def whose lambdas' codes stand in a table -/
structure LamAt (base : Heap) (mg : Str → Option Value) (code : Value) (q : Str) : Prop where
  ex : ∃ c P, code = .ref c ∧ LamX.TabB base mg c P ∧ (P, q) ∈ TabCx.T ∧ ∀ p ∈ TabCx.T, p.1 = P → p.2 = q
def dTold (d : Fm → R PV) : Fm → R PV := fun env => match d env with
  | .ok v => .ok v
  | .ex e => if goodEx e = true then .ok (wordOf e) else .bad
  | .bad => .bad
theorem v_told {X : Cx} {W : WX} {x : Str} {j k jj : Nat} {params : Arguments} {body : Expr} {scope : Scope} {d : Fm → R PV} {p lpos pos : Pos} (T : Told X.prog X.w X.K X.mg X.base jj x) (LA : LamAt X.base X.mg X.env.code (X.env.qual ++ "<lambda>")) (hr : Room j X.A) (L : LamX.LamS X.env.scope scope)
    (hbody : ∀ (A : Around) (outer : List Env) (s : Shared) (H : Hp) (E : XK) (f c' : Addr), Room k (A.deeper (LamX.lamEnv X scope s.heap.objs.size f c')) → PE (lamN X A outer s H E scope f c') body (xV X (wE E) d))
    (hk : k + 2 ≤ j := by omega) (hjj : jj + 1 ≤ j := by omega) (hg : Gl X x := by rfl) (hdef : defaultsOf params X.env = ([], []) := by rfl)
    (hbind : ∀ (q : Str) (cl : List (Str × Addr)) (pm cv ctv : Value), bindArgs (PySem.W.kla_fn "<lambda>" q params body scope cl pm cv ctv) ⟨[], []⟩ = pure [] := by intros; rfl) (hdb : (x == ("__debug__" : Str)) = false := by decide) :
    PE X (.Call (.Name x p) [.Lambda params body scope lpos] [] pos) (xV X W (dTold d)) := by
  obtain ⟨g, pg, bg, sg, dV, kV, doc, pm, cdv, ct, oc, an, od, osl, Ng, a, hm, hkp, lk, hcg, hb, Sg, hNg, hva, hd, hcd, hG⟩ := T.ex
  obtain ⟨c, P, hcode, TB, hmT, hu⟩ := LA.ex
  refine ⟨fun pins s σ H Q I h => ?_⟩
  obtain ⟨F, env, ok, h⟩ := h
  refine wpAny_Call_Name_kw (ld_glob I hg hm ?_ hdb)
  refine PySem.W.callWith_K (h₀ := X.base) I.ok.mod.kin hkp ?_ (by rfl) (by rfl)
  show wpAny _ _ (spliced ((false, eval (.Lambda params body scope lpos) X.env) :: backTo pos (starEach [] X.env))) _ _ s
  refine Calls.spliced_cons (LamX.lam_make2 I TB hcode hmT hu ok.s0.tabs hdef (L.has I.ok) fun f c' pm' ctv H1 s' I1 eN T1 hf hfn hfr hco => ?_)
  refine Calls.spliced_nil ⟨I1.kIn, ?_⟩
  have st : Step F H F H1 := ⟨ok.s0, Same.refl _, ⟨fun b o e => eN b o (ok.s0.up e) (ok.s0.noT b o e), T1, ok.s0.noT⟩, fun b o e n t => ⟨eN b o e t, n⟩⟩
  have tl0 : xV X (wE fun cls dd H' => ∃ F' e, Fz F' H' ∧ RepX X.K X.mg F' e cls dd ∧ goodEx e = true ∧ GV X.K F' H' Q (wordOf e)) d σ H1 Q := by
    refine ⟨F, env, ok.step st, ?_⟩
    unfold dTold at h
    cases q : d env with
    | ok v => rw [q] at h; exact GV.step h st
    | ex e =>
      rw [q] at h
      simp only at h
      split at h
      · rename_i hge
        exact fun cls dd F' H' st' r => ⟨F', e, st'.s2, r, hge, GV.step h (st.trans st')⟩
      · exact h.elim
    | bad => rw [q] at h; exact h
  have rc : codeAny (model X.prog X.w) X.A (.call (.ref g) ⟨[.ref f], []⟩) (CR C8.CX0 X.stack X.prog X.w H1 s' Q C8.E0) s' := by
    refine LamX.run_ofS (N := Ng) (ps := [a]) (us := [.ref f]) (vs := [.ref f]) (k := j - 1) lk hcg Sg (hr.mono (by omega)) I1.env0 (hb s' [.ref f] I1.kIn rfl) (.cons rfl .nil) rfl fun hr' => ?_
    obtain ⟨t', ht', hq'⟩ := hG (X.env.qual ++ "<lambda>") X.A X.stack f c' s' H1 Q (fun E H' Q' => xV X (wE E) d σ H' Q') (hr'.mono (by omega)) (fun W pn xe E p1 p2 tk hW => act_N (k := k) (i := 0) I1 L hf hfn hfr (hbind _ _ _ _ _) tk hW (hr'.mono (by omega)) (fun A outer s H hr2 => hbody A outer s H E f c' hr2) hNg hva hd hcd) hco tl0
    exact ⟨t', ht'.nox, hq'⟩
  refine wpAny_call (codeAny_mono rc fun r s2 hq => ?_)
  cases r with
  | error e => exact (show False from hq).elim
  | ok fl =>
    cases fl with
    | ret u => exact I1.after hq
    | next => exact False.elim hq
    | brk => exact False.elim hq
    | cont => exact False.elim hq
end Pv

set_option Elab.async false
set_option linter.all false
set_option maxRecDepth 100000
set_option maxHeartbeats 2000000
/-! PvH: what runs while an exception is handled. -/
namespace Pv
open PySem PySem.Spec PyProof.Rows L2 L2H HotX
section
variable {prog : Program} {w : World} {A : Around} {E : Value → Shared → Prop} {s : Shared}
/-- a list's iterator ends while an exception is handled -/
theorem list_end_hot {it l x1 : Addr} {i : Nat} {items} {Q : Option Value → Shared → Prop} (hot : HotAt A x1 s.heap) (hne : x1 ≠ it) (hit : s.heap.IsListIter it l i) (hl : s.heap.IsList l items) (hx : items[i]? = none)
    (hQ : ∀ h', (∀ b o, b ≠ it → s.heap.get? b = some o → h'.get? b = some o) → Q none { s with heap := h' }) : wpAny (model prog w) A (pyNext (.ref it)) Q E s := by
  obtain ⟨o, ho, hc, hd⟩ := id hit
  obtain ⟨ol, hol, _, nl, hdl⟩ := hl
  obtain ⟨hh, o1, vs1, h1, d1, c1⟩ := hot
  unfold pyNext
  refine wpAny_bind (wpAny_attempt (wpAny_callSpecial?_slot (name := Str.ofString "__next__") hit.typeIs slot_listiter_next
    (wpAny_call_entry slot_listiter_next hit.typeIs entry_listiter_next ?_ (args_listiter_next _))))
  show wpAny _ _ (field (.ref it) 0 >>= _) _ _ s
  refine wpAny_bind (wpAny_field ho hd (x := .ref l) rfl ?_)
  show wpAny _ _ (if (Value.ref l == Value.none) = true then _ else _) _ _ s
  rw [if_neg (show ¬ ((Value.ref l == Value.none) = true) from Bool.false_ne_true)]
  show wpAny _ _ (field (.ref it) 1 >>= _) _ _ s
  refine wpAny_bind (wpAny_field ho hd (x := .int i 0) rfl ?_)
  show wpAny _ _ (seqItems? (.ref l) >>= _) _ _ s
  refine wpAny_bind (wpAny_seqItems hol hdl ?_)
  simp only [Int.toNat_natCast, hx]
  refine wpAny_bind (wpAny_rule (wpAny_bind (wpAny_setField ho hd (by simp) ?_)))
  show wpAny _ _ (newExc (.type "StopIteration") [] >>= _) _ _ _
  refine wpAny_bind ?_
  simp only [newExc, newTuple]
  refine wpAny_bind (wpAny_newObj_type ?_ (by size_fits))
  refine wpAny_bind (m := firstArgMember _ _) (wpAny_of_eq (a := Value.none) (by first | rfl | (simp only [firstArgMember]; rfl)) ?_)
  refine wpAny_newObj_type ?_ (by size_fits)
  have hk : ∀ b o', b ≠ it → s.heap.get? b = some o' → (s.heap.update it (Obj.mapFields (·.setIfInBounds 0 .none))).get? b = some o' := fun b o' hb e => by rw [Heap.get?_update_other _ _ (Ne.symm hb)]; exact e
  refine raiseNew_hot ⟨hh, o1, vs1, Heap.get?_push_of_some _ (Heap.get?_push_of_some _ (hk _ _ hne h1)), d1, c1⟩ (Nat.ne_of_lt (Heap.lt_size (Heap.get?_push_of_some _ (hk _ _ hne h1)))) (Heap.get?_push_size _ rfl) rfl (by first | (simp; done) | (simp; omega) | (simp only [Array.size_append]; simp; omega)) ?_
  refine wpAny_bind (wpAny_isInstance (T := "StopIteration") (b := true) ⟨_, Heap.get?_update_self _ (Heap.get?_push_size _ rfl) rfl, rfl⟩ isSubtype_stop ?_)
  refine wpAny_pure (hQ _ fun b o' hb e => ?_)
  rw [Heap.get?_update_other _ _ (Nat.ne_of_gt (Heap.lt_size (Heap.get?_push_of_some _ (hk b o' hb e))))]
  exact Heap.get?_push_of_some _ (Heap.get?_push_of_some _ (hk b o' hb e))
end
/-! ### sum of a list of numbers -/
theorem walks_listH {prog : Program} {w : World} {A : Around} {x1 : Addr} {o1 : Obj} {vs1 : Array Value} (hh : A.handled = some (.ref x1)) (d1 : o1.data = .fields vs1) (c1 : vs1[2]? = some .none) (I ax : Addr) (hne : ax ≠ I) (hx1 : x1 ≠ I) (items : Array Value) :
    PySem.Walks prog w A I [I, ax, x1] [I] items.size (fun i v => items[i]? = some v) (fun i h => h.IsListIter I ax i ∧ h.IsList ax items ∧ h.get? x1 = some o1) where
  sub := fun b hb => by simp at hb; simp [hb]
  frame := fun _ _ _ st hk => ⟨st.1.at fun o e => hk I (by simp) o e, st.2.1.at fun o e => hk ax (by simp) o e, hk x1 (by simp) _ st.2.2⟩
  item := fun i s Q E hi st hQ => by
    refine wpAny_pyNext_list_item st.1 st.2.1 (x := items[i]) (by simp [hi]) fun h' hit' hs' => ?_
    exact hQ _ h' s.toks (by simp [hi]) ⟨hit', st.2.1.extBut hs'.extBut hne, hs'.extBut _ _ hx1 st.2.2⟩ fun b o hb e => hs'.extBut b o (fun h => hb (by simp [h])) e
  done := fun s Q E st hQ => list_end_hot ⟨hh, o1, vs1, st.2.2, d1, c1⟩ hx1 st.1 st.2.1 (by simp) fun h' he' => hQ h' s.toks fun b o hb e => he' b o (fun h => hb (by simp [h])) e
  self := fun _ _ _ _ st hQ => wpAny_pyIter_listiter st.1 hQ
section
variable {prog : Program} {w : World} {A : Around} {E : Value → Shared → Prop} {s : Shared} {l : Addr} {its : List Value} {ns : List Int} {Q : Value → Shared → Prop}
theorem sum_rawH {x1 : Addr} (hot : HotAt A x1 s.heap) (hl : s.heap.IsList l its.toArray) (hi : IntsAre its ns)
    (h : ∀ h' tk t', (∀ b o, s.heap.get? b = some o → h'.get? b = some o) → Q (.int ns.sum t') { s with heap := h', toks := tk }) : wpAny (model prog w) A (call (.builtin "sum") [.ref l]) Q E s := by
  obtain ⟨xs, e⟩ := hi.allInts.items
  have hn : numsOf (intItems xs).toList = ns := by rw [← e]; exact hi.numsOf
  rw [nums_intItems] at hn
  rw [e] at hl
  obtain ⟨hh, o1, vs1, h1, d1, c1⟩ := hot
  refine call_sum_walkG (iter_intList hl fun s₂ e st hfp hlI => ?_)
  subst e
  refine ⟨_, _, _, _, _, _, numAt xs, rfl, walks_listH (A := A.in1) hh d1 c1 _ l hlI (Nat.ne_of_lt (Heap.lt_size h1)) (intItems xs), ⟨st.1, st.2, Heap.get?_push_of_some _ h1⟩, ?_, (fun _ _ => intItems_at), fun h' tk t' hk => ?_⟩
  · intro b hb
    rcases List.mem_cons.mp hb with z | hb
    · exact hfp b (by simp [z])
    · rcases List.mem_cons.mp hb with z | hb
      · exact hfp b (by simp [z])
      · have z : b = x1 := by simpa using hb
        rw [z]
        exact Heap.lt_size (Heap.get?_push_of_some _ h1)
  · have := h h' tk t' (old_kept hk)
    rw [preSum_eq, List.take_of_length_le (by simp [intItems]), hn]
    simpa [intItems] using this
end
section
variable {X : Cx}
theorem cr_sumH (hc : HotC X) : CallR X (.builtin "sum") (rSum X.K) := by
  intro pins s σ H vs us Q I r h
  obtain ⟨a, ns, rfl, hs, q⟩ := h
  obtain ⟨its, rv, hl, _⟩ := I.list hs
  obtain ⟨x1, hot⟩ := hc.at I
  rw [Vals.ref1 r]
  exact sum_rawH hot hl.isList rv.ints fun h' tk t' hk => ⟨.int _, H, I.kept hk, ⟨_, rfl⟩, q⟩
end
/-! ### a comprehension over a list -/
section
variable {X : Cx}
theorem pe_lcH {elt tg iter : Expr} {ifs : List Expr} {scope : Scope} {own : List (Str × Nat)} {pos : Pos} {tl : TE} {g : TG} {tt : TT} {te : TE} (hc : HotC X) (hN : X.N.Nodup) (hl : PE X iter tl) (ok : BlkOk X.N X.env.scope scope own)
    (hg : ∀ (s : Shared) (H : Hp) (C : Addr) (cl : List (Str × Addr)) (fp : List Addr), PG (X.blk s H scope (compEnvC scope cl C X.env) fp) tg g) (ht : ∀ (s : Shared) (H : Hp) (C : Addr) (cl : List (Str × Addr)) (fp : List Addr), PTs (X.blk s H scope (compEnvC scope cl C X.env) fp) ifs tt)
    (he : ∀ (s : Shared) (H : Hp) (C : Addr) (cl : List (Str × Addr)) (fp : List Addr), PE (X.blk s H scope (compEnvC scope cl C X.env) fp) elt te) (hs : ∀ x, foldedSetIterable iter X.env x = pure x := by intro _; rfl) :
    PE X (.ListComp elt [⟨tg, iter, ifs, 0⟩] scope pos) (tLc (iList X.K tl) g tt te (own.map (·.2))) := by
  refine ⟨fun pins s σ H Q I h => ?_⟩
  rw [eval_ListComp]
  have hfree : ∀ y ∈ scope.names, y.2 = .free → ∃ c, X.env.cells.lookup y.1 = some c := fun y hy e => by
    rcases ok.free y hy e with k | k
    · exact I.ok.has _ (.inl k)
    · exact I.ok.has _ (.inr k)
  refine wpAny_comprehension_free rfl hs (closure_ok hfree) ok.kind (fun y hy e => by rw [ok.uniq y hy, e])
    (thn (hl.run pins s σ H _ I h) fun xv s1 ⟨x, H2, I1, r1, q1⟩ => ?_)
  obtain ⟨a, e, ⟨xs, hq⟩, q⟩ := q1
  subst e
  cases r1
  obtain ⟨its, rv, pl, hz⟩ := I1.list hq
  refine wpAny_pyIter_list pl.isList ?_
  generalize hit : s1.heap.objs.size = it
  generalize hs2 : ({ s1 with heap := s1.heap.push { cls := .type "list_iterator", data := .fields #[.ref a, .int 0 0] } } : Shared) = s2
  have I2 : Inv X pins σ H2 s2 := by
    rw [← hs2]
    exact I1.kept (t' := s1.toks) fun b o e => Heap.get?_push_of_some _ e
  have st2 : s2.heap.IsListIter it a 0 := by
    rw [← hs2, ← hit]
    exact ⟨_, Heap.get?_push_size _ rfl, rfl, rfl⟩
  have f2 : FpOk X pins H2 it := by
    rw [← hit]
    exact I1.fpOk (Nat.le_refl _) (I1.hok.fresh (Nat.le_refl _))
  have hlt2 : it < s2.heap.objs.size := by
    obtain ⟨o, e, _⟩ := st2
    exact Heap.lt_size e
  refine wpAny_newObj_type (newEnv_comp ?_) (by show 0 ≤ sizeLine; decide)
  generalize hD : s2.heap.objs.size = D
  have hDn : H2 D = none := I2.hok.fresh (Nat.le_of_eq hD)
  obtain ⟨W, ⟨m0, w0⟩, turn⟩ := q D hDn
  generalize hs3 : ({ s2 with heap := s2.heap.push { cls := .type "list", data := .seq ([] : List Value).toArray } } : Shared) = s3
  have I3 : Inv X pins σ (upd H2 D (.lst [])) s3 := by
    rw [← hs3]
    refine I2.laid (t' := s2.toks) (fun b o e => Heap.get?_push_of_some _ e) (Nat.le_of_eq hD) ⟨Nat.zero_le _, [], 0, .nil, ?_⟩
    rw [← hD]
    exact Heap.get?_push_size _ rfl
  have h3 : s3.heap = s2.heap.push { cls := .type "list", data := .seq ([] : List Value).toArray } := by rw [← hs3]
  have f3 : ∀ b ∈ [it], FpOk X pins (upd H2 D (.lst [])) b ∧ b < s3.heap.objs.size := fun b hb => by
    have e : b = it := by simpa using hb
    subst e
    refine ⟨⟨?_, f2.2⟩, by rw [h3, Heap.size_push]; exact Nat.lt_succ_of_lt hlt2⟩
    rw [upd_ne (by rw [← hD]; exact Nat.ne_of_lt hlt2)]
    exact f2.1
  have st3 : s3.heap.IsListIter it a 0 := st2.at fun o e => by rw [h3]; exact Heap.get?_push_of_some _ e
  obtain ⟨p, ⟨hh, v1, e1, c1⟩, hp⟩ := hc
  have P1 := I3.pin p (List.mem_append_left _ hp)
  have np : p.1 ∉ frs X.stack := fun hm => (List.mem_cons.mp (I3.stkSub p.1 hm)).elim P1.2.2.1 P1.2.2.2.1
  have npf : p.1 ≠ it := f2.2.2.2.2.2 p (List.mem_append_left _ hp)
  have I4 := block_start I3 ok hN f3
  have pg := hg s3 (upd H2 D (.lst [])) s3.heap.objs.size (cellsFrom (s3.heap.objs.size + 1) scope.names (cloFrom X.env.cells scope.names [])) [it]
  have pt := ht s3 (upd H2 D (.lst [])) s3.heap.objs.size (cellsFrom (s3.heap.objs.size + 1) scope.names (cloFrom X.env.cells scope.names [])) [it]
  have pe := he s3 (upd H2 D (.lst [])) s3.heap.objs.size (cellsFrom (s3.heap.objs.size + 1) scope.names (cloFrom X.env.cells scope.names [])) [it]
  show codeAny _ _ (.compStart (.ListComp elt [⟨tg, iter, ifs, 0⟩] scope pos) 0 (.ref it) (.ref D) (compEnvC scope (cellsFrom (s3.heap.objs.size + 1) scope.names (cloFrom X.env.cells scope.names [])) s3.heap.objs.size X.env)) (compPost (model X.prog X.w) X.A X.xe none _ (.ref D) s3.heap.objs.size) { s3 with heap := pushCells (s3.heap.push { cls := .type "dict", data := .dict #[] }) scope.names }
  have nfp : ∀ b ∈ [it], (upd H2 D (.lst [])) b = none := fun b hb => (f3 b hb).1.1
  generalize hce : compEnvC scope (cellsFrom (s3.heap.objs.size + 1) scope.names (cloFrom X.env.cells scope.names [])) s3.heap.objs.size X.env = ce at I4 pg pt pe ⊢
  have cL : ce.locals = s3.heap.objs.size := by subst hce; rfl
  generalize hH3 : upd H2 D (.lst []) = H3 at I3 I4 pg pt pe w0 nfp f3 P1
  generalize hs4 : ({ s3 with heap := pushCells (s3.heap.push { cls := .type "dict", data := .dict #[] }) scope.names } : Shared) = s4 at I4 ⊢
  have st4 : s4.heap.IsListIter it a 0 := st3.at fun o e => by rw [← hs4]; exact pushCells_keeps _ _ _ _ (Heap.get?_push_of_some _ e)
  have stat : ∀ {σ' : L2.St} {H' : Hp} {s' : Shared}, Inv (X.blk s3 H3 scope ce [it]) [] σ' H' s' → (∀ b ∈ [it], H' b = none) → ∀ b ∈ [it], FpOk (X.blk s3 H3 scope ce [it]) [] H' b := fun {σ' H' s'} I' hn b hb =>
    ⟨hn b hb, (I'.ok.exf b hb).1, I'.ok.exfs b hb, .inl hb, fun x c e => (I'.ok.exf b hb).2 x c e, fun p hp => absurd (show p ∈ ([] : List (Addr × Obj)) ++ [] from hp) (by simp)⟩
  have T := turn_list (P := X.prog) (w := X.w) (K := X.K) (tg := tg) a it
  have loop : codeAny (model X.prog X.w) X.A (.compLoop (.ListComp elt [⟨tg, iter, ifs, 0⟩] scope pos) 0 (.ref it) (.ref D) ce) (compPost (model X.prog X.w) X.A X.xe none (EP X pins σ Q) (.ref D) s3.heap.objs.size) s4 := by
    refine compLoop_any (fun n s' => ∃ i H', Inv (X.blk s3 H3 scope ce [it]) [] (wipe σ (own.map (·.2))) H' s' ∧ s'.heap.IsListIter it a i ∧ (∀ b ∈ [it], H' b = none) ∧ W i n H') ?_ m0 ⟨0, H3, I4, st4, nfp, w0⟩
    rintro n s5 ⟨i, H5, I5, st5, n5, w5⟩
    rcases turn i n H5 w5 with ⟨stop, qq⟩ | ⟨go, Nx, hNx, step⟩
    · obtain ⟨xs', hq', hx'⟩ := stop
      obtain ⟨its', rv', pl', hz'⟩ := I5.list hq'
      have hl' := rv'.length
      have kept : s5.heap.get? p.1 = some p.2 := I5.base.keep p.1 p.2 P1.1 P1.2.1 np (fun z => npf (by simpa using (show p.1 ∈ [it] from z)))
      obtain ⟨f0, f1, f2', f3', f4, f5⟩ := stat I5 n5 it (by simp)
      refine list_end_hot (x1 := p.1) ⟨hh, p.2, v1, kept, e1, c1⟩ npf st5 pl'.isList (by simp; omega) fun h' eb => ?_
      have I6 : Inv (X.blk s3 H3 scope ce [it]) [] (wipe σ (own.map (·.2))) H5 { s5 with heap := h' } := I5.turned (t' := s5.toks) (fun b o hb e => eb b o hb e) f0 f1 f3' f4 f5
      have I7 : Inv X pins σ H5 { s5 with heap := h' } := I3.call' (ch := [it]) I6.os I6.base I6.hok I6.bare fun b hb => ⟨(f3 b hb).1.2.2.2.1, (f3 b hb).1.2.1, (f3 b hb).1.2.2.2.2.1, (f3 b hb).1.2.2.2.2.2⟩
      have nC : H5 s3.heap.objs.size = none := by
        have z : H5 ce.locals = none := I6.free
        rw [cL] at z
        exact z
      obtain ⟨m, hn, _⟩ := I6.loc
      have hn : h'.Ns ce.locals m := hn
      rw [cL] at hn
      refine ⟨m, hn, fun h'' sb => ?_⟩
      obtain ⟨g0, g1, g2, g3, g4, g5⟩ := I3.fpOk (H' := H5) (Nat.le_refl _) nC
      exact ⟨.ref D, H5, I7.turned (t' := s5.toks) (fun b o hb e => (sb.2 b hb).trans e) g0 g1 g3 g4 g5, rfl, qq⟩
    · obtain ⟨xs', x', hq', hx'⟩ := go
      obtain ⟨its', rv', pl', hz'⟩ := I5.list hq'
      obtain ⟨u, hu, ru⟩ := rv'.get hx'
      obtain ⟨f0, f1, f2', f3', f4, f5⟩ := stat I5 n5 it (by simp)
      refine wpAny_pyNext_list_item st5 pl'.isList (x := u) (by simpa using hu) fun h' st' sb => ?_
      have I6 : Inv (X.blk s3 H3 scope ce [it]) [] (wipe σ (own.map (·.2))) H5 { s5 with heap := h' } := I5.turned (t' := s5.toks) (fun b o hb e => (sb.2 b hb).trans e) f0 f1 f3' f4 f5
      obtain ⟨oi, ei, ci, di⟩ := id st'
      refine go_of (s := { s5 with heap := h' }) ei ci di (by decide) ?_
      have I7' := I6.pinned (stat I6 n5) (T.obj (i + 1) _ st')
      refine thnF (pg.run _ _ _ H5 x' u _ I7' ru (step x' H5 ⟨rfl, fun ys hy => by rw [I5.list_inj hy hq']; exact hx'⟩)) fun _ s8 ⟨σ8, H8, I8, hw8, q8⟩ => ?_
      refine thnF (pt.run _ s8 σ8 H8 _ I8 q8) fun b s9 ⟨H9, I9, q9⟩ => ?_
      have fin : ∀ {s' : Shared} {H' : Hp}, Inv (X.blk s3 H3 scope ce [it]) ([] ++ pinsAt [it] h') σ8 H' s' → Nx H' → ∃ m, m < n ∧ ∃ i H', Inv (X.blk s3 H3 scope ce [it]) [] (wipe σ (own.map (·.2))) H' s' ∧ s'.heap.IsListIter it a i ∧ (∀ b ∈ [it], H' b = none) ∧ W i m H' := fun {s' H'} I' nx => by
        obtain ⟨m', hm, w'⟩ := hNx H' nx
        have pin' : ∀ b ∈ [it], ∀ o, h'.get? b = some o → s'.heap.get? b = some o ∧ H' b = none := fun b hb o e =>
          let z := I'.pin (b, o) (List.mem_append_right _ (List.mem_append_right _ (mem_pinsAt hb e)))
          ⟨z.1, z.2.1⟩
        have hl : (wipe σ (own.map (·.2))).length = σ8.length := by rw [← hw8, wipe_length]
        refine ⟨m', hm, i + 1, H', (I'.unpinned (pins := [])).weak hl (fun j v e => ?_), T.keep _ _ _ st' fun b hb o e => (pin' b hb o e).1, fun b hb => ?_, w'⟩
        · rw [← hw8] at e
          exact (wipe_some e).1
        · obtain ⟨o, e, _⟩ := T.obj _ _ st' b hb
          exact (pin' b hb o e).2
      cases b with
      | false =>
        simp only [Bool.false_eq_true, if_false] at q9 ⊢
        exact fin I9 q9
      | true =>
        simp only [if_true] at q9 ⊢
        refine thnF (pe.run _ s9 σ8 H9 _ I9 q9) fun z s10 ⟨yv, H10, I10, r10, acc, hD10, hz10, nx⟩ => ?_
        exact app_ok (X := X.blk s3 H3 scope ce [it]) I10 hD10 hz10 r10 fun s11 I11 => fin I11 nx
  exact codeAny_compStart_list loop (T.self X.A 0 _ _ _ st4 loop)
end
end Pv

set_option Elab.async false
set_option linter.all false
set_option maxRecDepth 100000
set_option maxHeartbeats 2000000
/-! PvI: the law's word of what is caught; told. -/
namespace Pv
open PySem PySem.Spec PyProof.Rows L2 L2H HotX
variable [TabCx]
section
variable {X : Cx} {W : WX}
theorem c_neH {k : Nat} (hr : RoomH k X.A) : CmpR X .NotEq pNe := ⟨_, op_neD (by have := hr.un; omega), ob_ne⟩
theorem v_sumH {e : Expr} {es : List Expr} {d : Fm → R (List PV)} {p pos : Pos} (hc : HotC X) (hm : X.mg "sum" = none) (ha : PA X (e :: es) (xRL X W d)) (hg : Gl X "sum" := by rfl) (he : starEach (e :: es) X.env = (false, eval e X.env) :: starEach es X.env := by rfl) (hpl : (backTo pos (starEach es X.env)).any (·.1) = false := by rfl) :
    PE X (.Call (.Name "sum" p) (e :: es) [] pos) (xV X W (dCall (fun ds => ofO (pSum ds)) d)) := pe_callBS (cr_sumH hc) (by
      intro F H xs ds v Q s r e g
      unfold pSum at e
      split at e
      · rename_i l
        cases q : intsOf l with
        | none => rw [q] at e; cases e
        | some ns =>
          rw [q] at e
          cases e
          obtain ⟨x, rfl, rx⟩ := r.one
          obtain ⟨a1, ys, rfl, q1, r1⟩ := rx.lst
          have e2 := intsOf_rep r1 q
          subst e2
          exact ⟨a1, ns, rfl, SqL.of q1, gv_here g s (by simp only [Rep])⟩
      · cases e) stGV hg hm (by decide +kernel) ha (by decide) (by decide) he hpl
theorem f_lcH {elt tg iter : Expr} {ifs : List Expr} {scope : Scope} {pos : Pos} {g : TG} {t : Tgt} {js vs : List Nat} {tt : Fm → R Bool} {te da : Fm → R PV} (own : List (Str × Nat)) (hvs : own.map (·.2) = vs) (hc : HotC X) (hN : X.N.Nodup) (hi : PE X iter (xR X W da)) (ok : BlkOk X.N X.env.scope scope own)
    (hg : ∀ (s : Shared) (H : Hp) (C : Addr) (cl : List (Str × Addr)) (fp : List Addr), PG (X.blk s H scope (compEnvC scope cl C X.env) fp) tg g) (tS : TgS X.K g t js) (hjs : ∀ j ∈ js, j ∈ vs)
    (ht : ∀ (s : Shared) (H : Hp) (C : Addr) (cl : List (Str × Addr)) (fp : List Addr), PTs (X.blk s H scope (compEnvC scope cl C X.env) fp) ifs (xT (X.blk s H scope (compEnvC scope cl C X.env) fp) WF tt))
    (he : ∀ (s : Shared) (H : Hp) (C : Addr) (cl : List (Str × Addr)) (fp : List Addr), PE (X.blk s H scope (compEnvC scope cl C X.env) fp) elt (xV (X.blk s H scope (compEnvC scope cl C X.env) fp) WF te)) (hs : ∀ x, foldedSetIterable iter X.env x = pure x := by intro _; rfl) :
    PE X (.ListComp elt [⟨tg, iter, ifs, 0⟩] scope pos) (xF X W (dLc vs t tt te (d1 lstIt da))) := by
  subst hvs
  refine PE.imp (pe_lcH (tt := tT X.K X.mg WF tt) (te := tV X.K X.mg WF te) hc hN hi ok hg ht he hs) fun σ H Q h => ?_
  have h2 : xIR X W (d1 lstIt da) σ H _ := lc_go tS hjs h
  refine seqI h2 fun F H x a l s ra e g => ?_
  cases a with
  | lst l' =>
    cases e
    obtain ⟨a1, xs, rfl, q1, r1⟩ := ra.lst
    exact ⟨a1, rfl, ⟨xs, SqL.of q1⟩, g _ F H (Step.refl s) (walksR_lst q1 r1)⟩
  | non => cases e
  | bl _ => cases e
  | int _ => cases e
  | str _ => cases e
  | tup _ => cases e
  | scr _ => cases e
  | dct _ _ => cases e

/-! ### isinstance of what is caught, its fields -/
structure HotE (X : Cx) (p : Addr × Obj) (C : Addr) (d : Option Addr) : Prop where
  mem : p ∈ X.pn
  z : Zc (.ref C) d p.2
  f : ∃ vs, p.2.data = .fields vs
/-- what an exception class of the program must say -/
structure ExcF (K : PySem.W.Frag) (C : Addr) : Prop where
  cl : (PySem.W.clsIn K C).isSome = true
  ga : PySem.W.findIn K (.ref C) "__getattribute__" = some (some (.builtin "BaseException.__getattribute__"))
  gt : PySem.W.findIn K (.ref C) "__getattr__" = some none
  sb : PySem.W.subIn K (.ref C) (.type "BaseException") = some true
  ca : PySem.W.findIn K (.ref C) "__class__" = some (some (.builtin "object.__class__"))
  cg : PySem.W.specialIn K (.builtin "object.__class__") "__get__" = some (some (.builtin "getset_descriptor.__get__"))
  ct : PySem.W.takesIn K (.builtin "object.__class__") = some true
  mo : PySem.W.mroIn K C (.type "object") = some true
def dIsE (i : Nat) (a : Addr) (d : Option Addr) (b : Bool) : Fm → R PV := fun env => match env[i]? with
  | some (.exn a' d' _) => if a' = a ∧ d' = d then .ok (.bl b) else .bad
  | _ => .bad
def rIsH (a : Addr) (d : Option Addr) (cv : Value) (b : Bool) : List V → Hp → VK → Prop := fun xs H Q => ∃ c : V, xs = [.ref a, c] ∧ (∀ u, RelV c u → u = cv) ∧ (∀ dd, d = some dd → ∃ fs, H dd = some (.xd fs)) ∧ Q (.bl b) H
theorem call_isH {p : Addr × Obj} {C : Addr} {d : Option Addr} {cv : Value} {b : Bool} (HE : HotE X p C d) (T : ExcF X.K C) (e : PySem.W.kitOne X.K (.ref C) cv = some b) : CallR X (.builtin "isinstance") (rIsH p.1 d cv b) := by
  intro pins s σ H xs us Q I r h
  obtain ⟨c, rfl, hcv, hd, q⟩ := h
  cases r with
  | cons rx rr =>
    cases rr with
    | cons rt rr =>
      cases rr
      cases rx
      have ec := hcv _ rt
      subst ec
      obtain ⟨hget, _⟩ := I.pin p (List.mem_append.mpr (.inl HE.mem))
      obtain ⟨vs, hv⟩ := HE.f
      have hz := HE.z
      cases d with
      | none =>
        have J : PySem.W.InstAt s.heap p.1 p.2 C none := by
          obtain ⟨a, oe⟩ := p
          obtain ⟨oc, od, oda, osl⟩ := oe
          obtain ⟨h1, h2⟩ := hz
          dsimp only at h1 h2 hv hget ⊢
          subst h1 h2 hv
          exact ⟨hget, rfl, rfl, trivial⟩
        exact PySem.W.kia_one (PySem.W.kitx_exc T.cl T.ga T.gt T.sb T.ca T.cg T.ct T.mo) I.kIn J e (fun z => nomatch z) fun tk => ⟨.bl b, H, I.kept (t' := tk) fun _ _ z => z, rfl, q⟩
      | some dd =>
        obtain ⟨fs, ea⟩ := hd dd rfl
        have hx : ObjOk X.prog X.w H s.heap dd (.xd fs) := I.hok dd _ ea
        obtain ⟨mA, hns, hr⟩ := hx
        obtain ⟨od, ho, hl⟩ := lookIn_ns hns
        have J : PySem.W.InstAt s.heap p.1 p.2 C (some od) := ⟨hget, hz.1, by unfold PySem.W.notCls; rw [hv] <;> rfl, by rw [hz.2]; exact ho⟩
        exact PySem.W.kia_one (PySem.W.kitx_exc T.cl T.ga T.gt T.sb T.ca T.cg T.ct T.mo) I.kIn J e (fun z => nomatch z) fun tk => ⟨.bl b, H, I.kept (t' := tk) fun _ _ z => z, rfl, q⟩
theorem v_isE {p : Addr × Obj} {C : Addr} {d : Option Addr} {cv : Value} {b : Bool} {i : Nat} {y x : Str} {c : V} {q p1 p2 pos : Pos} (HE : HotE X p C d) (T : ExcF X.K C) (e : PySem.W.kitOne X.K (.ref C) cv = some b) (hm : X.mg "isinstance" = none) (ha : PE X (.Name y p1) (tVar i)) (hb : PE X (.Name x p2) (tC c)) (hcv : ∀ u, RelV c u → u = cv) (hg : Gl X "isinstance" := by rfl)
    (hs : starEach [.Name y p1, .Name x p2] X.env = (false, eval (.Name y p1) X.env) :: starEach [.Name x p2] X.env := by rfl) (hs2 : starEach [.Name x p2] X.env = (false, eval (.Name x p2) X.env) :: starEach [] X.env := by rfl)
    (hpl : (backTo pos (starEach [.Name x p2] X.env)).any (·.1) = false := by rfl) :
    PE X (.Call (.Name "isinstance" q) [.Name y p1, .Name x p2] [] pos) (xV X W (dIsE i p.1 d b)) := by
  refine PE.imp (pe_callB (call_isH HE T e) hg hm (by decide +kernel) (pa_cons ha (pa_cons hb pa_nil hs2) hs) (by decide) (by decide) hs hpl) fun σ H Q h => ?_
  obtain ⟨F, env, ok, h⟩ := h
  unfold dIsE at h
  cases q1 : env[i]? with
  | none => rw [q1] at h; exact h.elim
  | some sl =>
    rw [q1] at h
    have at1 := ok.at' i sl q1
    cases sl with
    | exn a' d' ex =>
      simp only at h
      split at h
      · rename_i cc
        obtain ⟨rfl, rfl⟩ := cc
        obtain ⟨e1, e2, _⟩ := at1
        exact ⟨_, e1, c, rfl, hcv, fun dd z => let ⟨fs, h⟩ := e2 dd z; ⟨fs, ok.s0.up h⟩, gv_here h ok.s0 (by simp only [Rep])⟩
      · exact h.elim
    | un => exact h.elim
    | pv _ => exact h.elim
    | own _ => exact h.elim
def dXf (i : Nat) (a : Addr) (d : Option Addr) (w : Bool) : Fm → R PV := fun env => match env[i]? with
  | some (.exn a' d' (.trb w1 w2)) => if a' = a ∧ d' = d then .ok (if w = true then w1 else w2) else .bad
  | _ => .bad
theorem v_xf {p : Addr × Obj} {C : Addr} {d : Option Addr} {i : Nat} {y n : Str} {p1 pos : Pos} (w : Bool) (hn : n = if w = true then ("word" : Str) else "what") (HE : HotE X p C d) (T : XfC X.K C) (hno : PySem.W.findIn X.K (.ref C) n = some none) (ha : PE X (.Name y p1) (tVar i)) (hb : attributeBase (.Name y p1) n X.env (eval (.Name y p1) X.env) = eval (.Name y p1) X.env := by rfl) :
    PE X (.Attribute (.Name y p1) n pos) (xV X W (dXf i p.1 d w)) := by
  refine ⟨fun pins s σ H Q I h => ?_⟩
  obtain ⟨F, env, ok, h⟩ := h
  unfold dXf at h
  cases q1 : env[i]? with
  | none => rw [q1] at h; exact h.elim
  | some sl =>
    rw [q1] at h
    have at1 := ok.at' i sl q1
    cases sl with
    | exn a' d' ex =>
      cases ex with
      | cls _ => exact h.elim
      | trb w1 w2 =>
        simp only at h
        split at h
        · rename_i cc
          obtain ⟨rfl, rfl⟩ := cc
          obtain ⟨e1, _, e2⟩ := at1
          obtain ⟨dd, xw, yw, rfl, hF, r1, r2⟩ := e2 w1 w2 rfl
          refine attr_of hb (thn (ha.run pins s σ H (fun v H1 => v = .ref p.1 ∧ H1 = H) I ⟨_, e1, rfl, rfl⟩) fun u s1 hh => ?_)
          obtain ⟨x, H1, I1, rx, ex, eH⟩ := hh
          subst ex eH
          obtain rfl : u = Value.ref p.1 := rx
          obtain ⟨hget, _⟩ := I1.pin p (List.mem_append_left _ HE.mem)
          obtain ⟨vs, hd⟩ := HE.f
          have hz := HE.z
          have hx : ObjOk X.prog X.w H1 s1.heap dd (.xd [("what", yw), ("word", xw)]) := I1.hok dd _ (ok.s0.up hF)
          obtain ⟨mA, hns, hr⟩ := hx
          obtain ⟨od, ho, hl⟩ := lookIn_ns hns
          have lk : ([("what", yw), ("word", xw)] : List (Str × V)).lookup n = some (if w = true then xw else yw) := by
            subst hn
            cases w
            · rfl
            · rfl
          obtain ⟨u, hu, ru⟩ := RelO.some_of (v := if w = true then xw else yw) (o := mA n) (by rw [← lk]; exact hr n)
          have J : PySem.W.InstAt s1.heap p.1 p.2 C (some od) := ⟨hget, hz.1, by unfold PySem.W.notCls; rw [hd] <;> rfl, by rw [hz.2]; exact ho⟩
          refine HandSPX.exc_get I1.kIn J T.ga T.gg T.exC (PySem.W.findObj_own T.hdC hno rfl (by rw [hl, hu])) (handed_of ru) ⟨_, H1, I1.tok _, ru, ?_⟩
          cases w
          · exact gv_here h ok.s0 r2
          · exact gv_here h ok.s0 r1
        · exact h.elim
    | un => exact h.elim
    | pv _ => exact h.elim
    | own _ => exact h.elim
/-! ### l.index(x) -/
def idxGo (d : PyData) : Nat → List PyData → Option Nat
  | _, [] => none
  | n, z :: r => if PyData.eqv z d = true then some n else idxGo d (n + 1) r
theorem idxGo_ok {d : PyData} : ∀ {ds : List PyData} {n j : Nat}, idxGo d n ds = some j → ∃ k z, j = n + k ∧ ds[k]? = some z ∧ PyData.eqv z d = true ∧ ∀ (m : Nat) (z' : PyData), m < k → ds[m]? = some z' → PyData.eqv z' d = false
  | [], n, j, h => by cases h
  | z :: r, n, j, h => by
    unfold idxGo at h
    split at h
    · rename_i c
      cases h
      exact ⟨0, z, rfl, rfl, c, fun m z' hm => absurd hm (Nat.not_lt_zero m)⟩
    · rename_i c
      obtain ⟨k, z1, e1, e2, e3, e4⟩ := idxGo_ok h
      refine ⟨k + 1, z1, by omega, e2, e3, fun m z' hm e => ?_⟩
      cases m with
      | zero => cases e; exact Bool.eq_false_iff.mpr c
      | succ m => exact e4 m z' (by omega) e
def pIndex : PV → PV → Option PV
  | .lst l, x => if SeqAt.shaped (.list (toDs l)) = true ∧ SeqAt.shaped (toD x) = true then (idxGo (toD x) 0 (toDs l)).map fun j => .int (j : Nat) else none
  | _, _ => none
def dIndex (da db : Fm → R PV) : Fm → R PV := fun env => (da env).bind fun x => match x with
  | .lst l => (db env).bind fun y => ofO (pIndex (.lst l) y)
  | _ => .bad
theorem v_indexU {o e : Expr} {da db : Fm → R PV} {apos pos : Pos} (hu : X.A.units + 65 < cLine) (ho : PE X o (xR X W da)) (he : PE X e (xR X W db)) (hbase : attributeBase o "index" X.env (eval o X.env) = eval o X.env := by rfl)
    (hfew : ((backTo pos (starEach [e] X.env)).all (fun x => !x.1) && (backToKw pos (keywordEach [] X.env)).all (fun x => x.1.isSome) && decide ([e].length + ([] : List Keyword).length + (if ([] : List Keyword).isEmpty then 0 else 1) < 30)) = true := by rfl)
    (hline : (apos.endLine == pos.line) = true := by rfl) (hs : starEach [e] X.env = (false, eval e X.env) :: starEach [] X.env := by rfl) (hplain : (backTo pos (starEach [] X.env)).any (·.1) = false := by rfl) :
    PE X (.Call (.Attribute o "index" apos) [e] [] pos) (xV X W (dIndex da db)) :=
  PE.imp (pe_bm PySem.F.plainAttrs_list PySem.F.slot_list_index PySem.F.type_list_index (mt_indexD hu) ho (pa_cons he pa_nil hs) hbase hfew hline hs hplain) fun σ H Q ⟨F, env, ok, h⟩ => by
    refine ⟨F, env, ok, ?_⟩
    unfold dIndex at h
    cases q : da env with
    | bad => rw [q] at h; exact h
    | ex e => rw [q] at h; exact h
    | ok a =>
      rw [q] at h
      simp only [R.bind_ok] at h
      intro x F1 H1 st1 rx
      cases a with
      | lst l =>
        obtain ⟨a1, xs, rfl, h1, r1⟩ := rx.lst
        refine ⟨.inl ⟨rfl, _, SqL.of h1⟩, F1, env, ok.step st1, ?_⟩
        cases q1 : db env with
        | bad => rw [q1] at h; exact h
        | ex e => rw [q1] at h; exact GX.step h st1
        | ok b =>
          rw [q1] at h
          intro y F2 H2 st2 ry
          simp only [R.bind_ok, pIndex] at h
          split at h
          · rename_i c
            cases q2 : idxGo (toD b) 0 (toDs l) with
            | none => rw [q2] at h; exact h.elim
            | some j =>
              rw [q2] at h
              obtain ⟨k, z, e1, e2, e3, e4⟩ := idxGo_ok q2
              have ej : j = k := by omega
              subst ej
              have rl : RD X.K F2 H2 (.lst l) (.ref a1) := RD.step st2 (d := .lst l) ⟨a1, xs, rfl, h1, r1⟩
              have h2 := RD.dp st2.s2 (by simp only [toD]; exact c.1) rl
              simp only [toD] at h2
              exact ⟨a1, y, toD b, toDs l, j, z, rfl, rfl, h2, RD.dp st2.s2 c.2 ry, c.1, c.2, e2, e3, e4, gv_here (GV.step (GV.step h st1) st2) st2.s2 (by simp only [Rep])⟩
          · exact h.elim
      | non => exact h.elim
      | bl _ => exact h.elim
      | int _ => exact h.elim
      | str _ => exact h.elim
      | tup _ => exact h.elim
      | scr _ => exact h.elim
      | dct _ _ => exact h.elim
theorem v_indexH {o e : Expr} {da db : Fm → R PV} {apos pos : Pos} {k : Nat} (hr : RoomH k X.A) (ho : PE X o (xR X W da)) (he : PE X e (xR X W db)) (hbase : attributeBase o "index" X.env (eval o X.env) = eval o X.env := by rfl)
    (hfew : ((backTo pos (starEach [e] X.env)).all (fun x => !x.1) && (backToKw pos (keywordEach [] X.env)).all (fun x => x.1.isSome) && decide ([e].length + ([] : List Keyword).length + (if ([] : List Keyword).isEmpty then 0 else 1) < 30)) = true := by rfl)
    (hline : (apos.endLine == pos.line) = true := by rfl) (hs : starEach [e] X.env = (false, eval e X.env) :: starEach [] X.env := by rfl) (hplain : (backTo pos (starEach [] X.env)).any (·.1) = false := by rfl) :
    PE X (.Call (.Attribute o "index" apos) [e] [] pos) (xV X W (dIndex da db)) := v_indexU (by have := hr.un; omega) ho he hbase hfew hline hs hplain
end
/-! ### the law's word -/
abbrev isX (e : Ex) (n : Str) : Bool := match e with
  | .cls m => m == n
  | .trb _ _ => "Trouble" == n
def dList (l : List (Fm → R PV)) : Fm → R (List PV) := match l with
  | [] => dNil
  | d :: r => dCons d (dList r)
def D_word (a : Addr) (d : Option Addr) (e : Ex) : Fm → RS :=
  (dSeq (dSet 1 (dL (dLst (dCons (dIsE 0 a d (isX e "BadValue")) (dCons (dIsE 0 a d (isX e "BadSteps")) (dCons (dIsE 0 a d (isX e "BadHouse")) (dCons (dIsE 0 a d (isX e "BadName")) dNil)))))))
  (dSeq (dSet 1 (dL (d2 fCat (dV 1) (dL (dLst (dCons (dIsE 0 a d (isX e "BadChoice")) (dCons (dIsE 0 a d (isX e "BadRecord")) (dCons (dIsE 0 a d (isX e "Trouble")) dNil))))))))
  (dSeq (dIfS (dOr (d2 pNe (dCall (fun ds => ofO (pSum ds)) (dCons (dL (dLc [3] (tgN 3) dYes (dCall (fun ds => ofO (pInt1 ds)) (dCons (dV 3) dNil)) (d1 lstIt (dV 1)))) dNil)) (dC (.int 1))) (dNot (dB (dIsE 0 a d true))))
    (dRet (dTup (dCons (dC (.str "refused")) (dCons (dC (.str "other")) dNil)))) dSkip)
  (dSeq (dIfS (dB (dIsE 0 a d (isX e "Trouble"))) (dRet (dTup (dCons (dC (.str "refused")) (dCons (dXf 0 a d true) (dCons (dXf 0 a d false) dNil))))) dSkip)
  (dSeq (dSet 2 (dL (dLst (dCons (dC (.str "BadValue")) (dCons (dC (.str "BadSteps")) (dCons (dC (.str "BadHouse")) (dCons (dC (.str "BadName")) (dCons (dC (.str "BadChoice")) (dCons (dC (.str "BadRecord")) dNil)))))))))
  (dRet (dTup (dCons (dC (.str "refused")) (dCons (d2 pIdx (dV 2) (dIndex (dV 1) (dC (.bl true)))) dNil)))))))))
end Pv

set_option Elab.async false
set_option linter.all false
set_option maxRecDepth 100000
set_option maxHeartbeats 4000000
namespace Pv
open PySem PySem.Spec PyProof.Rows L2 L2H HotX
theorem dIsE_ap (a : Addr) (d : Option Addr) (e : Ex) (b : Bool) (r : Fm) : dIsE 0 a d b (.exn a d e :: r) = .ok (.bl b) := by
  unfold dIsE
  simp
theorem dXf_ap (a : Addr) (d : Option Addr) (x y : PV) (b : Bool) (r : Fm) : dXf 0 a d b (.exn a d (.trb x y) :: r) = .ok (if b = true then x else y) := by
  unfold dXf
  simp
def fl (d : PV) : PV := match d with
  | .bl k => .int (if k then 1 else 0)
  | _ => .non
theorem word_gen {a : Addr} {d : Option Addr} {e : Ex} {b1 b2 b3 b4 b5 b6 b7 : Bool} {j : Nat} {w : Str} (h1 : isX e "BadValue" = b1) (h2 : isX e "BadSteps" = b2) (h3 : isX e "BadHouse" = b3) (h4 : isX e "BadName" = b4) (h5 : isX e "BadChoice" = b5) (h6 : isX e "BadRecord" = b6) (h7 : isX e "Trouble" = b7)
    (hs : ([b1, b2, b3, b4, b5, b6, b7].map fun k => (if k then 1 else 0 : Int)).sum = 1) (h0 : b7 = false) (hj : pIndex (.lst [.bl b1, .bl b2, .bl b3, .bl b4, .bl b5, .bl b6, .bl b7]) (.bl true) = some (.int (j : Nat)))
    (hw : L2.atI [PV.str "BadValue", .str "BadSteps", .str "BadHouse", .str "BadName", .str "BadChoice", .str "BadRecord"] (j : Nat) = some (.str w)) :
    toV (D_word a d e [.exn a d e, .un, .un, .un]) = .ok (.tup [.str "refused", .str w]) := by
  have hl : dLc [3] (tgN 3) dYes (dCall (fun ds => ofO (pInt1 ds)) (dCons (dV 3) dNil)) (d1 lstIt (dV 1)) [.exn a d e, .pv (.lst [.bl b1, .bl b2, .bl b3, .bl b4, .bl b5, .bl b6, .bl b7]), .un, .un] = .ok ([b1, b2, b3, b4, b5, b6, b7].map fun k => PV.int (if k then 1 else 0)) := by
    rw [dLc_map fl (ds := [.bl b1, .bl b2, .bl b3, .bl b4, .bl b5, .bl b6, .bl b7]) rfl (sz (by show 7 ≤ 100000; decide)) (by show 3 < 4; decide)]
    · rfl
    · intro x hx
      simp only [List.mem_cons, List.not_mem_nil, or_false] at hx
      rcases hx with rfl | rfl | rfl | rfl | rfl | rfl | rfl <;> rfl
  have hsum : pSum [.lst ([b1, b2, b3, b4, b5, b6, b7].map fun k => PV.int (if k then 1 else 0))] = some (.int 1) := by
    have := pSum_f (fun k : Bool => (if k then 1 else 0 : Int)) [b1, b2, b3, b4, b5, b6, b7]
    rw [hs] at this
    exact this
  unfold D_word
  rw [h1, h2, h3, h4, h5, h6, h7]
  have s4 : (4 : Nat) ≤ sizeLine := sz (by decide)
  have s3 : (3 : Nat) ≤ sizeLine := sz (by decide)
  have s7 : (7 : Nat) ≤ sizeLine := sz (by decide)
  have s6 : (6 : Nat) ≤ sizeLine := sz (by decide)
  have s2 : (2 : Nat) ≤ sizeLine := sz (by decide)
  subst h0
  simp only [dSeq_ap, dSet_ap, dL_ap, dLst_ap, dCons_ap, dNil_ap, dIsE_ap, R.bind_ok, List.length_cons, List.length_nil, s4, s3, if_true, List.set, d2_ap, dV_ap, List.getElem?_cons_zero, List.getElem?_cons_succ, fCat_ll, ofO_some, List.cons_append, List.nil_append, Nat.reduceAdd, Nat.reduceLT, s7, s6, s2,
    dIfS_ap, dOr_ap, dCall_ap, hl, hsum, dC_ap, pNe_ii, dNot_ap, dB_ap, dSkip_ap, dRet_ap, dTup_ap, dIndex, pIdx_l, hj, hw, Bool.not_true, decide_true, Bool.false_eq_true, if_false]
  rfl
theorem word_trb {a : Addr} {d : Option Addr} {x y : PV} : toV (D_word a d (.trb x y) [.exn a d (.trb x y), .un, .un, .un]) = .ok (.tup [.str "refused", x, y]) := by
  have e1 : isX (.trb x y) "BadValue" = false := by show ((Str.ofString "Trouble") == (Str.ofString "BadValue")) = false; decide +kernel
  have e2 : isX (.trb x y) "BadSteps" = false := by show ((Str.ofString "Trouble") == (Str.ofString "BadSteps")) = false; decide +kernel
  have e3 : isX (.trb x y) "BadHouse" = false := by show ((Str.ofString "Trouble") == (Str.ofString "BadHouse")) = false; decide +kernel
  have e4 : isX (.trb x y) "BadName" = false := by show ((Str.ofString "Trouble") == (Str.ofString "BadName")) = false; decide +kernel
  have e5 : isX (.trb x y) "BadChoice" = false := by show ((Str.ofString "Trouble") == (Str.ofString "BadChoice")) = false; decide +kernel
  have e6 : isX (.trb x y) "BadRecord" = false := by show ((Str.ofString "Trouble") == (Str.ofString "BadRecord")) = false; decide +kernel
  have e7 : isX (.trb x y) "Trouble" = true := by show ((Str.ofString "Trouble") == (Str.ofString "Trouble")) = true; decide +kernel
  have hl : dLc [3] (tgN 3) dYes (dCall (fun ds => ofO (pInt1 ds)) (dCons (dV 3) dNil)) (d1 lstIt (dV 1)) [.exn a d (.trb x y), .pv (.lst [.bl false, .bl false, .bl false, .bl false, .bl false, .bl false, .bl true]), .un, .un] = .ok ([false, false, false, false, false, false, true].map fun k => PV.int (if k then 1 else 0)) := by
    rw [dLc_map fl (ds := [.bl false, .bl false, .bl false, .bl false, .bl false, .bl false, .bl true]) rfl (sz (by show 7 ≤ 100000; decide)) (by show 3 < 4; decide)]
    · rfl
    · intro x hx
      simp only [List.mem_cons, List.not_mem_nil, or_false] at hx
      rcases hx with rfl | rfl | rfl | rfl | rfl | rfl | rfl <;> rfl
  have hsum : pSum [.lst ([false, false, false, false, false, false, true].map fun k => PV.int (if k then 1 else 0))] = some (.int 1) := pSum_f (fun k : Bool => (if k then 1 else 0 : Int)) [false, false, false, false, false, false, true]
  unfold D_word
  rw [e1, e2, e3, e4, e5, e6, e7]
  have s4 : (4 : Nat) ≤ sizeLine := sz (by decide)
  have s3 : (3 : Nat) ≤ sizeLine := sz (by decide)
  have s7 : (7 : Nat) ≤ sizeLine := sz (by decide)
  simp only [dSeq_ap, dSet_ap, dL_ap, dLst_ap, dCons_ap, dNil_ap, dIsE_ap, dXf_ap, R.bind_ok, List.length_cons, List.length_nil, s4, s3, if_true, List.set, d2_ap, dV_ap, List.getElem?_cons_zero, List.getElem?_cons_succ, fCat_ll, ofO_some, List.cons_append, List.nil_append, Nat.reduceAdd, Nat.reduceLT, s7,
    dIfS_ap, dOr_ap, dCall_ap, hl, hsum, dC_ap, pNe_ii, dNot_ap, dB_ap, dSkip_ap, dRet_ap, dTup_ap, Bool.not_true, decide_true, Bool.false_eq_true, if_false]
  rfl
theorem word_pure {a : Addr} {d : Option Addr} {e : Ex} (h : goodEx e = true) : toV (D_word a d e [.exn a d e, .un, .un, .un]) = .ok (wordOf e) := by
  cases e with
  | trb x y => exact word_trb
  | cls n =>
    have hm := List.contains_iff_mem.mp h
    simp only [List.mem_cons, List.not_mem_nil, or_false] at hm
    rcases hm with rfl | rfl | rfl | rfl | rfl | rfl
    · exact word_gen (j := 0) rfl rfl rfl rfl rfl rfl rfl (by decide) rfl (by with_unfolding_all rfl) rfl
    · exact word_gen (j := 1) rfl rfl rfl rfl rfl rfl rfl (by decide) rfl (by with_unfolding_all rfl) rfl
    · exact word_gen (j := 2) rfl rfl rfl rfl rfl rfl rfl (by decide) rfl (by with_unfolding_all rfl) rfl
    · exact word_gen (j := 3) rfl rfl rfl rfl rfl rfl rfl (by decide) rfl (by with_unfolding_all rfl) rfl
    · exact word_gen (j := 4) rfl rfl rfl rfl rfl rfl rfl (by decide) rfl (by with_unfolding_all rfl) rfl
    · exact word_gen (j := 5) rfl rfl rfl rfl rfl rfl rfl (by decide) rfl (by with_unfolding_all rfl) rfl
variable [TabCx]
def exName : Ex → Str
  | .cls n => n
  | .trb _ _ => "Trouble"
/-- the law's word, as it stands: what it makes of what is handled -/
structure Word (P : Program) (w : World) (K : PySem.W.Frag) (mg : Str → Option Value) (base : Heap) (j : Nat) (x : Str) : Prop where
  ex : ∃ f fd ps, mg x = some (.ref f) ∧ PySem.W.keepIn K (.ref f) = true ∧ L2.Binds K fd ps [] ∧ ps.length = 1 ∧
    ∀ (A : Around) (outer : List Env) (s : Shared) (H : Hp) (args : Args) (us : List Value) (Q : VK) (p : Addr × Obj) (e : Ex) (cls : Value) (d : Option Addr) (F : Hp), RoomH j A → Hot1 A p → PinOk outer H s p → L2N.Zn cls d p.2 → (∃ vs, p.2.data = .fields vs) → Env0 P w K mg base A outer s H → BindsTo s fd args (ps.zip us) → Vals [V.ref p.1] us →
      Fz F H → RepX K mg F e cls d → goodEx e = true → GV K F H Q (wordOf e) → codeAny (model P w) A (.call (.ref f) args) (CR C8.CX0 outer P w H s Q C8.E0) s
section
variable {P : Program} {w : World} {K : PySem.W.Frag} {mg : Str → Option Value} {base : Heap}
theorem repX_cls {F : Hp} {e : Ex} {cls : Value} {d : Option Addr} (h : RepX K mg F e cls d) : ∃ C, mg (exName e) = some (.ref C) ∧ cls = .ref C := by
  cases e with
  | cls n => obtain ⟨C, h1, h2, _⟩ := h; exact ⟨C, h1, h2⟩
  | trb a b => obtain ⟨C, dd, x, y, h1, h2, _⟩ := h; exact ⟨C, h1, h2⟩
theorem fn_word {x qual y : Str} {st : Stmt} {f : Addr} {fd : FuncData} {N : List Str} {k : Nat} (Fn : Fun K x qual st f fd) (S : FnScope N [y] (defScope st)) (hN : N.length = 4) (hm : mg x = some (.ref f)) (hb : L2.Binds K fd [y] [])
    (body : ∀ (cdv : Value) (A : Around) (outer : List Env) (s : Shared) (H : Hp) (p : Addr × Obj) (e : Ex) (C : Addr) (d : Option Addr), HotC (cxH C8.CX0 P w K mg base N qual (defScope st) f cdv A outer s H C8.E0 p) → HotE (cxH C8.CX0 P w K mg base N qual (defScope st) f cdv A outer s H C8.E0 p) p C d → mg (exName e) = some (.ref C) → goodEx e = true →
      RoomH k (A.deeper (envOfC qual (defScope st) s.heap.objs.size f cdv)) → PSs (cxH C8.CX0 P w K mg base N qual (defScope st) f cdv A outer s H C8.E0 p) (defBody st) (tS K mg (fun _ _ _ _ => False) (D_word p.1 d e))) : Word P w K mg base (k + 1) x := by
  refine ⟨f, fd, [y], hm, Fn.kp, hb, rfl, fun A outer s H args us Q p e cls d F hr hot hpin hz hfl e0 hbn r fz rx hge g => ?_⟩
  obtain ⟨oc, od, kV, doc, pm, an, cdv, ct, osl, rfl, lk, hcd⟩ := Fn.ex
  obtain ⟨C, hmC, rfl⟩ := repX_cls rx
  have KX : K.In s.heap := e0.mod.kin.keeps fun b o e => (e0.bs b o e).1
  have lim : s.heap.NoLimit := e0.mod.nolimit.keeps fun b o e => (e0.bs b o e).1
  have hkind : ∀ z ∈ [y].zip us, (defScope st).names.lookup z.1 = some .local ∨ ((defScope st).names.lookup z.1 = some .cell ∧ ((cellsFrom (s.heap.objs.size + 1) (defScope st).names []).lookup z.1).isSome = true) := fun ⟨n, v⟩ hy => by
    rcases S.par n (List.of_mem_zip hy).1 with q | q
    · exact .inl q
    · exact .inr ⟨q, PySem.W.cellsFrom_some _ _ _ (.inl q)⟩
  refine codeAny_call_function hr.depth (KX _ _ lk) rfl S.co S.gen rfl (PySem.W.codeRec_of KX hcd) (hbn _ _ _ _ ?_)
  refine wpAny_newFunctionEnv_cells S.kind hkind fun env he s1 x => ?_
  subst he
  refine ⟨lim.keeps x.toInCall.keep, codeAny_func ?_⟩
  have I : Inv (cxH C8.CX0 P w K mg base N qual (defScope st) f cdv A outer s H C8.E0 p) [] (L2.start N [V.ref p.1]) H s1 := inv_startH S hpin e0 rfl r x
  have ht := body cdv A outer s H p e C d ⟨p, hot, List.mem_cons_self⟩ ⟨List.mem_cons_self, hz.zc, hfl⟩ hmC hge (hr.deeper _)
  have e1 := word_pure (a := p.1) (d := d) hge
  have en : L2.start N [V.ref p.1] = [some (V.ref p.1), none, none, none] := by
    unfold L2.start
    rw [show N.length - [V.ref p.1].length = 3 by rw [hN]; rfl]
    rfl
  have fs : FmSt K ⟨F, F, H⟩ F H (L2.start N [V.ref p.1]) [.exn p.1 d e, .un, .un, .un] := by
    rw [en]
    refine ⟨⟨fz, rfl, fun i s' q => ?_, fun i j s' t a ei ej oi oj _ _ => ?_⟩, ⟨Step.refl fz, Same.refl _⟩, fun i s' a q o _ => ?_⟩
    · match i, q with
      | 0, q =>
        cases q
        refine ⟨rfl, fun dd z => ?_, fun w1 w2 z => ?_⟩
        · cases e with
          | cls n => obtain ⟨C', _, _, h3⟩ := rx; rw [z] at h3; cases h3
          | trb a b =>
            obtain ⟨C', d', x', y', _, _, h3, h4, _⟩ := rx
            rw [z] at h3; cases h3
            exact ⟨_, h4⟩
        · subst z
          obtain ⟨C', d', x', y', _, _, h3, h4, h5, h6⟩ := rx
          exact ⟨d', x', y', h3, h4, h5, h6⟩
      | 1, q => cases q; trivial
      | 2, q => cases q; trivial
      | 3, q => cases q; trivial
      | n + 4, q => cases q
    · match i, ei with
      | 0, q => cases q; cases oi
      | 1, q => cases q; cases oi
      | 2, q => cases q; cases oi
      | 3, q => cases q; cases oi
      | n + 4, q => cases q
    · match i, q with
      | 0, q => cases q; cases o
      | 1, q => cases q; cases o
      | 2, q => cases q; cases o
      | 3, q => cases q; cases o
      | n + 4, q => cases q
  have hq : tS K mg (fun _ _ _ _ => False) (D_word p.1 d e) { nx := fun _ H' => Q .non H', rt := Q } (L2.start N [V.ref p.1]) H := by
    refine ⟨⟨F, F, H⟩, F, _, fs, ?_⟩
    cases q : D_word p.1 d e [.exn p.1 d e, .un, .un, .un] with
    | rt v =>
      rw [q] at e1
      cases e1
      exact fun z F' H' st rz => g z F' H' st rz
    | nx v =>
      rw [q] at e1
      cases e <;> cases e1
    | rf v => rw [q] at e1; cases e1
    | bk v => rw [q] at e1; cases e1
    | ct v => rw [q] at e1; cases e1
    | ex v u => rw [q] at e1; cases e1
    | bad => rw [q] at e1; cases e1
  refine wpAny_mono (ht.run [] s1 _ H _ I hq) (fun fl s' hs => ?_) fun e s' hs => hs
  have fin : ∀ {σ' : L2.St} {H' : Hp} {v : V} {u : Value}, Inv (cxH C8.CX0 P w K mg base N qual (defScope st) f cdv A outer s H C8.E0 p) [] σ' H' s' → L2.RelV v u → Q v H' → CE outer P w H s Q u s' :=
    fun {σ' H' v u} J rv q => ⟨v, H', J.os, J.bare, J.base, J.hok, rv, q⟩
  cases fl with
  | ret u =>
    obtain ⟨v, σ', H', J, rv, q⟩ := hs
    exact fin J rv q
  | next =>
    obtain ⟨σ', H', J, q⟩ := hs
    exact fin (v := V.non) (u := Value.none) J rfl q
  | brk =>
    obtain ⟨_, _, _, q⟩ := hs
    exact False.elim q
  | cont =>
    obtain ⟨_, _, _, q⟩ := hs
    exact False.elim q
/-- the word called in the suite -/
theorem pe_word {X : Cx} {a : Addr} {oe : Obj} {cls : Value} {d : Option Addr} {pn : List (Addr × Obj)} {i k j : Nat} {x y : Str} {q1 q2 q3 : Pos} (T : Word X.prog X.w X.K X.mg X.base k x) (hr : Room j X.A) (hk : k ≤ j) (hz : L2N.Zn cls d oe) (hf : ∃ vs, oe.data = .fields vs) (hi : i < X.N.length)
    (hg : Gl X x) (ha : PE (X.suite a ((a, oe) :: pn)) (.Name y q2) (tVar i)) (hdb : (x == ("__debug__" : Str)) = false := by decide)
    (he : starEach [.Name y q2] X.env = (false, eval (.Name y q2) X.env) :: starEach [] X.env := by rfl) (hpl : (backTo q3 (starEach [] X.env)).any (·.1) = false := by rfl) :
    PE (X.suite a ((a, oe) :: pn)) (.Call (.Name x q1) [.Name y q2] [] q3) (fun σ H Q => (i < σ.length → σ[i]? = some (some (.ref a))) ∧ ∃ F e, Fz F H ∧ RepX X.K X.mg F e cls d ∧ goodEx e = true ∧ GV X.K F H Q (wordOf e)) := by
  obtain ⟨f, fd, ps, hm, kp, hb, hl, run⟩ := T.ex
  refine ⟨fun pins s σ H Q I h => ?_⟩
  obtain ⟨hs, F, e, fz, rx, hge, g⟩ := h
  have hlen : σ.length = X.N.length := I.len
  have hs := hs (by omega)
  refine wpAny_Call_Name_kw (ld_glob I hg hm ?_ hdb)
  have hA : PA (X.suite a ((a, oe) :: pn)) [.Name y q2] (tCons (tVar i) tNil) := pa_cons ha pa_nil he
  refine PySem.W.callWith_K (h₀ := X.base) I.ok.mod.kin kp (thn (hA.run q3 pins s σ H (fun vs H1 => vs = [V.ref a] ∧ H1 = H) I ⟨_, hs, rfl, rfl⟩) fun us s1 ⟨vs, H1, I1, r, q⟩ => ⟨I1.kIn, ?_⟩) he hpl
  obtain ⟨rfl, rfl⟩ := q
  have b := hb s1 us I1.kIn (by rw [List.append_nil, hl, ← r.length]; rfl)
  rw [List.append_nil] at b
  have P1 := I1.pin (a, oe) (List.mem_append_left _ List.mem_cons_self)
  have hpin : PinOk (X.suite a ((a, oe) :: pn)).stack H1 s1 (a, oe) := ⟨P1.1, P1.2.1, fun hm => (List.mem_cons.mp (I1.stkSub a hm)).elim P1.2.2.1 P1.2.2.2.1, P1.2.2.2.2⟩
  obtain ⟨vs0, hv0⟩ := hf
  refine wpAny_call (codeAny_mono (run _ _ s1 H1 ⟨us, []⟩ us Q (a, oe) e cls d F ((roomH_of (hr.mono hk)).mono (Nat.le_refl _) |> fun z => ⟨z.dp, z.un⟩) ⟨rfl, vs0, hv0, hz.2.2 vs0 hv0⟩ hpin hz ⟨vs0, hv0⟩ I1.env0 b r fz rx hge g) fun r' s' hq => ?_)
  cases r' with
  | error e => exact (show False from hq).elim
  | ok fl =>
    cases fl with
    | ret u => exact I1.after hq
    | next => exact False.elim hq
    | brk => exact False.elim hq
    | cont => exact False.elim hq
/-- told: try: return deed() / except x as n: return word(n) -/
theorem told_gives {j : Nat} {tn x y n a : Str} {sg : Scope} {g CS : Addr} {cdg : Value} {p1 p2 p3 p4 p5 p6 p7 p8 q1 q2 : Pos} (T : Word P w K mg base j y) (nd : ([a, n] : List Str).Nodup) (hle : sg.names.lookup n = some .local) (hge : sg.names.lookup x = some .globalImplicit) (hgw : sg.names.lookup y = some .globalImplicit) (hme : mg x = some (.ref CS)) (hde : (x == ("__debug__" : Str)) = false)
    (hex : ∀ e C, goodEx e = true → mg (exName e) = some (.ref C) → PySem.W.exmOne K (.ref C) (.ref CS) = some true) (hdy : (y == ("__debug__" : Str)) = false) (hn1 : (n == ("__debug__" : Str)) = false) (hn2 : (n == ("__classdict__" : Str)) = false) :
    Gives P w K mg base j [a, n] tn sg g cdg [.Try [.Return (some (.Call (.Name a p1) [] [] p2)) p3] [.ExceptHandler (some (.Name x p4)) (some n) [.Return (some (.Call (.Name y q1) [.Name n q2] [] p5)) p6] p7] [] [] p8] a (TTold K mg) := by
  intro q A stack f c' s H Q tl hr act hc h
  have hgl : Gl (cxOf C8.CX0 P w K mg base [a, n] tn sg g cdg A stack s H C8.E0).nox x := hge
  have hgy : Gl (cxOf C8.CX0 P w K mg base [a, n] tn sg g cdg A stack s H C8.E0).nox y := hgw
  refine ⟨_, pss_one (L2N.ps_try_as (X := (cxOf C8.CX0 P w K mg base [a, n] tn sg g cdg A stack s H C8.E0).nox) (c := .ref CS) (i := 1) (Wout := fun _ _ _ _ => False)
      (tb := fun W D σ H => ∃ Ech : XK, (∀ cls d σ' H', Ech cls d H' → W cls d σ' H') ∧ σ[0]? = some (some (.ref f)) ∧ H c' = some (LamX.CodeO c' q) ∧ tl Ech H D.rt)
      (ts := fun a' cls d D σ H => (1 < σ.length → σ[1]? = some (some (.ref a'))) ∧ ∃ F e, Fz F H ∧ RepX K mg F e cls d ∧ goodEx e = true ∧ GV K F H D.rt (wordOf e))
      rfl rfl nd rfl hle ⟨hgl, hde, .inl hme⟩ takes0 (fun W pn xe tk _ => ?_) (fun a' oe cls d pn hz hf => ?_)), ?_⟩
  · refine ⟨fun pins s' σ H' D I h' => ?_⟩
    obtain ⟨Ech, hW, h1, h2, h3⟩ := h'
    have hp := act W pn xe Ech p1 p2 tk hW
    have hq := pss_one (ps_ret (pos := p3) hp)
    exact hq.run pins s' σ H' D I ⟨h1, h2, h3⟩
  · exact pss_one (ps_ret (pe_word (X := (cxOf C8.CX0 P w K mg base [a, n] tn sg g cdg A stack s H C8.E0).nox) (i := 1) T hr (Nat.le_refl _) hz hf (by show 1 < 2; omega) hgy (pe_var (i := 1) rfl (.inl hle) hn1 hn2) hdy))
  · refine ⟨fun cls dd H' => ∃ F' e, Fz F' H' ∧ RepX K mg F' e cls dd ∧ goodEx e = true ∧ GV K F' H' Q (wordOf e), fun cls d σ' H' ⟨F', e, fz, rx, hg2, g2⟩ => ?_, rfl, hc, h⟩
    obtain ⟨C, hC, rfl⟩ := repX_cls rx
    exact ⟨true, hex e C hg2 hC, fun _ a' _ => ⟨fun hl => by rw [List.length_set] at hl; exact List.getElem?_set_self hl, F', e, fz, rx, hg2, g2⟩, fun z => Bool.noConfusion z⟩
end
end Pv

set_option Elab.async false
set_option linter.all false
set_option maxRecDepth 100000
set_option maxHeartbeats 2000000
/-! PvK: {}, "x" * n, (x,) * n; what the classes of errors must say; told as a fact of the text. -/
namespace Pv
open PySem PySem.Spec PyProof.Rows L2 L2H HotX
variable [TabCx]
section
variable {X : Cx} {W : WX}
theorem v_dic0 {pos : Pos} : PE X (.Dict [] [] pos) (xV X W (dC (.dct [] []))) := PE.imp pe_dnewK fun σ H Q ⟨F, env, ok, h⟩ => fun p hp =>
  h (.ref p) (upd F p (.dK [])) _ (Step.frz ok.s0 hp) (by simp only [Rep]; exact ⟨p, [], rfl, upd_same, rfl, .nil⟩)
/-- a text so many times -/
def pMulS : PV → PV → Option PV
  | .str x, .int n => if 2 ≤ n ∧ n ≤ 1000 ∧ 1 ≤ x.length ∧ x.length ≤ 1000 then some (.str ⟨(List.replicate n.toNat x.cps).foldl (· ++ ·) #[]⟩) else none
  | _, _ => none
def rMulS : R2 := fun x y H Q => ∃ (a : Str) (n : Int), x = .str a ∧ y = .int n ∧ 2 ≤ n ∧ n ≤ 1000 ∧ 1 ≤ a.length ∧ a.length ≤ 1000 ∧ Q (.str ⟨(List.replicate n.toNat a.cps).foldl (· ++ ·) #[]⟩) H
theorem rep_cps (l : Array Nat) (m : Nat) : (List.replicate m l).foldl (· ++ ·) #[] = (List.replicate m l.toList).flatten.toArray := by
  have go : ∀ (m : Nat) (acc : Array Nat), (List.replicate m l).foldl (· ++ ·) acc = acc ++ (List.replicate m l.toList).flatten.toArray := by
    intro m
    induction m with
    | zero => intro acc; simp
    | succ m ih => intro acc; rw [List.replicate_succ, List.foldl_cons, ih, List.replicate_succ, List.flatten_cons]; apply Array.ext'; simp
  rw [go m #[]]; simp
theorem op_mulS : OpR X (binaryOp .Mult) rMulS := by
  intro pins s σ H x y v u Q I rx ry h
  obtain ⟨a, n, rfl, rfl, h1, h2, h3, h4, q⟩ := h
  obtain ⟨t, rfl⟩ := rx
  obtain ⟨t', rfl⟩ := ry
  have hc : (n == 1 || a.length == 0) = false := by
    have e1 : (n == 1) = false := by rw [beq_eq_false_iff_ne]; omega
    have e2 : (a.length == 0) = false := by rw [beq_eq_false_iff_ne]; omega
    rw [e1, e2]; rfl
  have hm : a.length * n.toNat ≤ 1000 * 1000 := Nat.mul_le_mul h4 (by omega)
  refine PySem.P.mul_str ?_ (fun _ _ => ?_) (fun _ _ => ?_) ?_
  · rw [decide_eq_false (by omega), decide_eq_false (by omega)]; rfl
  · have : (1000 : Int) ≤ (2 ^ 63 - 1) / n := by
      rw [Int.le_ediv_iff_mul_le (by omega)]
      omega
    omega
  · unfold Builtin.Str.tooLong
    simp only [decide_eq_false_iff_not]
    have := sizeLine_eq
    omega
  · rw [if_neg (by omega), hc, if_neg Bool.false_ne_true]
    refine ⟨?_, ⟨.str _, H, I.tok _, ⟨_, rfl⟩, q⟩⟩
    have ee : (List.replicate n.toNat a.cps).foldl (· ++ ·) #[] = (List.replicate n.toNat a.cps.toList).flatten.toArray := rep_cps a.cps n.toNat
    show ((List.replicate n.toNat a.cps).foldl (· ++ ·) #[]).size ≤ sizeLine
    have el : ∀ (m : Nat) (l : List Nat), ((List.replicate m l).flatten).length = l.length * m := fun m l => by
      induction m with
      | zero => simp
      | succ m ih => rw [List.replicate_succ, List.flatten_cons, List.length_append, ih, Nat.mul_succ]; omega
    rw [ee, List.size_toArray, el, Array.length_toList]
    have e2 : a.length = a.cps.size := rfl
    rw [e2] at hm
    have := sizeLine_eq
    omega
theorem v_mulS {a b : Expr} {da db : Fm → R PV} {pos : Pos} (ha : PE X a (xR X W da)) (hb : PE X b (xR X W db)) : PE X (.BinOp a .Mult b pos) (xV X W (d2 pMulS da db)) := pe_bin op_mulS (by
  intro F H x y a b v Q s ra rb e g
  unfold pMulS at e
  split at e
  · split at e
    · rename_i c
      cases e
      cases ra.str; cases rb.int
      exact ⟨_, _, rfl, rfl, c.1, c.2.1, c.2.2.1, c.2.2.2, gv_here g s (by simp only [Rep])⟩
    · cases e
  · cases e) stGV ha hb
def pMulT : PV → PV → Option PV
  | .tup l, .int n => if 2 ≤ n ∧ n ≤ 1000 ∧ l ≠ [] ∧ l.length ≤ 1000 then some (.tup (List.replicate n.toNat l).flatten) else none
  | _, _ => none
theorem rep_flat {K : PySem.W.Frag} {F : Hp} {l : List PV} {xs : List V} (r : RepL K F l xs) : ∀ m : Nat, RepL K F (List.replicate m l).flatten (List.replicate m xs).flatten
  | 0 => .nil
  | m + 1 => by
    rw [List.replicate_succ, List.replicate_succ, List.flatten_cons, List.flatten_cons]
    exact r.app (rep_flat r m)
theorem v_mulT {a b : Expr} {da db : Fm → R PV} {pos : Pos} (ha : PE X a (xR X W da)) (hb : PE X b (xR X W db)) : PE X (.BinOp a .Mult b pos) (xV X W (d2 pMulT da db)) := pe_bin op_repT (by
  intro F H x y a b v Q s ra rb e g
  unfold pMulT at e
  split at e
  · split at e
    · rename_i c
      cases e
      obtain ⟨a1, xs, rfl, q, r⟩ := ra.tup
      cases rb.int
      have hl := r.len
      refine ⟨_, _, xs, rfl, rfl, sqT_mono s.same q, fun z => ?_, c.1, c.2.1, by omega, fun p hp => g _ _ _ (Step.frz s hp) (repNew s hp (rep_flat r _))⟩
      rw [z] at hl
      exact c.2.2.1 (List.eq_nil_of_length_eq_zero hl.symm)
    · cases e
  · cases e) stGV ha hb
end
/-! ### the classes of errors -/
def seven : List Str := ["BadValue", "BadSteps", "BadHouse", "BadName", "BadChoice", "BadRecord", "Trouble"]
def excFB (K : PySem.W.Frag) (C : Addr) : Bool := (PySem.W.clsIn K C).isSome && (He.eqO (PySem.W.findIn K (.ref C) "__getattribute__") (some (some (.builtin "BaseException.__getattribute__"))) && (He.eqO (PySem.W.findIn K (.ref C) "__getattr__") (some none) && (decide (PySem.W.subIn K (.ref C) (.type "BaseException") = some true) &&
  (He.eqO (PySem.W.findIn K (.ref C) "__class__") (some (some (.builtin "object.__class__"))) && (He.eqO (PySem.W.specialIn K (.builtin "object.__class__") "__get__") (some (some (.builtin "getset_descriptor.__get__"))) && (decide (PySem.W.takesIn K (.builtin "object.__class__") = some true) && decide (PySem.W.mroIn K C (.type "object") = some true)))))))
theorem excFB_ok {K : PySem.W.Frag} {C : Addr} (h : excFB K C = true) : ExcF K C := by
  obtain ⟨h1, h⟩ := He.ba h
  obtain ⟨h2, h⟩ := He.ba h
  obtain ⟨h3, h⟩ := He.ba h
  obtain ⟨h4, h⟩ := He.ba h
  obtain ⟨h5, h⟩ := He.ba h
  obtain ⟨h6, h⟩ := He.ba h
  obtain ⟨h7, h8⟩ := He.ba h
  exact ⟨h1, He.eqO_ok h2, He.eqO_ok h3, of_decide_eq_true h4, He.eqO_ok h5, He.eqO_ok h6, of_decide_eq_true h7, of_decide_eq_true h8⟩
def wordB (K : PySem.W.Frag) : Bool := seven.all fun n => (Pv.excFB K (He.ga K n) && (decide (PySem.W.kitOne K (.ref (He.ga K n)) (.type "ValueError") = some true) && (decide (PySem.W.exmOne K (.ref (He.ga K n)) (.ref (He.ga K "TryError")) = some true) && ((seven.all fun m => decide (PySem.W.kitOne K (.ref (He.ga K n)) (.ref (He.ga K m)) = some (n == m))) &&
  (xfB K (He.ga K n) && (He.eqO (PySem.W.findIn K (.ref (He.ga K n)) "word") (some none) && He.eqO (PySem.W.findIn K (.ref (He.ga K n)) "what") (some none)))))))
structure WordF (K : PySem.W.Frag) (mg : Str → Option Value) : Prop where
  gl : ∀ n ∈ seven, mg n = some (.ref (He.ga K n))
  glT : mg "TryError" = some (.ref (He.ga K "TryError"))
  ok : wordB K = true
section
variable {K : PySem.W.Frag} {mg : Str → Option Value} (F : WordF K mg)
include F
theorem WordF.each {n : Str} (h : n ∈ seven) : ExcF K (He.ga K n) ∧ PySem.W.kitOne K (.ref (He.ga K n)) (.type "ValueError") = some true ∧ PySem.W.exmOne K (.ref (He.ga K n)) (.ref (He.ga K "TryError")) = some true ∧ ∀ m ∈ seven, PySem.W.kitOne K (.ref (He.ga K n)) (.ref (He.ga K m)) = some (n == m) := by
  have h2 := List.all_eq_true.mp F.ok n h
  obtain ⟨h3, h2⟩ := He.ba h2
  obtain ⟨h4, h2⟩ := He.ba h2
  obtain ⟨h5, h2⟩ := He.ba h2
  obtain ⟨h6, _⟩ := He.ba h2
  exact ⟨excFB_ok h3, of_decide_eq_true h4, of_decide_eq_true h5, fun m hm => of_decide_eq_true (List.all_eq_true.mp h6 m hm)⟩
theorem exName_in {e : Ex} (h : goodEx e = true) : exName e ∈ seven := by
  cases e with
  | trb _ _ => show ("Trouble" : Str) ∈ seven; decide +kernel
  | cls n =>
    have hm := List.contains_iff_mem.mp h
    simp only [List.mem_cons, List.not_mem_nil, or_false] at hm
    rcases hm with rfl | rfl | rfl | rfl | rfl | rfl <;> decide +kernel
theorem WordF.is {e : Ex} {C : Addr} (h : goodEx e = true) (hm : mg (exName e) = some (.ref C)) : C = He.ga K (exName e) := by
  have q := F.gl _ (exName_in F h)
  rw [hm] at q
  cases q
  rfl
theorem WordF.exF {e : Ex} {C : Addr} (h : goodEx e = true) (hm : mg (exName e) = some (.ref C)) : ExcF K C := by
  rw [F.is h hm]
  exact (F.each (exName_in F h)).1
theorem WordF.ve {e : Ex} {C : Addr} (h : goodEx e = true) (hm : mg (exName e) = some (.ref C)) : PySem.W.kitOne K (.ref C) (.type "ValueError") = some true := by
  rw [F.is h hm]
  exact (F.each (exName_in F h)).2.1
theorem WordF.exm {e : Ex} {C : Addr} (h : goodEx e = true) (hm : mg (exName e) = some (.ref C)) : PySem.W.exmOne K (.ref C) (.ref (He.ga K "TryError")) = some true := by
  rw [F.is h hm]
  exact (F.each (exName_in F h)).2.2.1
theorem WordF.kit {e : Ex} {C : Addr} {m : Str} (h : goodEx e = true) (hm : mg (exName e) = some (.ref C)) (hs : m ∈ seven) : PySem.W.kitOne K (.ref C) (.ref (He.ga K m)) = some (isX e m) := by
  rw [F.is h hm, (F.each (exName_in F h)).2.2.2 m hs]
  cases e <;> rfl
theorem WordF.xf {e : Ex} {C : Addr} (h : goodEx e = true) (hm : mg (exName e) = some (.ref C)) : XfC K C ∧ PySem.W.findIn K (.ref C) "word" = some none ∧ PySem.W.findIn K (.ref C) "what" = some none := by
  rw [F.is h hm]
  have h2 := List.all_eq_true.mp F.ok _ (exName_in F h)
  obtain ⟨_, h2⟩ := He.ba h2
  obtain ⟨_, h2⟩ := He.ba h2
  obtain ⟨_, h2⟩ := He.ba h2
  obtain ⟨_, h2⟩ := He.ba h2
  obtain ⟨h3, h4⟩ := He.ba h2
  obtain ⟨h5, h6⟩ := He.ba h4
  exact ⟨xfB_ok h3, He.eqO_ok h5, He.eqO_ok h6⟩
end
section
variable {X : Cx} {W : WX}
/-- isinstance(e, M), M one of the seven -/
theorem v_isO {p : Addr × Obj} {C : Addr} {d : Option Addr} {e : Ex} {i : Nat} {y x : Str} {q p1 p2 pos : Pos} (F : WordF X.K X.mg) (hge : goodEx e = true) (hmC : X.mg (exName e) = some (.ref C)) (HE : HotE X p C d) (hm : X.mg "isinstance" = none) (ha : PE X (.Name y p1) (tVar i)) (hx : x ∈ seven) (hgx : Gl X x) (hg : Gl X "isinstance" := by rfl) (hdx : (x == ("__debug__" : Str)) = false := by decide)
    (hs : starEach [.Name y p1, .Name x p2] X.env = (false, eval (.Name y p1) X.env) :: starEach [.Name x p2] X.env := by rfl) (hs2 : starEach [.Name x p2] X.env = (false, eval (.Name x p2) X.env) :: starEach [] X.env := by rfl)
    (hpl : (backTo pos (starEach [.Name x p2] X.env)).any (·.1) = false := by rfl) :
    PE X (.Call (.Name "isinstance" q) [.Name y p1, .Name x p2] [] pos) (xV X W (dIsE i p.1 d (isX e x))) :=
  v_isE HE (F.exF hge hmC) (F.kit hge hmC hx) hm ha (pe_glob (v := .ref (He.ga X.K x)) hgx (F.gl x hx) rfl hdx) (fun u h => h) hg hs hs2 hpl
theorem v_isVE {p : Addr × Obj} {C : Addr} {d : Option Addr} {e : Ex} {i : Nat} {y : Str} {q p1 p2 pos : Pos} (F : WordF X.K X.mg) (hge : goodEx e = true) (hmC : X.mg (exName e) = some (.ref C)) (HE : HotE X p C d) (hm : X.mg "isinstance" = none) (hv : X.mg "ValueError" = none) (ha : PE X (.Name y p1) (tVar i)) (hgx : Gl X "ValueError" := by rfl) (hg : Gl X "isinstance" := by rfl)
    (hs : starEach [.Name y p1, .Name "ValueError" p2] X.env = (false, eval (.Name y p1) X.env) :: starEach [.Name "ValueError" p2] X.env := by rfl) (hs2 : starEach [.Name "ValueError" p2] X.env = (false, eval (.Name "ValueError" p2) X.env) :: starEach [] X.env := by rfl)
    (hpl : (backTo pos (starEach [.Name "ValueError" p2] X.env)).any (·.1) = false := by rfl) :
    PE X (.Call (.Name "isinstance" q) [.Name y p1, .Name "ValueError" p2] [] pos) (xV X W (dIsE i p.1 d true)) :=
  v_isE HE (F.exF hge hmC) (F.ve hge hmC) hm ha (pe_bltn (v := .ty "ValueError") hgx hv (by decide +kernel) rfl (by decide) (by decide)) (fun u h => h) hg hs hs2 hpl
theorem v_xfT {p : Addr × Obj} {C : Addr} {d : Option Addr} {e : Ex} {i : Nat} {y n : Str} {p1 pos : Pos} (w : Bool) (hn : n = if w = true then ("word" : Str) else "what") (F : WordF X.K X.mg) (hge : goodEx e = true) (hmC : X.mg (exName e) = some (.ref C)) (HE : HotE X p C d) (ha : PE X (.Name y p1) (tVar i)) (hb : attributeBase (.Name y p1) n X.env (eval (.Name y p1) X.env) = eval (.Name y p1) X.env := by rfl) :
    PE X (.Attribute (.Name y p1) n pos) (xV X W (dXf i p.1 d w)) := by
  obtain ⟨x1, x2, x3⟩ := F.xf hge hmC
  refine v_xf w hn HE x1 ?_ ha hb
  subst hn
  cases w
  · exact x3
  · exact x2
end
end Pv

set_option Elab.async false
set_option linter.all false
set_option maxRecDepth 100000
set_option maxHeartbeats 2000000
/-! PvL: the end of a law whose defs make lambdas. -/
namespace Pv
open PySem PySem.Spec PyProof.Rows L2
def qn (x : Str) : Str := (envOfC x ⟨.function, [], false, false, []⟩ 0 0 .none).qual ++ "<lambda>"
def lamL (tf : List He.Defn) (K : PySem.W.Frag) : List (Addr × Str) := tf.map fun d => ((He.cT K d).2, qn d.1)
def distB (K : PySem.W.Frag) (tf : List He.Defn) : Bool := tf.all fun a => tf.all fun b => decide (a = b) || !decide ((He.cT K a).2 = (He.cT K b).2)
theorem lamAt_of {tf : List He.Defn} {K : PySem.W.Frag} {base : Heap} {mg : Str → Option Value} {x : Str} {st : Stmt} {fd : FuncData} (hx : (x, none) ∈ tf) (Fn : Fun K x x st (He.fAd K (x, none)) fd) (TB : ∀ p ∈ tf.map (He.cT K), LamX.TabB base mg p.1 p.2) (hd : distB K tf = true) :
    @LamAt ⟨lamL tf K⟩ base mg fd.code (qn x) := by
  letI : TabCx := ⟨lamL tf K⟩
  obtain ⟨oc, od, kV, doc, pm, an, cdv, ct, osl, e, lk, hcd⟩ := Fn.ex
  obtain ⟨c, hc⟩ := He.codeIn_ref hcd
  have e1 : fd.code = .ref c := by rw [e]; exact hc
  have e2 : He.codeOf K (x, none) = c := He.codeOf_eq lk e1
  have tb := TB (He.cT K (x, none)) (List.mem_map.mpr ⟨_, hx, rfl⟩)
  refine ⟨(He.cT K (x, none)).1, (He.cT K (x, none)).2, by rw [e1, ← e2]; rfl, tb, List.mem_map.mpr ⟨_, hx, rfl⟩, fun p hp ep => ?_⟩
  obtain ⟨d, hdm, rfl⟩ := List.mem_map.mp hp
  have h1 := List.all_eq_true.mp (List.all_eq_true.mp hd d hdm) _ hx
  rcases Bool.or_eq_true_iff.mp h1 with h2 | h2
  · rw [of_decide_eq_true h2]
  · have h3 : decide ((He.cT K d).2 = (He.cT K (x, none)).2) = true := decide_eq_true ep
    rw [h3] at h2
    cases h2
/-- the tables of a law's defs -/
theorem lawAt_of {l : PySem.W.OpenLaw} {w : World} {K : PySem.W.Frag} {k : Nat} {mg : Str → Option Value} {fa : Addr} {h : Heap} {fl : List He.Fa} {fn : List He.DefD} {tf : List He.Defn} {ex : PySem.W.Frag → Bool} {fd : FuncData} (X : K.In h) (c : He.SaysX fl fn [] tf ex w h K) (hb : ∀ (s : Shared) (u : Value), BindsTo s fd ⟨[u], []⟩ [("script", u)])
    (F : ∀ base : Heap, K.In base → base.Ns mainGlobals mg → (∀ p ∈ tf.map (He.cT K), LamX.TabB base mg p.1 p.2) → FnOk l.prog w K mg base (L2N.CX l.prog w) k fa fd ["script"] (@spLaw ⟨lamL tf K⟩ K)) : LamX.LawAtS l w K (L2N.CX l.prog w) k 63 "script" mg fa h := by
  refine ⟨fd, tf.map (He.cT K), @spLaw ⟨lamL tf K⟩ K, fun p hp => ?_, fun p hp => ?_, fun p hp => ?_, hb, fun H a ns hl hbits hT hS => ⟨a, ns, rfl, hS, hl, hbits, fun p hp => ?_, fun _ => rfl⟩, F⟩
  · obtain ⟨d, hd, rfl⟩ := List.mem_map.mp hp
    exact c.empty d hd
  · obtain ⟨d, hd, rfl⟩ := List.mem_map.mp hp
    exact c.out d hd
  · obtain ⟨d, hd, rfl⟩ := List.mem_map.mp hp
    exact PySem.W.codeHd_of_K X (c.hd d hd)
  · obtain ⟨d, hd, rfl⟩ := List.mem_map.mp hp
    exact hT (He.cT K d) (List.mem_map.mpr ⟨d, hd, rfl⟩)
/-- a class that is raised -/
theorem exc1_of {K : PySem.W.Frag} {h : Heap} {mg : Str → Option Value} {n : Str} (X : K.In h) (G : h.Ns mainGlobals mg) (g : (He.Fa.glo n).ok K = true) (c : (He.Fa.exc n).ok K = true) : Exc1 K mg n := by
  obtain ⟨h1, h2, h3, h4⟩ := He.exc_ok c
  exact ⟨He.ga K n, He.glo_ok X G g, h1, h2, h3, h4⟩
/-- the law's told stands -/
theorem told_mk [TabCx] {P : Program} {w : World} {K : PySem.W.Frag} {mg : Str → Option Value} {base : Heap} {x a n : Str} {st : Stmt} {f : Addr} {fd : FuncData} {j : Nat} (Fn : Fun K x x st f fd) (hm : mg x = some (.ref f)) (hb : Binds K fd [a] []) (S : FnScope [a, n] [a] (defScope st)) (hv : Vis (defScope st) a)
    (h1 : (a == ("__debug__" : Str)) = false) (h2 : (a == ("__classdict__" : Str)) = false) (G : ∀ cdv, Gives P w K mg base j [a, n] x (defScope st) f cdv (defBody st) a (TTold K mg)) : Told P w K mg base j x := by
  obtain ⟨oc, od, kV, doc, pm, an, cdv, ct, osl, rfl, lk, hcd⟩ := Fn.ex
  exact ⟨f, _, _, _, _, kV, doc, pm, cdv, ct, oc, an, od, osl, [a, n], a, hm, Fn.kp, lk, hcd, hb, S, rfl, hv, h1, h2, G cdv⟩
theorem cxN_false {P : Program} {w : World} {outer : List Env} {H : Hp} {s : Shared} {e : Value} {s' : Shared} (h : L2N.CX P w outer H s (fun _ _ _ => False) e s') : False := by
  obtain ⟨_, _, _, _, _, _, _, _, _, _, _, _, z⟩ := h
  exact z
end Pv

set_option Elab.async false
set_option linter.all false
set_option maxRecDepth 100000
set_option maxHeartbeats 4000000
namespace Tw
open PySem PySem.Spec PyProof.Rows L2 Pv
def D_is_number : Fm → RS :=
  (dRet (dAndV (d1 (pIsi "int") (dV 0)) (dNotV (d1 (pIsi "bool") (dV 0)))))
def C_are_signs_1 : Fm → R (List PV) :=
  (dLc [1] (tgN 1) dYes (dAndV (dBv (dChain pLe pLe (dC (.str (Str.ofString " "))) (dV 1) (dC (.str (Str.ofString "~"))))) (dBv (d2 pNe (dCall (fun ds => ofO (pOrd ds)) (dCons (dV 1) dNil)) (dC (.int 37))))) (d1 strIt (dV 0)))
def D_are_signs : Fm → RS :=
  (dRet (dCall (fun ds => ofO (pAll ds)) (dCons (dL C_are_signs_1) dNil)))
def C_is_value_1 (g_is_value : List PV → R PV) : Fm → R (List PV) :=
  (dLc [2] (tgN 2) dYes (dCall g_is_value (dCons (dV 2) (dCons (d2 pAdd (dV 1) (dC (.int 1))) dNil))) (d1 tupIt (dV 0)))
def D_is_value (g_are_signs : List PV → R PV) (g_is_value : List PV → R PV) (g_is_number : List PV → R PV) : Fm → RS :=
  (dSeq (dIfS (dB (d1 (pIsi "str") (dV 0))) (dRet (dAndV (dBv (d2 pLe (dCall (fun ds => ofO (pLen ds)) (dCons (dV 0) dNil)) (dC (.int 20)))) (dCall g_are_signs (dCons (dV 0) dNil)))) dSkip) (dSeq (dIfS (dB (d1 (pIsi "tuple") (dV 0))) (dRet (dAndV (dBv (d2 pLt (dV 1) (dC (.int 3)))) (dAndV (dBv (d2 pLe (dCall (fun ds => ofO (pLen ds)) (dCons (dV 0) dNil)) (dC (.int 6)))) (dCall (fun ds => ofO (pAll ds)) (dCons (dL (C_is_value_1 g_is_value)) dNil))))) dSkip) (dRet (dAndV (dCall g_is_number (dCons (dV 0) dNil)) (dBv (d2 pLe (dCall (fun ds => ofO (pAbs ds)) (dCons (dV 0) dNil)) (dC (.int 999999))))))))
def D_need_value (g_is_value : List PV → R PV) : Fm → RS :=
  (dIfS (dNot (dB (dCall g_is_value (dCons (dV 0) (dCons (dC (.int 0)) dNil))))) (dRaise (.cls (Str.ofString "BadValue"))) dSkip)
def B_first_unlike_1 : Fm → RS :=
  (dSet 2 (d2 pAdd (dV 2) (dC (.int 1))))
def L_first_unlike_1 : Fm → RS :=
  (dWhile (fun _ => 64) (dAnd (d2 pLt (dV 2) (dCall (fun ds => ofO (pMin2 ds)) (dCons (dCall (fun ds => ofO (pLen ds)) (dCons (dV 0) dNil)) (dCons (dCall (fun ds => ofO (pLen ds)) (dCons (dV 1) dNil)) dNil)))) (d2 pEq (d2 pIdx (dV 0) (dV 2)) (d2 pIdx (dV 1) (dV 2)))) B_first_unlike_1 [])
def D_first_unlike : Fm → RS :=
  (dSeq (dSet 2 (dC (.int 0))) (dSeq L_first_unlike_1 (dRet (dV 2))))
def D_difference (g_first_unlike : List PV → R PV) (g_difference : List PV → R PV) : Fm → RS :=
  (dSeq (dIfS (dOr (d2 pEq (dV 0) (dV 1)) (dOr (dB (d1 (pIsi "int") (dV 0))) (dB (d1 (pIsi "int") (dV 1))))) (dRet (dTup dNil)) dSkip) (dSeq (dIfS (d2 pNe (d1 (pIsi "str") (dV 0)) (d1 (pIsi "str") (dV 1))) (dRet (dTup dNil)) dSkip) (dSeq (dSet 2 (dCall g_first_unlike (dCons (dV 0) (dCons (dV 1) dNil)))) (dSeq (dIfS (dOr (dB (d1 (pIsi "str") (dV 0))) (d2 pGe (dV 2) (dCall (fun ds => ofO (pMin2 ds)) (dCons (dCall (fun ds => ofO (pLen ds)) (dCons (dV 0) dNil)) (dCons (dCall (fun ds => ofO (pLen ds)) (dCons (dV 1) dNil)) dNil))))) (dRet (dTup (dCons (dV 2) dNil))) dSkip) (dRet (d2 pAdd (dTup (dCons (dV 2) dNil)) (dCall g_difference (dCons (d2 pIdx (dV 0) (dV 2)) (dCons (d2 pIdx (dV 1) (dV 2)) dNil)))))))))
def D__law_cell : Fm → RS :=
  (dSeq (dIfS (d2 pEq (dV 0) (dL (dLst dNil))) (dRet (d2 pMul (dV 1) (dC (.int 7919)))) dSkip) (dRet (d2 pAdd (d2 pIdx (dV 0) (d2 pMod (dV 1) (dCall (fun ds => ofO (pLen ds)) (dCons (dV 0) dNil)))) (d2 pMul (d2 pDiv (dV 1) (dCall (fun ds => ofO (pLen ds)) (dCons (dV 0) dNil))) (dC (.int 104729))))))
def D__law_drawn : Fm → RS :=
  (dSeq (dSet 2 (d2 pMod (d2 pAdd (d2 pMul (dV 0) (dC (.int 6364136223846793005))) (d2 pMul (d2 pAdd (dV 1) (dC (.int 1))) (dC (.int 1442695040888963407)))) (dC (.int 340282366920938463463374607431768211507)))) (dSeq (dSet 2 (d2 pMod (d2 pMul (dV 2) (dV 2)) (dC (.int 340282366920938463463374607431768211297)))) (dSeq (dSet 2 (d2 pMul (d2 pMul (d2 pAdd (d2 pMod (dV 2) (dC (.int 18446744073709551557))) (dC (.int 1))) (d2 pAdd (d2 pDiv (dV 2) (dC (.int 18446744073709551557))) (dC (.int 1)))) (dV 2))) (dRet (d2 pMod (dV 2) (dC (.int 340282366920938463463374607431768211507)))))))
def D__law_signs : Fm → RS :=
  (dRet (dC (.str (Str.ofString " !#$&'()*+,-./0123456789:;<=>?@ABCDEFGHIJKLMNOPQRSTUVWXYZ[\\]^_`abcdefghijklmnopqrstuvwxyz{|}~"))))
def C__law_value_1 (g__law_drawn : List PV → R PV) : Fm → R (List PV) :=
  (dLc [7] (tgN 7) dYes (d2 pIdx (dV 5) (d2 pMod (dCall g__law_drawn (dCons (dV 2) (dCons (dV 7) dNil))) (dCall (fun ds => ofO (pLen ds)) (dCons (dV 5) dNil)))) (dCall (fun ds => ofO (rgIt1 ds)) (dCons (d2 pIdx (dL (dLst (dCons (dC (.int 0)) (dCons (dC (.int 1)) (dCons (dC (.int 2)) (dCons (dC (.int 3)) (dCons (dC (.int 20)) dNil))))))) (d2 pMod (d2 pDiv (dV 2) (dC (.int 2))) (dC (.int 5)))) dNil)))
def C__law_value_2 (g__law_drawn : List PV → R PV) (g__law_value : List PV → R PV) : Fm → R (List PV) :=
  (dLc [7] (tgN 7) dYes (dCall g__law_value (dCons (dCall g__law_drawn (dCons (dV 2) (dCons (dV 7) dNil))) (dCons (d2 pSub (dV 1) (dC (.int 1))) dNil))) (dCall (fun ds => ofO (rgIt1 ds)) (dCons (dV 6) dNil)))
def D__law_value (g__law_signs : List PV → R PV) (g__law_drawn : List PV → R PV) (g__law_value : List PV → R PV) : Fm → RS :=
  (dSeq (dSet 2 (d2 pDiv (dV 0) (dC (.int 16)))) (dSeq (dSet 3 (d2 pMod (dV 0) (dC (.int 6)))) (dSeq (dIfS (dOr (d2 pLt (dV 3) (dC (.int 3))) (dAnd (d2 pGt (dV 3) (dC (.int 4))) (d2 pEq (dV 1) (dC (.int 0))))) (dSeq (dSet 4 (d2 pMod (d2 pDiv (dV 2) (dC (.int 8))) (d2 pIdx (dL (dLst (dCons (dC (.int 5)) (dCons (dC (.int 40)) (dCons (dC (.int 2000)) (dCons (dC (.int 1000000)) dNil)))))) (d2 pMod (dV 2) (dC (.int 4)))))) (dRet (d2 pIdx (dL (dLst (dCons (dV 4) (dCons (d2 pSub (dC (.int 0)) (dV 4)) dNil)))) (d2 pMod (d2 pDiv (dV 2) (dC (.int 4))) (dC (.int 2)))))) dSkip) (dSeq (dIfS (d2 pLt (dV 3) (dC (.int 5))) (dSeq (dSet 5 (d2 pIdx (dL (dLst (dCons (dC (.str (Str.ofString "ab"))) (dCons (dCall g__law_signs dNil) dNil)))) (d2 pMod (dV 2) (dC (.int 2))))) (dRet (dJoin (dC (.str (Str.ofString ""))) (dL (C__law_value_1 g__law_drawn))))) dSkip) (dSeq (dSet 6 (d2 pIdx (dL (dLst (dCons (dC (.int 0)) (dCons (dC (.int 1)) (dCons (dC (.int 2)) (dCons (dC (.int 3)) (dCons (d2 pIdx (dL (dLst (dCons (dC (.int 3)) (dCons (dC (.int 6)) dNil)))) (dCall (fun ds => ofO (pInt1 ds)) (dCons (dBv (d2 pEq (dV 1) (dC (.int 1)))) dNil))) dNil))))))) (d2 pMod (dV 2) (dC (.int 5))))) (dRet (dCall (fun ds => ofO (pTuple ds)) (dCons (dL (C__law_value_2 g__law_drawn g__law_value)) dNil))))))))
def D__law_bent (g__law_bent : List PV → R PV) (g__law_drawn : List PV → R PV) : Fm → RS :=
  (dSeq (dIfS (dB (d1 (pIsi "int") (dV 0))) (dRet (dIf (d2 pLt (dCall (fun ds => ofO (pAbs ds)) (dCons (dV 0) dNil)) (dC (.int 999999))) (d2 pIdx (dL (dLst (dCons (d2 pAdd (dV 0) (dC (.int 1))) (dCons (d2 pSub (dC (.int 0)) (dV 0)) (dCons (dC (.int 0)) (dCons (dC (.str (Str.ofString "a"))) dNil)))))) (d2 pMod (dV 1) (dC (.int 4)))) (dC (.int 0)))) dSkip) (dSeq (dIfS (dOr (d2 pEq (dCall (fun ds => ofO (pLen ds)) (dCons (dV 0) dNil)) (dC (.int 0))) (d2 pEq (d2 pMod (dV 1) (dC (.int 5))) (dC (.int 0)))) (dRet (d2 pIdx (dL (dLst (dCons (d2 pAdd (dSl pSl (dV 0) dNo (dSo (dC (.int 3)))) (dIf (dB (d1 (pIsi "str") (dV 0))) (dC (.str (Str.ofString "b"))) (dTup (dCons (dC (.int 7)) dNil)))) (dCons (dC (.int 3)) dNil)))) (d2 pMod (d2 pDiv (dV 1) (dC (.int 5))) (dC (.int 2))))) dSkip) (dSeq (dSet 2 (d2 pMod (d2 pDiv (dV 1) (dC (.int 8))) (dCall (fun ds => ofO (pLen ds)) (dCons (dV 0) dNil)))) (dSeq (dIfS (d2 pEq (d2 pMod (dV 1) (dC (.int 5))) (dC (.int 1))) (dRet (d2 pAdd (dSl pSl (dV 0) dNo (dSo (dV 2))) (dSl pSl (dV 0) (dSo (d2 pAdd (dV 2) (dC (.int 1)))) dNo))) dSkip) (dSeq (dIfS (dB (d1 (pIsi "str") (dV 0))) (dRet (d2 pAdd (d2 pAdd (dSl pSl (dV 0) dNo (dSo (dV 2))) (d2 pIdx (dC (.str (Str.ofString "bz"))) (d2 pMod (d2 pDiv (dV 1) (dC (.int 64))) (dC (.int 2))))) (dSl pSl (dV 0) (dSo (d2 pAdd (dV 2) (dC (.int 1)))) dNo))) dSkip) (dRet (d2 pAdd (d2 pAdd (dSl pSl (dV 0) dNo (dSo (dV 2))) (dTup (dCons (dCall g__law_bent (dCons (d2 pIdx (dV 0) (dV 2)) (dCons (dCall g__law_drawn (dCons (dV 1) (dCons (dC (.int 1)) dNil))) dNil))) dNil))) (dSl pSl (dV 0) (dSo (d2 pAdd (dV 2) (dC (.int 1)))) dNo))))))))
def B__law_due_1 (g__law_due : List PV → R PV) : Fm → RS :=
  (dIfS (d2 pNe (dSl pSl (dV 0) (dSo (dV 2)) (dSo (d2 pAdd (dV 2) (dC (.int 1))))) (dSl pSl (dV 1) (dSo (dV 2)) (dSo (d2 pAdd (dV 2) (dC (.int 1)))))) (dSeq (dIfS (dOr (dB (d1 (pIsi "str") (dV 0))) (dOr (d2 pGe (dV 2) (dCall (fun ds => ofO (pLen ds)) (dCons (dV 0) dNil))) (d2 pGe (dV 2) (dCall (fun ds => ofO (pLen ds)) (dCons (dV 1) dNil))))) (dRet (dTup (dCons (dV 2) dNil))) dSkip) (dRet (d2 pAdd (dTup (dCons (dV 2) dNil)) (dCall g__law_due (dCons (d2 pIdx (dV 0) (dV 2)) (dCons (d2 pIdx (dV 1) (dV 2)) dNil)))))) dSkip)
def L__law_due_1 (g__law_due : List PV → R PV) : Fm → RS :=
  (dFor (dCall (fun ds => ofO (rgIt1 ds)) (dCons (dCall (fun ds => ofO (pMax2 ds)) (dCons (dCall (fun ds => ofO (pLen ds)) (dCons (dV 0) dNil)) (dCons (dCall (fun ds => ofO (pLen ds)) (dCons (dV 1) dNil)) dNil))) dNil)) (tgN 2) (B__law_due_1 g__law_due) [2])
def D__law_due (g__law_due : List PV → R PV) : Fm → RS :=
  (dSeq (dIfS (dOr (d2 pEq (dV 0) (dV 1)) (dOr (dB (d1 (pIsi "int") (dV 0))) (dB (d1 (pIsi "int") (dV 1))))) (dRet (dTup dNil)) dSkip) (dSeq (dIfS (d2 pNe (d1 (pIsi "str") (dV 0)) (d1 (pIsi "str") (dV 1))) (dRet (dTup dNil)) dSkip) (dSeq (L__law_due_1 g__law_due) (dRet (dTup dNil)))))
def D__law_none : Fm → RS :=
  (dSeq (dSet 0 (dL (dLst (dCons (dC (.int 1000000)) (dCons (d1 pNeg (dC (.int 1000000))) (dCons (dC (.bl true)) (dCons (dC (.bl false)) (dCons (dC .non) (dCons (d2 pMulS (dC (.str (Str.ofString "x"))) (dC (.int 21))) (dCons (dC (.str (Str.ofString "a\n"))) (dCons (dC (.str (Str.ofString "\t"))) (dCons (d2 pMulT (dTup (dCons (dC (.int 1)) dNil)) (dC (.int 7))) (dCons (dTup (dCons (dC .non) dNil)) (dCons (dTup (dCons (dTup (dCons (dC (.int 1)) (dCons (dC (.bl true)) dNil))) dNil)) (dCons (dL (dLst (dCons (dC (.int 1)) dNil))) (dCons (dL (dLst dNil)) (dCons (dC (.dct [] [])) dNil))))))))))))))))) (dRetF (d2 fCat (dV 0) (dL (dLst (dCons (dTup (dCons (dTup (dCons (dTup (dCons (dTup (dCons (dC (.int 1)) dNil)) dNil)) dNil)) dNil)) (dCons (dTup (dCons (dTup (dCons (dTup (dCons (dTup dNil) dNil)) dNil)) dNil)) (dCons (dTup (dCons (d2 pMulS (dC (.str (Str.ofString "x"))) (dC (.int 21))) dNil)) (dCons (dTup (dCons (dC (.int 1)) (dCons (dTup (dCons (dC (.int 2)) (dCons (dTup (dCons (dC (.int 3)) (dCons (dTup (dCons (dC (.int 4)) dNil)) dNil))) dNil))) dNil))) dNil)))))))))
def B_law_1 (g__law_drawn : List PV → R PV) (g__law_bent : List PV → R PV) : Fm → RS :=
  (dApp 4 (dCall g__law_bent (dCons (dIf (d2 pEq (d2 pMod (dV 5) (dC (.int 2))) (dC (.int 1))) (d2 pIdx (dR 4) (d1 pNeg (dC (.int 1)))) (dV 3)) (dCons (dCall g__law_drawn (dCons (dV 2) (dCons (d2 pAdd (dC (.int 10)) (dV 5)) dNil))) dNil))))
def L_law_1 (g__law_drawn : List PV → R PV) (g__law_bent : List PV → R PV) : Fm → RS :=
  (dFor (dCall (fun ds => ofO (rgIt1 ds)) (dCons (dC (.int 4)) dNil)) (tgN 5) (B_law_1 g__law_drawn g__law_bent) [5])
def B_law_2 (g_need_value : List PV → R PV) (g_difference : List PV → R PV) (g__law_due : List PV → R PV) : Fm → RS :=
  (dSeq (dIfS (d1 pNotN (dTold (dCall g_need_value (dCons (dV 6) dNil)))) (dRet (dC (.bl false))) dSkip) (dSeq (dSet 7 (dTold (dCall g_difference (dCons (dV 3) (dCons (dV 6) dNil))))) (dIfS (dOr (dNot (dB (d1 (pIsi "tuple") (dV 7)))) (dOr (d2 pNe (dV 7) (dCall g__law_due (dCons (dV 3) (dCons (dV 6) dNil)))) (d2 pNe (dCall g_difference (dCons (dV 6) (dCons (dV 3) dNil))) (dV 7)))) (dRet (dC (.bl false))) dSkip)))
def L_law_2 (g_need_value : List PV → R PV) (g_difference : List PV → R PV) (g__law_due : List PV → R PV) : Fm → RS :=
  (dFor (d1 lstIt (dV 4)) (tgN 6) (B_law_2 g_need_value g_difference g__law_due) [6, 7])
def B_law_3 (g_need_value : List PV → R PV) (g_difference : List PV → R PV) (g__law_cell : List PV → R PV) (g__law_drawn : List PV → R PV) (g__law_value : List PV → R PV) (g__law_bent : List PV → R PV) (g__law_due : List PV → R PV) (g__law_none : List PV → R (List PV)) : Fm → RS :=
  (dSeq (dSet 2 (dCall g__law_drawn (dCons (dCall g__law_cell (dCons (dV 0) (dCons (dV 1) dNil))) (dCons (dV 1) dNil)))) (dSeq (dSet 3 (dCall g__law_value (dCons (dCall g__law_drawn (dCons (dV 2) (dCons (dC (.int 1)) dNil))) (dCons (dC (.int 3)) dNil)))) (dSeq (dSetF 4 (dLst (dCons (dV 3) (dCons (dCall g__law_value (dCons (dCall g__law_drawn (dCons (dV 2) (dCons (dC (.int 2)) dNil))) (dCons (dC (.int 3)) dNil))) dNil)))) (dSeq (L_law_1 g__law_drawn g__law_bent) (dFrz 4 (dSeq (L_law_2 g_need_value g_difference g__law_due) (dSeq (dSet 8 (d2 pIdx (dL (dCall g__law_none dNil)) (d2 pMod (d2 pDiv (dV 2) (d2 pPow (dC (.int 2)) (dC (.int 30)))) (dC (.int 18))))) (dSeq (dIfS (d2 pNe (dTold (dCall g_need_value (dCons (dV 8) dNil))) (dTup (dCons (dC (.str (Str.ofString "refused"))) (dCons (dC (.str (Str.ofString "BadValue"))) dNil)))) (dRet (dC (.bl false))) dSkip) (dIfS (d2 pNe (dTold (dCall g_need_value (dCons (dTup (dCons (dC (.int 1)) (dCons (dV 8) dNil))) dNil))) (dTup (dCons (dC (.str (Str.ofString "refused"))) (dCons (dC (.str (Str.ofString "BadValue"))) dNil)))) (dRet (dC (.bl false))) dSkip)))))))))
def L_law_3 (g_need_value : List PV → R PV) (g_difference : List PV → R PV) (g__law_cell : List PV → R PV) (g__law_drawn : List PV → R PV) (g__law_value : List PV → R PV) (g__law_bent : List PV → R PV) (g__law_due : List PV → R PV) (g__law_none : List PV → R (List PV)) : Fm → RS :=
  (dFor (dCall (fun ds => ofO (rgIt1 ds)) (dCons (dCall (fun ds => ofO (pMax2 ds)) (dCons (dC (.int 1)) (dCons (dCall (fun ds => ofO (pMin2 ds)) (dCons (dC (.int 4)) (dCons (dCall (fun ds => ofO (pLen ds)) (dCons (dV 0) dNil)) dNil))) dNil))) dNil)) (tgN 1) (B_law_3 g_need_value g_difference g__law_cell g__law_drawn g__law_value g__law_bent g__law_due g__law_none) [1, 2, 3, 4, 5, 6, 7, 8])
def D_law (g__law_drawn : List PV → R PV) (g__law_cell : List PV → R PV) (g__law_value : List PV → R PV) (g__law_bent : List PV → R PV) (g_need_value : List PV → R PV) (g_difference : List PV → R PV) (g__law_due : List PV → R PV) (g__law_none : List PV → R (List PV)) : Fm → RS :=
  (dSeq (L_law_3 g_need_value g_difference g__law_cell g__law_drawn g__law_value g__law_bent g__law_due g__law_none) (dRet (dC (.bl true))))
def G_is_number (ds : List PV) : R PV := if ds.length = 1 then toV ((D_is_number) (fm0 1 ds)) else .bad
def G_are_signs (ds : List PV) : R PV := if ds.length = 1 then toV ((D_are_signs) (fm0 2 ds)) else .bad
def G_is_value : Nat → List PV → R PV
  | 0, _ => .bad
  | n + 1, ds => if ds.length = 2 then toV ((D_is_value G_are_signs (G_is_value n) G_is_number) (fm0 3 ds)) else .bad
def G_need_value (ds : List PV) : R PV := if ds.length = 1 then toV ((D_need_value (G_is_value 6)) (fm0 1 ds)) else .bad
def G_first_unlike (ds : List PV) : R PV := if ds.length = 2 then toV ((D_first_unlike) (fm0 3 ds)) else .bad
def G_difference : Nat → List PV → R PV
  | 0, _ => .bad
  | n + 1, ds => if ds.length = 2 then toV ((D_difference G_first_unlike (G_difference n)) (fm0 3 ds)) else .bad
def G__law_cell (ds : List PV) : R PV := if ds.length = 2 then toV ((D__law_cell) (fm0 2 ds)) else .bad
def G__law_drawn (ds : List PV) : R PV := if ds.length = 2 then toV ((D__law_drawn) (fm0 3 ds)) else .bad
def G__law_signs (ds : List PV) : R PV := if ds.length = 0 then toV ((D__law_signs) (fm0 0 ds)) else .bad
def G__law_value : Nat → List PV → R PV
  | 0, _ => .bad
  | n + 1, ds => if ds.length = 2 then toV ((D__law_value G__law_signs G__law_drawn (G__law_value n)) (fm0 8 ds)) else .bad
def G__law_bent : Nat → List PV → R PV
  | 0, _ => .bad
  | n + 1, ds => if ds.length = 2 then toV ((D__law_bent (G__law_bent n) G__law_drawn) (fm0 3 ds)) else .bad
def G__law_due : Nat → List PV → R PV
  | 0, _ => .bad
  | n + 1, ds => if ds.length = 2 then toV ((D__law_due (G__law_due n)) (fm0 3 ds)) else .bad
def G__law_none (ds : List PV) : R (List PV) := if ds.length = 0 then toF ((D__law_none) (fm0 1 ds)) else .bad
def G_law (ds : List PV) : R PV := if ds.length = 1 then toV ((D_law G__law_drawn G__law_cell (G__law_value 6) (G__law_bent 6) G_need_value (G_difference 5) (G__law_due 5) G__law_none) (fm0 9 ds)) else .bad
end Tw

set_option Elab.async false
set_option linter.all false
set_option maxRecDepth 100000
set_option maxHeartbeats 4000000
namespace Tw
open PySem PySem.Spec PyProof.Rows L2 Pv
local instance : TabCx := ⟨[]⟩
/-! ### drawn numbers -/
theorem bits_le {a : Int} {n : Nat} (h : a.natAbs < 2 ^ n) (hn : 0 < n) : Builtin.Int.intBits a ≤ n := by
  unfold Builtin.Int.intBits
  split
  · omega
  · have := PySem.Flt.log2_lt_of hn h
    omega
theorem mulB_r {a b : Int} (h : b.natAbs < 2 ^ 64) : mulB a b = true := mulB_of (IntMulOk.of_right (bits_le h (by decide)))
theorem mulB_l {a b : Int} (h : a.natAbs < 2 ^ 64) : mulB a b = true := mulB_of (IntMulOk.of_left (bits_le h (by decide)))
theorem mulB_w {a b : Int} {m n : Nat} (ha : a.natAbs < 2 ^ m) (hb : b.natAbs < 2 ^ n) (hm : 0 < m) (hn : 0 < n) (h : m + n ≤ 1000000) : mulB a b = true := mulB_of (CMulW.ok (wide_mul ha hb hm hn h))
abbrev M1 : Int := 340282366920938463463374607431768211507
abbrev M2 : Int := 340282366920938463463374607431768211297
abbrev A1 : Int := 18446744073709551557
@[irreducible] def drawn (c k : Int) : Int :=
  let a := (c * 6364136223846793005 + (k + 1) * 1442695040888963407) % M1
  let b := a * a % M2
  ((b % A1 + 1) * (b / A1 + 1) * b) % M1
theorem drawn_lo (c k : Int) : 0 ≤ drawn c k := by
  unfold drawn
  exact Int.emod_nonneg _ (by decide)
theorem abs_lt {a m : Int} {n : Nat} (h0 : 0 ≤ a) (h : a < m) (hm : m ≤ ((2 ^ n : Nat) : Int)) : a.natAbs < 2 ^ n := by
  have h1 : ((a.natAbs : Nat) : Int) = a := Int.natAbs_of_nonneg h0
  have h2 : a < ((2 ^ n : Nat) : Int) := Int.lt_of_lt_of_le h hm
  rw [← h1] at h2
  exact Int.ofNat_lt.mp h2
theorem emod_abs {x m : Int} {n : Nat} (hm : 0 < m) (h : m ≤ ((2 ^ n : Nat) : Int)) : (x % m).natAbs < 2 ^ n := abs_lt (Int.emod_nonneg _ (by omega)) (Int.emod_lt_of_pos _ hm) h
theorem emod_abs1 {x m : Int} {n : Nat} (hm : 0 < m) (h : m + 1 ≤ ((2 ^ n : Nat) : Int)) : (x % m + 1).natAbs < 2 ^ n := by
  have h1 := Int.emod_nonneg x (show m ≠ 0 by omega)
  have h2 := Int.emod_lt_of_pos x hm
  exact abs_lt (m := m + 1) (by omega) (by omega) h
theorem ediv_abs1 {x m d : Int} {n : Nat} (hm : 0 < m) (hd : 0 < d) (h : m + 1 ≤ ((2 ^ n : Nat) : Int)) : (x % m / d + 1).natAbs < 2 ^ n := by
  have h1 := Int.emod_nonneg x (show m ≠ 0 by omega)
  have h2 := Int.emod_lt_of_pos x hm
  have h3 : 0 ≤ x % m / d := Int.ediv_nonneg h1 (by omega)
  have h4 : x % m / d ≤ x % m := Int.ediv_le_self _ h1
  exact abs_lt (m := m + 1) (by omega) (by omega) h
theorem lg1 : Nat.log2 18446744073709551557 < 9000 := by decide +kernel
theorem G_drawn (c k : Int) : G__law_drawn [.int c, .int k] = .ok (.int (drawn c k)) := by
  have h1 : mulB c 6364136223846793005 = true := mulB_r (by decide)
  have h2 : mulB (k + 1) 1442695040888963407 = true := mulB_r (by decide)
  have b1 : ∀ x : Int, (x % 340282366920938463463374607431768211507).natAbs < 2 ^ 130 := fun x => emod_abs (by decide) (by decide)
  have b2 : ∀ x : Int, (x % 340282366920938463463374607431768211297).natAbs < 2 ^ 130 := fun x => emod_abs (by decide) (by decide)
  have b3 : ∀ x : Int, (x % 18446744073709551557 + 1).natAbs < 2 ^ 65 := fun x => emod_abs1 (by decide) (by decide)
  have b4 : ∀ x : Int, (x % 340282366920938463463374607431768211297 / 18446744073709551557 + 1).natAbs < 2 ^ 130 := fun x => ediv_abs1 (by decide) (by decide) (by decide)
  have h3 : ∀ x : Int, mulB (x % 340282366920938463463374607431768211507) (x % 340282366920938463463374607431768211507) = true := fun x => mulB_w (b1 x) (b1 x) (by decide) (by decide) (by decide)
  have h4 : ∀ x : Int, mulB (x % 340282366920938463463374607431768211297 % 18446744073709551557 + 1) (x % 340282366920938463463374607431768211297 / 18446744073709551557 + 1) = true := fun x => mulB_w (b3 _) (b4 x) (by decide) (by decide) (by decide)
  have h5 : ∀ x : Int, mulB ((x % 340282366920938463463374607431768211297 % 18446744073709551557 + 1) * (x % 340282366920938463463374607431768211297 / 18446744073709551557 + 1)) (x % 340282366920938463463374607431768211297) = true := fun x => mulB_w (wide_lt (b3 _) (b4 x)) (b2 x) (by decide) (by decide) (by decide)
  simp [G__law_drawn, D__law_drawn, fm0, h1, h2, h3, h4, h5, drawn, pDiv_ii, lg1]
/-! ### a script's cells -/
theorem canInts : ∀ ns : List Int, PyData.canLayAll0 (ns.map PyData.int) = true
  | [] => rfl
  | n :: ns => by simp only [List.map_cons, PyData.canLayAll0, PyData.canLay0, canInts ns, Bool.and_self]
theorem depInts : ∀ ns : List Int, PyData.depthAll (ns.map PyData.int) = 0
  | [] => rfl
  | n :: ns => by simp only [List.map_cons, PyData.depthAll, PyData.depth, depInts ns]; rfl
theorem G_cell {ns : List Int} (k : Nat) (hl : ns.length ≤ 63) : ∃ c, G__law_cell [.scr ns, .int (k : Int)] = .ok (.int c) := by
  have e : pEq (.scr ns) (.lst []) = some (decide (ns = [])) := by
    unfold pEq
    have s1 : SeqAt.shaped (toD (.scr ns)) = true := by
      simp only [toD]
      exact shaped_of (by simp only [PyData.canLay0, canInts]) (by simp only [PyData.depth, depInts]; omega)
    have s2 : SeqAt.shaped (toD (.lst [])) = true := by decide
    rw [if_pos ⟨s1, s2⟩]
    congr 1
    cases ns with
    | nil => rfl
    | cons n ns => simp [toD, toDs, PyData.eqv, PyData.eqvAll]
  by_cases z : ns = []
  · refine ⟨(k : Int) * 7919, ?_⟩
    have h1 : mulB (k : Int) 7919 = true := mulB_r (by decide)
    rw [decide_eq_true z] at e
    simp [G__law_cell, D__law_cell, fm0, e, h1]
  · have hp : 0 < ns.length := List.length_pos_iff.mpr z
    have hn : (0 : Int) < (ns.length : Int) := by omega
    have hm : (k : Int) % (ns.length : Int) = ((k % ns.length : Nat) : Int) := by omega
    have hlt : k % ns.length < ns.length := Nat.mod_lt _ hp
    have h1 : mulB ((k : Int) / (ns.length : Int)) 104729 = true := mulB_r (by decide)
    have a1 : L2.atI ns ((k : Int) % (ns.length : Int)) = some ns[k % ns.length] := by rw [hm]; exact atI_in hlt
    have d1 : pDiv (.int (k : Int)) (.int (ns.length : Int)) = some (.int ((k : Int) / (ns.length : Int))) := pDiv_small hn (by omega)
    refine ⟨ns[k % ns.length] + (k : Int) / (ns.length : Int) * 104729, ?_⟩
    rw [decide_eq_false z] at e
    simp [G__law_cell, D__law_cell, fm0, e, hp, a1, d1, h1]
end Tw

set_option Elab.async false
set_option linter.all false
set_option maxRecDepth 100000
set_option maxHeartbeats 4000000
namespace Tw
open PySem PySem.Spec PyProof.Rows L2 Pv
local instance : TabCx := ⟨[]⟩
/-! ### values -/
inductive Val where
  | num (i : Int)
  | txt (s : List Nat)
  | pack (xs : List Val)
mutual
def emb : Val → PV
  | .num i => .int i
  | .txt s => .str (mk s)
  | .pack xs => .tup (embs xs)
def embs : List Val → List PV
  | [] => []
  | x :: xs => emb x :: embs xs
end
theorem embs_map : ∀ xs : List Val, embs xs = xs.map emb
  | [] => by simp only [embs, List.map_nil]
  | x :: xs => by simp only [embs, List.map_cons, embs_map xs]
def okc (c : Nat) : Bool := decide (32 ≤ c) && decide (c ≤ 126) && decide (c ≠ 37)
mutual
/-- a value, so many packs around it -/
def vd : Nat → Val → Bool
  | _, .num i => decide (i.natAbs ≤ 999999)
  | _, .txt s => decide (s.length ≤ 20) && s.all okc
  | d, .pack xs => decide (d < 3) && (decide (xs.length ≤ 6) && vds (d + 1) xs)
def vds : Nat → List Val → Bool
  | _, [] => true
  | d, x :: xs => vd d x && vds d xs
end
theorem vds_all (d : Nat) : ∀ xs : List Val, vds d xs = xs.all (vd d)
  | [] => by simp only [vds, List.all_nil]
  | x :: xs => by simp only [vds, List.all_cons, vds_all d xs]
theorem vds_iff {d : Nat} {xs : List Val} : vds d xs = true ↔ ∀ x ∈ xs, vd d x = true := by rw [vds_all, List.all_eq_true]
mutual
theorem vd_mono {d e : Nat} (h : e ≤ d) : ∀ v : Val, vd d v = true → vd e v = true
  | .num _, q => by simp only [vd] at q ⊢; exact q
  | .txt _, q => by simp only [vd] at q ⊢; exact q
  | .pack xs, q => by
    simp only [vd, Bool.and_eq_true, decide_eq_true_eq] at q ⊢
    exact ⟨by omega, q.2.1, vds_mono (by omega) xs q.2.2⟩
theorem vds_mono {d e : Nat} (h : e ≤ d) : ∀ v : List Val, vds d v = true → vds e v = true
  | [], _ => by simp only [vds]
  | x :: xs, q => by
    simp only [vds, Bool.and_eq_true] at q ⊢
    exact ⟨vd_mono h x q.1, vds_mono h xs q.2⟩
end
theorem okc_lt {c : Nat} (h : okc c = true) : c < 1114112 := by
  simp only [okc, Bool.and_eq_true, decide_eq_true_eq] at h
  omega
theorem okcs_lt {s : List Nat} (h : s.all okc = true) : ∀ c ∈ s, c < 1114112 := fun c hc => okc_lt (List.all_eq_true.mp h c hc)
/-! as data -/
mutual
theorem lay_emb {d : Nat} : ∀ v : Val, vd d v = true → (toD (emb v)).canLay0 = true
  | .num _, _ => by simp only [emb, toD, PyData.canLay0]
  | .txt s, q => by
    simp only [vd, Bool.and_eq_true] at q
    simp only [emb, toD, PyData.canLay0]
    exact strOk_mk (okcs_lt q.2)
  | .pack xs, q => by
    simp only [vd, Bool.and_eq_true] at q
    simp only [emb, toD, PyData.canLay0]
    exact lay_embs xs q.2.2
theorem lay_embs {d : Nat} : ∀ v : List Val, vds d v = true → PyData.canLayAll0 (toDs (embs v)) = true
  | [], _ => by simp only [embs, toDs, PyData.canLayAll0]
  | x :: xs, q => by
    simp only [vds, Bool.and_eq_true] at q
    simp only [embs, toDs, PyData.canLayAll0, lay_emb x q.1, lay_embs xs q.2, Bool.and_self]
end
mutual
theorem dep_emb {d : Nat} : ∀ v : Val, vd d v = true → d ≤ 3 → (toD (emb v)).depth ≤ 3 - d
  | .num _, _, _ => by simp only [emb, toD, PyData.depth]; omega
  | .txt s, _, _ => by simp only [emb, toD, PyData.depth]; omega
  | .pack xs, q, h => by
    simp only [vd, Bool.and_eq_true, decide_eq_true_eq] at q
    have := dep_embs xs q.2.2 (by omega)
    simp only [emb, toD, PyData.depth]
    omega
theorem dep_embs {d : Nat} : ∀ v : List Val, vds d v = true → d ≤ 3 → PyData.depthAll (toDs (embs v)) ≤ 3 - d
  | [], _, _ => by simp only [embs, toDs, PyData.depthAll]; omega
  | x :: xs, q, h => by
    simp only [vds, Bool.and_eq_true] at q
    have h1 := dep_emb x q.1 h
    have h2 := dep_embs xs q.2 h
    simp only [embs, toDs, PyData.depthAll]
    omega
end
theorem sh_emb {v : Val} (h : vd 0 v = true) : SeqAt.shaped (toD (emb v)) = true := shaped_of (lay_emb v h) (by have := dep_emb v h (by omega); omega)
theorem toDs_emb : ∀ xs : List Val, toDs (xs.map emb) = toDs (embs xs) := fun xs => by rw [embs_map]
theorem sh_list {vs : List Val} (h : ∀ v ∈ vs, vd 0 v = true) : SeqAt.shaped (toD (.lst (vs.map emb))) = true := by
  have q : vds 0 vs = true := vds_iff.mpr h
  simp only [toD, toDs_emb]
  exact shaped_of (by simp only [PyData.canLay0]; exact lay_embs vs q) (by have := dep_embs vs q (by omega); simp only [PyData.depth]; omega)
/-! ### are_signs, is_number, is_value -/
theorem S_blank : Str.ofString " " = mk [32] := by decide +kernel
theorem S_tilde : Str.ofString "~" = mk [126] := by decide +kernel
theorem S_a : Str.ofString "a" = mk [97] := by decide +kernel
theorem S_nil : Str.ofString "" = mk [] := by decide +kernel
theorem lt_one (c d : Nat) : decide ([c] < [d]) = decide (c < d) := by
  simp only [decide_eq_decide]
  rw [List.cons_lt_cons_iff]
  simp
theorem le_l (c d : Nat) : pLe (.str (mk [d])) (chr1 c) = some (decide (d ≤ c)) := by
  show some (!decide ((mk [c]).cps.toList < (mk [d]).cps.toList)) = _
  rw [mk_cps, mk_cps, lt_one]
  congr 1
  by_cases h : c < d
  · rw [decide_eq_true h, decide_eq_false (by omega)]; rfl
  · rw [decide_eq_false h, decide_eq_true (by omega)]; rfl
theorem le_r (c d : Nat) : pLe (chr1 c) (.str (mk [d])) = some (decide (c ≤ d)) := le_l d c
def okP : PV → PV
  | .str x => .bl (okc (x.cps.getD 0 0))
  | _ => .non
theorem okP_chr (c : Nat) : okP (chr1 c) = .bl (okc c) := rfl
theorem C_signs {s : List Nat} {y : Slot} (hz : s.length ≤ 1000) : C_are_signs_1 [.pv (.str (mk s)), y] = .ok (s.map (PV.bl ∘ okc)) := by
  unfold C_are_signs_1
  rw [dLc_map okP (ds := s.map chr1) (by simp) (by rw [List.length_map]; exact sz (by omega)) (by simp) ?_]
  · rw [List.map_map]; rfl
  · intro d hd
    obtain ⟨c, _, rfl⟩ := List.mem_map.mp hd
    rw [okP_chr]
    by_cases h1 : 32 ≤ c
    · by_cases h2 : c ≤ 126
      · by_cases h3 : (c : Int) = 37
        · have h4 : c = 37 := by omega
          subst h4
          simp [S_blank, S_tilde, le_l, le_r, okc]
        · have h4 : c ≠ 37 := by omega
          simp [S_blank, S_tilde, le_l, le_r, okc, h1, h2, h3, h4]
      · simp [S_blank, S_tilde, le_l, le_r, okc, h1, h2]
    · simp [S_blank, S_tilde, le_l, le_r, okc, h1]
theorem all_map (s : List Nat) : (s.map okc).all id = s.all okc := by rw [List.all_map]; rfl
theorem G_signs {s : List Nat} (hz : s.length ≤ 1000) : G_are_signs [.str (mk s)] = .ok (.bl (s.all okc)) := by
  simp [G_are_signs, D_are_signs, fm0, C_signs hz, pAll_f]
def isNum : Val → Bool
  | .num _ => true
  | _ => false
theorem G_number (v : Val) : G_is_number [emb v] = .ok (.bl (isNum v)) := by
  cases v with
  | num i => simp [G_is_number, D_is_number, fm0, emb, isNum]
  | txt s => simp [G_is_number, D_is_number, fm0, emb, isNum]
  | pack s => simp [G_is_number, D_is_number, fm0, emb, isNum]
/-! how many packs within one another at most (for the recursions) -/
mutual
def dp : Val → Nat
  | .num _ => 0
  | .txt _ => 0
  | .pack xs => dps xs + 1
def dps : List Val → Nat
  | [] => 0
  | x :: xs => max (dp x) (dps xs)
end
theorem dp_mem {x : Val} : ∀ {xs : List Val}, x ∈ xs → dp x ≤ dps xs
  | y :: ys, h => by
    simp only [dps]
    rcases List.mem_cons.mp h with e | e
    · subst e; omega
    · have := dp_mem e; omega
mutual
theorem dp_vd {d : Nat} : ∀ v : Val, vd d v = true → d ≤ 3 → dp v ≤ 3 - d
  | .num _, _, _ => by simp only [dp]; omega
  | .txt _, _, _ => by simp only [dp]; omega
  | .pack xs, q, h => by
    simp only [vd, Bool.and_eq_true, decide_eq_true_eq] at q
    have := dps_vd xs q.2.2 (by omega)
    simp only [dp]; omega
theorem dps_vd {d : Nat} : ∀ v : List Val, vds d v = true → d ≤ 3 → dps v ≤ 3 - d
  | [], _, _ => by simp only [dps]; omega
  | x :: xs, q, h => by
    simp only [vds, Bool.and_eq_true] at q
    have h1 := dp_vd x q.1 h
    have h2 := dps_vd xs q.2 h
    simp only [dps]; omega
end
/-! an embedded value's own value -/
mutual
def unE : PV → Val
  | .int i => .num i
  | .str x => .txt x.cps.toList
  | .tup xs => .pack (unEs xs)
  | _ => .num 0
def unEs : List PV → List Val
  | [] => []
  | x :: xs => unE x :: unEs xs
end
mutual
theorem unE_emb : ∀ v : Val, unE (emb v) = v
  | .num _ => by simp only [emb, unE]
  | .txt s => by simp only [emb, unE, mk_cps]
  | .pack xs => by simp only [emb, unE, unEs_embs xs]
theorem unEs_embs : ∀ v : List Val, unEs (embs v) = v
  | [] => by simp only [embs, unEs]
  | x :: xs => by simp only [embs, unEs, unE_emb x, unEs_embs xs]
end
theorem emb_inj {u v : Val} (h : emb u = emb v) : u = v := by
  have := congrArg unE h
  rwa [unE_emb, unE_emb] at this
/-! every text and pack in it is short enough to be reckoned with -/
mutual
def short : Val → Prop
  | .num _ => True
  | .txt s => s.length ≤ 1000
  | .pack xs => xs.length ≤ 1000 ∧ shorts xs
def shorts : List Val → Prop
  | [] => True
  | x :: xs => short x ∧ shorts xs
end
theorem short_mem {x : Val} : ∀ {xs : List Val}, shorts xs → x ∈ xs → short x
  | y :: ys, h, hx => by
    simp only [shorts] at h
    rcases List.mem_cons.mp hx with e | e
    · subst e; exact h.1
    · exact short_mem h.2 e
theorem shorts_of : ∀ {xs : List Val}, (∀ x ∈ xs, short x) → shorts xs
  | [], _ => by simp only [shorts]
  | y :: ys, h => by
    simp only [shorts]
    exact ⟨h y List.mem_cons_self, shorts_of fun x hx => h x (List.mem_cons_of_mem _ hx)⟩
mutual
theorem short_vd {d : Nat} : ∀ v : Val, vd d v = true → short v
  | .num _, _ => by simp only [short]
  | .txt s, q => by
    simp only [vd, Bool.and_eq_true, decide_eq_true_eq] at q
    simp only [short]; omega
  | .pack xs, q => by
    simp only [vd, Bool.and_eq_true, decide_eq_true_eq] at q
    simp only [short]
    exact ⟨by omega, shorts_vd xs q.2.2⟩
theorem shorts_vd {d : Nat} : ∀ v : List Val, vds d v = true → shorts v
  | [], _ => by simp only [shorts]
  | x :: xs, q => by
    simp only [vds, Bool.and_eq_true] at q
    simp only [shorts]
    exact ⟨short_vd x q.1, shorts_vd xs q.2⟩
end
theorem emb_list {xs : List Val} {f : Val → PV} : (embs xs).map (fun p => f (unE p)) = xs.map f := by
  rw [embs_map, List.map_map]
  apply List.map_congr_left
  intro x _
  simp only [Function.comp, unE_emb]
theorem embs_len (xs : List Val) : (embs xs).length = xs.length := by rw [embs_map, List.length_map]
theorem G_value : ∀ (n : Nat) (v : Val) (d : Nat), short v → dp v < n → G_is_value n [emb v, .int (d : Int)] = .ok (.bl (vd d v))
  | 0, _, _, _, h => by omega
  | n + 1, .num i, d, _, _ => by
    have e : emb (.num i) = .int i := by simp only [emb]
    have hN := G_number (.num i)
    rw [e] at hN
    simp only [isNum] at hN
    by_cases c : (i.natAbs : Int) ≤ 999999
    · have c' : i.natAbs ≤ 999999 := by omega
      simp [G_is_value, D_is_value, fm0, e, hN, vd, c, c']
    · have c' : ¬ i.natAbs ≤ 999999 := by omega
      simp [G_is_value, D_is_value, fm0, e, hN, vd, c, c']
  | n + 1, .txt s, d, hs, _ => by
    have e : emb (.txt s) = .str (mk s) := by simp only [emb]
    simp only [short] at hs
    have hS := G_signs hs
    by_cases c : (s.length : Int) ≤ 20
    · have c' : s.length ≤ 20 := by omega
      simp [G_is_value, D_is_value, fm0, e, hS, vd, c, c', pLen_s hs]
    · have c' : ¬ s.length ≤ 20 := by omega
      simp [G_is_value, D_is_value, fm0, e, hS, vd, c, c', pLen_s hs]
  | n + 1, .pack xs, d, hs, hd => by
    have e : emb (.pack xs) = .tup (embs xs) := by simp only [emb]
    simp only [short] at hs
    simp only [dp] at hd
    have hC : C_is_value_1 (G_is_value n) [.pv (.tup (embs xs)), .pv (.int (d : Int)), .un] = .ok (xs.map (PV.bl ∘ vd (d + 1))) := by
      unfold C_is_value_1
      rw [dLc_map (fun p => .bl (vd (d + 1) (unE p))) (ds := embs xs) (by simp) (by rw [embs_len]; exact sz (by omega)) (by simp) ?_]
      · rw [emb_list (f := fun v => PV.bl (vd (d + 1) v))]; rfl
      · intro p hp
        rw [embs_map] at hp
        obtain ⟨x, hx, rfl⟩ := List.mem_map.mp hp
        have ih := G_value n x (d + 1) (short_mem hs.2 hx) (by have := dp_mem hx; omega)
        have c1 : ((d + 1 : Nat) : Int) = (d : Int) + 1 := by omega
        rw [c1] at ih
        simp [ih, unE_emb]
    by_cases c : (d : Int) < 3
    · have c0 : d < 3 := by omega
      by_cases c1 : (xs.length : Int) ≤ 6
      · have c2 : xs.length ≤ 6 := by omega
        simp [G_is_value, D_is_value, fm0, e, vd, c, c0, c1, c2, embs_len, hC, pAll_f, vds_all]
      · have c2 : ¬ xs.length ≤ 6 := by omega
        simp [G_is_value, D_is_value, fm0, e, vd, c, c0, c1, c2, embs_len, hC, pAll_f, vds_all]
    · have c0 : ¬ d < 3 := by omega
      simp [G_is_value, D_is_value, fm0, e, vd, c, c0]
end Tw

set_option Elab.async false
set_option linter.all false
set_option maxRecDepth 100000
set_option maxHeartbeats 4000000
namespace Tw
open PySem PySem.Spec PyProof.Rows L2 Pv
local instance : TabCx := ⟨[]⟩
/-! ### drawn values -/
def signs0 : List Nat := [32, 33, 35, 36, 38, 39, 40, 41, 42, 43, 44, 45, 46, 47, 48, 49, 50, 51, 52, 53, 54, 55, 56, 57, 58, 59, 60, 61, 62, 63, 64, 65, 66, 67, 68, 69, 70, 71, 72, 73, 74, 75, 76, 77, 78, 79, 80, 81, 82, 83, 84, 85, 86, 87, 88, 89, 90, 91, 92, 93, 94, 95, 96, 97, 98, 99, 100, 101, 102, 103, 104, 105, 106, 107, 108, 109, 110, 111, 112, 113, 114, 115, 116, 117, 118, 119, 120, 121, 122, 123, 124, 125, 126]
theorem S_signs : Str.ofString " !#$&'()*+,-./0123456789:;<=>?@ABCDEFGHIJKLMNOPQRSTUVWXYZ[\\]^_`abcdefghijklmnopqrstuvwxyz{|}~" = mk signs0 := by decide +kernel
theorem S_ab : Str.ofString "ab" = mk [97, 98] := by decide +kernel
theorem G_sg : G__law_signs [] = .ok (.str (mk signs0)) := by
  simp [G__law_signs, D__law_signs, fm0, S_signs]
theorem ok_signs0 : signs0.all okc = true := by decide +kernel
theorem ok_ab : [97, 98].all okc = true := by decide +kernel
def pickI (f : Int → PV) : PV → PV
  | .int j => f j
  | _ => .non
/-- a text drawn of some signs -/
theorem C_text {here : Int} {sg : List Nat} {a b y z u : Slot} (h0 : 0 < sg.length) (hz : sg.length ≤ 1000) (hok : sg.all okc = true) (hh : 0 ≤ here) :
    ∃ s : List Nat, s.length ≤ 20 ∧ s.all okc = true ∧ C__law_value_1 G__law_drawn [a, b, .pv (.int here), y, z, .pv (.str (mk sg)), u, .un] = .ok (s.map chr1) := by
  have h2 : 0 ≤ here / 2 % 5 ∧ here / 2 % 5 < 5 := by omega
  obtain ⟨n, hn, hsrc⟩ : ∃ n : Nat, n ≤ 20 ∧ L2.atI [PV.int 0, PV.int 1, PV.int 2, PV.int 3, PV.int 20] (here / 2 % 5) = some (.int (n : Int)) := by
    rcases (show here / 2 % 5 = 0 ∨ here / 2 % 5 = 1 ∨ here / 2 % 5 = 2 ∨ here / 2 % 5 = 3 ∨ here / 2 % 5 = 4 by omega) with e | e | e | e | e
    · exact ⟨0, by omega, by rw [e]; rfl⟩
    · exact ⟨1, by omega, by rw [e]; rfl⟩
    · exact ⟨2, by omega, by rw [e]; rfl⟩
    · exact ⟨3, by omega, by rw [e]; rfl⟩
    · exact ⟨20, by omega, by rw [e]; rfl⟩
  have pick : ∀ x : Int, ∃ c, c ∈ sg ∧ pIdx (.str (mk sg)) (.int (x % (sg.length : Int))) = some (chr1 c) := fun x => by
    have l0 := Int.emod_nonneg x (show (sg.length : Int) ≠ 0 by omega)
    have l1 := Int.emod_lt_of_pos x (show (0 : Int) < (sg.length : Int) by omega)
    obtain ⟨k, hk⟩ : ∃ k : Nat, x % (sg.length : Int) = (k : Int) := ⟨(x % (sg.length : Int)).toNat, by omega⟩
    have hk2 : k < sg.length := by omega
    refine ⟨sg[k], List.getElem_mem _, ?_⟩
    rw [hk]
    exact pIdx_s hk2 hz
  obtain ⟨f, hf⟩ := Classical.axiomOfChoice pick
  refine ⟨(List.range n).map fun (j : Nat) => f (drawn here (j : Int)), by simpa using hn, ?_, ?_⟩
  · rw [List.all_eq_true]
    intro c hc
    obtain ⟨j, _, rfl⟩ := List.mem_map.mp hc
    exact List.all_eq_true.mp hok _ (hf _).1
  · unfold C__law_value_1
    have d5 : pDiv (.int here) (.int 2) = some (.int (here / 2)) := pDiv_small (by omega) (by omega)
    have z5 : (5 : Nat) ≤ sizeLine := sz (by omega)
    rw [dLc_map (pickI fun j => chr1 (f (drawn here j))) (ds := (List.range n).map fun (k : Nat) => PV.int (k : Int)) (by simp [d5, hsrc, rg1 (show n ≤ 1000 by omega), z5]) (by simp; exact sz (by omega)) (by simp) ?_]
    · rw [List.map_map, List.map_map]; rfl
    · intro p hp
      obtain ⟨j, _, rfl⟩ := List.mem_map.mp hp
      have q := (hf (drawn here (j : Int))).2
      simp [G_drawn, pLen_s hz, h0, q, pickI]
theorem z2 : (2 : Nat) ≤ sizeLine := sz (by omega)
theorem z4 : (4 : Nat) ≤ sizeLine := sz (by omega)
theorem z5 : (5 : Nat) ≤ sizeLine := sz (by omega)
theorem G_gen : ∀ (n d : Nat) (m : Int), d < n → d ≤ 3 → 0 ≤ m → ∃ v, G__law_value n [.int m, .int (d : Int)] = .ok (emb v) ∧ vd (3 - d) v = true
  | 0, _, _, h, _, _ => by omega
  | n + 1, d, m, hn, hd, hm => by
    have e16 : pDiv (.int m) (.int 16) = some (.int (m / 16)) := pDiv_small (by omega) (by omega)
    generalize hh : m / 16 = here at e16
    have h0 : 0 ≤ here := by omega
    generalize hw : m % 6 = way
    have w0 : 0 ≤ way ∧ way < 6 := by omega
    have e8 : pDiv (.int here) (.int 8) = some (.int (here / 8)) := pDiv_small (by omega) (by omega)
    have e4 : pDiv (.int here) (.int 4) = some (.int (here / 4)) := pDiv_small (by omega) (by omega)
    -- a number
    have num : ∃ x y : Int, ∃ l, 0 < y ∧ x.natAbs ≤ 999999 ∧ L2.atI [PV.int 5, PV.int 40, PV.int 2000, PV.int 1000000] (here % 4) = some (.int y) ∧ l = (here / 8 % y) ∧ L2.atI [PV.int l, PV.int (-l)] (here / 4 % 2) = some (.int x) := by
      obtain ⟨y, hy, hy2, a1⟩ : ∃ y : Int, 0 < y ∧ y ≤ 1000000 ∧ L2.atI [PV.int 5, PV.int 40, PV.int 2000, PV.int 1000000] (here % 4) = some (.int y) := by
        rcases (show here % 4 = 0 ∨ here % 4 = 1 ∨ here % 4 = 2 ∨ here % 4 = 3 by omega) with e | e | e | e
        · exact ⟨5, by decide, by decide, by rw [e]; rfl⟩
        · exact ⟨40, by decide, by decide, by rw [e]; rfl⟩
        · exact ⟨2000, by decide, by decide, by rw [e]; rfl⟩
        · exact ⟨1000000, by decide, by decide, by rw [e]; rfl⟩
      have b0 := Int.emod_nonneg (here / 8) (show y ≠ 0 by omega)
      have b1 := Int.emod_lt_of_pos (here / 8) hy
      rcases (show here / 4 % 2 = 0 ∨ here / 4 % 2 = 1 by omega) with e | e
      · exact ⟨here / 8 % y, y, _, hy, by omega, a1, rfl, by rw [e]; rfl⟩
      · exact ⟨-(here / 8 % y), y, _, hy, by omega, a1, rfl, by rw [e]; rfl⟩
    obtain ⟨x, y, l, hy, hx, a1, hl, a2⟩ := num
    subst hl
    by_cases c1 : way < 3
    · refine ⟨.num x, ?_, by simp only [vd]; exact decide_eq_true hx⟩
      simp [G__law_value, D__law_value, fm0, e16, hw, c1, e8, e4, z4, z2, a1, hy, a2, emb]
    · by_cases c2 : 4 < way ∧ d = 0
      · refine ⟨.num x, ?_, by simp only [vd]; exact decide_eq_true hx⟩
        simp [G__law_value, D__law_value, fm0, e16, hw, c1, c2.1, c2.2, e8, e4, z4, z2, a1, hy, a2, emb]
      · have c3 : decide (4 < way) = true → decide ((d : Int) = 0) = false := fun z => decide_eq_false (by have := of_decide_eq_true z; omega)
        by_cases c4 : way < 5
        · have c5 : ¬ 4 < way := by omega
          -- a text
          obtain ⟨sg, q0, q1, q2, q3⟩ : ∃ sg : List Nat, 0 < sg.length ∧ sg.length ≤ 1000 ∧ sg.all okc = true ∧ L2.atI [PV.str (mk [97, 98]), PV.str (mk signs0)] (here % 2) = some (.str (mk sg)) := by
            rcases (show here % 2 = 0 ∨ here % 2 = 1 by omega) with e | e
            · exact ⟨[97, 98], by decide, by decide, ok_ab, by rw [e]; rfl⟩
            · exact ⟨signs0, by decide, by decide, ok_signs0, by rw [e]; rfl⟩
          obtain ⟨s, s1, s2, s3⟩ := C_text (here := here) (sg := sg) (a := .pv (.int m)) (b := .pv (.int (d : Int))) (y := .pv (.int way)) (z := .un) (u := .un) q0 q1 q2 h0
          refine ⟨.txt s, ?_, by simp only [vd, Bool.and_eq_true, decide_eq_true_eq]; exact ⟨s1, s2⟩⟩
          simp [G__law_value, D__law_value, fm0, e16, hw, c1, c4, c5, S_ab, G_sg, z2, q3, s3, S_nil, pJoin_chr (show s.length ≤ 1000 by omega), emb]
        · have c5 : 4 < way := by omega
          have dp0 : d ≠ 0 := fun z => c2 ⟨c5, z⟩
          have c6 : ¬ (d : Int) = 0 := by omega
          -- a pack
          obtain ⟨k, hk, a3⟩ : ∃ k : Nat, k ≤ 6 ∧ L2.atI [PV.int 3, PV.int 6] (if decide ((d : Int) = 1) = true then 1 else 0) = some (.int (k : Int)) := by
            by_cases z : (d : Int) = 1
            · exact ⟨6, by omega, by rw [decide_eq_true z]; rfl⟩
            · exact ⟨3, by omega, by rw [decide_eq_false z]; rfl⟩
          obtain ⟨many, hmany, a4⟩ : ∃ k' : Nat, k' ≤ 6 ∧ L2.atI [PV.int 0, PV.int 1, PV.int 2, PV.int 3, PV.int (k : Int)] (here % 5) = some (.int (k' : Int)) := by
            rcases (show here % 5 = 0 ∨ here % 5 = 1 ∨ here % 5 = 2 ∨ here % 5 = 3 ∨ here % 5 = 4 by omega) with e | e | e | e | e
            · exact ⟨0, by omega, by rw [e]; rfl⟩
            · exact ⟨1, by omega, by rw [e]; rfl⟩
            · exact ⟨2, by omega, by rw [e]; rfl⟩
            · exact ⟨3, by omega, by rw [e]; rfl⟩
            · exact ⟨k, by omega, by rw [e]; rfl⟩
          have dd : (d : Int) - 1 = ((d - 1 : Nat) : Int) := by omega
          have ih : ∀ j : Int, ∃ v, G__law_value n [.int (drawn here j), .int ((d : Int) - 1)] = .ok (emb v) ∧ vd (3 - (d - 1)) v = true := fun j => by
            rw [dd]
            exact G_gen n (d - 1) (drawn here j) (by omega) (by omega) (drawn_lo _ _)
          obtain ⟨f, hf⟩ := Classical.axiomOfChoice ih
          have hC : C__law_value_2 G__law_drawn (G__law_value n) [.pv (.int m), .pv (.int (d : Int)), .pv (.int here), .pv (.int way), .un, .un, .pv (.int (many : Int)), .un] = .ok (((List.range many).map fun (j : Nat) => f (j : Int)).map emb) := by
            unfold C__law_value_2
            rw [dLc_map (pickI fun j => emb (f j)) (ds := (List.range many).map fun (k : Nat) => PV.int (k : Int)) (by simp [rg1 (show many ≤ 1000 by omega)]) (by simp; exact sz (by omega)) (by simp) ?_]
            · rw [List.map_map, List.map_map]; rfl
            · intro p hp
              obtain ⟨j, _, rfl⟩ := List.mem_map.mp hp
              simp [G_drawn, (hf (j : Int)).1, pickI]
          refine ⟨.pack ((List.range many).map fun (j : Nat) => f (j : Int)), ?_, ?_⟩
          · have a3' : L2.atI [PV.int 3, PV.int 6] (if (d : Int) = 1 then 1 else 0) = some (.int (k : Int)) := by simpa using a3
            rw [← embs_map] at hC
            by_cases z : (d : Int) = 1
            · rw [if_pos z] at a3'
              rw [z] at hC
              simp [G__law_value, D__law_value, fm0, e16, hw, c1, c4, c5, z2, z5, z, a3', a4, hC, emb]
            · rw [if_neg z] at a3'
              have zn : ¬ d = 1 := by omega
              simp [G__law_value, D__law_value, fm0, e16, hw, c1, c4, c5, c6, dp0, z2, z5, z, zn, a3', a4, hC, emb]
          · simp only [vd, Bool.and_eq_true, decide_eq_true_eq]
            refine ⟨by omega, by simpa using hmany, ?_⟩
            rw [vds_iff]
            intro v hv
            obtain ⟨j, _, rfl⟩ := List.mem_map.mp hv
            have := (hf (j : Int)).2
            rw [show 3 - (d - 1) = 3 - d + 1 by omega] at this
            exact this
end Tw

set_option Elab.async false
set_option linter.all false
set_option maxRecDepth 100000
set_option maxHeartbeats 4000000
namespace Tw
open PySem PySem.Spec PyProof.Rows L2 Pv
local instance : TabCx := ⟨[]⟩
/-! ### slices -/
theorem z0 : (0 : Nat) ≤ sizeLine := Nat.zero_le _
theorem z1 : (1 : Nat) ≤ sizeLine := sz (by omega)
theorem z3 : (3 : Nat) ≤ sizeLine := sz (by omega)
theorem slS_to {s : List Nat} (h : s.length ≤ 1000) (k : Nat) : pSl (.str (mk s)) none (some (k : Int)) = some (.str (mk (s.take k))) := by
  show (if (mk s).length ≤ sizeLine then some (PV.str (cutS (mk s) none (some (k : Int)))) else none) = _
  rw [mk_len, if_pos (sz (by omega)), cutS_mk, cutP_to]
theorem slS_fr {s : List Nat} (h : s.length ≤ 1000) (k : Nat) : pSl (.str (mk s)) (some ((k : Int) + 1)) none = some (.str (mk (s.drop (k + 1)))) := by
  show (if (mk s).length ≤ sizeLine then some (PV.str (cutS (mk s) (some ((k : Int) + 1)) none)) else none) = _
  rw [mk_len, if_pos (sz (by omega)), cutS_mk, cutP_from1]
theorem slT_to (l : List PV) (k : Nat) : pSl (.tup l) none (some (k : Int)) = some (.tup (l.take k)) := by
  show some (PV.tup (cutP l none (some (k : Int)))) = _
  rw [cutP_to]
theorem slT_fr (l : List PV) (k : Nat) : pSl (.tup l) (some ((k : Int) + 1)) none = some (.tup (l.drop (k + 1))) := by
  show some (PV.tup (cutP l (some ((k : Int) + 1)) none)) = _
  rw [cutP_from1]
theorem cutP_one {α : Type} (l : List α) (k : Nat) : cutP l (some (k : Int)) (some ((k : Int) + 1)) = (l.drop k).take 1 := by
  have e : ((k : Int) + 1) = ((k + 1 : Nat) : Int) := by omega
  rw [e]
  unfold cutP
  rw [HT.sIx_nat, HT.sIx_nat]
  by_cases h : k < l.length
  · rw [Nat.min_eq_left (by omega), Nat.min_eq_left (by omega)]
    congr 1
    omega
  · rw [Nat.min_eq_right (by omega), Nat.min_eq_right (by omega), List.drop_eq_nil_of_le (Nat.le_refl _), List.drop_eq_nil_of_le (by omega)]
    simp
theorem slS_one {s : List Nat} (h : s.length ≤ 1000) (k : Nat) : pSl (.str (mk s)) (some (k : Int)) (some ((k : Int) + 1)) = some (.str (mk ((s.drop k).take 1))) := by
  show (if (mk s).length ≤ sizeLine then some (PV.str (cutS (mk s) (some (k : Int)) (some ((k : Int) + 1)))) else none) = _
  rw [mk_len, if_pos (sz (by omega)), cutS_mk, cutP_one]
theorem slT_one (l : List PV) (k : Nat) : pSl (.tup l) (some (k : Int)) (some ((k : Int) + 1)) = some (.tup ((l.drop k).take 1)) := by
  show some (PV.tup (cutP l (some (k : Int)) (some ((k : Int) + 1)))) = _
  rw [cutP_one]
theorem embs_take (xs : List Val) (k : Nat) : (embs xs).take k = embs (xs.take k) := by rw [embs_map, embs_map, List.map_take]
theorem embs_drop (xs : List Val) (k : Nat) : (embs xs).drop k = embs (xs.drop k) := by rw [embs_map, embs_map, List.map_drop]
theorem embs_app (xs ys : List Val) : embs xs ++ embs ys = embs (xs ++ ys) := by rw [embs_map, embs_map, embs_map, List.map_append]
theorem embs_one (x : Val) : [emb x] = embs [x] := by rw [embs_map]; rfl
theorem rngI {n k : Nat} {d : PV} (h : ((List.range n).map fun (k : Nat) => PV.int (k : Int))[k]? = some d) : k < n ∧ d = .int (k : Int) := by
  rw [List.getElem?_map] at h
  by_cases c : k < n
  · rw [List.getElem?_range c] at h
    cases h
    exact ⟨c, rfl⟩
  · rw [List.getElem?_eq_none (by rw [List.length_range]; omega)] at h
    cases h
/-! ### equal values -/
def eqb (u v : Val) : Bool := PyData.eqv (toD (emb u)) (toD (emb v))
mutual
theorem eqb_iff : ∀ u v : Val, PyData.eqv (toD (emb u)) (toD (emb v)) = true ↔ u = v
  | .num i, .num j => by simp [emb, toD, PyData.eqv]
  | .txt i, .txt j => by simp [emb, toD, PyData.eqv]
  | .pack i, .pack j => by
    simp only [emb, toD, PyData.eqv, Val.pack.injEq]
    exact eqbs_iff i j
  | .num i, .txt j => by simp [emb, toD, PyData.eqv]
  | .num i, .pack j => by simp [emb, toD, PyData.eqv]
  | .txt i, .num j => by simp [emb, toD, PyData.eqv]
  | .txt i, .pack j => by simp [emb, toD, PyData.eqv]
  | .pack i, .num j => by simp [emb, toD, PyData.eqv]
  | .pack i, .txt j => by simp [emb, toD, PyData.eqv]
theorem eqbs_iff : ∀ u v : List Val, PyData.eqvAll (toDs (embs u)) (toDs (embs v)) = true ↔ u = v
  | [], [] => by simp [embs, toDs, PyData.eqvAll]
  | [], y :: ys => by simp [embs, toDs, PyData.eqvAll]
  | x :: xs, [] => by simp [embs, toDs, PyData.eqvAll]
  | x :: xs, y :: ys => by
    simp only [embs, toDs, PyData.eqvAll, Bool.and_eq_true, List.cons.injEq]
    rw [eqb_iff x y, eqbs_iff xs ys]
end
theorem eqb_eq {u v : Val} : eqb u v = true ↔ u = v := eqb_iff u v
theorem eqb_refl (u : Val) : eqb u u = true := eqb_eq.mpr rfl
theorem eqb_ne {u v : Val} : eqb u v = false ↔ u ≠ v := by rw [← Bool.not_eq_true, eqb_eq]
theorem eqb_symm (u v : Val) : eqb u v = eqb v u := by
  rw [Bool.eq_iff_iff, eqb_eq, eqb_eq]
  exact eq_comm
theorem pEq_v {u v : Val} (hu : vd 0 u = true) (hv : vd 0 v = true) : pEq (emb u) (emb v) = some (eqb u v) := by
  unfold pEq
  rw [if_pos ⟨sh_emb hu, sh_emb hv⟩]
  rfl
theorem pNe_v {u v : Val} (hu : vd 0 u = true) (hv : vd 0 v = true) : pNe (emb u) (emb v) = some (!eqb u v) := by
  unfold pNe
  rw [if_pos ⟨sh_emb hu, sh_emb hv⟩]
  rfl
theorem ne_bb (a b : Bool) : pNe (.bl a) (.bl b) = some (!(a == b)) := by
  unfold pNe
  simp only [toD, sh_bool, PyData.eqv]
  rfl
/-! ### a loop that ends by returning -/
theorem for_first {t : Tgt} {body : Fm → RS} {wp : List Nat} {env : Fm} {v : PV} : ∀ (ds : List PV) (j : Nat), j < ds.length → (∀ i d, i < j → ds[i]? = some d → ∃ e1 e2, t d env = some e1 ∧ (body e1 = .nx e2 ∨ body e1 = .ct e2) ∧ clr e2 wp = env) →
    (∀ d, ds[j]? = some d → ∃ e1, t d env = some e1 ∧ body e1 = .rt v) → forGo t body wp ds env = .rt v
  | [], j, h, _, _ => by simp at h
  | d :: ds, 0, _, _, h2 => by
    obtain ⟨e1, q1, q2⟩ := h2 d rfl
    rw [forGo, q1]
    simp only [q2]
  | d :: ds, j + 1, h, h1, h2 => by
    obtain ⟨e1, e2, q1, q2, q3⟩ := h1 0 d (by omega) rfl
    have ih := for_first (t := t) (body := body) (wp := wp) (env := env) (v := v) ds j (by simpa using h) (fun i d hi hd => h1 (i + 1) d (by omega) hd) (fun d hd => h2 d hd)
    rw [forGo, q1]
    rcases q2 with q2 | q2
    · simp only [q2, q3, ih]
    · simp only [q2, q3, ih]
end Tw

set_option Elab.async false
set_option linter.all false
set_option maxRecDepth 100000
set_option maxHeartbeats 4000000
namespace Tw
open PySem PySem.Spec PyProof.Rows L2 Pv
local instance : TabCx := ⟨[]⟩
/-! ### the first unlike place -/
def st (e : Nat → Bool) : Nat → Nat → Nat
  | 0, k => k
  | r + 1, k => if e k = true then st e r (k + 1) else k
theorem st_le (e : Nat → Bool) : ∀ r k : Nat, k ≤ st e r k ∧ st e r k ≤ k + r
  | 0, k => by simp [st]
  | r + 1, k => by
    unfold st
    split
    · have := st_le e r (k + 1); omega
    · omega
theorem st_yes (e : Nat → Bool) : ∀ r k i : Nat, k ≤ i → i < st e r k → e i = true
  | 0, k, i, h1, h2 => by simp only [st] at h2; omega
  | r + 1, k, i, h1, h2 => by
    unfold st at h2
    split at h2
    · rename_i c
      by_cases z : i = k
      · subst z; exact c
      · exact st_yes e r (k + 1) i (by omega) h2
    · omega
theorem st_no (e : Nat → Bool) : ∀ r k : Nat, st e r k < k + r → e (st e r k) = false
  | 0, k, h => by simp only [st] at h; omega
  | r + 1, k, h => by
    unfold st at h ⊢
    split
    · rename_i c
      rw [if_pos c] at h
      exact st_no e r (k + 1) (by omega)
    · rename_i c
      exact Bool.eq_false_iff.mpr c
theorem st_ext {e e' : Nat → Bool} : ∀ r k : Nat, (∀ i, k ≤ i → i < k + r → e i = e' i) → st e r k = st e' r k
  | 0, k, h => rfl
  | r + 1, k, h => by
    unfold st
    rw [h k (Nat.le_refl _) (by omega), st_ext r (k + 1) fun i h1 h2 => h i (by omega) (by omega)]
theorem fu_loop {P1 P2 : PV} {n1 n2 : Nat} {e : Nat → Bool} (hl1 : pLen [P1] = some (.int n1)) (hl2 : pLen [P2] = some (.int n2)) (hi : ∀ k, k < min n1 n2 → ∃ x y, pIdx P1 (.int (k : Nat)) = some x ∧ pIdx P2 (.int (k : Nat)) = some y ∧ pEq x y = some (e k)) :
    ∀ r k fuel : Nat, k + r = min n1 n2 → r < fuel →
      whGo (dAnd (d2 pLt (dV 2) (dCall (fun ds => ofO (pMin2 ds)) (dCons (dCall (fun ds => ofO (pLen ds)) (dCons (dV 0) dNil)) (dCons (dCall (fun ds => ofO (pLen ds)) (dCons (dV 1) dNil)) dNil)))) (d2 pEq (d2 pIdx (dV 0) (dV 2)) (d2 pIdx (dV 1) (dV 2)))) B_first_unlike_1 [] fuel [.pv P1, .pv P2, .pv (.int (k : Nat))] = .nx [.pv P1, .pv P2, .pv (.int (st e r k : Nat))]
  | _, _, 0, _, h => by omega
  | 0, k, fuel + 1, hk, _ => by
    have c : ¬ ((k : Int) < min (n1 : Int) (n2 : Int)) := by omega
    rw [whGo]
    simp only [dAnd_ap, d2_ap, dV_ap, dCall_ap, dCons_ap, dNil_ap, List.getElem?_cons_zero, List.getElem?_cons_succ, R.bind_ok, hl1, hl2, ofO_some, pMin2_ii, pLt_ii, decide_eq_false c, st]
  | r + 1, k, fuel + 1, hk, hf => by
    have c : ((k : Int) < min (n1 : Int) (n2 : Int)) := by omega
    obtain ⟨x, y, i1, i2, q⟩ := hi k (by omega)
    rw [whGo]
    simp only [dAnd_ap, d2_ap, dV_ap, dCall_ap, dCons_ap, dNil_ap, List.getElem?_cons_zero, List.getElem?_cons_succ, R.bind_ok, hl1, hl2, ofO_some, pMin2_ii, pLt_ii, decide_eq_true c, i1, i2, q]
    cases ek : e k with
    | false => simp [st, ek]
    | true =>
      have ih := fu_loop hl1 hl2 hi r (k + 1) fuel (by omega) (by omega)
      have b1 : B_first_unlike_1 [.pv P1, .pv P2, .pv (.int (k : Nat))] = .nx [.pv P1, .pv P2, .pv (.int ((k + 1 : Nat) : Int))] := by
        simp [B_first_unlike_1]
      simp only [b1, clr_nil, st, ek, if_true]
      exact ih
theorem G_fu {P1 P2 : PV} {n1 n2 : Nat} {e : Nat → Bool} (hl1 : pLen [P1] = some (.int n1)) (hl2 : pLen [P2] = some (.int n2)) (hi : ∀ k, k < min n1 n2 → ∃ x y, pIdx P1 (.int (k : Nat)) = some x ∧ pIdx P2 (.int (k : Nat)) = some y ∧ pEq x y = some (e k)) (hm : min n1 n2 < 60) :
    G_first_unlike [P1, P2] = .ok (.int (st e (min n1 n2) 0 : Nat)) := by
  have L : L_first_unlike_1 [.pv P1, .pv P2, .pv (.int 0)] = .nx [.pv P1, .pv P2, .pv (.int (st e (min n1 n2) 0 : Nat))] := by
    unfold L_first_unlike_1 dWhile
    rw [clr_nil]
    exact fu_loop hl1 hl2 hi (min n1 n2) 0 64 (by omega) (by omega)
  simp [G_first_unlike, D_first_unlike, fm0, L]
/-! ### the difference -/
def eT (a b : List Nat) (k : Nat) : Bool := decide (a[k]? = b[k]?)
def eP (a b : List Val) (k : Nat) : Bool := match a[k]?, b[k]? with
  | some x, some y => eqb x y
  | _, _ => false
def atT (a b : List Nat) : Nat := st (eT a b) (min a.length b.length) 0
def atP (a b : List Val) : Nat := st (eP a b) (min a.length b.length) 0
def diff : Nat → Val → Val → List Nat
  | 0, _, _ => []
  | n + 1, u, v => if eqb u v = true then [] else match u, v with
    | .txt a, .txt b => [atT a b]
    | .pack a, .pack b => (match a[atP a b]?, b[atP a b]? with
      | some x, some y => atP a b :: diff n x y
      | _, _ => [atP a b])
    | _, _ => []
theorem diff_pp (n : Nat) (a b : List Val) (c : ¬ eqb (.pack a) (.pack b) = true) : diff (n + 1) (.pack a) (.pack b) = (match a[atP a b]?, b[atP a b]? with
      | some x, some y => atP a b :: diff n x y
      | _, _ => [atP a b]) := by
  show (if eqb (.pack a) (.pack b) = true then [] else _) = _
  rw [if_neg c]
theorem eT_symm (a b : List Nat) (k : Nat) : eT a b k = eT b a k := by
  unfold eT
  simp only [decide_eq_decide]
  exact eq_comm
theorem eP_symm (a b : List Val) (k : Nat) : eP a b k = eP b a k := by
  unfold eP
  cases a[k]? <;> cases b[k]? <;> simp [eqb_symm]
theorem atT_symm (a b : List Nat) : atT a b = atT b a := by
  unfold atT
  rw [Nat.min_comm]
  exact st_ext _ _ fun i _ _ => eT_symm a b i
theorem atP_symm (a b : List Val) : atP a b = atP b a := by
  unfold atP
  rw [Nat.min_comm]
  exact st_ext _ _ fun i _ _ => eP_symm a b i
theorem diff_symm : ∀ (n : Nat) (u v : Val), diff n u v = diff n v u
  | 0, _, _ => rfl
  | n + 1, u, v => by
    unfold diff
    rw [eqb_symm u v]
    split
    · rfl
    · cases u with
      | num i => cases v <;> rfl
      | txt a =>
        cases v with
        | txt b => simp only [atT_symm a b]
        | num _ => rfl
        | pack _ => rfl
      | pack a =>
        cases v with
        | num _ => rfl
        | txt _ => rfl
        | pack b =>
          simp only [atP_symm a b]
          cases a[atP b a]? with
          | none => cases b[atP b a]? <;> rfl
          | some x =>
            cases b[atP b a]? with
            | none => rfl
            | some y => simp only [diff_symm n x y]
theorem diff_len : ∀ (n : Nat) (u v : Val), (diff n u v).length ≤ n
  | 0, _, _ => by simp [diff]
  | n + 1, u, v => by
    unfold diff
    split
    · simp
    · split
      · simp
      · split
        · rename_i x y _ _
          have := diff_len n x y
          simp only [List.length_cons]; omega
        · simp
      · simp
def nats (l : List Nat) : List PV := l.map fun k => .int (k : Nat)
theorem idxT {s : List Nat} (hz : s.length ≤ 1000) {k : Nat} (h : k < s.length) : pIdx (.str (mk s)) (.int (k : Nat)) = some (chr1 s[k]) := pIdx_s h hz
theorem idxP {xs : List Val} {k : Nat} (h : k < xs.length) : pIdx (.tup (embs xs)) (.int (k : Nat)) = some (emb xs[k]) := by
  rw [pIdx_t, atI_in (by rw [embs_len]; exact h)]
  simp [embs_map]
theorem eq_chr {a b : Nat} (ha : a < 1114112) (hb : b < 1114112) : pEq (chr1 a) (chr1 b) = some (decide (a = b)) := by
  have := pEq_ss (a := [a]) (b := [b]) (by simpa using ha) (by simpa using hb)
  show pEq (.str (mk [a])) (.str (mk [b])) = _
  simpa using this
theorem fuT {a b : List Nat} (ha : a.length ≤ 20) (hb : b.length ≤ 20) (oa : a.all okc = true) (ob : b.all okc = true) : G_first_unlike [.str (mk a), .str (mk b)] = .ok (.int (atT a b : Nat)) := by
  refine G_fu (e := eT a b) (pLen_s (by omega)) (pLen_s (by omega)) (fun k hk => ?_) (by omega)
  have k1 : k < a.length := by omega
  have k2 : k < b.length := by omega
  refine ⟨_, _, idxT (by omega) k1, idxT (by omega) k2, ?_⟩
  rw [eq_chr (okcs_lt oa _ (List.getElem_mem _)) (okcs_lt ob _ (List.getElem_mem _))]
  simp [eT, List.getElem?_eq_getElem k1, List.getElem?_eq_getElem k2]
theorem fuP {a b : List Val} (ha : a.length ≤ 6) (hb : b.length ≤ 6) (oa : ∀ x ∈ a, vd 0 x = true) (ob : ∀ x ∈ b, vd 0 x = true) : G_first_unlike [.tup (embs a), .tup (embs b)] = .ok (.int (atP a b : Nat)) := by
  have l1 : pLen [.tup (embs a)] = some (.int (a.length : Nat)) := by rw [pLen_t, embs_len]
  have l2 : pLen [.tup (embs b)] = some (.int (b.length : Nat)) := by rw [pLen_t, embs_len]
  refine G_fu (e := eP a b) l1 l2 (fun k hk => ?_) (by omega)
  have k1 : k < a.length := by omega
  have k2 : k < b.length := by omega
  refine ⟨_, _, idxP k1, idxP k2, ?_⟩
  rw [pEq_v (oa _ (List.getElem_mem _)) (ob _ (List.getElem_mem _))]
  simp [eP, List.getElem?_eq_getElem k1, List.getElem?_eq_getElem k2]
theorem nats_cons (k : Nat) (l : List Nat) : nats (k :: l) = .int (k : Nat) :: nats l := rfl
theorem nats_len (l : List Nat) : (nats l).length = l.length := by unfold nats; rw [List.length_map]
theorem vd_parts {d : Nat} {xs : List Val} (h : vd d (.pack xs) = true) : xs.length ≤ 6 ∧ (∀ x ∈ xs, vd (d + 1) x = true) ∧ ∀ x ∈ xs, vd 0 x = true := by
  simp only [vd, Bool.and_eq_true, decide_eq_true_eq] at h
  have q := vds_iff.mp h.2.2
  exact ⟨h.2.1, q, fun x hx => vd_mono (Nat.zero_le _) x (q x hx)⟩
theorem vd_text {d : Nat} {s : List Nat} (h : vd d (.txt s) = true) : s.length ≤ 20 ∧ s.all okc = true := by
  simpa only [vd, Bool.and_eq_true, decide_eq_true_eq] using h
theorem G_dif : ∀ (n : Nat) (u v : Val), vd 0 u = true → vd 0 v = true → dp u < n → n ≤ 100 → G_difference n [emb u, emb v] = .ok (.tup (nats (diff n u v)))
  | 0, _, _, _, _, h, _ => by omega
  | n + 1, u, v, hu, hv, hn, hn2 => by
    have hE := pEq_v hu hv
    by_cases c : eqb u v = true
    · rw [c] at hE
      simp [G_difference, D_difference, fm0, hE, diff, c, nats]
    · have c' : eqb u v = false := Bool.eq_false_iff.mpr c
      rw [c'] at hE
      cases u with
      | num i =>
        have e1 : emb (.num i) = .int i := by simp only [emb]
        rw [e1] at hE ⊢
        simp [G_difference, D_difference, fm0, hE, diff, c', nats]
      | txt a =>
        have e1 : emb (.txt a) = .str (mk a) := by simp only [emb]
        rw [e1] at hE ⊢
        cases v with
        | num i =>
          have e2 : emb (.num i) = .int i := by simp only [emb]
          rw [e2] at hE ⊢
          simp [G_difference, D_difference, fm0, hE, diff, c', nats]
        | txt b =>
          have e2 : emb (.txt b) = .str (mk b) := by simp only [emb]
          rw [e2] at hE ⊢
          obtain ⟨ha, oa⟩ := vd_text hu
          obtain ⟨hb, ob⟩ := vd_text hv
          have F := fuT ha hb oa ob
          simp [G_difference, D_difference, fm0, hE, diff, c', nats, ne_bb, F, z1]
        | pack b =>
          have e2 : emb (.pack b) = .tup (embs b) := by simp only [emb]
          rw [e2] at hE ⊢
          simp [G_difference, D_difference, fm0, hE, diff, c', nats, ne_bb]
      | pack a =>
        have e1 : emb (.pack a) = .tup (embs a) := by simp only [emb]
        rw [e1] at hE ⊢
        cases v with
        | num i =>
          have e2 : emb (.num i) = .int i := by simp only [emb]
          rw [e2] at hE ⊢
          simp [G_difference, D_difference, fm0, hE, diff, c', nats]
        | txt b =>
          have e2 : emb (.txt b) = .str (mk b) := by simp only [emb]
          rw [e2] at hE ⊢
          simp [G_difference, D_difference, fm0, hE, diff, c', nats, ne_bb]
        | pack b =>
          have e2 : emb (.pack b) = .tup (embs b) := by simp only [emb]
          rw [e2] at hE ⊢
          obtain ⟨ha, _, oa⟩ := vd_parts hu
          obtain ⟨hb, _, ob⟩ := vd_parts hv
          have F := fuP ha hb oa ob
          have l1 : pLen [.tup (embs a)] = some (.int (a.length : Nat)) := by rw [pLen_t, embs_len]
          have l2 : pLen [.tup (embs b)] = some (.int (b.length : Nat)) := by rw [pLen_t, embs_len]
          generalize hk : atP a b = k at F
          by_cases q : min (a.length : Int) (b.length : Int) ≤ (k : Int)
          · have d1 : diff (n + 1) (.pack a) (.pack b) = [k] := by
              rw [diff_pp n a b c]
              simp only [hk]
              rcases (show a.length ≤ k ∨ b.length ≤ k by omega) with z | z
              · rw [List.getElem?_eq_none z]
              · rw [List.getElem?_eq_none z]
                cases a[k]? <;> rfl
            rw [d1]
            simp only [G_difference, D_difference, fm0]
            simp [hE, ne_bb, F, l1, l2, decide_eq_true q, z1, nats]
          · have k1 : k < a.length := by omega
            have k2 : k < b.length := by omega
            have ih := G_dif n a[k] b[k] (oa _ (List.getElem_mem _)) (ob _ (List.getElem_mem _)) (by simp only [dp] at hn; have := dp_mem (List.getElem_mem k1); omega) (by omega)
            have d1 : diff (n + 1) (.pack a) (.pack b) = k :: diff n a[k] b[k] := by
              rw [diff_pp n a b c]
              simp only [hk, List.getElem?_eq_getElem k1, List.getElem?_eq_getElem k2]
            have hz : 1 + (diff n a[k] b[k]).length ≤ sizeLine := sz (by have := diff_len n a[k] b[k]; omega)
            have a1 := idxP k1
            have a2 := idxP k2
            rw [pIdx_t] at a1 a2
            rw [d1]
            simp only [G_difference, D_difference, fm0]
            simp [hE, ne_bb, F, l1, l2, decide_eq_false q, z1, a1, a2, ih, nats_len, hz, nats_cons]
end Tw

set_option Elab.async false
set_option linter.all false
set_option maxRecDepth 100000
set_option maxHeartbeats 4000000
namespace Tw
open PySem PySem.Spec PyProof.Rows L2 Pv
local instance : TabCx := ⟨[]⟩
theorem drop1 {α : Type} (l : List α) (k : Nat) : (l.drop k).take 1 = l[k]?.toList := by
  by_cases h : k < l.length
  · rw [List.getElem?_eq_getElem h, List.drop_eq_getElem_cons h]
    rfl
  · rw [List.getElem?_eq_none (by omega), List.drop_eq_nil_of_le (by omega)]
    rfl
theorem opt_list {α : Type} {a b : Option α} : a.toList = b.toList ↔ a = b := by
  cases a <;> cases b <;> simp
theorem neT {a b : List Nat} (oa : a.all okc = true) (ob : b.all okc = true) (k : Nat) : pNe (.str (mk ((a.drop k).take 1))) (.str (mk ((b.drop k).take 1))) = some (!eT a b k) := by
  rw [pNe_ss (fun c hc => okcs_lt oa c (List.mem_of_mem_drop (List.mem_of_mem_take hc))) (fun c hc => okcs_lt ob c (List.mem_of_mem_drop (List.mem_of_mem_take hc)))]
  rw [drop1, drop1]
  unfold eT
  simp only [opt_list]
theorem vd_cut {d : Nat} {xs : List Val} (h : vd d (.pack xs) = true) (k : Nat) : vd d (.pack ((xs.drop k).take 1)) = true := by
  simp only [vd, Bool.and_eq_true, decide_eq_true_eq] at h ⊢
  refine ⟨h.1, by simp; omega, vds_iff.mpr fun x hx => vds_iff.mp h.2.2 x (List.mem_of_mem_drop (List.mem_of_mem_take hx))⟩
theorem neP {a b : List Val} (ha : vd 0 (.pack a) = true) (hb : vd 0 (.pack b) = true) {k : Nat} (hk : k < max a.length b.length) : pNe (.tup (embs ((a.drop k).take 1))) (.tup (embs ((b.drop k).take 1))) = some (!eP a b k) := by
  have h := pNe_v (vd_cut ha k) (vd_cut hb k)
  have e : ∀ l : List Val, emb (.pack l) = .tup (embs l) := fun l => by simp only [emb]
  rw [e, e] at h
  rw [h]
  congr 2
  rw [drop1, drop1]
  unfold eP
  cases qa : a[k]? with
  | none =>
    cases qb : b[k]? with
    | none =>
      have := List.getElem?_eq_none_iff.mp qa
      have := List.getElem?_eq_none_iff.mp qb
      omega
    | some y => rw [eqb_ne]; simp
  | some x =>
    cases qb : b[k]? with
    | none => rw [eqb_ne]; simp
    | some y =>
      rw [Bool.eq_iff_iff, eqb_eq, eqb_eq]
      simp
theorem atT_lt {a b : List Nat} (h : a ≠ b) : atT a b < max a.length b.length ∧ eT a b (atT a b) = false := by
  have h1 := st_le (eT a b) (min a.length b.length) 0
  have hy := st_yes (eT a b) (min a.length b.length) 0
  have hn := st_no (eT a b) (min a.length b.length) 0
  have h2 : atT a b ≤ min a.length b.length := by unfold atT; omega
  have lt : atT a b < max a.length b.length := by
    refine Decidable.byContradiction fun z => h ?_
    have e1 : a.length = b.length := by omega
    apply List.ext_getElem?
    intro i
    by_cases hi : i < a.length
    · have := hy i (Nat.zero_le _) (by unfold atT at z; omega)
      exact of_decide_eq_true this
    · rw [List.getElem?_eq_none (by omega), List.getElem?_eq_none (by omega)]
  refine ⟨lt, ?_⟩
  by_cases q : atT a b < min a.length b.length
  · exact hn (by unfold atT at q; omega)
  · unfold eT
    refine decide_eq_false ?_
    by_cases c : a.length ≤ b.length
    · rw [List.getElem?_eq_none (by omega), List.getElem?_eq_getElem (by omega)]
      simp
    · rw [List.getElem?_eq_none (l := b) (by omega), List.getElem?_eq_getElem (l := a) (by omega)]
      simp
theorem atP_lt {a b : List Val} (h : a ≠ b) : atP a b < max a.length b.length ∧ eP a b (atP a b) = false := by
  have h1 := st_le (eP a b) (min a.length b.length) 0
  have hy := st_yes (eP a b) (min a.length b.length) 0
  have hn := st_no (eP a b) (min a.length b.length) 0
  have h2 : atP a b ≤ min a.length b.length := by unfold atP; omega
  have lt : atP a b < max a.length b.length := by
    refine Decidable.byContradiction fun z => h ?_
    have e1 : a.length = b.length := by omega
    apply List.ext_getElem?
    intro i
    by_cases hi : i < a.length
    · have := hy i (Nat.zero_le _) (by unfold atP at z; omega)
      unfold eP at this
      rw [List.getElem?_eq_getElem hi, List.getElem?_eq_getElem (show i < b.length by omega)] at this ⊢
      rw [eqb_eq.mp this]
    · rw [List.getElem?_eq_none (by omega), List.getElem?_eq_none (by omega)]
  refine ⟨lt, ?_⟩
  by_cases q : atP a b < min a.length b.length
  · exact hn (by unfold atP at q; omega)
  · unfold eP
    by_cases c : a.length ≤ b.length
    · rw [List.getElem?_eq_none (by omega)]
    · rw [List.getElem?_eq_none (l := b) (by omega)]
      cases a[atP a b]? <;> rfl
theorem at_yesT {a b : List Nat} {i : Nat} (h : i < atT a b) : eT a b i = true := st_yes (eT a b) (min a.length b.length) 0 i (Nat.zero_le _) h
theorem at_yesP {a b : List Val} {i : Nat} (h : i < atP a b) : eP a b i = true := st_yes (eP a b) (min a.length b.length) 0 i (Nat.zero_le _) h
theorem maxI (a b : Nat) : max (a : Int) (b : Int) = ((max a b : Nat) : Int) := by omega
theorem G_due : ∀ (n : Nat) (u v : Val), vd 0 u = true → vd 0 v = true → dp u < n → n ≤ 100 → G__law_due n [emb u, emb v] = .ok (.tup (nats (diff n u v)))
  | 0, _, _, _, _, h, _ => by omega
  | n + 1, u, v, hu, hv, hn, hn2 => by
    have hE := pEq_v hu hv
    by_cases c : eqb u v = true
    · rw [c] at hE
      simp [G__law_due, D__law_due, fm0, hE, diff, c, nats]
    · have c' : eqb u v = false := Bool.eq_false_iff.mpr c
      have hne : u ≠ v := eqb_ne.mp c'
      rw [c'] at hE
      cases u with
      | num i =>
        have e1 : emb (.num i) = .int i := by simp only [emb]
        rw [e1] at hE ⊢
        simp [G__law_due, D__law_due, fm0, hE, diff, c', nats]
      | txt a =>
        have e1 : emb (.txt a) = .str (mk a) := by simp only [emb]
        rw [e1] at hE ⊢
        cases v with
        | num i =>
          have e2 : emb (.num i) = .int i := by simp only [emb]
          rw [e2] at hE ⊢
          simp [G__law_due, D__law_due, fm0, hE, diff, c', nats]
        | txt b =>
          have e2 : emb (.txt b) = .str (mk b) := by simp only [emb]
          rw [e2] at hE ⊢
          obtain ⟨ha, oa⟩ := vd_text hu
          obtain ⟨hb, ob⟩ := vd_text hv
          have l1 : pLen [.str (mk a)] = some (.int (a.length : Nat)) := pLen_s (by omega)
          have l2 : pLen [.str (mk b)] = some (.int (b.length : Nat)) := pLen_s (by omega)
          obtain ⟨q1, q2⟩ := atT_lt (a := a) (b := b) (fun z => hne (by rw [z]))
          have d1 : diff (n + 1) (.txt a) (.txt b) = [atT a b] := by
            show (if eqb (.txt a) (.txt b) = true then [] else _) = _
            rw [if_neg c]
          have L : L__law_due_1 (G__law_due n) [.pv (.str (mk a)), .pv (.str (mk b)), .un] = .rt (.tup [.int (atT a b : Nat)]) := by
            unfold L__law_due_1 dFor
            have hsrc : (dCall (fun ds => ofO (rgIt1 ds)) (dCons (dCall (fun ds => ofO (pMax2 ds)) (dCons (dCall (fun ds => ofO (pLen ds)) (dCons (dV 0) dNil)) (dCons (dCall (fun ds => ofO (pLen ds)) (dCons (dV 1) dNil)) dNil))) dNil)) [.pv (.str (mk a)), .pv (.str (mk b)), .un] = .ok ((List.range (max a.length b.length)).map fun (k : Nat) => PV.int (k : Int)) := by
              simp only [dCall_ap, dCons_ap, dNil_ap, dV_ap, List.getElem?_cons_zero, List.getElem?_cons_succ, R.bind_ok, l1, l2, ofO_some, pMax2_ii, maxI, rg1 (show max a.length b.length ≤ 1000 by omega)]
            rw [hsrc]
            simp only [clr_cons, clr_nil, List.set_cons_zero, List.set_cons_succ]
            refine for_first _ (atT a b) (by simpa using q1) (fun i d hi hd => ?_) (fun d hd => ?_)
            · obtain ⟨_, rfl⟩ := rngI hd
              refine ⟨[.pv (.str (mk a)), .pv (.str (mk b)), .pv (.int (i : Nat))], [.pv (.str (mk a)), .pv (.str (mk b)), .pv (.int (i : Nat))], by simp, .inl ?_, by simp⟩
              simp [B__law_due_1, slS_one (show a.length ≤ 1000 by omega), slS_one (show b.length ≤ 1000 by omega), neT oa ob, at_yesT hi]
            · obtain ⟨_, rfl⟩ := rngI hd
              refine ⟨[.pv (.str (mk a)), .pv (.str (mk b)), .pv (.int (atT a b : Nat))], by simp, ?_⟩
              simp [B__law_due_1, slS_one (show a.length ≤ 1000 by omega), slS_one (show b.length ≤ 1000 by omega), neT oa ob, q2, z1]
          rw [d1]
          simp [G__law_due, D__law_due, fm0, hE, ne_bb, L, nats]
        | pack b =>
          have e2 : emb (.pack b) = .tup (embs b) := by simp only [emb]
          rw [e2] at hE ⊢
          simp [G__law_due, D__law_due, fm0, hE, diff, c', nats, ne_bb]
      | pack a =>
        have e1 : emb (.pack a) = .tup (embs a) := by simp only [emb]
        rw [e1] at hE ⊢
        cases v with
        | num i =>
          have e2 : emb (.num i) = .int i := by simp only [emb]
          rw [e2] at hE ⊢
          simp [G__law_due, D__law_due, fm0, hE, diff, c', nats]
        | txt b =>
          have e2 : emb (.txt b) = .str (mk b) := by simp only [emb]
          rw [e2] at hE ⊢
          simp [G__law_due, D__law_due, fm0, hE, diff, c', nats, ne_bb]
        | pack b =>
          have e2 : emb (.pack b) = .tup (embs b) := by simp only [emb]
          rw [e2] at hE ⊢
          obtain ⟨ha, _, oa⟩ := vd_parts hu
          obtain ⟨hb, _, ob⟩ := vd_parts hv
          have l1 : pLen [.tup (embs a)] = some (.int (a.length : Nat)) := by rw [pLen_t, embs_len]
          have l2 : pLen [.tup (embs b)] = some (.int (b.length : Nat)) := by rw [pLen_t, embs_len]
          obtain ⟨q1, q2⟩ := atP_lt (a := a) (b := b) (fun z => hne (by rw [z]))
          have sl1 : ∀ k : Nat, pSl (.tup (embs a)) (some (k : Int)) (some ((k : Int) + 1)) = some (.tup (embs ((a.drop k).take 1))) := fun k => by rw [slT_one, embs_drop, embs_take]
          have sl2 : ∀ k : Nat, pSl (.tup (embs b)) (some (k : Int)) (some ((k : Int) + 1)) = some (.tup (embs ((b.drop k).take 1))) := fun k => by rw [slT_one, embs_drop, embs_take]
          have L : L__law_due_1 (G__law_due n) [.pv (.tup (embs a)), .pv (.tup (embs b)), .un] = .rt (.tup (nats (diff (n + 1) (.pack a) (.pack b)))) := by
            unfold L__law_due_1 dFor
            have hsrc : (dCall (fun ds => ofO (rgIt1 ds)) (dCons (dCall (fun ds => ofO (pMax2 ds)) (dCons (dCall (fun ds => ofO (pLen ds)) (dCons (dV 0) dNil)) (dCons (dCall (fun ds => ofO (pLen ds)) (dCons (dV 1) dNil)) dNil))) dNil)) [.pv (.tup (embs a)), .pv (.tup (embs b)), .un] = .ok ((List.range (max a.length b.length)).map fun (k : Nat) => PV.int (k : Int)) := by
              simp only [dCall_ap, dCons_ap, dNil_ap, dV_ap, List.getElem?_cons_zero, List.getElem?_cons_succ, R.bind_ok, l1, l2, ofO_some, pMax2_ii, maxI, rg1 (show max a.length b.length ≤ 1000 by omega)]
            rw [hsrc]
            simp only [clr_cons, clr_nil, List.set_cons_zero, List.set_cons_succ]
            refine for_first _ (atP a b) (by simpa using q1) (fun i d hi hd => ?_) (fun d hd => ?_)
            · obtain ⟨_, rfl⟩ := rngI hd
              refine ⟨[.pv (.tup (embs a)), .pv (.tup (embs b)), .pv (.int (i : Nat))], [.pv (.tup (embs a)), .pv (.tup (embs b)), .pv (.int (i : Nat))], by simp, .inl ?_, by simp⟩
              simp [B__law_due_1, sl1, sl2, neP hu hv (show i < max a.length b.length by omega), at_yesP hi]
            · obtain ⟨_, rfl⟩ := rngI hd
              refine ⟨[.pv (.tup (embs a)), .pv (.tup (embs b)), .pv (.int (atP a b : Nat))], by simp, ?_⟩
              rw [diff_pp n a b c]
              have nq := neP hu hv q1
              rw [q2] at nq
              generalize atP a b = k at *
              by_cases k1 : k < a.length
              · by_cases k2 : k < b.length
                · have ih := G_due n a[k] b[k] (oa _ (List.getElem_mem _)) (ob _ (List.getElem_mem _)) (by simp only [dp] at hn; have := dp_mem (List.getElem_mem k1); omega) (by omega)
                  have hz : 1 + (diff n a[k] b[k]).length ≤ sizeLine := sz (by have := diff_len n a[k] b[k]; omega)
                  have a1 := idxP k1
                  have a2 := idxP k2
                  rw [pIdx_t] at a1 a2
                  have c1 : ¬ ((a.length : Int) ≤ (k : Int)) := by omega
                  have c2 : ¬ ((b.length : Int) ≤ (k : Int)) := by omega
                  simp only [List.getElem?_eq_getElem k1, List.getElem?_eq_getElem k2]
                  simp [B__law_due_1, sl1, sl2, nq, l1, l2, decide_eq_false c1, decide_eq_false c2, show ¬ a.length ≤ k by omega, show ¬ b.length ≤ k by omega, z1, a1, a2, ih, nats_len, hz, nats_cons]
                · have c1 : ¬ ((a.length : Int) ≤ (k : Int)) := by omega
                  have c2 : ((b.length : Int) ≤ (k : Int)) := by omega
                  simp only [List.getElem?_eq_getElem k1, List.getElem?_eq_none (show b.length ≤ k by omega)]
                  simp [B__law_due_1, sl1, sl2, nq, l1, l2, decide_eq_false c1, decide_eq_true c2, show ¬ a.length ≤ k by omega, show b.length ≤ k by omega, z1, nats]
              · have c1 : ((a.length : Int) ≤ (k : Int)) := by omega
                simp only [List.getElem?_eq_none (show a.length ≤ k by omega)]
                simp [B__law_due_1, sl1, sl2, nq, l1, l2, decide_eq_true c1, show a.length ≤ k by omega, z1, nats]
          simp [G__law_due, D__law_due, fm0, hE, ne_bb, L]
end Tw

set_option Elab.async false
set_option linter.all false
set_option maxRecDepth 100000
set_option maxHeartbeats 4000000
namespace Tw
open PySem PySem.Spec PyProof.Rows L2 Pv
local instance : TabCx := ⟨[]⟩
theorem S_b : Str.ofString "b" = mk [98] := by decide +kernel
theorem S_bz : Str.ofString "bz" = mk [98, 122] := by decide +kernel
theorem two {m : Int} {α : Type} (a b : α) : ∃ x, L2.atI [a, b] (m % 2) = some x ∧ (x = a ∨ x = b) := by
  rcases (show m % 2 = 0 ∨ m % 2 = 1 by omega) with e | e
  · exact ⟨a, by rw [e]; rfl, .inl rfl⟩
  · exact ⟨b, by rw [e]; rfl, .inr rfl⟩
theorem modN {m : Int} {n : Nat} (h : 0 < n) : ∃ k : Nat, k < n ∧ m % (n : Int) = (k : Int) := by
  have l0 := Int.emod_nonneg m (show (n : Int) ≠ 0 by omega)
  have l1 := Int.emod_lt_of_pos m (show (0 : Int) < (n : Int) by omega)
  exact ⟨(m % (n : Int)).toNat, by omega, by omega⟩
theorem bent_num {n : Nat} {i : Int} {d : Nat} {m : Int} (h : vd d (.num i) = true) : ∃ v, G__law_bent (n + 1) [.int i, .int m] = .ok (emb v) ∧ vd d v = true := by
  simp only [vd, decide_eq_true_eq] at h
  by_cases c : (i.natAbs : Int) < 999999
  · have c2 : i.natAbs < 999999 := by omega
    obtain ⟨v, hv, hd⟩ : ∃ v, L2.atI [PV.int (i + 1), PV.int (-i), PV.int 0, PV.str (mk [97])] (m % 4) = some (emb v) ∧ vd d v = true := by
      rcases (show m % 4 = 0 ∨ m % 4 = 1 ∨ m % 4 = 2 ∨ m % 4 = 3 by omega) with e | e | e | e
      · exact ⟨.num (i + 1), by rw [e]; simp only [emb]; rfl, by simp only [vd, decide_eq_true_eq]; omega⟩
      · exact ⟨.num (-i), by rw [e]; simp only [emb]; rfl, by simp only [vd, decide_eq_true_eq]; omega⟩
      · exact ⟨.num 0, by rw [e]; simp only [emb]; rfl, by simp only [vd, decide_eq_true_eq]; omega⟩
      · exact ⟨.txt [97], by rw [e]; simp only [emb]; rfl, by simp only [vd]; decide⟩
    refine ⟨v, ?_, hd⟩
    simp [G__law_bent, D__law_bent, fm0, c, c2, z4, S_a, hv]
  · have c2 : ¬ i.natAbs < 999999 := by omega
    refine ⟨.num 0, ?_, by simp only [vd, decide_eq_true_eq]; omega⟩
    simp [G__law_bent, D__law_bent, fm0, c, c2, emb]
theorem add_s {a b : List Nat} (h : a.length + b.length ≤ 1000) : pAdd (.str (mk a)) (.str (mk b)) = some (.str (mk (a ++ b))) := by
  rw [pAdd_ss, mk_len, mk_len, if_pos (sz (by omega)), mk_app]
theorem add_t {a b : List PV} (h : a.length + b.length ≤ 1000) : pAdd (.tup a) (.tup b) = some (.tup (a ++ b)) := by
  rw [pAdd_tt, if_pos (sz (by omega))]
theorem ok_app {a b : List Nat} (ha : a.all okc = true) (hb : b.all okc = true) : (a ++ b).all okc = true := by rw [List.all_append, ha, hb]; rfl
theorem ok_sub {a b : List Nat} (hb : b.all okc = true) (h : ∀ x ∈ a, x ∈ b) : a.all okc = true := List.all_eq_true.mpr fun x hx => List.all_eq_true.mp hb x (h x hx)
theorem bent_txt {n : Nat} {s : List Nat} {d : Nat} {m : Int} (h : vd d (.txt s) = true) (hm : 0 ≤ m) : ∃ v, G__law_bent (n + 1) [.str (mk s), .int m] = .ok (emb v) ∧ vd d v = true := by
  obtain ⟨hl, ho⟩ := vd_text h
  have l1 : pLen [.str (mk s)] = some (.int (s.length : Nat)) := pLen_s (by omega)
  have e5 : pDiv (.int m) (.int 5) = some (.int (m / 5)) := pDiv_small (by omega) (by omega)
  have e8 : pDiv (.int m) (.int 8) = some (.int (m / 8)) := pDiv_small (by omega) (by omega)
  have e64 : pDiv (.int m) (.int 64) = some (.int (m / 64)) := pDiv_small (by omega) (by omega)
  have s3 : pSl (.str (mk s)) none (some 3) = some (.str (mk (s.take 3))) := slS_to (by omega) 3
  have A : ∃ v, L2.atI [PV.str (mk (s.take 3 ++ [98])), PV.int 3] (m / 5 % 2) = some (emb v) ∧ vd d v = true := by
    obtain ⟨x, hx, hx2⟩ := two (m := m / 5) (PV.str (mk (s.take 3 ++ [98]))) (PV.int 3)
    rcases hx2 with e | e
    · refine ⟨.txt (s.take 3 ++ [98]), by rw [hx, e]; simp only [emb], ?_⟩
      simp only [vd, Bool.and_eq_true, decide_eq_true_eq]
      exact ⟨by simp; omega, ok_app (ok_sub ho fun x hx => List.mem_of_mem_take hx) (by decide)⟩
    · exact ⟨.num 3, by rw [hx, e]; simp only [emb], by simp only [vd]; decide⟩
  have a3 : pAdd (.str (mk (s.take 3))) (.str (mk [98])) = some (.str (mk (s.take 3 ++ [98]))) := add_s (by simp; omega)
  by_cases c0 : s.length = 0
  · obtain ⟨v, hv, hd⟩ := A
    refine ⟨v, ?_, hd⟩
    have e0 : s = [] := List.eq_nil_of_length_eq_zero c0
    subst e0
    simp at a3 s3 hv
    simp [G__law_bent, D__law_bent, fm0, l1, e5, S_b, s3, a3, z1, z2, hv]
  · have c0i : ¬ ((s.length : Int) = 0) := by omega
    have c0n : s ≠ [] := fun z => c0 (by rw [z]; rfl)
    by_cases c5 : m % 5 = 0
    · obtain ⟨v, hv, hd⟩ := A
      refine ⟨v, ?_, hd⟩
      simp [G__law_bent, D__law_bent, fm0, l1, c0i, c0n, c5, e5, S_b, s3, a3, z2, hv]
    · obtain ⟨k, hk, hke⟩ := modN (m := m / 8) (n := s.length) (by omega)
      have hp : (0 : Int) < (s.length : Int) := by omega
      have hpn : 0 < s.length := by omega
      have t1 := slS_to (s := s) (by omega) k
      have t2 := slS_fr (s := s) (by omega) k
      by_cases c1 : m % 5 = 1
      · have a1 : pAdd (.str (mk (s.take k))) (.str (mk (s.drop (k + 1)))) = some (.str (mk (s.take k ++ s.drop (k + 1)))) := add_s (by simp; omega)
        refine ⟨.txt (s.take k ++ s.drop (k + 1)), ?_, ?_⟩
        · simp [G__law_bent, D__law_bent, fm0, l1, c0i, c0n, c5, c1, e8, hp, hpn, hke, t1, t2, a1, emb]
        · simp only [vd, Bool.and_eq_true, decide_eq_true_eq]
          exact ⟨by simp; omega, ok_app (ok_sub ho fun x hx => List.mem_of_mem_take hx) (ok_sub ho fun x hx => List.mem_of_mem_drop hx)⟩
      · obtain ⟨c, hc, hco⟩ : ∃ c : Nat, pIdx (.str (mk [98, 122])) (.int (m / 64 % 2)) = some (.str (mk [c])) ∧ [c].all okc = true := by
          rcases (show m / 64 % 2 = 0 ∨ m / 64 % 2 = 1 by omega) with e | e
          · exact ⟨98, by rw [e]; exact pIdx_s (l := [98, 122]) (k := 0) (by decide) (by decide), by decide⟩
          · exact ⟨122, by rw [e]; exact pIdx_s (l := [98, 122]) (k := 1) (by decide) (by decide), by decide⟩
        have a1 : pAdd (.str (mk (s.take k))) (.str (mk [c])) = some (.str (mk (s.take k ++ [c]))) := add_s (by simp; omega)
        have a2 : pAdd (.str (mk (s.take k ++ [c]))) (.str (mk (s.drop (k + 1)))) = some (.str (mk (s.take k ++ [c] ++ s.drop (k + 1)))) := add_s (by simp; omega)
        refine ⟨.txt (s.take k ++ [c] ++ s.drop (k + 1)), ?_, ?_⟩
        · simp only [List.append_assoc, List.cons_append, List.nil_append] at a2 ⊢
          simp [G__law_bent, D__law_bent, fm0, l1, c0i, c0n, c5, c1, e8, e64, hp, hpn, hke, t1, t2, S_bz, hc, a1, a2, emb]
        · simp only [vd, Bool.and_eq_true, decide_eq_true_eq]
          exact ⟨by simp; omega, ok_app (ok_app (ok_sub ho fun x hx => List.mem_of_mem_take hx) hco) (ok_sub ho fun x hx => List.mem_of_mem_drop hx)⟩
theorem bent_pack {n : Nat} {xs : List Val} {d : Nat} {m : Int} (h : vd d (.pack xs) = true) (hm : 0 ≤ m)
    (ih : ∀ x ∈ xs, ∀ m' : Int, 0 ≤ m' → ∃ v, G__law_bent n [emb x, .int m'] = .ok (emb v) ∧ vd (d + 1) v = true) : ∃ v, G__law_bent (n + 1) [.tup (embs xs), .int m] = .ok (emb v) ∧ vd d v = true := by
  have hd3 : d < 3 := by
    simp only [vd, Bool.and_eq_true, decide_eq_true_eq] at h
    exact h.1
  obtain ⟨hl, ho, _⟩ := vd_parts h
  have vp : ∀ ys : List Val, ys.length ≤ 6 → (∀ y ∈ ys, vd (d + 1) y = true) → vd d (.pack ys) = true := fun ys h1 h2 => by
    simp only [vd, Bool.and_eq_true, decide_eq_true_eq]
    exact ⟨hd3, h1, vds_iff.mpr h2⟩
  have l1 : pLen [.tup (embs xs)] = some (.int (xs.length : Nat)) := by rw [pLen_t, embs_len]
  have e5 : pDiv (.int m) (.int 5) = some (.int (m / 5)) := pDiv_small (by omega) (by omega)
  have e8 : pDiv (.int m) (.int 8) = some (.int (m / 8)) := pDiv_small (by omega) (by omega)
  have s3 : pSl (.tup (embs xs)) none (some 3) = some (.tup (embs (xs.take 3))) := by rw [← embs_take]; exact slT_to _ 3
  have a3 : pAdd (.tup (embs (xs.take 3))) (.tup [.int 7]) = some (.tup (embs (xs.take 3 ++ [.num 7]))) := by
    rw [add_t (by rw [embs_len]; simp; omega), ← embs_app]
    simp only [embs, emb]
  have A : ∃ v, L2.atI [PV.tup (embs (xs.take 3 ++ [.num 7])), PV.int 3] (m / 5 % 2) = some (emb v) ∧ vd d v = true := by
    obtain ⟨x, hx, hx2⟩ := two (m := m / 5) (PV.tup (embs (xs.take 3 ++ [.num 7]))) (PV.int 3)
    rcases hx2 with e | e
    · refine ⟨.pack (xs.take 3 ++ [.num 7]), by rw [hx, e]; simp only [emb], vp _ (by simp; omega) fun y hy => ?_⟩
      rcases List.mem_append.mp hy with z | z
      · exact ho y (List.mem_of_mem_take z)
      · rw [List.mem_singleton] at z; subst z; simp only [vd]; decide
    · exact ⟨.num 3, by rw [hx, e]; simp only [emb], by simp only [vd]; decide⟩
  by_cases c0 : xs.length = 0
  · obtain ⟨v, hv, hd⟩ := A
    refine ⟨v, ?_, hd⟩
    simp only [G__law_bent, D__law_bent, fm0]
    simp [l1, c0, e5, s3, a3, z1, z2, hv]
  · have c0i : ¬ ((xs.length : Int) = 0) := by omega
    have c0n : xs ≠ [] := fun z => c0 (by rw [z]; rfl)
    by_cases c5 : m % 5 = 0
    · obtain ⟨v, hv, hd⟩ := A
      refine ⟨v, ?_, hd⟩
      simp only [G__law_bent, D__law_bent, fm0]
      simp [l1, c0i, c0n, c5, e5, s3, a3, z1, z2, hv]
    · obtain ⟨k, hk, hke⟩ := modN (m := m / 8) (n := xs.length) (by omega)
      have hp : (0 : Int) < (xs.length : Int) := by omega
      have hpn : 0 < xs.length := by omega
      have t1 : pSl (.tup (embs xs)) none (some (k : Int)) = some (.tup (embs (xs.take k))) := by rw [slT_to, embs_take]
      have t2 : pSl (.tup (embs xs)) (some ((k : Int) + 1)) none = some (.tup (embs (xs.drop (k + 1)))) := by rw [slT_fr, embs_drop]
      by_cases c1 : m % 5 = 1
      · have a1 : pAdd (.tup (embs (xs.take k))) (.tup (embs (xs.drop (k + 1)))) = some (.tup (embs (xs.take k ++ xs.drop (k + 1)))) := by
          rw [add_t (by rw [embs_len, embs_len]; simp; omega), embs_app]
        refine ⟨.pack (xs.take k ++ xs.drop (k + 1)), ?_, vp _ (by simp; omega) fun y hy => ?_⟩
        · simp only [G__law_bent, D__law_bent, fm0]
          simp [l1, c0i, c0n, c5, c1, e8, hp, hpn, hke, t1, t2, a1, emb]
        · rcases List.mem_append.mp hy with z | z
          · exact ho y (List.mem_of_mem_take z)
          · exact ho y (List.mem_of_mem_drop z)
      · obtain ⟨w, hw, hwd⟩ := ih xs[k] (List.getElem_mem hk) (drawn m 1) (drawn_lo _ _)
        have i1 := idxP hk
        rw [pIdx_t] at i1
        have a1 : pAdd (.tup (embs (xs.take k))) (.tup [emb w]) = some (.tup (embs (xs.take k ++ [w]))) := by
          rw [add_t (by rw [embs_len]; simp; omega), embs_one, embs_app]
        have a2 : pAdd (.tup (embs (xs.take k ++ [w]))) (.tup (embs (xs.drop (k + 1)))) = some (.tup (embs (xs.take k ++ [w] ++ xs.drop (k + 1)))) := by
          rw [add_t (by rw [embs_len, embs_len]; simp; omega), embs_app]
        refine ⟨.pack (xs.take k ++ [w] ++ xs.drop (k + 1)), ?_, vp _ (by simp; omega) fun y hy => ?_⟩
        · have ee : emb (.pack (xs.take k ++ [w] ++ xs.drop (k + 1))) = .tup (embs (xs.take k ++ [w] ++ xs.drop (k + 1))) := by simp only [emb]
          rw [ee]
          generalize embs (xs.take k ++ [w] ++ xs.drop (k + 1)) = r at a2 ⊢
          generalize embs (xs.take k ++ [w]) = r1 at a1 a2
          simp only [G__law_bent, D__law_bent, fm0]
          simp [l1, c0i, c0n, c5, c1, e8, hp, hpn, hke, t1, t2, i1, G_drawn, hw, z1, a1, a2]
        · rcases List.mem_append.mp hy with z | z
          · rcases List.mem_append.mp z with z | z
            · exact ho y (List.mem_of_mem_take z)
            · rw [List.mem_singleton] at z; subst z; exact hwd
          · exact ho y (List.mem_of_mem_drop z)
theorem G_bent : ∀ (n : Nat) (v : Val) (d : Nat) (m : Int), vd d v = true → dp v < n → 0 ≤ m → ∃ v', G__law_bent n [emb v, .int m] = .ok (emb v') ∧ vd d v' = true
  | 0, _, _, _, _, h, _ => by omega
  | n + 1, .num i, d, m, h, _, _ => by
    have e : emb (.num i) = .int i := by simp only [emb]
    rw [e]
    exact bent_num h
  | n + 1, .txt s, d, m, h, _, hm => by
    have e : emb (.txt s) = .str (mk s) := by simp only [emb]
    rw [e]
    exact bent_txt h hm
  | n + 1, .pack xs, d, m, h, hn, hm => by
    have e : emb (.pack xs) = .tup (embs xs) := by simp only [emb]
    rw [e]
    simp only [dp] at hn
    exact bent_pack h hm fun x hx m' hm' => G_bent n x (d + 1) m' ((vd_parts h).2.1 x hx) (by have := dp_mem hx; omega) hm'
end Tw

set_option Elab.async false
set_option linter.all false
set_option maxRecDepth 100000
set_option maxHeartbeats 4000000
namespace Tw
open PySem PySem.Spec PyProof.Rows L2 Pv
local instance : TabCx := ⟨[]⟩
@[simp] theorem dTold_ap (d : Fm → R PV) (env : Fm) : dTold d env = match d env with | .ok v => .ok v | .ex e => if goodEx e = true then .ok (wordOf e) else .bad | .bad => .bad := rfl
theorem G_need {u : Val} (h : vd 0 u = true) : G_need_value [emb u] = .ok .non := by
  have hv := G_value 6 u 0 (short_vd u h) (by have := dp_vd u h (by omega); omega)
  rw [h] at hv
  have hv' : G_is_value 6 [emb u, .int 0] = .ok (.bl true) := hv
  simp [G_need_value, D_need_value, fm0, hv']
/-! ### what are no values -/
def isBad : R PV → Bool
  | .ex (.cls n) => n == Str.ofString "BadValue"
  | _ => false
theorem isBad_ok {r : R PV} (h : isBad r = true) : r = .ex (.cls (Str.ofString "BadValue")) := by
  cases r with
  | ok _ => cases h
  | bad => cases h
  | ex e =>
    cases e with
    | trb _ _ => cases h
    | cls n =>
      have h2 : (n == Str.ofString "BadValue") = true := h
      rw [eq_of_beq h2]
def noneChk : Bool := match G__law_none [] with
  | .ok l => decide (l.length = 18) && l.all fun x => isBad (G_need_value [x]) && isBad (G_need_value [.tup [.int 1, x]])
  | _ => false
theorem none_chk : noneChk = true := by decide +kernel
theorem none_ok : ∃ l : List PV, G__law_none [] = .ok l ∧ l.length = 18 ∧ ∀ x ∈ l, G_need_value [x] = .ex (.cls (Str.ofString "BadValue")) ∧ G_need_value [.tup [.int 1, x]] = .ex (.cls (Str.ofString "BadValue")) := by
  have h := none_chk
  unfold noneChk at h
  cases q : G__law_none [] with
  | ok l =>
    rw [q] at h
    simp only [Bool.and_eq_true, decide_eq_true_eq, List.all_eq_true] at h
    exact ⟨l, rfl, h.1, fun x hx => ⟨isBad_ok (h.2 x hx).1, isBad_ok (h.2 x hx).2⟩⟩
  | ex _ => rw [q] at h; cases h
  | bad => rw [q] at h; cases h
theorem good_bv : goodEx (.cls (Str.ofString "BadValue")) = true := by decide +kernel
theorem ne_word : pNe (wordOf (.cls (Str.ofString "BadValue"))) (.tup [.str (Str.ofString "refused"), .str (Str.ofString "BadValue")]) = some false := by decide +kernel
theorem ne_nats (l : List Nat) : pNe (.tup (nats l)) (.tup (nats l)) = some false := by
  have e : toD (.tup (nats l)) = .tuple ((l.map fun (k : Nat) => (k : Int)).map PyData.int) := by
    simp only [toD, toDs_map, nats, List.map_map]
    congr 1
  have s1 : SeqAt.shaped (toD (.tup (nats l))) = true := by
    rw [e]
    exact shaped_of (by simp only [PyData.canLay0, canInts]) (by simp only [PyData.depth, depInts]; omega)
  unfold pNe
  rw [if_pos ⟨s1, s1⟩, SeqAt.eqv_refl _ (SeqAt.canLay_of_shaped s1)]
  rfl
theorem last_in {l : List Val} (h : 0 < l.length) : ∃ x, x ∈ l ∧ L2.atI (l.map emb) (-1) = some (emb x) := by
  refine ⟨l[l.length - 1], List.getElem_mem _, ?_⟩
  have e : L2.ixN (l.map emb).length (-1) = some (l.length - 1) := by
    rw [List.length_map]
    unfold L2.ixN
    rw [if_neg (by omega), if_pos (by omega)]
    congr 1
    omega
  unfold L2.atI
  rw [e]
  simp only [Option.bind_some, List.getElem?_map]
  rw [List.getElem?_eq_getElem (by omega)]
  rfl
theorem lg30 : Nat.log2 1073741824 < 9000 := by decide +kernel
theorem pow30 : pPow (.int 2) (.int 30) = some (.int 1073741824) := by
  show (if 0 ≤ (30 : Int) ∧ (30 : Int) ≤ 1000000 ∧ (2 : Int).natAbs < 2 ^ 64 then some (PV.int ((2 : Int) ^ (30 : Int).toNat)) else none) = _
  rw [if_pos (by decide)]
  congr 2
theorem d6 {v : Val} (h : vd 0 v = true) : dp v < 5 ∧ dp v < 6 := by have := dp_vd v h (by omega); omega
theorem law_1 {ns : List Int} {k : Nat} {more : Int} {v w : Val} (hv : vd 0 v = true) (hw : vd 0 w = true) :
    ∃ l : List Val, (∀ x ∈ l, vd 0 x = true) ∧ l.length ≤ 6 ∧ L_law_1 G__law_drawn (G__law_bent 6) [.pv (.scr ns), .pv (.int (k : Nat)), .pv (.int more), .pv (emb v), .own [emb v, emb w], .un, .un, .un, .un] = .nx [.pv (.scr ns), .pv (.int (k : Nat)), .pv (.int more), .pv (emb v), .own (l.map emb), .un, .un, .un, .un] := by
  have hsrc : (dCall (fun ds => ofO (rgIt1 ds)) (dCons (dC (.int 4)) dNil)) [.pv (.scr ns), .pv (.int (k : Nat)), .pv (.int more), .pv (emb v), .own [emb v, emb w], .un, .un, .un, .un] = .ok ((List.range 4).map fun (k : Nat) => PV.int (k : Int)) := by
    have := rg1 (n := 4) (by omega)
    simp only [dCall_ap, dCons_ap, dC_ap, dNil_ap, R.bind_ok]
    rw [show (PV.int 4) = PV.int ((4 : Nat) : Int) from rfl, this]
    rfl
  obtain ⟨e', r1, r2⟩ := for_inv (t := tgN 5) (body := B_law_1 G__law_drawn (G__law_bent 6)) (wp := [5]) ((List.range 4).map fun (k : Nat) => PV.int (k : Int)) (fun i e => ∃ l : List Val, (∀ x ∈ l, vd 0 x = true) ∧ l.length = 2 + i ∧ e = [.pv (.scr ns), .pv (.int (k : Nat)), .pv (.int more), .pv (emb v), .own (l.map emb), .un, .un, .un, .un])
    [.pv (.scr ns), .pv (.int (k : Nat)), .pv (.int more), .pv (emb v), .own [emb v, emb w], .un, .un, .un, .un] ⟨[v, w], by intro x hx; simp only [List.mem_cons, List.not_mem_nil, or_false] at hx; rcases hx with rfl | rfl <;> assumption, rfl, rfl⟩ (by
      intro i e p hp ⟨l, h1, h2, he⟩
      subst he
      obtain ⟨hi, rfl⟩ := rngI hp
      obtain ⟨x, hx, hlast⟩ := last_in (l := l) (by omega)
      have hz : l.length < sizeLine := szl (by omega)
      by_cases c : (i : Int) % 2 = 1
      · obtain ⟨y, hy, hyd⟩ := G_bent 6 x 0 (drawn more (10 + (i : Int))) (h1 x hx) (d6 (h1 x hx)).2 (drawn_lo _ _)
        refine ⟨[.pv (.scr ns), .pv (.int (k : Nat)), .pv (.int more), .pv (emb v), .own (l.map emb), .pv (.int (i : Nat)), .un, .un, .un], [.pv (.scr ns), .pv (.int (k : Nat)), .pv (.int more), .pv (emb v), .own (l.map emb ++ [emb y]), .pv (.int (i : Nat)), .un, .un, .un], by simp, .inl ?_, l ++ [y], ?_, by simp; omega, by simp⟩
        · simp [B_law_1, c, hlast, G_drawn, hy, hz]
        · intro z hz
          rcases List.mem_append.mp hz with q | q
          · exact h1 z q
          · rw [List.mem_singleton] at q; subst q; exact hyd
      · obtain ⟨y, hy, hyd⟩ := G_bent 6 v 0 (drawn more (10 + (i : Int))) hv (d6 hv).2 (drawn_lo _ _)
        refine ⟨[.pv (.scr ns), .pv (.int (k : Nat)), .pv (.int more), .pv (emb v), .own (l.map emb), .pv (.int (i : Nat)), .un, .un, .un], [.pv (.scr ns), .pv (.int (k : Nat)), .pv (.int more), .pv (emb v), .own (l.map emb ++ [emb y]), .pv (.int (i : Nat)), .un, .un, .un], by simp, .inl ?_, l ++ [y], ?_, by simp; omega, by simp⟩
        · simp [B_law_1, c, G_drawn, hy, hz]
        · intro z hz
          rcases List.mem_append.mp hz with q | q
          · exact h1 z q
          · rw [List.mem_singleton] at q; subst q; exact hyd)
  obtain ⟨l, h1, h2, he⟩ := r2
  refine ⟨l, h1, ?_, ?_⟩
  · simp at h2; omega
  · unfold L_law_1 dFor
    rw [hsrc]
    simp only [clr_cons, clr_nil, List.set_cons_zero, List.set_cons_succ]
    rw [r1, he]
theorem law_2 {ns : List Int} {k : Nat} {more : Int} {v : Val} {l : List Val} (hv : vd 0 v = true) (hl : ∀ x ∈ l, vd 0 x = true) :
    L_law_2 G_need_value (G_difference 5) (G__law_due 5) [.pv (.scr ns), .pv (.int (k : Nat)), .pv (.int more), .pv (emb v), .pv (.lst (l.map emb)), .un, .un, .un, .un] = .nx [.pv (.scr ns), .pv (.int (k : Nat)), .pv (.int more), .pv (emb v), .pv (.lst (l.map emb)), .un, .un, .un, .un] := by
  unfold L_law_2 dFor
  have hsrc : (d1 lstIt (dV 4)) [.pv (.scr ns), .pv (.int (k : Nat)), .pv (.int more), .pv (emb v), .pv (.lst (l.map emb)), .un, .un, .un, .un] = .ok (l.map emb) := by simp
  rw [hsrc]
  simp only [clr_cons, clr_nil, List.set_cons_zero, List.set_cons_succ]
  obtain ⟨e', r1, r2⟩ := for_inv (t := tgN 6) (body := B_law_2 G_need_value (G_difference 5) (G__law_due 5)) (wp := [6, 7]) (l.map emb) (fun _ e => e = [.pv (.scr ns), .pv (.int (k : Nat)), .pv (.int more), .pv (emb v), .pv (.lst (l.map emb)), .un, .un, .un, .un]) _ rfl (by
    intro i e p hp he
    subst he
    obtain ⟨x, hx, rfl⟩ := List.mem_map.mp (List.mem_of_getElem? hp)
    have x0 := hl x hx
    have h1 := G_need x0
    have h2 := G_dif 5 v x hv x0 (d6 hv).1 (by omega)
    have h3 := G_due 5 v x hv x0 (d6 hv).1 (by omega)
    have h4 := G_dif 5 x v x0 hv (d6 x0).1 (by omega)
    rw [diff_symm 5 x v] at h4
    generalize diff 5 v x = r at h2 h3 h4
    have h5 := ne_nats r
    refine ⟨[.pv (.scr ns), .pv (.int (k : Nat)), .pv (.int more), .pv (emb v), .pv (.lst (l.map emb)), .un, .pv (emb x), .un, .un], [.pv (.scr ns), .pv (.int (k : Nat)), .pv (.int more), .pv (emb v), .pv (.lst (l.map emb)), .un, .pv (emb x), .pv (.tup (nats r)), .un], by simp, .inl ?_, by simp⟩
    simp [B_law_2, h1, h2, h3, h4, h5])
  rw [r1, r2]
theorem pure : ∀ ns : List Int, ns.length ≤ 63 → (∀ z ∈ ns, Builtin.Int.intBits z ≤ 1048576) → G_law [.scr ns] = .ok (.bl true) := by
  intro ns hl _
  obtain ⟨n, hn, hn2⟩ : ∃ n : Nat, n ≤ 1000 ∧ max 1 (min 4 (ns.length : Int)) = (n : Int) := ⟨(max 1 (min 4 (ns.length : Int))).toNat, by omega, by omega⟩
  obtain ⟨bad, hb1, hb2, hb3⟩ := none_ok
  have step : ∀ k : Nat, ∃ a b c d f, B_law_3 G_need_value (G_difference 5) G__law_cell G__law_drawn (G__law_value 6) (G__law_bent 6) (G__law_due 5) G__law_none [.pv (.scr ns), .pv (.int (k : Nat)), .un, .un, .un, .un, .un, .un, .un] = .nx [.pv (.scr ns), a, b, c, d, .un, .un, .un, f] := fun k => by
    obtain ⟨c, hc⟩ := G_cell k hl
    generalize hm : drawn c (k : Int) = more
    have m0 : 0 ≤ more := by rw [← hm]; exact drawn_lo _ _
    obtain ⟨v, hv, hvd⟩ := G_gen 6 3 (drawn more 1) (by omega) (by omega) (drawn_lo _ _)
    obtain ⟨w, hw, hwd⟩ := G_gen 6 3 (drawn more 2) (by omega) (by omega) (drawn_lo _ _)
    have hv' : G__law_value 6 [.int (drawn more 1), .int 3] = .ok (emb v) := hv
    have hw' : G__law_value 6 [.int (drawn more 2), .int 3] = .ok (emb w) := hw
    obtain ⟨l, l1, l2, l3⟩ := law_1 (ns := ns) (k := k) (more := more) hvd hwd
    have h2 := law_2 (ns := ns) (k := k) (more := more) hvd l1
    have e30 : pDiv (.int more) (.int 1073741824) = some (.int (more / 1073741824)) := by
      rw [pDiv_ii, if_pos ⟨by omega, lg30⟩]
    obtain ⟨j, hj, hje⟩ := modN (m := more / 1073741824) (n := 18) (by omega)
    have hje' : more / 1073741824 % 18 = (j : Int) := hje
    have hbj : L2.atI bad (j : Int) = some bad[j] := atI_in (by omega)
    obtain ⟨n1, n2⟩ := hb3 bad[j] (List.getElem_mem _)
    refine ⟨.pv (.int (k : Nat)), .pv (.int more), .pv (emb v), .pv (.lst (l.map emb)), .pv bad[j], ?_⟩
    simp [B_law_3, hc, G_drawn, hm, hv', hw', z2, l3, h2, hb1, pow30, e30, hje', hbj, n1, n2, good_bv, ne_word]
  have hL : L_law_3 G_need_value (G_difference 5) G__law_cell G__law_drawn (G__law_value 6) (G__law_bent 6) (G__law_due 5) G__law_none [.pv (.scr ns), .un, .un, .un, .un, .un, .un, .un, .un] = .nx [.pv (.scr ns), .un, .un, .un, .un, .un, .un, .un, .un] := by
    unfold L_law_3 dFor
    have hsrc : (dCall (fun ds => ofO (rgIt1 ds)) (dCons (dCall (fun ds => ofO (pMax2 ds)) (dCons (dC (.int 1)) (dCons (dCall (fun ds => ofO (pMin2 ds)) (dCons (dC (.int 4)) (dCons (dCall (fun ds => ofO (pLen ds)) (dCons (dV 0) dNil)) dNil))) dNil))) dNil)) [.pv (.scr ns), .un, .un, .un, .un, .un, .un, .un, .un] = .ok ((List.range n).map fun (k : Nat) => PV.int (k : Int)) := by
      simp [hn2, rg1 hn]
    rw [hsrc]
    simp only [clr_cons, clr_nil, List.set_cons_zero, List.set_cons_succ]
    obtain ⟨e', r1, r2⟩ := for_inv (t := tgN 1) (body := B_law_3 G_need_value (G_difference 5) G__law_cell G__law_drawn (G__law_value 6) (G__law_bent 6) (G__law_due 5) G__law_none) (wp := [1, 2, 3, 4, 5, 6, 7, 8]) ((List.range n).map fun (k : Nat) => PV.int (k : Int)) (fun _ e => e = [.pv (.scr ns), .un, .un, .un, .un, .un, .un, .un, .un]) _ rfl (by
      intro i e p hp he
      subst he
      obtain ⟨_, rfl⟩ := rngI hp
      obtain ⟨a, b, c, d, f, q⟩ := step i
      exact ⟨_, _, by simp, .inl q, by simp⟩)
    rw [r1, r2]
  simp [G_law, D_law, fm0, hL]
end Tw

set_option Elab.async false
set_option linter.all false
set_option maxRecDepth 100000
set_option maxHeartbeats 4000000
namespace Tw
open PySem PySem.Spec PyProof.Rows L2 Pv
def topS (i : Nat) : Stmt := PySem.Challenge.pw_trywright_k10_values_and_differences.main.body.getD i (.Pass ⟨0, 0, 0, 0⟩)
structure Top (K : PySem.W.Frag) (mg : Str → Option Value) : Prop where
  n_ValueError : mg "ValueError" = none
  n_abs : mg "abs" = none
  n_all : mg "all" = none
  n_bool : mg "bool" = none
  n_int : mg "int" = none
  n_isinstance : mg "isinstance" = none
  n_len : mg "len" = none
  n_max : mg "max" = none
  n_min : mg "min" = none
  n_ord : mg "ord" = none
  n_range : mg "range" = none
  n_str : mg "str" = none
  n_sum : mg "sum" = none
  n_tuple : mg "tuple" = none
  c_BARRED : ∃ t, mg "BARRED" = some (.int 37 t)
  c_MOST_NUMBER : ∃ t, mg "MOST_NUMBER" = some (.int 999999 t)
  c_MOST_PARTS : ∃ t, mg "MOST_PARTS" = some (.int 6 t)
  c_MOST_SIGNS : ∃ t, mg "MOST_SIGNS" = some (.int 20 t)
  c_MOST_WITHIN : ∃ t, mg "MOST_WITHIN" = some (.int 3 t)
  x_BadValue : Exc1 K mg "BadValue"
  wf : WordF K mg
section
variable [TabCx]
variable {P : Program} {w : World} {K : PySem.W.Frag} {mg : Str → Option Value} {base : Heap}
abbrev st_is_number : Stmt := topS 15
abbrev N_is_number : List Str := ["thing"]
theorem sc_is_number : FnScope N_is_number ["thing"] (defScope st_is_number) := ⟨rfl, rfl, rfl, by decide +kernel, rfl, by decide +kernel, by decide +kernel⟩
theorem b_is_number {f : Addr} {fd : FuncData} {k : Nat} {g : List PV → R PV} (T : Top K mg) (Fn : Fun K "is_number" "is_number" st_is_number f fd) (hl : ∀ ds, g ds ≠ .bad → ds.length = 1) (hd : ∀ ds, g ds ≠ .bad → toV (D_is_number (fm0 1 ds)) = g ds) :
    FnOk P w K mg base (L2N.CX P w) (k + 1) f fd ["thing"] (spV K mg g) :=
  fn_V (d := D_is_number) Fn sc_is_number hl hd (by
    intro cdv A outer s H E hcv hr
    have sc := sc_is_number
    have tk : L2N.Takes (cxX P w K mg base N_is_number "is_number" st_is_number f cdv A outer s H E) (wE E) := L2N.takes_of rfl rfl rfl rfl
    have hp : PassesOwn (model P w) (cxX P w K mg base N_is_number "is_number" st_is_number f cdv A outer s H E).A (cxX P w K mg base N_is_number "is_number" st_is_number f cdv A outer s H E).env (cxX P w K mg base N_is_number "is_number" st_is_number f cdv A outer s H E).xe := passes_of rfl
    exact (Pv.s_one (Pv.s_ret (Pv.v_and (Pv.v_isi T.n_isinstance (Pv.rV (Pv.pe_V 0 (pv 0))) rfl T.n_int (by decide +kernel)) (pe_one (Pv.v_not (Pv.v_isi T.n_isinstance (Pv.rV (Pv.pe_V 0 (pv 0))) rfl T.n_bool (by decide +kernel))))))))
abbrev st_are_signs : Stmt := topS 16
abbrev N_are_signs : List Str := ["text", "sign"]
theorem sc_are_signs : FnScope N_are_signs ["text"] (defScope st_are_signs) := ⟨rfl, rfl, rfl, by decide +kernel, rfl, by decide +kernel, by decide +kernel⟩
theorem b_are_signs {f : Addr} {fd : FuncData} {k : Nat} {g : List PV → R PV} (T : Top K mg) (Fn : Fun K "are_signs" "are_signs" st_are_signs f fd) (hl : ∀ ds, g ds ≠ .bad → ds.length = 1) (hd : ∀ ds, g ds ≠ .bad → toV (D_are_signs (fm0 2 ds)) = g ds) :
    FnOk P w K mg base (L2N.CX P w) (k + 1) f fd ["text"] (spV K mg g) :=
  fn_V (d := D_are_signs) Fn sc_are_signs hl hd (by
    intro cdv A outer s H E hcv hr
    have sc := sc_are_signs
    have tk : L2N.Takes (cxX P w K mg base N_are_signs "are_signs" st_are_signs f cdv A outer s H E) (wE E) := L2N.takes_of rfl rfl rfl rfl
    have hp : PassesOwn (model P w) (cxX P w K mg base N_are_signs "are_signs" st_are_signs f cdv A outer s H E).A (cxX P w K mg base N_are_signs "are_signs" st_are_signs f cdv A outer s H E).env (cxX P w K mg base N_are_signs "are_signs" st_are_signs f cdv A outer s H E).xe := passes_of rfl
    exact (Pv.s_one (Pv.s_ret (Pv.v_all rfl T.n_all (Pv.aRcons (Pv.rF (Pv.f_lc [(Str.ofString "sign", 1)] rfl rfl sc.nd (Pv.iR (Pv.i_str (Pv.pe_V 0 (pv 0)))) (blkOk_by (N := N_are_signs) (sc := defScope st_are_signs) (by decide +kernel)) (fun _ _ _ _ _ => (pg_name (i := 1) sc.nd rfl (by first | exact Or.inl rfl | exact Or.inr rfl))) (Pv.tg_name 1) (by decide) (fun _ _ _ _ _ => Pv.tests_nil) (fun _ _ _ _ _ => (Pv.v_and (Pv.v_chain Pv.c_le Pv.c_le (Pv.rV Pv.kStr) (Pv.rV (Pv.pe_V 1 (pv 1))) (Pv.rV Pv.kStr)) (pe_one (Pv.v_cmp (Pv.c_ne hr) (Pv.rV (Pv.v_ord T.n_ord (Pv.aRcons (Pv.rV (Pv.pe_V 1 (pv 1))) Pv.aRnil))) (Pv.rV (Pv.kGlInt rfl T.c_BARRED)))))))) Pv.aRnil)))))
abbrev st_is_value : Stmt := topS 17
abbrev N_is_value : List Str := ["thing", "deep", "one"]
theorem sc_is_value : FnScope N_is_value ["thing", "deep"] (defScope st_is_value) := ⟨rfl, rfl, rfl, by decide +kernel, rfl, by decide +kernel, by decide +kernel⟩
theorem b_is_value {f : Addr} {fd : FuncData} {k : Nat} {g : List PV → R PV} (T : Top K mg) (Fn : Fun K "is_value" "is_value" st_is_value f fd) {k_are_signs : Nat} {g_are_signs : List PV → R PV} (C_are_signs : CaV P w K mg base k_are_signs "are_signs" g_are_signs) (h_are_signs : k_are_signs ≤ k) {k_is_value : Nat} {g_is_value : List PV → R PV} (C_is_value : CaV P w K mg base k_is_value "is_value" g_is_value) (h_is_value : k_is_value ≤ k) {k_is_number : Nat} {g_is_number : List PV → R PV} (C_is_number : CaV P w K mg base k_is_number "is_number" g_is_number) (h_is_number : k_is_number ≤ k) (hl : ∀ ds, g ds ≠ .bad → ds.length = 2) (hd : ∀ ds, g ds ≠ .bad → toV ((D_is_value g_are_signs g_is_value g_is_number) (fm0 3 ds)) = g ds) :
    FnOk P w K mg base (L2N.CX P w) (k + 1) f fd ["thing", "deep"] (spV K mg g) :=
  fn_V (d := (D_is_value g_are_signs g_is_value g_is_number)) Fn sc_is_value hl hd (by
    intro cdv A outer s H E hcv hr
    have sc := sc_is_value
    have tk : L2N.Takes (cxX P w K mg base N_is_value "is_value" st_is_value f cdv A outer s H E) (wE E) := L2N.takes_of rfl rfl rfl rfl
    have hp : PassesOwn (model P w) (cxX P w K mg base N_is_value "is_value" st_is_value f cdv A outer s H E).A (cxX P w K mg base N_is_value "is_value" st_is_value f cdv A outer s H E).env (cxX P w K mg base N_is_value "is_value" st_is_value f cdv A outer s H E).xe := passes_of rfl
    exact (Pv.s_cons (Pv.s_if (Pv.tV_test (Pv.v_isi T.n_isinstance (Pv.rV (Pv.pe_V 0 (pv 0))) rfl T.n_str (by decide +kernel))) (Pv.s_one (Pv.s_ret (Pv.v_and (Pv.v_cmp Pv.c_le (Pv.rV (Pv.v_len T.n_len (Pv.aRcons (Pv.rV (Pv.pe_V 0 (pv 0))) Pv.aRnil))) (Pv.rV (Pv.kGlInt rfl T.c_MOST_SIGNS))) (pe_one (Pv.v_call C_are_signs tk hr (Pv.aVcons (Pv.pe_V 0 (pv 0)) Pv.aVnil) h_are_signs))))) Pv.s_nil) (Pv.s_cons (Pv.s_if (Pv.tV_test (Pv.v_isi T.n_isinstance (Pv.rV (Pv.pe_V 0 (pv 0))) rfl T.n_tuple (by decide +kernel))) (Pv.s_one (Pv.s_ret (Pv.v_and (Pv.v_cmp Pv.c_lt (Pv.rV (Pv.pe_V 1 (pv 1))) (Pv.rV (Pv.kGlInt rfl T.c_MOST_WITHIN))) (Pv.v_and (Pv.v_cmp Pv.c_le (Pv.rV (Pv.v_len T.n_len (Pv.aRcons (Pv.rV (Pv.pe_V 0 (pv 0))) Pv.aRnil))) (Pv.rV (Pv.kGlInt rfl T.c_MOST_PARTS))) (pe_one (Pv.v_all rfl T.n_all (Pv.aRcons (Pv.rF (Pv.f_lc [(Str.ofString "one", 2)] rfl rfl sc.nd (Pv.iR (Pv.i_tup (Pv.pe_V 0 (pv 0)))) (blkOk_by (N := N_is_value) (sc := defScope st_is_value) (by decide +kernel)) (fun _ _ _ _ _ => (pg_name (i := 2) sc.nd rfl (by first | exact Or.inl rfl | exact Or.inr rfl))) (Pv.tg_name 2) (by decide) (fun _ _ _ _ _ => Pv.tests_nil) (fun _ _ _ _ _ => (Pv.v_call C_is_value Pv.takes0 hr (Pv.aVcons (Pv.pe_V 2 (pv 2)) (Pv.aVcons (Pv.v_add (Pv.rV (Pv.pe_V 1 (pv 1))) (Pv.rV Pv.kInt)) Pv.aVnil)) h_is_value)))) Pv.aRnil))))))) Pv.s_nil) (Pv.s_one (Pv.s_ret (Pv.v_and (Pv.v_call C_is_number tk hr (Pv.aVcons (Pv.pe_V 0 (pv 0)) Pv.aVnil) h_is_number) (pe_one (Pv.v_cmp Pv.c_le (Pv.rV (Pv.v_abs T.n_abs (Pv.aRcons (Pv.rV (Pv.pe_V 0 (pv 0))) Pv.aRnil))) (Pv.rV (Pv.kGlInt rfl T.c_MOST_NUMBER))))))))))
abbrev st_need_value : Stmt := topS 18
abbrev N_need_value : List Str := ["value"]
theorem sc_need_value : FnScope N_need_value ["value"] (defScope st_need_value) := ⟨rfl, rfl, rfl, by decide +kernel, rfl, by decide +kernel, by decide +kernel⟩
theorem b_need_value {f : Addr} {fd : FuncData} {k : Nat} {g : List PV → R PV} (T : Top K mg) (Fn : Fun K "need_value" "need_value" st_need_value f fd) {k_is_value : Nat} {g_is_value : List PV → R PV} (C_is_value : CaV P w K mg base k_is_value "is_value" g_is_value) (h_is_value : k_is_value ≤ k) (hl : ∀ ds, g ds ≠ .bad → ds.length = 1) (hd : ∀ ds, g ds ≠ .bad → toV ((D_need_value g_is_value) (fm0 1 ds)) = g ds) :
    FnOk P w K mg base (L2N.CX P w) (k + 1) f fd ["value"] (spV K mg g) :=
  fn_V (d := (D_need_value g_is_value)) Fn sc_need_value hl hd (by
    intro cdv A outer s H E hcv hr
    have sc := sc_need_value
    have tk : L2N.Takes (cxX P w K mg base N_need_value "need_value" st_need_value f cdv A outer s H E) (wE E) := L2N.takes_of rfl rfl rfl rfl
    have hp : PassesOwn (model P w) (cxX P w K mg base N_need_value "need_value" st_need_value f cdv A outer s H E).A (cxX P w K mg base N_need_value "need_value" st_need_value f cdv A outer s H E).env (cxX P w K mg base N_need_value "need_value" st_need_value f cdv A outer s H E).xe := passes_of rfl
    exact (Pv.s_one (Pv.s_if (Pv.t_not (Pv.tV_test (Pv.v_call C_is_value tk hr (Pv.aVcons (Pv.pe_V 0 (pv 0)) (Pv.aVcons Pv.kInt Pv.aVnil)) h_is_value))) (Pv.s_one (Pv.s_raise T.x_BadValue rfl tk)) Pv.s_nil)))
abbrev st_first_unlike : Stmt := topS 19
abbrev N_first_unlike : List Str := ["one", "other", "at"]
theorem sc_first_unlike : FnScope N_first_unlike ["one", "other"] (defScope st_first_unlike) := ⟨rfl, rfl, rfl, by decide +kernel, rfl, by decide +kernel, by decide +kernel⟩
theorem b_first_unlike {f : Addr} {fd : FuncData} {k : Nat} {g : List PV → R PV} (T : Top K mg) (Fn : Fun K "first_unlike" "first_unlike" st_first_unlike f fd) (hl : ∀ ds, g ds ≠ .bad → ds.length = 2) (hd : ∀ ds, g ds ≠ .bad → toV (D_first_unlike (fm0 3 ds)) = g ds) :
    FnOk P w K mg base (L2N.CX P w) (k + 1) f fd ["one", "other"] (spV K mg g) :=
  fn_V (d := D_first_unlike) Fn sc_first_unlike hl hd (by
    intro cdv A outer s H E hcv hr
    have sc := sc_first_unlike
    have tk : L2N.Takes (cxX P w K mg base N_first_unlike "first_unlike" st_first_unlike f cdv A outer s H E) (wE E) := L2N.takes_of rfl rfl rfl rfl
    have hp : PassesOwn (model P w) (cxX P w K mg base N_first_unlike "first_unlike" st_first_unlike f cdv A outer s H E).A (cxX P w K mg base N_first_unlike "first_unlike" st_first_unlike f cdv A outer s H E).env (cxX P w K mg base N_first_unlike "first_unlike" st_first_unlike f cdv A outer s H E).xe := passes_of rfl
    exact (Pv.s_cons (Pv.s_set (i := 2) sc.nd Pv.kInt) (Pv.s_cons (Pv.s_while (fun _ => 64) [] hp (PW.pt (Pv.w_and (Pv.t_cmp Pv.c_lt (Pv.rV (Pv.pe_V 2 (pv 2))) (Pv.rV (Pv.v_min2 rfl T.n_min (Pv.aRcons (Pv.rV (Pv.v_len T.n_len (Pv.aRcons (Pv.rV (Pv.pe_V 0 (pv 0))) Pv.aRnil))) (Pv.aRcons (Pv.rV (Pv.v_len T.n_len (Pv.aRcons (Pv.rV (Pv.pe_V 1 (pv 1))) Pv.aRnil))) Pv.aRnil))))) (pw_and1 (Pv.t_cmp (Pv.c_eq hr) (Pv.rV (Pv.v_idx (Pv.rV (Pv.pe_V 0 (pv 0))) (Pv.rV (Pv.pe_V 2 (pv 2))))) (Pv.rV (Pv.v_idx (Pv.rV (Pv.pe_V 1 (pv 1))) (Pv.rV (Pv.pe_V 2 (pv 2))))))))) (Pv.s_one (Pv.s_set (i := 2) sc.nd (Pv.v_add (Pv.rV (Pv.pe_V 2 (pv 2))) (Pv.rV Pv.kInt))))) (Pv.s_one (Pv.s_ret (Pv.pe_V 2 (pv 2)))))))
abbrev st_difference : Stmt := topS 20
abbrev N_difference : List Str := ["one", "other", "at"]
theorem sc_difference : FnScope N_difference ["one", "other"] (defScope st_difference) := ⟨rfl, rfl, rfl, by decide +kernel, rfl, by decide +kernel, by decide +kernel⟩
theorem b_difference {f : Addr} {fd : FuncData} {k : Nat} {g : List PV → R PV} (T : Top K mg) (Fn : Fun K "difference" "difference" st_difference f fd) {k_first_unlike : Nat} {g_first_unlike : List PV → R PV} (C_first_unlike : CaV P w K mg base k_first_unlike "first_unlike" g_first_unlike) (h_first_unlike : k_first_unlike ≤ k) {k_difference : Nat} {g_difference : List PV → R PV} (C_difference : CaV P w K mg base k_difference "difference" g_difference) (h_difference : k_difference ≤ k) (hl : ∀ ds, g ds ≠ .bad → ds.length = 2) (hd : ∀ ds, g ds ≠ .bad → toV ((D_difference g_first_unlike g_difference) (fm0 3 ds)) = g ds) :
    FnOk P w K mg base (L2N.CX P w) (k + 1) f fd ["one", "other"] (spV K mg g) :=
  fn_V (d := (D_difference g_first_unlike g_difference)) Fn sc_difference hl hd (by
    intro cdv A outer s H E hcv hr
    have sc := sc_difference
    have tk : L2N.Takes (cxX P w K mg base N_difference "difference" st_difference f cdv A outer s H E) (wE E) := L2N.takes_of rfl rfl rfl rfl
    have hp : PassesOwn (model P w) (cxX P w K mg base N_difference "difference" st_difference f cdv A outer s H E).A (cxX P w K mg base N_difference "difference" st_difference f cdv A outer s H E).env (cxX P w K mg base N_difference "difference" st_difference f cdv A outer s H E).xe := passes_of rfl
    exact (Pv.s_cons (Pv.s_if (PW.pt (Pv.w_or (Pv.t_cmp (Pv.c_eq hr) (Pv.rV (Pv.pe_V 0 (pv 0))) (Pv.rV (Pv.pe_V 1 (pv 1)))) (Pv.w_or (Pv.tV_test (Pv.v_isi T.n_isinstance (Pv.rV (Pv.pe_V 0 (pv 0))) rfl T.n_int (by decide +kernel))) (pw_or1 (Pv.tV_test (Pv.v_isi T.n_isinstance (Pv.rV (Pv.pe_V 1 (pv 1))) rfl T.n_int (by decide +kernel))))))) (Pv.s_one (Pv.s_ret (Pv.v_tup Pv.aVnil))) Pv.s_nil) (Pv.s_cons (Pv.s_if (Pv.t_cmp (Pv.c_ne hr) (Pv.rV (Pv.v_isi T.n_isinstance (Pv.rV (Pv.pe_V 0 (pv 0))) rfl T.n_str (by decide +kernel))) (Pv.rV (Pv.v_isi T.n_isinstance (Pv.rV (Pv.pe_V 1 (pv 1))) rfl T.n_str (by decide +kernel)))) (Pv.s_one (Pv.s_ret (Pv.v_tup Pv.aVnil))) Pv.s_nil) (Pv.s_cons (Pv.s_set (i := 2) sc.nd (Pv.v_call C_first_unlike tk hr (Pv.aVcons (Pv.pe_V 0 (pv 0)) (Pv.aVcons (Pv.pe_V 1 (pv 1)) Pv.aVnil)) h_first_unlike)) (Pv.s_cons (Pv.s_if (PW.pt (Pv.w_or (Pv.tV_test (Pv.v_isi T.n_isinstance (Pv.rV (Pv.pe_V 0 (pv 0))) rfl T.n_str (by decide +kernel))) (pw_or1 (Pv.t_cmp Pv.c_ge (Pv.rV (Pv.pe_V 2 (pv 2))) (Pv.rV (Pv.v_min2 rfl T.n_min (Pv.aRcons (Pv.rV (Pv.v_len T.n_len (Pv.aRcons (Pv.rV (Pv.pe_V 0 (pv 0))) Pv.aRnil))) (Pv.aRcons (Pv.rV (Pv.v_len T.n_len (Pv.aRcons (Pv.rV (Pv.pe_V 1 (pv 1))) Pv.aRnil))) Pv.aRnil)))))))) (Pv.s_one (Pv.s_ret (Pv.v_tup (Pv.aVcons (Pv.pe_V 2 (pv 2)) Pv.aVnil)))) Pv.s_nil) (Pv.s_one (Pv.s_ret (Pv.v_add (Pv.rV (Pv.v_tup (Pv.aVcons (Pv.pe_V 2 (pv 2)) Pv.aVnil))) (Pv.rV (Pv.v_call C_difference tk hr (Pv.aVcons (Pv.v_idx (Pv.rV (Pv.pe_V 0 (pv 0))) (Pv.rV (Pv.pe_V 2 (pv 2)))) (Pv.aVcons (Pv.v_idx (Pv.rV (Pv.pe_V 1 (pv 1))) (Pv.rV (Pv.pe_V 2 (pv 2)))) Pv.aVnil)) h_difference))))))))))
abbrev st__law_cell : Stmt := topS 22
abbrev N__law_cell : List Str := ["script", "k"]
theorem sc__law_cell : FnScope N__law_cell ["script", "k"] (defScope st__law_cell) := ⟨rfl, rfl, rfl, by decide +kernel, rfl, by decide +kernel, by decide +kernel⟩
theorem b__law_cell {f : Addr} {fd : FuncData} {k : Nat} {g : List PV → R PV} (T : Top K mg) (Fn : Fun K "_law_cell" "_law_cell" st__law_cell f fd) (hl : ∀ ds, g ds ≠ .bad → ds.length = 2) (hd : ∀ ds, g ds ≠ .bad → toV (D__law_cell (fm0 2 ds)) = g ds) :
    FnOk P w K mg base (L2N.CX P w) (k + 1) f fd ["script", "k"] (spV K mg g) :=
  fn_V (d := D__law_cell) Fn sc__law_cell hl hd (by
    intro cdv A outer s H E hcv hr
    have sc := sc__law_cell
    have tk : L2N.Takes (cxX P w K mg base N__law_cell "_law_cell" st__law_cell f cdv A outer s H E) (wE E) := L2N.takes_of rfl rfl rfl rfl
    have hp : PassesOwn (model P w) (cxX P w K mg base N__law_cell "_law_cell" st__law_cell f cdv A outer s H E).A (cxX P w K mg base N__law_cell "_law_cell" st__law_cell f cdv A outer s H E).env (cxX P w K mg base N__law_cell "_law_cell" st__law_cell f cdv A outer s H E).xe := passes_of rfl
    exact (Pv.s_cons (Pv.s_if (Pv.t_cmp (Pv.c_eq hr) (Pv.rV (Pv.pe_V 0 (pv 0))) (Pv.rF (Pv.f_lst Pv.aVnil))) (Pv.s_one (Pv.s_ret (Pv.v_mul (Pv.rV (Pv.pe_V 1 (pv 1))) (Pv.rV Pv.kInt)))) Pv.s_nil) (Pv.s_one (Pv.s_ret (Pv.v_add (Pv.rV (Pv.v_idx (Pv.rV (Pv.pe_V 0 (pv 0))) (Pv.rV (Pv.v_mod (Pv.rV (Pv.pe_V 1 (pv 1))) (Pv.rV (Pv.v_len T.n_len (Pv.aRcons (Pv.rV (Pv.pe_V 0 (pv 0))) Pv.aRnil))))))) (Pv.rV (Pv.v_mul (Pv.rV (Pv.v_div (Pv.rV (Pv.pe_V 1 (pv 1))) (Pv.rV (Pv.v_len T.n_len (Pv.aRcons (Pv.rV (Pv.pe_V 0 (pv 0))) Pv.aRnil))))) (Pv.rV Pv.kInt))))))))
abbrev st__law_drawn : Stmt := topS 23
abbrev N__law_drawn : List Str := ["cell", "k", "more"]
theorem sc__law_drawn : FnScope N__law_drawn ["cell", "k"] (defScope st__law_drawn) := ⟨rfl, rfl, rfl, by decide +kernel, rfl, by decide +kernel, by decide +kernel⟩
theorem b__law_drawn {f : Addr} {fd : FuncData} {k : Nat} {g : List PV → R PV} (T : Top K mg) (Fn : Fun K "_law_drawn" "_law_drawn" st__law_drawn f fd) (hl : ∀ ds, g ds ≠ .bad → ds.length = 2) (hd : ∀ ds, g ds ≠ .bad → toV (D__law_drawn (fm0 3 ds)) = g ds) :
    FnOk P w K mg base (L2N.CX P w) (k + 1) f fd ["cell", "k"] (spV K mg g) :=
  fn_V (d := D__law_drawn) Fn sc__law_drawn hl hd (by
    intro cdv A outer s H E hcv hr
    have sc := sc__law_drawn
    have tk : L2N.Takes (cxX P w K mg base N__law_drawn "_law_drawn" st__law_drawn f cdv A outer s H E) (wE E) := L2N.takes_of rfl rfl rfl rfl
    have hp : PassesOwn (model P w) (cxX P w K mg base N__law_drawn "_law_drawn" st__law_drawn f cdv A outer s H E).A (cxX P w K mg base N__law_drawn "_law_drawn" st__law_drawn f cdv A outer s H E).env (cxX P w K mg base N__law_drawn "_law_drawn" st__law_drawn f cdv A outer s H E).xe := passes_of rfl
    exact (Pv.s_cons (Pv.s_set (i := 2) sc.nd (Pv.v_mod (Pv.rV (Pv.v_add (Pv.rV (Pv.v_mul (Pv.rV (Pv.pe_V 0 (pv 0))) (Pv.rV Pv.kInt))) (Pv.rV (Pv.v_mul (Pv.rV (Pv.v_add (Pv.rV (Pv.pe_V 1 (pv 1))) (Pv.rV Pv.kInt))) (Pv.rV Pv.kInt))))) (Pv.rV Pv.kInt))) (Pv.s_cons (Pv.s_set (i := 2) sc.nd (Pv.v_mod (Pv.rV (Pv.v_mul (Pv.rV (Pv.pe_V 2 (pv 2))) (Pv.rV (Pv.pe_V 2 (pv 2))))) (Pv.rV Pv.kInt))) (Pv.s_cons (Pv.s_set (i := 2) sc.nd (Pv.v_mul (Pv.rV (Pv.v_mul (Pv.rV (Pv.v_add (Pv.rV (Pv.v_mod (Pv.rV (Pv.pe_V 2 (pv 2))) (Pv.rV Pv.kInt))) (Pv.rV Pv.kInt))) (Pv.rV (Pv.v_add (Pv.rV (Pv.v_div (Pv.rV (Pv.pe_V 2 (pv 2))) (Pv.rV Pv.kInt))) (Pv.rV Pv.kInt))))) (Pv.rV (Pv.pe_V 2 (pv 2))))) (Pv.s_one (Pv.s_ret (Pv.v_mod (Pv.rV (Pv.pe_V 2 (pv 2))) (Pv.rV Pv.kInt))))))))
abbrev st__law_signs : Stmt := topS 26
abbrev N__law_signs : List Str := []
theorem sc__law_signs : FnScope N__law_signs [] (defScope st__law_signs) := ⟨rfl, rfl, rfl, by decide +kernel, rfl, by decide +kernel, by decide +kernel⟩
theorem b__law_signs {f : Addr} {fd : FuncData} {k : Nat} {g : List PV → R PV} (T : Top K mg) (Fn : Fun K "_law_signs" "_law_signs" st__law_signs f fd) (hl : ∀ ds, g ds ≠ .bad → ds.length = 0) (hd : ∀ ds, g ds ≠ .bad → toV (D__law_signs (fm0 0 ds)) = g ds) :
    FnOk P w K mg base (L2N.CX P w) (k + 1) f fd [] (spV K mg g) :=
  fn_V (d := D__law_signs) Fn sc__law_signs hl hd (by
    intro cdv A outer s H E hcv hr
    have sc := sc__law_signs
    have tk : L2N.Takes (cxX P w K mg base N__law_signs "_law_signs" st__law_signs f cdv A outer s H E) (wE E) := L2N.takes_of rfl rfl rfl rfl
    have hp : PassesOwn (model P w) (cxX P w K mg base N__law_signs "_law_signs" st__law_signs f cdv A outer s H E).A (cxX P w K mg base N__law_signs "_law_signs" st__law_signs f cdv A outer s H E).env (cxX P w K mg base N__law_signs "_law_signs" st__law_signs f cdv A outer s H E).xe := passes_of rfl
    exact (Pv.s_one (Pv.s_ret Pv.kStr)))
abbrev st__law_value : Stmt := topS 27
abbrev N__law_value : List Str := ["more", "deep", "here", "way", "number", "signs", "many", "j"]
theorem sc__law_value : FnScope N__law_value ["more", "deep"] (defScope st__law_value) := ⟨rfl, rfl, rfl, by decide +kernel, rfl, by decide +kernel, by decide +kernel⟩
theorem b__law_value {f : Addr} {fd : FuncData} {k : Nat} {g : List PV → R PV} (T : Top K mg) (Fn : Fun K "_law_value" "_law_value" st__law_value f fd) {k__law_signs : Nat} {g__law_signs : List PV → R PV} (C__law_signs : CaV P w K mg base k__law_signs "_law_signs" g__law_signs) (h__law_signs : k__law_signs ≤ k) {k__law_drawn : Nat} {g__law_drawn : List PV → R PV} (C__law_drawn : CaV P w K mg base k__law_drawn "_law_drawn" g__law_drawn) (h__law_drawn : k__law_drawn ≤ k) {k__law_value : Nat} {g__law_value : List PV → R PV} (C__law_value : CaV P w K mg base k__law_value "_law_value" g__law_value) (h__law_value : k__law_value ≤ k) (hl : ∀ ds, g ds ≠ .bad → ds.length = 2) (hd : ∀ ds, g ds ≠ .bad → toV ((D__law_value g__law_signs g__law_drawn g__law_value) (fm0 8 ds)) = g ds) :
    FnOk P w K mg base (L2N.CX P w) (k + 1) f fd ["more", "deep"] (spV K mg g) :=
  fn_V (d := (D__law_value g__law_signs g__law_drawn g__law_value)) Fn sc__law_value hl hd (by
    intro cdv A outer s H E hcv hr
    have sc := sc__law_value
    have tk : L2N.Takes (cxX P w K mg base N__law_value "_law_value" st__law_value f cdv A outer s H E) (wE E) := L2N.takes_of rfl rfl rfl rfl
    have hp : PassesOwn (model P w) (cxX P w K mg base N__law_value "_law_value" st__law_value f cdv A outer s H E).A (cxX P w K mg base N__law_value "_law_value" st__law_value f cdv A outer s H E).env (cxX P w K mg base N__law_value "_law_value" st__law_value f cdv A outer s H E).xe := passes_of rfl
    exact (Pv.s_cons (Pv.s_set (i := 2) sc.nd (Pv.v_div (Pv.rV (Pv.pe_V 0 (pv 0))) (Pv.rV Pv.kInt))) (Pv.s_cons (Pv.s_set (i := 3) sc.nd (Pv.v_mod (Pv.rV (Pv.pe_V 0 (pv 0))) (Pv.rV Pv.kInt))) (Pv.s_cons (Pv.s_if (PW.pt (Pv.w_or (Pv.t_cmp Pv.c_lt (Pv.rV (Pv.pe_V 3 (pv 3))) (Pv.rV Pv.kInt)) (pw_or1 (PW.pt (Pv.w_and (Pv.t_cmp Pv.c_gt (Pv.rV (Pv.pe_V 3 (pv 3))) (Pv.rV Pv.kInt)) (pw_and1 (Pv.t_cmp (Pv.c_eq hr) (Pv.rV (Pv.pe_V 1 (pv 1))) (Pv.rV Pv.kInt)))))))) (Pv.s_cons (Pv.s_set (i := 4) sc.nd (Pv.v_mod (Pv.rV (Pv.v_div (Pv.rV (Pv.pe_V 2 (pv 2))) (Pv.rV Pv.kInt))) (Pv.rV (Pv.v_idx (Pv.rF (Pv.f_lst (Pv.aVcons Pv.kInt (Pv.aVcons Pv.kInt (Pv.aVcons Pv.kInt (Pv.aVcons Pv.kInt Pv.aVnil)))))) (Pv.rV (Pv.v_mod (Pv.rV (Pv.pe_V 2 (pv 2))) (Pv.rV Pv.kInt))))))) (Pv.s_one (Pv.s_ret (Pv.v_idx (Pv.rF (Pv.f_lst (Pv.aVcons (Pv.pe_V 4 (pv 4)) (Pv.aVcons (Pv.v_sub (Pv.rV Pv.kInt) (Pv.rV (Pv.pe_V 4 (pv 4)))) Pv.aVnil)))) (Pv.rV (Pv.v_mod (Pv.rV (Pv.v_div (Pv.rV (Pv.pe_V 2 (pv 2))) (Pv.rV Pv.kInt))) (Pv.rV Pv.kInt))))))) Pv.s_nil) (Pv.s_cons (Pv.s_if (Pv.t_cmp Pv.c_lt (Pv.rV (Pv.pe_V 3 (pv 3))) (Pv.rV Pv.kInt)) (Pv.s_cons (Pv.s_set (i := 5) sc.nd (Pv.v_idx (Pv.rF (Pv.f_lst (Pv.aVcons Pv.kStr (Pv.aVcons (Pv.v_call0 C__law_signs tk hr h__law_signs) Pv.aVnil)))) (Pv.rV (Pv.v_mod (Pv.rV (Pv.pe_V 2 (pv 2))) (Pv.rV Pv.kInt))))) (Pv.s_one (Pv.s_ret (Pv.v_join (Pv.rV Pv.kStr) (Pv.rF (Pv.f_lc [(Str.ofString "j", 7)] rfl rfl sc.nd (Pv.iR (Pv.i_rg1 T.n_range (Pv.aRcons (Pv.rV (Pv.v_idx (Pv.rF (Pv.f_lst (Pv.aVcons Pv.kInt (Pv.aVcons Pv.kInt (Pv.aVcons Pv.kInt (Pv.aVcons Pv.kInt (Pv.aVcons Pv.kInt Pv.aVnil))))))) (Pv.rV (Pv.v_mod (Pv.rV (Pv.v_div (Pv.rV (Pv.pe_V 2 (pv 2))) (Pv.rV Pv.kInt))) (Pv.rV Pv.kInt))))) Pv.aRnil))) (blkOk_by (N := N__law_value) (sc := defScope st__law_value) (by decide +kernel)) (fun _ _ _ _ _ => (pg_name (i := 7) sc.nd rfl (by first | exact Or.inl rfl | exact Or.inr rfl))) (Pv.tg_name 7) (by decide) (fun _ _ _ _ _ => Pv.tests_nil) (fun _ _ _ _ _ => (Pv.v_idx (Pv.rV (Pv.pe_V 5 (pv 5))) (Pv.rV (Pv.v_mod (Pv.rV (Pv.v_call C__law_drawn Pv.takes0 hr (Pv.aVcons (Pv.pe_V 2 (pv 2)) (Pv.aVcons (Pv.pe_V 7 (pv 7)) Pv.aVnil)) h__law_drawn)) (Pv.rV (Pv.v_len T.n_len (Pv.aRcons (Pv.rV (Pv.pe_V 5 (pv 5))) Pv.aRnil))))))))))))) Pv.s_nil) (Pv.s_cons (Pv.s_set (i := 6) sc.nd (Pv.v_idx (Pv.rF (Pv.f_lst (Pv.aVcons Pv.kInt (Pv.aVcons Pv.kInt (Pv.aVcons Pv.kInt (Pv.aVcons Pv.kInt (Pv.aVcons (Pv.v_idx (Pv.rF (Pv.f_lst (Pv.aVcons Pv.kInt (Pv.aVcons Pv.kInt Pv.aVnil)))) (Pv.rV (Pv.v_int1 T.n_int (Pv.aRcons (Pv.rV (Pv.v_cmp (Pv.c_eq hr) (Pv.rV (Pv.pe_V 1 (pv 1))) (Pv.rV Pv.kInt))) Pv.aRnil)))) Pv.aVnil))))))) (Pv.rV (Pv.v_mod (Pv.rV (Pv.pe_V 2 (pv 2))) (Pv.rV Pv.kInt))))) (Pv.s_one (Pv.s_ret (Pv.v_tuple T.n_tuple (Pv.aRcons (Pv.rF (Pv.f_lc [(Str.ofString "j", 7)] rfl rfl sc.nd (Pv.iR (Pv.i_rg1 T.n_range (Pv.aRcons (Pv.rV (Pv.pe_V 6 (pv 6))) Pv.aRnil))) (blkOk_by (N := N__law_value) (sc := defScope st__law_value) (by decide +kernel)) (fun _ _ _ _ _ => (pg_name (i := 7) sc.nd rfl (by first | exact Or.inl rfl | exact Or.inr rfl))) (Pv.tg_name 7) (by decide) (fun _ _ _ _ _ => Pv.tests_nil) (fun _ _ _ _ _ => (Pv.v_call C__law_value Pv.takes0 hr (Pv.aVcons (Pv.v_call C__law_drawn Pv.takes0 hr (Pv.aVcons (Pv.pe_V 2 (pv 2)) (Pv.aVcons (Pv.pe_V 7 (pv 7)) Pv.aVnil)) h__law_drawn) (Pv.aVcons (Pv.v_sub (Pv.rV (Pv.pe_V 1 (pv 1))) (Pv.rV Pv.kInt)) Pv.aVnil)) h__law_value)))) Pv.aRnil))))))))))
abbrev st__law_bent : Stmt := topS 28
abbrev N__law_bent : List Str := ["value", "more", "at"]
theorem sc__law_bent : FnScope N__law_bent ["value", "more"] (defScope st__law_bent) := ⟨rfl, rfl, rfl, by decide +kernel, rfl, by decide +kernel, by decide +kernel⟩
theorem b__law_bent {f : Addr} {fd : FuncData} {k : Nat} {g : List PV → R PV} (T : Top K mg) (Fn : Fun K "_law_bent" "_law_bent" st__law_bent f fd) {k__law_bent : Nat} {g__law_bent : List PV → R PV} (C__law_bent : CaV P w K mg base k__law_bent "_law_bent" g__law_bent) (h__law_bent : k__law_bent ≤ k) {k__law_drawn : Nat} {g__law_drawn : List PV → R PV} (C__law_drawn : CaV P w K mg base k__law_drawn "_law_drawn" g__law_drawn) (h__law_drawn : k__law_drawn ≤ k) (hl : ∀ ds, g ds ≠ .bad → ds.length = 2) (hd : ∀ ds, g ds ≠ .bad → toV ((D__law_bent g__law_bent g__law_drawn) (fm0 3 ds)) = g ds) :
    FnOk P w K mg base (L2N.CX P w) (k + 1) f fd ["value", "more"] (spV K mg g) :=
  fn_V (d := (D__law_bent g__law_bent g__law_drawn)) Fn sc__law_bent hl hd (by
    intro cdv A outer s H E hcv hr
    have sc := sc__law_bent
    have tk : L2N.Takes (cxX P w K mg base N__law_bent "_law_bent" st__law_bent f cdv A outer s H E) (wE E) := L2N.takes_of rfl rfl rfl rfl
    have hp : PassesOwn (model P w) (cxX P w K mg base N__law_bent "_law_bent" st__law_bent f cdv A outer s H E).A (cxX P w K mg base N__law_bent "_law_bent" st__law_bent f cdv A outer s H E).env (cxX P w K mg base N__law_bent "_law_bent" st__law_bent f cdv A outer s H E).xe := passes_of rfl
    exact (Pv.s_cons (Pv.s_if (Pv.tV_test (Pv.v_isi T.n_isinstance (Pv.rV (Pv.pe_V 0 (pv 0))) rfl T.n_int (by decide +kernel))) (Pv.s_one (Pv.s_ret (Pv.pe_ifS Pv.stGV (Pv.t_cmp Pv.c_lt (Pv.rV (Pv.v_abs T.n_abs (Pv.aRcons (Pv.rV (Pv.pe_V 0 (pv 0))) Pv.aRnil))) (Pv.rV Pv.kInt)) (Pv.v_idx (Pv.rF (Pv.f_lst (Pv.aVcons (Pv.v_add (Pv.rV (Pv.pe_V 0 (pv 0))) (Pv.rV Pv.kInt)) (Pv.aVcons (Pv.v_sub (Pv.rV Pv.kInt) (Pv.rV (Pv.pe_V 0 (pv 0)))) (Pv.aVcons Pv.kInt (Pv.aVcons Pv.kStr Pv.aVnil)))))) (Pv.rV (Pv.v_mod (Pv.rV (Pv.pe_V 1 (pv 1))) (Pv.rV Pv.kInt)))) Pv.kInt))) Pv.s_nil) (Pv.s_cons (Pv.s_if (PW.pt (Pv.w_or (Pv.t_cmp (Pv.c_eq hr) (Pv.rV (Pv.v_len T.n_len (Pv.aRcons (Pv.rV (Pv.pe_V 0 (pv 0))) Pv.aRnil))) (Pv.rV Pv.kInt)) (pw_or1 (Pv.t_cmp (Pv.c_eq hr) (Pv.rV (Pv.v_mod (Pv.rV (Pv.pe_V 1 (pv 1))) (Pv.rV Pv.kInt))) (Pv.rV Pv.kInt))))) (Pv.s_one (Pv.s_ret (Pv.v_idx (Pv.rF (Pv.f_lst (Pv.aVcons (Pv.v_add (Pv.rV (Pv.v_slice (Pv.rV (Pv.pe_V 0 (pv 0))) Pv.o_no (Pv.o_so Pv.kInt))) (Pv.rV (Pv.pe_ifS Pv.stGV (Pv.tV_test (Pv.v_isi T.n_isinstance (Pv.rV (Pv.pe_V 0 (pv 0))) rfl T.n_str (by decide +kernel))) Pv.kStr (Pv.v_tup (Pv.aVcons Pv.kInt Pv.aVnil))))) (Pv.aVcons Pv.kInt Pv.aVnil)))) (Pv.rV (Pv.v_mod (Pv.rV (Pv.v_div (Pv.rV (Pv.pe_V 1 (pv 1))) (Pv.rV Pv.kInt))) (Pv.rV Pv.kInt)))))) Pv.s_nil) (Pv.s_cons (Pv.s_set (i := 2) sc.nd (Pv.v_mod (Pv.rV (Pv.v_div (Pv.rV (Pv.pe_V 1 (pv 1))) (Pv.rV Pv.kInt))) (Pv.rV (Pv.v_len T.n_len (Pv.aRcons (Pv.rV (Pv.pe_V 0 (pv 0))) Pv.aRnil))))) (Pv.s_cons (Pv.s_if (Pv.t_cmp (Pv.c_eq hr) (Pv.rV (Pv.v_mod (Pv.rV (Pv.pe_V 1 (pv 1))) (Pv.rV Pv.kInt))) (Pv.rV Pv.kInt)) (Pv.s_one (Pv.s_ret (Pv.v_add (Pv.rV (Pv.v_slice (Pv.rV (Pv.pe_V 0 (pv 0))) Pv.o_no (Pv.o_so (Pv.pe_V 2 (pv 2))))) (Pv.rV (Pv.v_slice (Pv.rV (Pv.pe_V 0 (pv 0))) (Pv.o_so (Pv.v_add (Pv.rV (Pv.pe_V 2 (pv 2))) (Pv.rV Pv.kInt))) Pv.o_no))))) Pv.s_nil) (Pv.s_cons (Pv.s_if (Pv.tV_test (Pv.v_isi T.n_isinstance (Pv.rV (Pv.pe_V 0 (pv 0))) rfl T.n_str (by decide +kernel))) (Pv.s_one (Pv.s_ret (Pv.v_add (Pv.rV (Pv.v_add (Pv.rV (Pv.v_slice (Pv.rV (Pv.pe_V 0 (pv 0))) Pv.o_no (Pv.o_so (Pv.pe_V 2 (pv 2))))) (Pv.rV (Pv.v_idx (Pv.rV Pv.kStr) (Pv.rV (Pv.v_mod (Pv.rV (Pv.v_div (Pv.rV (Pv.pe_V 1 (pv 1))) (Pv.rV Pv.kInt))) (Pv.rV Pv.kInt))))))) (Pv.rV (Pv.v_slice (Pv.rV (Pv.pe_V 0 (pv 0))) (Pv.o_so (Pv.v_add (Pv.rV (Pv.pe_V 2 (pv 2))) (Pv.rV Pv.kInt))) Pv.o_no))))) Pv.s_nil) (Pv.s_one (Pv.s_ret (Pv.v_add (Pv.rV (Pv.v_add (Pv.rV (Pv.v_slice (Pv.rV (Pv.pe_V 0 (pv 0))) Pv.o_no (Pv.o_so (Pv.pe_V 2 (pv 2))))) (Pv.rV (Pv.v_tup (Pv.aVcons (Pv.v_call C__law_bent tk hr (Pv.aVcons (Pv.v_idx (Pv.rV (Pv.pe_V 0 (pv 0))) (Pv.rV (Pv.pe_V 2 (pv 2)))) (Pv.aVcons (Pv.v_call C__law_drawn tk hr (Pv.aVcons (Pv.pe_V 1 (pv 1)) (Pv.aVcons Pv.kInt Pv.aVnil)) h__law_drawn) Pv.aVnil)) h__law_bent) Pv.aVnil))))) (Pv.rV (Pv.v_slice (Pv.rV (Pv.pe_V 0 (pv 0))) (Pv.o_so (Pv.v_add (Pv.rV (Pv.pe_V 2 (pv 2))) (Pv.rV Pv.kInt))) Pv.o_no)))))))))))
abbrev st__law_due : Stmt := topS 29
abbrev N__law_due : List Str := ["one", "other", "at"]
theorem sc__law_due : FnScope N__law_due ["one", "other"] (defScope st__law_due) := ⟨rfl, rfl, rfl, by decide +kernel, rfl, by decide +kernel, by decide +kernel⟩
theorem b__law_due {f : Addr} {fd : FuncData} {k : Nat} {g : List PV → R PV} (T : Top K mg) (Fn : Fun K "_law_due" "_law_due" st__law_due f fd) {k__law_due : Nat} {g__law_due : List PV → R PV} (C__law_due : CaV P w K mg base k__law_due "_law_due" g__law_due) (h__law_due : k__law_due ≤ k) (hl : ∀ ds, g ds ≠ .bad → ds.length = 2) (hd : ∀ ds, g ds ≠ .bad → toV ((D__law_due g__law_due) (fm0 3 ds)) = g ds) :
    FnOk P w K mg base (L2N.CX P w) (k + 1) f fd ["one", "other"] (spV K mg g) :=
  fn_V (d := (D__law_due g__law_due)) Fn sc__law_due hl hd (by
    intro cdv A outer s H E hcv hr
    have sc := sc__law_due
    have tk : L2N.Takes (cxX P w K mg base N__law_due "_law_due" st__law_due f cdv A outer s H E) (wE E) := L2N.takes_of rfl rfl rfl rfl
    have hp : PassesOwn (model P w) (cxX P w K mg base N__law_due "_law_due" st__law_due f cdv A outer s H E).A (cxX P w K mg base N__law_due "_law_due" st__law_due f cdv A outer s H E).env (cxX P w K mg base N__law_due "_law_due" st__law_due f cdv A outer s H E).xe := passes_of rfl
    exact (Pv.s_cons (Pv.s_if (PW.pt (Pv.w_or (Pv.t_cmp (Pv.c_eq hr) (Pv.rV (Pv.pe_V 0 (pv 0))) (Pv.rV (Pv.pe_V 1 (pv 1)))) (Pv.w_or (Pv.tV_test (Pv.v_isi T.n_isinstance (Pv.rV (Pv.pe_V 0 (pv 0))) rfl T.n_int (by decide +kernel))) (pw_or1 (Pv.tV_test (Pv.v_isi T.n_isinstance (Pv.rV (Pv.pe_V 1 (pv 1))) rfl T.n_int (by decide +kernel))))))) (Pv.s_one (Pv.s_ret (Pv.v_tup Pv.aVnil))) Pv.s_nil) (Pv.s_cons (Pv.s_if (Pv.t_cmp (Pv.c_ne hr) (Pv.rV (Pv.v_isi T.n_isinstance (Pv.rV (Pv.pe_V 0 (pv 0))) rfl T.n_str (by decide +kernel))) (Pv.rV (Pv.v_isi T.n_isinstance (Pv.rV (Pv.pe_V 1 (pv 1))) rfl T.n_str (by decide +kernel)))) (Pv.s_one (Pv.s_ret (Pv.v_tup Pv.aVnil))) Pv.s_nil) (Pv.s_cons (Pv.s_for [2] hp rfl (Pv.i_rg1 T.n_range (Pv.aRcons (Pv.rV (Pv.v_max2 rfl T.n_max (Pv.aRcons (Pv.rV (Pv.v_len T.n_len (Pv.aRcons (Pv.rV (Pv.pe_V 0 (pv 0))) Pv.aRnil))) (Pv.aRcons (Pv.rV (Pv.v_len T.n_len (Pv.aRcons (Pv.rV (Pv.pe_V 1 (pv 1))) Pv.aRnil))) Pv.aRnil)))) Pv.aRnil)) (pg_name (i := 2) sc.nd rfl (by first | exact Or.inl rfl | exact Or.inr rfl)) (Pv.tg_name 2) (Pv.s_one (Pv.s_if (Pv.t_cmp (Pv.c_ne hr) (Pv.rV (Pv.v_slice (Pv.rV (Pv.pe_V 0 (pv 0))) (Pv.o_so (Pv.pe_V 2 (pv 2))) (Pv.o_so (Pv.v_add (Pv.rV (Pv.pe_V 2 (pv 2))) (Pv.rV Pv.kInt))))) (Pv.rV (Pv.v_slice (Pv.rV (Pv.pe_V 1 (pv 1))) (Pv.o_so (Pv.pe_V 2 (pv 2))) (Pv.o_so (Pv.v_add (Pv.rV (Pv.pe_V 2 (pv 2))) (Pv.rV Pv.kInt)))))) (Pv.s_cons (Pv.s_if (PW.pt (Pv.w_or (Pv.tV_test (Pv.v_isi T.n_isinstance (Pv.rV (Pv.pe_V 0 (pv 0))) rfl T.n_str (by decide +kernel))) (Pv.w_or (Pv.t_cmp Pv.c_ge (Pv.rV (Pv.pe_V 2 (pv 2))) (Pv.rV (Pv.v_len T.n_len (Pv.aRcons (Pv.rV (Pv.pe_V 0 (pv 0))) Pv.aRnil)))) (pw_or1 (Pv.t_cmp Pv.c_ge (Pv.rV (Pv.pe_V 2 (pv 2))) (Pv.rV (Pv.v_len T.n_len (Pv.aRcons (Pv.rV (Pv.pe_V 1 (pv 1))) Pv.aRnil)))))))) (Pv.s_one (Pv.s_ret (Pv.v_tup (Pv.aVcons (Pv.pe_V 2 (pv 2)) Pv.aVnil)))) Pv.s_nil) (Pv.s_one (Pv.s_ret (Pv.v_add (Pv.rV (Pv.v_tup (Pv.aVcons (Pv.pe_V 2 (pv 2)) Pv.aVnil))) (Pv.rV (Pv.v_call C__law_due tk hr (Pv.aVcons (Pv.v_idx (Pv.rV (Pv.pe_V 0 (pv 0))) (Pv.rV (Pv.pe_V 2 (pv 2)))) (Pv.aVcons (Pv.v_idx (Pv.rV (Pv.pe_V 1 (pv 1))) (Pv.rV (Pv.pe_V 2 (pv 2)))) Pv.aVnil)) h__law_due)))))) Pv.s_nil))) (Pv.s_one (Pv.s_ret (Pv.v_tup Pv.aVnil)))))))
abbrev st__law_none : Stmt := topS 30
abbrev N__law_none : List Str := ["found"]
theorem sc__law_none : FnScope N__law_none [] (defScope st__law_none) := ⟨rfl, rfl, rfl, by decide +kernel, rfl, by decide +kernel, by decide +kernel⟩
theorem b__law_none {f : Addr} {fd : FuncData} {k : Nat} {g : List PV → R (List PV)} (T : Top K mg) (Fn : Fun K "_law_none" "_law_none" st__law_none f fd) (hl : ∀ ds, g ds ≠ .bad → ds.length = 0) (hd : ∀ ds, g ds ≠ .bad → toF (D__law_none (fm0 1 ds)) = g ds) :
    FnOk P w K mg base (L2N.CX P w) (k + 1) f fd [] (spF K mg g) :=
  fn_F (d := D__law_none) Fn sc__law_none hl hd (by
    intro cdv A outer s H E hcv hr
    have sc := sc__law_none
    have tk : L2N.Takes (cxX P w K mg base N__law_none "_law_none" st__law_none f cdv A outer s H E) (wE E) := L2N.takes_of rfl rfl rfl rfl
    have hp : PassesOwn (model P w) (cxX P w K mg base N__law_none "_law_none" st__law_none f cdv A outer s H E).A (cxX P w K mg base N__law_none "_law_none" st__law_none f cdv A outer s H E).env (cxX P w K mg base N__law_none "_law_none" st__law_none f cdv A outer s H E).xe := passes_of rfl
    exact (Pv.s_cons (Pv.s_set (i := 0) sc.nd (Pv.vF (Pv.f_lst (Pv.aVcons Pv.kInt (Pv.aVcons (Pv.v_neg (Pv.rV Pv.kInt)) (Pv.aVcons Pv.kBl (Pv.aVcons Pv.kBl (Pv.aVcons Pv.kNon (Pv.aVcons (Pv.v_mulS (Pv.rV Pv.kStr) (Pv.rV Pv.kInt)) (Pv.aVcons Pv.kStr (Pv.aVcons Pv.kStr (Pv.aVcons (Pv.v_mulT (Pv.rV (Pv.v_tup (Pv.aVcons Pv.kInt Pv.aVnil))) (Pv.rV Pv.kInt)) (Pv.aVcons (Pv.v_tup (Pv.aVcons Pv.kNon Pv.aVnil)) (Pv.aVcons (Pv.v_tup (Pv.aVcons (Pv.v_tup (Pv.aVcons Pv.kInt (Pv.aVcons Pv.kBl Pv.aVnil))) Pv.aVnil)) (Pv.aVcons (Pv.vF (Pv.f_lst (Pv.aVcons Pv.kInt Pv.aVnil))) (Pv.aVcons (Pv.vF (Pv.f_lst Pv.aVnil)) (Pv.aVcons Pv.v_dic0 Pv.aVnil))))))))))))))))) (Pv.s_one (Pv.s_retF (Pv.f_cat (Pv.rV (Pv.pe_V 0 (pv 0))) (Pv.rF (Pv.f_lst (Pv.aVcons (Pv.v_tup (Pv.aVcons (Pv.v_tup (Pv.aVcons (Pv.v_tup (Pv.aVcons (Pv.v_tup (Pv.aVcons Pv.kInt Pv.aVnil)) Pv.aVnil)) Pv.aVnil)) Pv.aVnil)) (Pv.aVcons (Pv.v_tup (Pv.aVcons (Pv.v_tup (Pv.aVcons (Pv.v_tup (Pv.aVcons (Pv.v_tup Pv.aVnil) Pv.aVnil)) Pv.aVnil)) Pv.aVnil)) (Pv.aVcons (Pv.v_tup (Pv.aVcons (Pv.v_mulS (Pv.rV Pv.kStr) (Pv.rV Pv.kInt)) Pv.aVnil)) (Pv.aVcons (Pv.v_tup (Pv.aVcons Pv.kInt (Pv.aVcons (Pv.v_tup (Pv.aVcons Pv.kInt (Pv.aVcons (Pv.v_tup (Pv.aVcons Pv.kInt (Pv.aVcons (Pv.v_tup (Pv.aVcons Pv.kInt Pv.aVnil)) Pv.aVnil))) Pv.aVnil))) Pv.aVnil))) Pv.aVnil)))))))))))
abbrev st_law : Stmt := topS 31
abbrev N_law : List Str := ["script", "k", "more", "one", "others", "j", "other", "told", "none"]
theorem sc_law : FnScope N_law ["script"] (defScope st_law) := ⟨rfl, rfl, rfl, by decide +kernel, rfl, by decide +kernel, by decide +kernel⟩
theorem b_law {f : Addr} {fd : FuncData} {k : Nat} {g : List PV → R PV} (T : Top K mg) (Fn : Fun K "law" "law" st_law f fd) {kt : Nat} (ht : kt + 2 ≤ k) (TD : Told P w K mg base 1 "_law_told") (LA0 : LamAt base mg fd.code (qn "law")) {k__law_drawn : Nat} {g__law_drawn : List PV → R PV} (C__law_drawn : CaV P w K mg base k__law_drawn "_law_drawn" g__law_drawn) (h__law_drawn : k__law_drawn ≤ k) {k__law_cell : Nat} {g__law_cell : List PV → R PV} (C__law_cell : CaV P w K mg base k__law_cell "_law_cell" g__law_cell) (h__law_cell : k__law_cell ≤ k) {k__law_value : Nat} {g__law_value : List PV → R PV} (C__law_value : CaV P w K mg base k__law_value "_law_value" g__law_value) (h__law_value : k__law_value ≤ k) {k__law_bent : Nat} {g__law_bent : List PV → R PV} (C__law_bent : CaV P w K mg base k__law_bent "_law_bent" g__law_bent) (h__law_bent : k__law_bent ≤ k) {k_need_value : Nat} {g_need_value : List PV → R PV} (C_need_value : CaV P w K mg base k_need_value "need_value" g_need_value) (hl_need_value : k_need_value ≤ kt) {k_difference : Nat} {g_difference : List PV → R PV} (C_difference : CaV P w K mg base k_difference "difference" g_difference) (h_difference : k_difference ≤ k) (hl_difference : k_difference ≤ kt) {k__law_due : Nat} {g__law_due : List PV → R PV} (C__law_due : CaV P w K mg base k__law_due "_law_due" g__law_due) (h__law_due : k__law_due ≤ k) {k__law_none : Nat} {g__law_none : List PV → R (List PV)} (C__law_none : CaF P w K mg base k__law_none "_law_none" g__law_none) (h__law_none : k__law_none ≤ k) (hl : ∀ ds, g ds ≠ .bad → ds.length = 1) (hd : ∀ ds, g ds ≠ .bad → toV ((D_law g__law_drawn g__law_cell g__law_value g__law_bent g_need_value g_difference g__law_due g__law_none) (fm0 9 ds)) = g ds) :
    FnOk P w K mg base (L2N.CX P w) (k + 1) f fd ["script"] (spV K mg g) :=
  fn_V (d := (D_law g__law_drawn g__law_cell g__law_value g__law_bent g_need_value g_difference g__law_due g__law_none)) Fn sc_law hl hd (by
    intro cdv A outer s H E hcv hr
    have sc := sc_law
    have LA : LamAt base mg cdv (qn "law") := hcv ▸ LA0
    have tk : L2N.Takes (cxX P w K mg base N_law "law" st_law f cdv A outer s H E) (wE E) := L2N.takes_of rfl rfl rfl rfl
    have hp : PassesOwn (model P w) (cxX P w K mg base N_law "law" st_law f cdv A outer s H E).A (cxX P w K mg base N_law "law" st_law f cdv A outer s H E).env (cxX P w K mg base N_law "law" st_law f cdv A outer s H E).xe := passes_of rfl
    exact (Pv.s_cons (Pv.s_for [1, 2, 3, 4, 5, 6, 7, 8] hp rfl (Pv.i_rg1 T.n_range (Pv.aRcons (Pv.rV (Pv.v_max2 rfl T.n_max (Pv.aRcons (Pv.rV Pv.kInt) (Pv.aRcons (Pv.rV (Pv.v_min2 rfl T.n_min (Pv.aRcons (Pv.rV Pv.kInt) (Pv.aRcons (Pv.rV (Pv.v_len T.n_len (Pv.aRcons (Pv.rV (Pv.pe_V 0 (pv 0))) Pv.aRnil))) Pv.aRnil)))) Pv.aRnil)))) Pv.aRnil)) (pg_name (i := 1) sc.nd rfl (by first | exact Or.inl rfl | exact Or.inr rfl)) (Pv.tg_name 1) (Pv.s_cons (Pv.s_set (i := 2) sc.nd (Pv.v_call C__law_drawn tk hr (Pv.aVcons (Pv.v_call C__law_cell tk hr (Pv.aVcons (Pv.pe_V 0 (pv 0)) (Pv.aVcons (Pv.pe_V 1 (pv 1)) Pv.aVnil)) h__law_cell) (Pv.aVcons (Pv.pe_V 1 (pv 1)) Pv.aVnil)) h__law_drawn)) (Pv.s_cons (Pv.s_set (i := 3) sc.nd (Pv.v_call C__law_value tk hr (Pv.aVcons (Pv.v_call C__law_drawn tk hr (Pv.aVcons (Pv.pe_V 2 (pv 2)) (Pv.aVcons Pv.kInt Pv.aVnil)) h__law_drawn) (Pv.aVcons Pv.kInt Pv.aVnil)) h__law_value)) (Pv.s_cons (Pv.s_setF (i := 4) sc.nd (Pv.f_lst (Pv.aVcons (Pv.pe_V 3 (pv 3)) (Pv.aVcons (Pv.v_call C__law_value tk hr (Pv.aVcons (Pv.v_call C__law_drawn tk hr (Pv.aVcons (Pv.pe_V 2 (pv 2)) (Pv.aVcons Pv.kInt Pv.aVnil)) h__law_drawn) (Pv.aVcons Pv.kInt Pv.aVnil)) h__law_value) Pv.aVnil)))) (Pv.s_cons (Pv.s_for [5] hp rfl (Pv.i_rg1 T.n_range (Pv.aRcons (Pv.rV Pv.kInt) Pv.aRnil)) (pg_name (i := 5) sc.nd rfl (by first | exact Or.inl rfl | exact Or.inr rfl)) (Pv.tg_name 5) (Pv.s_one (Pv.s_app 4 (pv 4) (Pv.v_call C__law_bent tk hr (Pv.aVcons (Pv.pe_ifS Pv.stGV (Pv.t_cmp (Pv.c_eq hr) (Pv.rV (Pv.v_mod (Pv.rV (Pv.pe_V 5 (pv 5))) (Pv.rV Pv.kInt))) (Pv.rV Pv.kInt)) (Pv.v_idx (Pv.pe_R 4 (pv 4)) (Pv.rV (Pv.v_neg (Pv.rV Pv.kInt)))) (Pv.pe_V 3 (pv 3))) (Pv.aVcons (Pv.v_call C__law_drawn tk hr (Pv.aVcons (Pv.pe_V 2 (pv 2)) (Pv.aVcons (Pv.v_add (Pv.rV Pv.kInt) (Pv.rV (Pv.pe_V 5 (pv 5)))) Pv.aVnil)) h__law_drawn) Pv.aVnil)) h__law_bent)))) (Pv.s_frz 4 (Pv.s_cons (Pv.s_for [6, 7] hp rfl (Pv.i_lst (Pv.pe_V 4 (pv 4))) (pg_name (i := 6) sc.nd rfl (by first | exact Or.inl rfl | exact Or.inr rfl)) (Pv.tg_name 6) (Pv.s_cons (Pv.s_if (Pv.t_notN (Pv.rV (Pv.v_told (k := kt) TD LA hr (LamX.lamS_by (sc := defScope st_law) (by decide +kernel)) (fun A outer s H E f c' hr => (Pv.v_call C_need_value Pv.lamN_takes hr (Pv.aVcons (Pv.pe_V 6 (pv 6)) Pv.aVnil) hl_need_value)) ht))) (Pv.s_one (Pv.s_ret Pv.kBl)) Pv.s_nil) (Pv.s_cons (Pv.s_set (i := 7) sc.nd (Pv.v_told (k := kt) TD LA hr (LamX.lamS_by (sc := defScope st_law) (by decide +kernel)) (fun A outer s H E f c' hr => (Pv.v_call C_difference Pv.lamN_takes hr (Pv.aVcons (Pv.pe_V 3 (pv 3)) (Pv.aVcons (Pv.pe_V 6 (pv 6)) Pv.aVnil)) hl_difference)) ht)) (Pv.s_one (Pv.s_if (PW.pt (Pv.w_or (Pv.t_not (Pv.tV_test (Pv.v_isi T.n_isinstance (Pv.rV (Pv.pe_V 7 (pv 7))) rfl T.n_tuple (by decide +kernel)))) (Pv.w_or (Pv.t_cmp (Pv.c_ne hr) (Pv.rV (Pv.pe_V 7 (pv 7))) (Pv.rV (Pv.v_call C__law_due tk hr (Pv.aVcons (Pv.pe_V 3 (pv 3)) (Pv.aVcons (Pv.pe_V 6 (pv 6)) Pv.aVnil)) h__law_due))) (pw_or1 (Pv.t_cmp (Pv.c_ne hr) (Pv.rV (Pv.v_call C_difference tk hr (Pv.aVcons (Pv.pe_V 6 (pv 6)) (Pv.aVcons (Pv.pe_V 3 (pv 3)) Pv.aVnil)) h_difference)) (Pv.rV (Pv.pe_V 7 (pv 7)))))))) (Pv.s_one (Pv.s_ret Pv.kBl)) Pv.s_nil))))) (Pv.s_cons (Pv.s_set (i := 8) sc.nd (Pv.v_idx (Pv.rF (Pv.f_call0 C__law_none tk hr h__law_none)) (Pv.rV (Pv.v_mod (Pv.rV (Pv.v_div (Pv.rV (Pv.pe_V 2 (pv 2))) (Pv.rV (Pv.v_pow (Pv.rV Pv.kInt) (Pv.rV Pv.kInt))))) (Pv.rV Pv.kInt))))) (Pv.s_cons (Pv.s_if (Pv.t_cmp (Pv.c_ne hr) (Pv.rV (Pv.v_told (k := kt) TD LA hr (LamX.lamS_by (sc := defScope st_law) (by decide +kernel)) (fun A outer s H E f c' hr => (Pv.v_call C_need_value Pv.lamN_takes hr (Pv.aVcons (Pv.pe_V 8 (pv 8)) Pv.aVnil) hl_need_value)) ht)) (Pv.rV (Pv.v_tup (Pv.aVcons Pv.kStr (Pv.aVcons Pv.kStr Pv.aVnil))))) (Pv.s_one (Pv.s_ret Pv.kBl)) Pv.s_nil) (Pv.s_one (Pv.s_if (Pv.t_cmp (Pv.c_ne hr) (Pv.rV (Pv.v_told (k := kt) TD LA hr (LamX.lamS_by (sc := defScope st_law) (by decide +kernel)) (fun A outer s H E f c' hr => (Pv.v_call C_need_value Pv.lamN_takes hr (Pv.aVcons (Pv.v_tup (Pv.aVcons Pv.kInt (Pv.aVcons (Pv.pe_V 8 (pv 8)) Pv.aVnil))) Pv.aVnil) hl_need_value)) ht)) (Pv.rV (Pv.v_tup (Pv.aVcons Pv.kStr (Pv.aVcons Pv.kStr Pv.aVnil))))) (Pv.s_one (Pv.s_ret Pv.kBl)) Pv.s_nil))))))))))) (Pv.s_one (Pv.s_ret Pv.kBl))))
abbrev st__law_word : Stmt := topS 24
abbrev N__law_word : List Str := ["e", "flags", "words", "flag"]
theorem sc__law_word : FnScope N__law_word ["e"] (defScope st__law_word) := ⟨rfl, rfl, rfl, by decide +kernel, rfl, by decide +kernel, by decide +kernel⟩
theorem word_ok {f : Addr} {fd : FuncData} (T : Top K mg) (Fn : Fun K "_law_word" "_law_word" st__law_word f fd) (hm : mg "_law_word" = some (.ref f)) (hb : Binds K fd ["e"] []) : Word P w K mg base 1 "_law_word" :=
  fn_word (k := 0) Fn sc__law_word rfl hm hb (by
    intro cdv A outer s H p e C d hc HE hmC hge hr
    have sc := sc__law_word
    exact (Pv.s_cons (Pv.s_set (i := 1) sc.nd (Pv.vF (Pv.f_lst (Pv.aVcons (Pv.v_isO T.wf hge hmC HE T.n_isinstance (pv 0) (by decide +kernel) rfl) (Pv.aVcons (Pv.v_isO T.wf hge hmC HE T.n_isinstance (pv 0) (by decide +kernel) rfl) (Pv.aVcons (Pv.v_isO T.wf hge hmC HE T.n_isinstance (pv 0) (by decide +kernel) rfl) (Pv.aVcons (Pv.v_isO T.wf hge hmC HE T.n_isinstance (pv 0) (by decide +kernel) rfl) Pv.aVnil))))))) (Pv.s_cons (Pv.s_set (i := 1) sc.nd (Pv.vF (Pv.f_cat (Pv.rV (Pv.pe_V 1 (pv 1))) (Pv.rF (Pv.f_lst (Pv.aVcons (Pv.v_isO T.wf hge hmC HE T.n_isinstance (pv 0) (by decide +kernel) rfl) (Pv.aVcons (Pv.v_isO T.wf hge hmC HE T.n_isinstance (pv 0) (by decide +kernel) rfl) (Pv.aVcons (Pv.v_isO T.wf hge hmC HE T.n_isinstance (pv 0) (by decide +kernel) rfl) Pv.aVnil)))))))) (Pv.s_cons (Pv.s_if (PW.pt (Pv.w_or (Pv.t_cmp (Pv.c_neH hr) (Pv.rV (Pv.v_sumH hc T.n_sum (Pv.aRcons (Pv.rF (Pv.f_lcH [(Str.ofString "flag", 3)] rfl hc sc.nd (Pv.rV (Pv.pe_V 1 (pv 1))) (blkOk_by (N := N__law_word) (sc := defScope st__law_word) (by decide +kernel)) (fun _ _ _ _ _ => (pg_name (i := 3) sc.nd rfl (by first | exact Or.inl rfl | exact Or.inr rfl))) (Pv.tg_name 3) (by decide) (fun _ _ _ _ _ => Pv.tests_nil) (fun _ _ _ _ _ => (Pv.v_int1 T.n_int (Pv.aRcons (Pv.rV (Pv.pe_V 3 (pv 3))) Pv.aRnil))))) Pv.aRnil))) (Pv.rV Pv.kInt)) (pw_or1 (Pv.t_not (Pv.tV_test (Pv.v_isVE T.wf hge hmC HE T.n_isinstance T.n_ValueError (pv 0))))))) (Pv.s_one (Pv.s_ret (Pv.v_tup (Pv.aVcons Pv.kStr (Pv.aVcons Pv.kStr Pv.aVnil))))) Pv.s_nil) (Pv.s_cons (Pv.s_if (Pv.tV_test (Pv.v_isO T.wf hge hmC HE T.n_isinstance (pv 0) (by decide +kernel) rfl)) (Pv.s_one (Pv.s_ret (Pv.v_tup (Pv.aVcons Pv.kStr (Pv.aVcons (Pv.v_xfT true rfl T.wf hge hmC HE (pv 0)) (Pv.aVcons (Pv.v_xfT false rfl T.wf hge hmC HE (pv 0)) Pv.aVnil)))))) Pv.s_nil) (Pv.s_cons (Pv.s_set (i := 2) sc.nd (Pv.vF (Pv.f_lst (Pv.aVcons Pv.kStr (Pv.aVcons Pv.kStr (Pv.aVcons Pv.kStr (Pv.aVcons Pv.kStr (Pv.aVcons Pv.kStr (Pv.aVcons Pv.kStr Pv.aVnil))))))))) (Pv.s_one (Pv.s_ret (Pv.v_tup (Pv.aVcons Pv.kStr (Pv.aVcons (Pv.v_idx (Pv.rV (Pv.pe_V 2 (pv 2))) (Pv.rV (Pv.v_indexH hr (Pv.rV (Pv.pe_V 1 (pv 1))) (Pv.rV Pv.kBl)))) Pv.aVnil)))))))))))
abbrev st__law_told : Stmt := topS 25
theorem sc__law_told : FnScope ["deed", "e"] ["deed"] (defScope st__law_told) := ⟨rfl, rfl, rfl, by decide +kernel, rfl, by decide +kernel, by decide +kernel⟩
theorem told_ok {f : Addr} {fd : FuncData} (T : Top K mg) (Wd : Word P w K mg base 1 "_law_word") (Fn : Fun K "_law_told" "_law_told" st__law_told f fd) (hm : mg "_law_told" = some (.ref f)) (hb : Binds K fd ["deed"] []) : Told P w K mg base 1 "_law_told" :=
  told_mk Fn hm hb sc__law_told (.inl rfl) (by decide) (by decide) fun cdv => told_gives Wd (by decide +kernel) rfl rfl rfl T.wf.glT (by decide) (fun e C hg hC => T.wf.exm hg hC) (by decide) (by decide) (by decide)
end
theorem len_if {α : Type} {ds : List PV} {n : Nat} {r : R α} (h : (if ds.length = n then r else .bad) ≠ .bad) : ds.length = n := Decidable.byContradiction fun z => h (if_neg z)
section
variable [TabCx]
structure Funs (P : Program) (w : World) (K : PySem.W.Frag) (mg : Str → Option Value) (base : Heap) : Prop where
  e_is_number : ∃ f fd, Fun K "is_number" "is_number" st_is_number f fd ∧ mg "is_number" = some (.ref f) ∧ Binds K fd ["thing"] []
  e_are_signs : ∃ f fd, Fun K "are_signs" "are_signs" st_are_signs f fd ∧ mg "are_signs" = some (.ref f) ∧ Binds K fd ["text"] []
  e_is_value : ∃ f fd, Fun K "is_value" "is_value" st_is_value f fd ∧ mg "is_value" = some (.ref f) ∧ Binds K fd ["thing", "deep"] []
  e_need_value : ∃ f fd, Fun K "need_value" "need_value" st_need_value f fd ∧ mg "need_value" = some (.ref f) ∧ Binds K fd ["value"] []
  e_first_unlike : ∃ f fd, Fun K "first_unlike" "first_unlike" st_first_unlike f fd ∧ mg "first_unlike" = some (.ref f) ∧ Binds K fd ["one", "other"] []
  e_difference : ∃ f fd, Fun K "difference" "difference" st_difference f fd ∧ mg "difference" = some (.ref f) ∧ Binds K fd ["one", "other"] []
  e__law_cell : ∃ f fd, Fun K "_law_cell" "_law_cell" st__law_cell f fd ∧ mg "_law_cell" = some (.ref f) ∧ Binds K fd ["script", "k"] []
  e__law_drawn : ∃ f fd, Fun K "_law_drawn" "_law_drawn" st__law_drawn f fd ∧ mg "_law_drawn" = some (.ref f) ∧ Binds K fd ["cell", "k"] []
  e__law_signs : ∃ f fd, Fun K "_law_signs" "_law_signs" st__law_signs f fd ∧ mg "_law_signs" = some (.ref f) ∧ Binds K fd [] []
  e__law_value : ∃ f fd, Fun K "_law_value" "_law_value" st__law_value f fd ∧ mg "_law_value" = some (.ref f) ∧ Binds K fd ["more", "deep"] []
  e__law_bent : ∃ f fd, Fun K "_law_bent" "_law_bent" st__law_bent f fd ∧ mg "_law_bent" = some (.ref f) ∧ Binds K fd ["value", "more"] []
  e__law_due : ∃ f fd, Fun K "_law_due" "_law_due" st__law_due f fd ∧ mg "_law_due" = some (.ref f) ∧ Binds K fd ["one", "other"] []
  e__law_none : ∃ f fd, Fun K "_law_none" "_law_none" st__law_none f fd ∧ mg "_law_none" = some (.ref f) ∧ Binds K fd [] []
  e_law : ∃ f fd, Fun K "law" "law" st_law f fd ∧ mg "law" = some (.ref f) ∧ Binds K fd ["script"] [] ∧ LamAt base mg fd.code (qn "law")
  td : Told P w K mg base 1 "_law_told"
variable {P : Program} {w : World} {K : PySem.W.Frag} {mg : Str → Option Value} {base : Heap}
theorem ok_is_number (T : Top K mg) (U : Funs P w K mg base) : CaV P w K mg base 1 "is_number" G_is_number := by
  obtain ⟨f, fd, Fn, m, b⟩ := U.e_is_number
  exact ⟨f, fd, _, b_is_number (k := 0) T Fn (fun ds h => len_if h) (fun ds h => by unfold G_is_number at h ⊢; rw [if_pos (len_if h)]), m, Fn.kp, b⟩
theorem ok_are_signs (T : Top K mg) (U : Funs P w K mg base) : CaV P w K mg base 1 "are_signs" G_are_signs := by
  obtain ⟨f, fd, Fn, m, b⟩ := U.e_are_signs
  exact ⟨f, fd, _, b_are_signs (k := 0) T Fn (fun ds h => len_if h) (fun ds h => by unfold G_are_signs at h ⊢; rw [if_pos (len_if h)]), m, Fn.kp, b⟩
theorem ok_is_value (T : Top K mg) (U : Funs P w K mg base) : ∀ n : Nat, CaV P w K mg base (1 + 1 * n) "is_value" (G_is_value n)
  | 0 => by
    obtain ⟨f, fd, Fn, m, b⟩ := U.e_is_value
    exact ⟨f, fd, _, fn_badV ["thing", "deep"], m, Fn.kp, b⟩
  | n + 1 => by
    have ih := ok_is_value T U n
    obtain ⟨f, fd, Fn, m, b⟩ := U.e_is_value
    exact ⟨f, fd, _, (b_is_value (k := 1 + 1 * n + 0) T Fn (ok_are_signs T U) (by omega) ih (by omega) (ok_is_number T U) (by omega) (fun ds h => len_if (n := 2) (by unfold G_is_value at h; exact h)) (fun ds h => by unfold G_is_value at h ⊢; rw [if_pos (len_if h)])).mono (by omega), m, Fn.kp, b⟩
theorem ok_need_value (T : Top K mg) (U : Funs P w K mg base) : CaV P w K mg base 8 "need_value" G_need_value := by
  obtain ⟨f, fd, Fn, m, b⟩ := U.e_need_value
  exact ⟨f, fd, _, b_need_value (k := 7) T Fn (ok_is_value T U 6) (by omega) (fun ds h => len_if h) (fun ds h => by unfold G_need_value at h ⊢; rw [if_pos (len_if h)]), m, Fn.kp, b⟩
theorem ok_first_unlike (T : Top K mg) (U : Funs P w K mg base) : CaV P w K mg base 1 "first_unlike" G_first_unlike := by
  obtain ⟨f, fd, Fn, m, b⟩ := U.e_first_unlike
  exact ⟨f, fd, _, b_first_unlike (k := 0) T Fn (fun ds h => len_if h) (fun ds h => by unfold G_first_unlike at h ⊢; rw [if_pos (len_if h)]), m, Fn.kp, b⟩
theorem ok_difference (T : Top K mg) (U : Funs P w K mg base) : ∀ n : Nat, CaV P w K mg base (1 + 1 * n) "difference" (G_difference n)
  | 0 => by
    obtain ⟨f, fd, Fn, m, b⟩ := U.e_difference
    exact ⟨f, fd, _, fn_badV ["one", "other"], m, Fn.kp, b⟩
  | n + 1 => by
    have ih := ok_difference T U n
    obtain ⟨f, fd, Fn, m, b⟩ := U.e_difference
    exact ⟨f, fd, _, (b_difference (k := 1 + 1 * n + 0) T Fn (ok_first_unlike T U) (by omega) ih (by omega) (fun ds h => len_if (n := 2) (by unfold G_difference at h; exact h)) (fun ds h => by unfold G_difference at h ⊢; rw [if_pos (len_if h)])).mono (by omega), m, Fn.kp, b⟩
theorem ok__law_cell (T : Top K mg) (U : Funs P w K mg base) : CaV P w K mg base 1 "_law_cell" G__law_cell := by
  obtain ⟨f, fd, Fn, m, b⟩ := U.e__law_cell
  exact ⟨f, fd, _, b__law_cell (k := 0) T Fn (fun ds h => len_if h) (fun ds h => by unfold G__law_cell at h ⊢; rw [if_pos (len_if h)]), m, Fn.kp, b⟩
theorem ok__law_drawn (T : Top K mg) (U : Funs P w K mg base) : CaV P w K mg base 1 "_law_drawn" G__law_drawn := by
  obtain ⟨f, fd, Fn, m, b⟩ := U.e__law_drawn
  exact ⟨f, fd, _, b__law_drawn (k := 0) T Fn (fun ds h => len_if h) (fun ds h => by unfold G__law_drawn at h ⊢; rw [if_pos (len_if h)]), m, Fn.kp, b⟩
theorem ok__law_signs (T : Top K mg) (U : Funs P w K mg base) : CaV P w K mg base 1 "_law_signs" G__law_signs := by
  obtain ⟨f, fd, Fn, m, b⟩ := U.e__law_signs
  exact ⟨f, fd, _, b__law_signs (k := 0) T Fn (fun ds h => len_if h) (fun ds h => by unfold G__law_signs at h ⊢; rw [if_pos (len_if h)]), m, Fn.kp, b⟩
theorem ok__law_value (T : Top K mg) (U : Funs P w K mg base) : ∀ n : Nat, CaV P w K mg base (1 + 1 * n) "_law_value" (G__law_value n)
  | 0 => by
    obtain ⟨f, fd, Fn, m, b⟩ := U.e__law_value
    exact ⟨f, fd, _, fn_badV ["more", "deep"], m, Fn.kp, b⟩
  | n + 1 => by
    have ih := ok__law_value T U n
    obtain ⟨f, fd, Fn, m, b⟩ := U.e__law_value
    exact ⟨f, fd, _, (b__law_value (k := 1 + 1 * n + 0) T Fn (ok__law_signs T U) (by omega) (ok__law_drawn T U) (by omega) ih (by omega) (fun ds h => len_if (n := 2) (by unfold G__law_value at h; exact h)) (fun ds h => by unfold G__law_value at h ⊢; rw [if_pos (len_if h)])).mono (by omega), m, Fn.kp, b⟩
theorem ok__law_bent (T : Top K mg) (U : Funs P w K mg base) : ∀ n : Nat, CaV P w K mg base (1 + 1 * n) "_law_bent" (G__law_bent n)
  | 0 => by
    obtain ⟨f, fd, Fn, m, b⟩ := U.e__law_bent
    exact ⟨f, fd, _, fn_badV ["value", "more"], m, Fn.kp, b⟩
  | n + 1 => by
    have ih := ok__law_bent T U n
    obtain ⟨f, fd, Fn, m, b⟩ := U.e__law_bent
    exact ⟨f, fd, _, (b__law_bent (k := 1 + 1 * n + 0) T Fn ih (by omega) (ok__law_drawn T U) (by omega) (fun ds h => len_if (n := 2) (by unfold G__law_bent at h; exact h)) (fun ds h => by unfold G__law_bent at h ⊢; rw [if_pos (len_if h)])).mono (by omega), m, Fn.kp, b⟩
theorem ok__law_due (T : Top K mg) (U : Funs P w K mg base) : ∀ n : Nat, CaV P w K mg base (0 + 1 * n) "_law_due" (G__law_due n)
  | 0 => by
    obtain ⟨f, fd, Fn, m, b⟩ := U.e__law_due
    exact ⟨f, fd, _, fn_badV ["one", "other"], m, Fn.kp, b⟩
  | n + 1 => by
    have ih := ok__law_due T U n
    obtain ⟨f, fd, Fn, m, b⟩ := U.e__law_due
    exact ⟨f, fd, _, (b__law_due (k := 0 + 1 * n + 0) T Fn ih (by omega) (fun ds h => len_if (n := 2) (by unfold G__law_due at h; exact h)) (fun ds h => by unfold G__law_due at h ⊢; rw [if_pos (len_if h)])).mono (by omega), m, Fn.kp, b⟩
theorem ok__law_none (T : Top K mg) (U : Funs P w K mg base) : CaF P w K mg base 1 "_law_none" G__law_none := by
  obtain ⟨f, fd, Fn, m, b⟩ := U.e__law_none
  exact ⟨f, fd, _, b__law_none (k := 0) T Fn (fun ds h => len_if h) (fun ds h => by unfold G__law_none at h ⊢; rw [if_pos (len_if h)]), m, Fn.kp, b⟩
theorem ok_law (T : Top K mg) (U : Funs P w K mg base) {f : Addr} {fd : FuncData} (Fn : Fun K "law" "law" st_law f fd) (LA : LamAt base mg fd.code (qn "law")) : FnOk P w K mg base (L2N.CX P w) 11 f fd ["script"] (spV K mg G_law) :=
  b_law (k := 10) T Fn (kt := 8) (by omega) U.td LA (ok__law_drawn T U) (by omega) (ok__law_cell T U) (by omega) (ok__law_value T U 6) (by omega) (ok__law_bent T U 6) (by omega) (ok_need_value T U) (by omega) (ok_difference T U 5) (by omega) (by omega) (ok__law_due T U 5) (by omega) (ok__law_none T U) (by omega) (fun ds h => len_if h) (fun ds h => by unfold G_law at h ⊢; rw [if_pos (len_if h)])
end
def dd (x : Str) (i : Nat) : He.DefD := ⟨(x, none), x, x, defArgs (topS i), defBody (topS i), defScope (topS i), [], []⟩
def fnS : List He.DefD := [dd "is_number" 15, dd "are_signs" 16, dd "is_value" 17, dd "need_value" 18, dd "first_unlike" 19, dd "difference" 20, dd "_law_cell" 22, dd "_law_drawn" 23, dd "_law_signs" 26, dd "_law_value" 27, dd "_law_bent" 28, dd "_law_due" 29, dd "_law_none" 30, dd "law" 31, dd "_law_word" 24, dd "_law_told" 25]
def faS : List He.Fa := [.glo "is_number", .glo "are_signs", .glo "is_value", .glo "need_value", .glo "first_unlike", .glo "difference", .glo "_law_cell", .glo "_law_drawn", .glo "_law_signs", .glo "_law_value", .glo "_law_bent", .glo "_law_due", .glo "_law_none", .glo "law", .glo "_law_word", .glo "_law_told", .free "ValueError", .free "abs", .free "all", .free "bool", .free "int", .free "isinstance", .free "len", .free "max", .free "min", .free "ord", .free "range", .free "str", .free "sum", .free "tuple", .int "BARRED" 37, .int "MOST_NUMBER" 999999, .int "MOST_PARTS" 6, .int "MOST_SIGNS" 20, .int "MOST_WITHIN" 3, .glo "BadValue", .glo "BadSteps", .glo "BadHouse", .glo "BadName", .glo "BadChoice", .glo "BadRecord", .glo "Trouble", .glo "TryError", .exc "BadValue"]
def tfS : List He.Defn := [("law", none)]
def exS (K : PySem.W.Frag) : Bool := wordB K && distB K tfS
theorem facts (hpure : ∀ ns : List Int, ns.length ≤ 63 → (∀ z ∈ ns, Builtin.Int.intBits z ≤ 1048576) → G_law [.scr ns] = .ok (.bl true)) {l : PySem.W.OpenLaw} {w : World} {K : PySem.W.Frag} {h : Heap} {mg : Str → Option Value} {fa : Addr} (X : K.In h) (G : h.Ns mainGlobals mg) (hfa : mg "law" = some (.ref fa)) (c : He.SaysX faS fnS [] tfS exS w h K) : LamX.LawAtS l w K (L2N.CX l.prog w) 11 63 "script" mg fa h := by
  letI : TabCx := ⟨lamL tfS K⟩
  have D := c.t.d
  obtain ⟨fd0, E0⟩ := D.def_ 0 (d := dd "is_number" 15) rfl
  have F0 : Fun K "is_number" "is_number" st_is_number (He.fAd K ("is_number", none)) fd0 := fun_ofD E0
  have b0 := F0.binds (ps := ["thing"]) fun _ _ _ _ _ _ us hl => match us, hl with | [_], _ => rfl
  have g0 : mg "is_number" = some (.ref (He.fAd K ("is_number", none))) := He.glo_ok X G (D.fact 0 (f := .glo "is_number") rfl)
  obtain ⟨fd1, E1⟩ := D.def_ 1 (d := dd "are_signs" 16) rfl
  have F1 : Fun K "are_signs" "are_signs" st_are_signs (He.fAd K ("are_signs", none)) fd1 := fun_ofD E1
  have b1 := F1.binds (ps := ["text"]) fun _ _ _ _ _ _ us hl => match us, hl with | [_], _ => rfl
  have g1 : mg "are_signs" = some (.ref (He.fAd K ("are_signs", none))) := He.glo_ok X G (D.fact 1 (f := .glo "are_signs") rfl)
  obtain ⟨fd2, E2⟩ := D.def_ 2 (d := dd "is_value" 17) rfl
  have F2 : Fun K "is_value" "is_value" st_is_value (He.fAd K ("is_value", none)) fd2 := fun_ofD E2
  have b2 := F2.binds (ps := ["thing", "deep"]) fun _ _ _ _ _ _ us hl => match us, hl with | [_, _], _ => rfl
  have g2 : mg "is_value" = some (.ref (He.fAd K ("is_value", none))) := He.glo_ok X G (D.fact 2 (f := .glo "is_value") rfl)
  obtain ⟨fd3, E3⟩ := D.def_ 3 (d := dd "need_value" 18) rfl
  have F3 : Fun K "need_value" "need_value" st_need_value (He.fAd K ("need_value", none)) fd3 := fun_ofD E3
  have b3 := F3.binds (ps := ["value"]) fun _ _ _ _ _ _ us hl => match us, hl with | [_], _ => rfl
  have g3 : mg "need_value" = some (.ref (He.fAd K ("need_value", none))) := He.glo_ok X G (D.fact 3 (f := .glo "need_value") rfl)
  obtain ⟨fd4, E4⟩ := D.def_ 4 (d := dd "first_unlike" 19) rfl
  have F4 : Fun K "first_unlike" "first_unlike" st_first_unlike (He.fAd K ("first_unlike", none)) fd4 := fun_ofD E4
  have b4 := F4.binds (ps := ["one", "other"]) fun _ _ _ _ _ _ us hl => match us, hl with | [_, _], _ => rfl
  have g4 : mg "first_unlike" = some (.ref (He.fAd K ("first_unlike", none))) := He.glo_ok X G (D.fact 4 (f := .glo "first_unlike") rfl)
  obtain ⟨fd5, E5⟩ := D.def_ 5 (d := dd "difference" 20) rfl
  have F5 : Fun K "difference" "difference" st_difference (He.fAd K ("difference", none)) fd5 := fun_ofD E5
  have b5 := F5.binds (ps := ["one", "other"]) fun _ _ _ _ _ _ us hl => match us, hl with | [_, _], _ => rfl
  have g5 : mg "difference" = some (.ref (He.fAd K ("difference", none))) := He.glo_ok X G (D.fact 5 (f := .glo "difference") rfl)
  obtain ⟨fd6, E6⟩ := D.def_ 6 (d := dd "_law_cell" 22) rfl
  have F6 : Fun K "_law_cell" "_law_cell" st__law_cell (He.fAd K ("_law_cell", none)) fd6 := fun_ofD E6
  have b6 := F6.binds (ps := ["script", "k"]) fun _ _ _ _ _ _ us hl => match us, hl with | [_, _], _ => rfl
  have g6 : mg "_law_cell" = some (.ref (He.fAd K ("_law_cell", none))) := He.glo_ok X G (D.fact 6 (f := .glo "_law_cell") rfl)
  obtain ⟨fd7, E7⟩ := D.def_ 7 (d := dd "_law_drawn" 23) rfl
  have F7 : Fun K "_law_drawn" "_law_drawn" st__law_drawn (He.fAd K ("_law_drawn", none)) fd7 := fun_ofD E7
  have b7 := F7.binds (ps := ["cell", "k"]) fun _ _ _ _ _ _ us hl => match us, hl with | [_, _], _ => rfl
  have g7 : mg "_law_drawn" = some (.ref (He.fAd K ("_law_drawn", none))) := He.glo_ok X G (D.fact 7 (f := .glo "_law_drawn") rfl)
  obtain ⟨fd8, E8⟩ := D.def_ 8 (d := dd "_law_signs" 26) rfl
  have F8 : Fun K "_law_signs" "_law_signs" st__law_signs (He.fAd K ("_law_signs", none)) fd8 := fun_ofD E8
  have b8 := F8.binds (ps := []) fun _ _ _ _ _ _ us hl => match us, hl with | [], _ => rfl
  have g8 : mg "_law_signs" = some (.ref (He.fAd K ("_law_signs", none))) := He.glo_ok X G (D.fact 8 (f := .glo "_law_signs") rfl)
  obtain ⟨fd9, E9⟩ := D.def_ 9 (d := dd "_law_value" 27) rfl
  have F9 : Fun K "_law_value" "_law_value" st__law_value (He.fAd K ("_law_value", none)) fd9 := fun_ofD E9
  have b9 := F9.binds (ps := ["more", "deep"]) fun _ _ _ _ _ _ us hl => match us, hl with | [_, _], _ => rfl
  have g9 : mg "_law_value" = some (.ref (He.fAd K ("_law_value", none))) := He.glo_ok X G (D.fact 9 (f := .glo "_law_value") rfl)
  obtain ⟨fd10, E10⟩ := D.def_ 10 (d := dd "_law_bent" 28) rfl
  have F10 : Fun K "_law_bent" "_law_bent" st__law_bent (He.fAd K ("_law_bent", none)) fd10 := fun_ofD E10
  have b10 := F10.binds (ps := ["value", "more"]) fun _ _ _ _ _ _ us hl => match us, hl with | [_, _], _ => rfl
  have g10 : mg "_law_bent" = some (.ref (He.fAd K ("_law_bent", none))) := He.glo_ok X G (D.fact 10 (f := .glo "_law_bent") rfl)
  obtain ⟨fd11, E11⟩ := D.def_ 11 (d := dd "_law_due" 29) rfl
  have F11 : Fun K "_law_due" "_law_due" st__law_due (He.fAd K ("_law_due", none)) fd11 := fun_ofD E11
  have b11 := F11.binds (ps := ["one", "other"]) fun _ _ _ _ _ _ us hl => match us, hl with | [_, _], _ => rfl
  have g11 : mg "_law_due" = some (.ref (He.fAd K ("_law_due", none))) := He.glo_ok X G (D.fact 11 (f := .glo "_law_due") rfl)
  obtain ⟨fd12, E12⟩ := D.def_ 12 (d := dd "_law_none" 30) rfl
  have F12 : Fun K "_law_none" "_law_none" st__law_none (He.fAd K ("_law_none", none)) fd12 := fun_ofD E12
  have b12 := F12.binds (ps := []) fun _ _ _ _ _ _ us hl => match us, hl with | [], _ => rfl
  have g12 : mg "_law_none" = some (.ref (He.fAd K ("_law_none", none))) := He.glo_ok X G (D.fact 12 (f := .glo "_law_none") rfl)
  obtain ⟨fd13, E13⟩ := D.def_ 13 (d := dd "law" 31) rfl
  have F13 : Fun K "law" "law" st_law (He.fAd K ("law", none)) fd13 := fun_ofD E13
  have b13 := F13.binds (ps := ["script"]) fun _ _ _ _ _ _ us hl => match us, hl with | [_], _ => rfl
  have g13 : mg "law" = some (.ref (He.fAd K ("law", none))) := He.glo_ok X G (D.fact 13 (f := .glo "law") rfl)
  obtain ⟨fd14, E14⟩ := D.def_ 14 (d := dd "_law_word" 24) rfl
  have F14 : Fun K "_law_word" "_law_word" st__law_word (He.fAd K ("_law_word", none)) fd14 := fun_ofD E14
  have b14 := F14.binds (ps := ["e"]) fun _ _ _ _ _ _ us hl => match us, hl with | [_], _ => rfl
  have g14 : mg "_law_word" = some (.ref (He.fAd K ("_law_word", none))) := He.glo_ok X G (D.fact 14 (f := .glo "_law_word") rfl)
  obtain ⟨fd15, E15⟩ := D.def_ 15 (d := dd "_law_told" 25) rfl
  have F15 : Fun K "_law_told" "_law_told" st__law_told (He.fAd K ("_law_told", none)) fd15 := fun_ofD E15
  have b15 := F15.binds (ps := ["deed"]) fun _ _ _ _ _ _ us hl => match us, hl with | [_], _ => rfl
  have g15 : mg "_law_told" = some (.ref (He.fAd K ("_law_told", none))) := He.glo_ok X G (D.fact 15 (f := .glo "_law_told") rfl)
  have hw := (He.ba c.more).1
  have hds := (He.ba c.more).2
  have hwf : WordF K mg := ⟨fun n hn => by
    have hn : n ∈ (["BadValue", "BadSteps", "BadHouse", "BadName", "BadChoice", "BadRecord", "Trouble"] : List Str) := hn
    simp only [List.mem_cons, List.not_mem_nil, or_false] at hn
    rcases hn with rfl | rfl | rfl | rfl | rfl | rfl | rfl
    · exact He.glo_ok X G (D.fact 35 (f := .glo "BadValue") rfl)
    · exact He.glo_ok X G (D.fact 36 (f := .glo "BadSteps") rfl)
    · exact He.glo_ok X G (D.fact 37 (f := .glo "BadHouse") rfl)
    · exact He.glo_ok X G (D.fact 38 (f := .glo "BadName") rfl)
    · exact He.glo_ok X G (D.fact 39 (f := .glo "BadChoice") rfl)
    · exact He.glo_ok X G (D.fact 40 (f := .glo "BadRecord") rfl)
    · exact He.glo_ok X G (D.fact 41 (f := .glo "Trouble") rfl), He.glo_ok X G (D.fact 42 (f := .glo "TryError") rfl), hw⟩
  have T : Top K mg := ⟨He.free_ok X G (D.fact 16 (f := .free "ValueError") rfl), He.free_ok X G (D.fact 17 (f := .free "abs") rfl), He.free_ok X G (D.fact 18 (f := .free "all") rfl), He.free_ok X G (D.fact 19 (f := .free "bool") rfl), He.free_ok X G (D.fact 20 (f := .free "int") rfl), He.free_ok X G (D.fact 21 (f := .free "isinstance") rfl), He.free_ok X G (D.fact 22 (f := .free "len") rfl), He.free_ok X G (D.fact 23 (f := .free "max") rfl), He.free_ok X G (D.fact 24 (f := .free "min") rfl), He.free_ok X G (D.fact 25 (f := .free "ord") rfl), He.free_ok X G (D.fact 26 (f := .free "range") rfl), He.free_ok X G (D.fact 27 (f := .free "str") rfl), He.free_ok X G (D.fact 28 (f := .free "sum") rfl), He.free_ok X G (D.fact 29 (f := .free "tuple") rfl), He.int_ok X G (D.fact 30 rfl), He.int_ok X G (D.fact 31 rfl), He.int_ok X G (D.fact 32 rfl), He.int_ok X G (D.fact 33 rfl), He.int_ok X G (D.fact 34 rfl), exc1_of X G (D.fact 35 (f := .glo "BadValue") rfl) (D.fact 43 (f := .exc "BadValue") rfl), hwf⟩
  have e := hfa.symm.trans g13
  cases e
  have bA := FunD.bindsA (ps := ["script"]) E13 fun _ _ _ _ _ _ us hl => match us, hl with | [_], _ => rfl
  refine lawAt_of X c (fun s u => bA s [u] rfl) fun base KX NS TB => ?_
  have LA_law := lamAt_of (tf := tfS) (x := "law") (by decide +kernel) F13 TB hds
  have U : Funs l.prog w K mg base := ⟨⟨_, _, F0, g0, b0⟩, ⟨_, _, F1, g1, b1⟩, ⟨_, _, F2, g2, b2⟩, ⟨_, _, F3, g3, b3⟩, ⟨_, _, F4, g4, b4⟩, ⟨_, _, F5, g5, b5⟩, ⟨_, _, F6, g6, b6⟩, ⟨_, _, F7, g7, b7⟩, ⟨_, _, F8, g8, b8⟩, ⟨_, _, F9, g9, b9⟩, ⟨_, _, F10, g10, b10⟩, ⟨_, _, F11, g11, b11⟩, ⟨_, _, F12, g12, b12⟩, ⟨_, _, F13, g13, b13, LA_law⟩, told_ok T (word_ok T F14 g14 b14) F15 g15 b15⟩
  exact (ok_law T U F13 LA_law).imp fun vs H Q E z => spLaw_imp hpure z
def loose0 : List Str := ["TryError", "BadValue", "BadSteps", "BadHouse", "BadName", "BadChoice", "BadRecord", "Trouble", "MOST_NUMBER", "MOST_SIGNS", "MOST_PARTS", "MOST_WITHIN", "BARRED", "is_number", "are_signs", "is_value", "need_value", "first_unlike", "difference", "_law_cell", "_law_drawn", "_law_word", "_law_told", "_law_signs", "_law_value", "_law_bent", "_law_due", "_law_none"]
def looseS : List Str := loose0
end Tw

set_option Elab.async false
set_option linter.all false
set_option maxRecDepth 100000
namespace Tw
open PySem PySem.Spec PyProof.Rows L2 Pv
abbrev Rr : PySem.W.OpenRow := PySem.W.OpenLaw.row PySem.Challenge.rw_trywright_k10_values_and_differences
abbrev hkS : PySem.W.Hook := He.hookX 5 faS fnS [] tfS exS
def obS (s : PySem.W.SharedT) : He.AlX := He.obsX 5 faS fnS [] tfS exS (HandSHeadRun.getT s)
theorem obS_eq (s : PySem.W.SharedT) : obS s = hkS.obs s.abs := He.obsX_eq (HandSHeadRun.getT_eq s)
set_option maxHeartbeats 0 in
theorem runS (w : World) : HandSHeadRun.RunEq Rr (PySem.W.view Rr.prog [31]) hkS obS 4000 looseS w := by
  intro os
  kernel_rfl
end Tw
open PySem PySem.W PySem.Calls PyProof.Rows
set_option maxHeartbeats 0 in
theorem PySem.Challenge.cw_trywright_k10_values_and_differences_holds : PySem.Challenge.rw_trywright_k10_values_and_differences.Holds := by
  w_on; o_law
  refine HandSHeadRun.head_any (r := OpenLaw.row PySem.Challenge.rw_trywright_k10_values_and_differences) (q := view (OpenLaw.row PySem.Challenge.rw_trywright_k10_values_and_differences).prog [31]) (H := Tw.hkS) (ob := Tw.obS) (M := 4000) (loose := Tw.looseS) (d := HandSHeadRun.topDef (OpenLaw.row PySem.Challenge.rw_trywright_k10_values_and_differences).prog 31) (kwd := []) Tw.obS_eq
    (by kernel_rfl) (fun s => by kernel_rfl) Tw.runS (by kernel_rfl) (by kernel_rfl) (by kernel_rfl) (by rfl) (by first | assumption | decide +kernel) (by decide +kernel) ⟨rfl, rfl, rfl, rfl, rfl, by decide +kernel⟩ ?hw ?hc
  case hw => w_witness2
  case hc =>
    refine LamX.walk_ofTsE (l := PySem.Challenge.rw_trywright_k10_values_and_differences) (n := 63) (k := 11) (x := "script") (CX := fun w => L2N.CX PySem.Challenge.rw_trywright_k10_values_and_differences.prog w) rfl (by decide) (by kernel_rfl) ⟨rfl, by decide, by decide⟩ ?F (fun _ _ _ _ _ z => Pv.cxN_false z)
    intro w mg fa h Y G hmg0
    obtain ⟨K, KX, c⟩ := Y
    have hmg : mg ("law" : PySem.Str) = some (.ref fa) := by
      have e : (HandSHeadRun.topDef (OpenLaw.row PySem.Challenge.rw_trywright_k10_values_and_differences).prog 31).name = ("law" : PySem.Str) := by kernel_rfl
      rw [← e]
      exact hmg0
    exact ⟨K, KX, Tw.facts Tw.pure KX G hmg c⟩
