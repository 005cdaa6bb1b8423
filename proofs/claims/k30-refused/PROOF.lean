import PyProof.Rows.All
import Wide.All
import OpenK.AllK
import Wide.FinOn
import KE.KStateDown
import HandS.Head0
import HandS.Head1
import HandS.Head2
import HandS.HeadEnd
import HandS.HeadWalk
import HandS.HeadHook4
import HandS.ExcField
import HandS.Words
import HandS.SuiteRaise
import HandS.RaiseFrom
import HandS.ForMost
import HandS.ForExc
import HandS.IsInst
import HandS.Wide
import HandS.Flow
import HandS.Deep
import HandS.EndBits
import HandS.EndTab
import HandS.HotCalls
import HandS.TupAny
import HandS.Defaults
import HandS.Codes
import HandS.ExcIs
import KE.KExcIs
import HandS.TupMul
import HandS.Dict
import HandS.Strs
import KE.DataFind
import HandS.More
import HandS.ExcInit
import HandS.Iter
import KE.GoesRaise
import HandS.NoneIn
import HandS.SortKw
import KE.DataMinMax
import KE.KEqDict
import HandS.ReplaceLit
import HandS.ReplaceList
import HandS.SetFor
import HandS.SetTxt0
import KE.SortData
import KE.SortKeyHeap
import HandS.Style
import HandS.Zip
import KE.KRevSl
import PySem.Challenge.RW_trywright_k30_houses_refused
set_option Elab.async false
set_option linter.all false
set_option maxRecDepth 100000
set_option maxHeartbeats 2000000
namespace Pv
open PySem PySem.Spec PyProof.Rows L2
def seven : List Str := ["BadValue", "BadSteps", "BadHouse", "BadName", "BadChoice", "BadRecord", "Trouble"]
def excFB (K : PySem.W.Frag) (C : Addr) : Bool := (PySem.W.clsIn K C).isSome && (He.eqO (PySem.W.findIn K (.ref C) "__getattribute__") (some (some (.builtin "BaseException.__getattribute__"))) && (He.eqO (PySem.W.findIn K (.ref C) "__getattr__") (some none) && (decide (PySem.W.subIn K (.ref C) (.type "BaseException") = some true) &&
  (He.eqO (PySem.W.findIn K (.ref C) "__class__") (some (some (.builtin "object.__class__"))) && (He.eqO (PySem.W.specialIn K (.builtin "object.__class__") "__get__") (some (some (.builtin "getset_descriptor.__get__"))) && (decide (PySem.W.takesIn K (.builtin "object.__class__") = some true) && decide (PySem.W.mroIn K C (.type "object") = some true)))))))
def wordB (K : PySem.W.Frag) : Bool := seven.all fun n => (Pv.excFB K (He.ga K n) && (decide (PySem.W.kitOne K (.ref (He.ga K n)) (.type "ValueError") = some true) && (decide (PySem.W.exmOne K (.ref (He.ga K n)) (.ref (He.ga K "TryError")) = some true) && ((seven.all fun m => decide (PySem.W.kitOne K (.ref (He.ga K n)) (.ref (He.ga K m)) = some (n == m))) &&
  (xfB K (He.ga K n) && (He.eqO (PySem.W.findIn K (.ref (He.ga K n)) "word") (some none) && He.eqO (PySem.W.findIn K (.ref (He.ga K n)) "what") (some none)))))))
def distB (K : PySem.W.Frag) (tf : List He.Defn) : Bool := tf.all fun a => tf.all fun b => decide (a = b) || !decide ((He.cT K a).2 = (He.cT K b).2)
def keyT (v : Value) : Option Str := match v with
  | .str x _ => some x
  | _ => none
def valI (v : Value) : Option Int := match v with
  | .int i _ => some i
  | _ => none
def dctB (K : PySem.W.Frag) (x : Str) (kvs : List (Str × Int)) : Bool := match K.lookup (He.ga K x) with
  | some ⟨_, _, .dict es _, _⟩ => decide (es.toList.map (fun e => (keyT e.key, valI e.val)) = kvs.map fun q => (some q.1, some q.2))
  | _ => false
def wSay (w : World) (b : Bool) : World := { w with params := { w.params with followText := fun s => match decide (s = "special-get-raises") with
  | true => b
  | false => w.params.followText s } }
theorem wSay_eq (w : World) : wSay w (w.params.followText "special-get-raises") = w := by
  have e : (fun s => match decide (s = "special-get-raises") with
    | true => w.params.followText "special-get-raises"
    | false => w.params.followText s) = w.params.followText := by
    funext s
    by_cases h : s = "special-get-raises"
    · subst h; simp
    · simp [h]
  unfold wSay
  rw [e]
theorem of_say {P : World → Prop} (h1 : ∀ w, P (wSay w true)) (h0 : ∀ w, P (wSay w false)) (w : World) : P w := by
  have e := wSay_eq w
  cases q : w.params.followText "special-get-raises" with
  | true => rw [q] at e; exact e ▸ h1 w
  | false => rw [q] at e; exact e ▸ h0 w
def pushY : List Addr → List Addr → Nat → List Addr × Nat
  | [], t, m => (t, m)
  | x :: xs, t, m => match Nat.beq ((m >>> x) &&& 1) 1 with
    | true => pushY xs t m
    | false => pushY xs (x :: t) (m ||| (1 <<< x))
def nextY (g : Addr → Option Obj) : List Addr → List Addr → Nat → List Addr × Nat
  | [], t, m => (t, m)
  | a :: as, t, m => match g a with
    | none => nextY g as t m
    | some o => match pushY (He.refsD o) t m with
      | (t2, m2) => nextY g as t2 m2
def gatherY (g : Addr → Option Obj) : Nat → List Addr → Nat → List Addr
  | 0, fr, _ => fr
  | n + 1, fr, m => match nextY g fr [] m with
    | (t, m2) => fr ++ gatherY g n t m2
def asY (n : Nat) (g : Addr → Option Obj) : List Addr := gatherY g n [mainGlobals] (1 <<< mainGlobals)
abbrev frY (n : Nat) (g : Addr → Option Obj) : PySem.W.Frag := He.frT g (asY n g)
def obsY (n : Nat) (fa : List He.Fa) (fn : List He.DefD) (ts : List He.Tab) (tf : List He.Defn) (ex : PySem.W.Frag → Bool) (g : Addr → Option Obj) : He.AlX :=
  (fun K => (He.obsT fa fn ts K, ex K && He.tabsB g tf K)) (frY n g)
theorem saysY {n : Nat} {fa : List He.Fa} {fn : List He.DefD} {ts : List He.Tab} {tf : List He.Defn} {ex : PySem.W.Frag → Bool} {w : World} {h : Heap} (e : obsY n fa fn ts tf ex h.get? = He.valX fn ts w) : He.SaysX fa fn ts tf ex w h (frY n h.get?) := by
  have z2 : (ex (frY n h.get?) && He.tabsB h.get? tf (frY n h.get?)) = true := congrArg Prod.snd e
  rw [Bool.and_eq_true] at z2
  have each : ∀ p ∈ tf, PySem.W.codeHdIn (frY n h.get?) (He.cT (frY n h.get?) p).1 (He.cT (frY n h.get?) p).2 = true ∧ ∃ o, h.get? (He.cT (frY n h.get?) p).2 = some o ∧ He.emptyTab o = true := by
    intro p hp
    have q := List.all_eq_true.mp z2.2 p hp
    rw [Bool.and_eq_true] at q
    refine ⟨q.1, ?_⟩
    have q2 := q.2
    split at q2
    · rename_i o eo; exact ⟨o, eo, q2⟩
    · cases q2
  refine { t := congrArg Prod.fst e, more := z2.1, hd := fun p hp => (each p hp).1, out := fun p hp => ?_, empty := fun p hp => ?_ }
  · obtain ⟨o, h1, h2⟩ := (each p hp).2
    exact He.frT_none h1 h2
  · obtain ⟨o, h1, h2⟩ := (each p hp).2
    rw [h1, He.emptyTab_eq h2]
def hookY (n : Nat) (fa : List He.Fa) (fn : List He.DefD) (ts : List He.Tab) (tf : List He.Defn) (ex : PySem.W.Frag → Bool) : PySem.W.Hook :=
  ⟨He.AlX, fun s => obsY n fa fn ts tf ex s.heap.get?, fun w => He.valX fn ts w, fun w h => ∃ K : PySem.W.Frag, K.In h ∧ He.SaysX fa fn ts tf ex w h K, fun w s e => ⟨_, He.frT_in, saysY e⟩,
    fun w h h' ⟨K, hK, c⟩ k => ⟨K, PySem.W.Frag.In.keeps hK k, ⟨c.t, c.more, c.hd, c.out, fun p hp => k _ _ (c.empty p hp)⟩⟩⟩
theorem obsY_is {n : Nat} {fa : List He.Fa} {fn : List He.DefD} {ts : List He.Tab} {tf : List He.Defn} {ex : PySem.W.Frag → Bool} {g : Addr → Option Obj} {s : Shared} (h : ∀ a, g a = s.heap.get? a) : obsY n fa fn ts tf ex g = (hookY n fa fn ts tf ex).obs s := by
  obtain rfl : g = s.heap.get? := funext h
  rfl
end Pv
set_option Elab.async false
set_option linter.all false
set_option maxRecDepth 100000
set_option maxHeartbeats 4000000
namespace Tw
open PySem PySem.Spec PyProof.Rows L2 Pv
def topS (i : Nat) : Stmt := PySem.Challenge.pw_trywright_k30_houses_refused.main.body.getD i (.Pass ⟨0, 0, 0, 0⟩)
def dd (p : Str × Option Str) (x q : Str) (st : Stmt) : He.DefD := ⟨p, x, q, defArgs st, defBody st, defScope st, [], []⟩
def fnS : List He.DefD := [dd ("is_number", none) "is_number" "is_number" (topS 15), dd ("are_signs", none) "are_signs" "are_signs" (topS 16), dd ("is_value", none) "is_value" "is_value" (topS 17), dd ("need_terms", none) "need" "need" (topS 25), dd ("is_name", none) "is_name" "is_name" (topS 27), dd ("need_deep", none) "need_deep" "need_deep" (topS 28), dd ("need_term", none) "need_term" "need_term" (topS 29), dd ("need_step", none) "need_step" "need_step" (topS 34), dd ("need_deep_body", none) "need_deep_body" "need_deep_body" (topS 35), dd ("need_body", none) "need_body" "need_body" (topS 36), dd ("need_houses", none) "need" "need" (topS 45), dd ("is_text", none) "is_text" "is_text" (topS 47), dd ("need_steps", none) "need_steps" "need_steps" (topS 48), dd ("need_worth", none) "need_worth" "need_worth" (topS 49), dd ("need_names", none) "need_names" "need_names" (topS 50), dd ("need_once", none) "need_once" "need_once" (topS 51), dd ("need_values", none) "need_values" "need_values" (topS 52), dd ("need_maker", none) "need_maker" "need_maker" (topS 53), dd ("need_table", none) "need_table" "need_table" (topS 54), dd ("need_try", none) "need_try" "need_try" (topS 55), dd ("need_group", none) "need_group" "need_group" (topS 56), dd ("need_member", none) "need_member" "need_member" (topS 57), dd ("need_house", none) "need_house" "need_house" (topS 58), dd ("wrong", none) "wrong" "wrong" (topS 75), dd ("_law_cell", none) "_law_cell" "_law_cell" (topS 77), dd ("_law_drawn", none) "_law_drawn" "_law_drawn" (topS 78), dd ("_law_names", none) "_law_names" "_law_names" (topS 81), dd ("_law_up", none) "_law_up" "_law_up" (topS 82), dd ("_law_maker", none) "_law_maker" "_law_maker" (topS 83), dd ("_law_makers", none) "_law_makers" "_law_makers" (topS 84), dd ("_law_table", none) "_law_table" "_law_table" (topS 85), dd ("_law_try", none) "_law_try" "_law_try" (topS 86), dd ("_law_group", none) "_law_group" "_law_group" (topS 87), dd ("_law_bad_makers", none) "_law_bad_makers" "_law_bad_makers" (topS 88), dd ("_law_bad_tries", none) "_law_bad_tries" "_law_bad_tries" (topS 89), dd ("_law_nest", none) "_law_nest" "_law_nest" (topS 91), dd ("_law_bad_groups", none) "_law_bad_groups" "_law_bad_groups" (topS 90), dd ("_law_with", none) "_law_with" "_law_with" (topS 92), dd ("law", none) "law" "law" (topS 93), dd ("_law_word", none) "_law_word" "_law_word" (topS 79), dd ("_law_told", none) "_law_told" "_law_told" (topS 80)]
def faS : List He.Fa := [.glo "is_number", .glo "are_signs", .glo "is_value", .glo "need_terms", .glo "is_name", .glo "need_deep", .glo "need_term", .glo "need_step", .glo "need_deep_body", .glo "need_body", .glo "need_houses", .glo "is_text", .glo "need_steps", .glo "need_worth", .glo "need_names", .glo "need_once", .glo "need_values", .glo "need_maker", .glo "need_table", .glo "need_try", .glo "need_group", .glo "need_member", .glo "need_house", .glo "wrong", .glo "_law_cell", .glo "_law_drawn", .glo "_law_names", .glo "_law_up", .glo "_law_maker", .glo "_law_makers", .glo "_law_table", .glo "_law_try", .glo "_law_group", .glo "_law_bad_makers", .glo "_law_bad_tries", .glo "_law_nest", .glo "_law_bad_groups", .glo "_law_with", .glo "law", .glo "_law_word", .glo "_law_told", .free "ValueError", .free "abs", .free "all", .free "bool", .free "enumerate", .free "int", .free "isinstance", .free "len", .free "list", .free "max", .free "min", .free "ord", .free "range", .free "set", .free "str", .free "sum", .free "tuple", .glo "BARRED_terms", .int "BARRED_values" 37, .str "LETTERS" (Str.ofString "abcdefghijklmnopqrstuvwxyz"), .int "MOST_COLUMNS" 3, .int "MOST_DEEP" 8, .int "MOST_FOUR" 4, .int "MOST_MAKERS" 6, .int "MOST_MEMBERS" 8, .int "MOST_NAME" 10, .int "MOST_NUMBER" 999999, .int "MOST_PARTS" 6, .int "MOST_SIGNS" 20, .int "MOST_STEPS" 10, .int "MOST_TABLES" 2, .int "MOST_WITHIN_bodies" 3, .int "MOST_WITHIN_houses" 4, .int "MOST_WITHIN_values" 3, .glo "ONE", .glo "SCOPES", .glo "TWO", .glo "LENGTHS", .glo "BadHouse", .exc "BadHouse", .glo "BadSteps", .exc "BadSteps", .exm "BadSteps" "BadSteps" true, .exm "BadHouse" "BadSteps" false, .glo "BadValue", .glo "BadName", .glo "BadChoice", .glo "BadRecord", .glo "Trouble", .glo "TryError"]
def tsS : List He.Tab := [(fun K => He.ga K "LENGTHS", [(Str.ofString "let"), (Str.ofString "note"), (Str.ofString "check"), (Str.ofString "alike"), (Str.ofString "fail"), (Str.ofString "skip"), (Str.ofString "when"), (Str.ofString "each")])]
def clS : List (Str × List Str) := []
def tfS : List He.Defn := [("law", none)]
def exS (K : PySem.W.Frag) : Bool := (wordB K && (distB K tfS && (He.tupB K "BARRED_terms" [He.Dv.str (Str.ofString "and"), He.Dv.str (Str.ofString "or"), He.Dv.str (Str.ofString "not"), He.Dv.str (Str.ofString "row")] && (He.tupB K "ONE" [He.Dv.str (Str.ofString "not"), He.Dv.str (Str.ofString "many")] && (He.tupB K "SCOPES" [He.Dv.str (Str.ofString "run"), He.Dv.str (Str.ofString "group"), He.Dv.str (Str.ofString "try")] && (He.tupB K "TWO" [He.Dv.str (Str.ofString "plus"), He.Dv.str (Str.ofString "less"), He.Dv.str (Str.ofString "times"), He.Dv.str (Str.ofString "join"), He.Dv.str (Str.ofString "same"), He.Dv.str (Str.ofString "below"), He.Dv.str (Str.ofString "part")] && (dctB K "LENGTHS" [((Str.ofString "let"), (3 : Int)), ((Str.ofString "note"), (2 : Int)), ((Str.ofString "check"), (2 : Int)), ((Str.ofString "alike"), (3 : Int)), ((Str.ofString "fail"), (2 : Int)), ((Str.ofString "skip"), (2 : Int)), ((Str.ofString "when"), (4 : Int)), ((Str.ofString "each"), (4 : Int))] && true)))))))
def loose0 : List Str := ["TryError", "BadValue", "BadSteps", "BadHouse", "BadName", "BadChoice", "BadRecord", "Trouble", "MOST_NUMBER", "MOST_SIGNS", "MOST_PARTS", "MOST_WITHIN_values", "BARRED_values", "is_number", "are_signs", "is_value", "MOST_NAME", "MOST_DEEP", "LETTERS", "BARRED_terms"]
def loose1 : List Str := ["TWO", "ONE", "need", "need_terms", "is_name", "need_deep", "need_term", "MOST_STEPS", "MOST_WITHIN_bodies", "LENGTHS", "need_step", "need_deep_body", "need_body", "MOST_FOUR", "MOST_TABLES", "MOST_COLUMNS", "MOST_MAKERS", "MOST_MEMBERS", "MOST_WITHIN_houses", "SCOPES"]
def loose2 : List Str := ["need_houses", "is_text", "need_steps", "need_worth", "need_names", "need_once", "need_values", "need_maker", "need_table", "need_try", "need_group", "need_member", "need_house", "Spot", "all_spots", "spots_of", "Made", "met", "names_in", "terms_of"]
def loose3 : List Str := ["lacks", "given_by", "maker_lacks", "is_ring", "wrong_maker", "columns_in", "wrong_try", "wrong", "_law_cell", "_law_drawn", "_law_word", "_law_told", "_law_names", "_law_up", "_law_maker", "_law_makers", "_law_table", "_law_try", "_law_group", "_law_bad_makers"]
def loose4 : List Str := ["_law_bad_tries", "_law_bad_groups", "_law_nest", "_law_with"]
def looseS : List Str := loose0 ++ loose1 ++ loose2 ++ loose3 ++ loose4
abbrev Rr : PySem.W.OpenRow := PySem.W.OpenLaw.row PySem.Challenge.rw_trywright_k30_houses_refused
abbrev hkS : PySem.W.Hook := hookY 8 faS fnS tsS tfS exS
def obS (s : PySem.W.SharedT) : He.AlX := obsY 8 faS fnS tsS tfS exS (HandSHeadRun.getT s)
theorem obS_eq (s : PySem.W.SharedT) : obS s = hkS.obs s.abs := obsY_is (HandSHeadRun.getT_eq s)
set_option maxHeartbeats 0 in
theorem runT (w : World) : HandSHeadRun.RunEq Rr (PySem.W.view Rr.prog [93]) hkS obS 8000 looseS (wSay w true) := by
  intro os
  kernel_rfl
set_option maxHeartbeats 0 in
theorem runU (w : World) : HandSHeadRun.RunEq Rr (PySem.W.view Rr.prog [93]) hkS obS 8000 looseS (wSay w false) := by
  intro os
  kernel_rfl
theorem runS (w : World) : HandSHeadRun.RunEq Rr (PySem.W.view Rr.prog [93]) hkS obS 8000 looseS w := of_say (P := fun w => HandSHeadRun.RunEq Rr (PySem.W.view Rr.prog [93]) hkS obS 8000 looseS w) runT runU w
end Tw
set_option Elab.async false
set_option linter.all false
set_option maxRecDepth 100000
set_option maxHeartbeats 2000000
namespace Pv
open PySem PySem.Spec PyProof.Rows L2
class TabCx where
  T : List (Addr × Str)
  cls : Str → Addr := fun _ => 0
  fld : Str → List Str := fun _ => []
  /-- things that are told apart by where they lie: a number for each, and its place -/
  rho : Int → Option Addr := fun _ => none
  inj : ∀ i j a, rho i = some a → rho j = some a → i = j := by intro i j a h; cases h
  /-- classes of exceptions that may have a context -/
  long : Value → Prop := fun _ => False
@[reducible] def TabCx.nil : TabCx := { T := [] }
end Pv
namespace L2C
open PySem PySem.Spec PyProof.Rows L2 Pv
variable [TabCx]
def Lone (o : Obj) : Prop := ∃ ws : Array Value, o.data = .fields ws ∧ ws[2]? = some Value.none
def Next (o : Obj) (b : Addr) : Prop := ∀ vs : Array Value, o.data = .fields vs → vs[2]? = some (Value.ref b)
def Tail (G : Heap) (H : Hp) (cls : Value) (o : Obj) : Prop := PXN.CtxN o ∨ TabCx.long cls ∧ ∃ b ob, Next o b ∧ G.get? b = some ob ∧ Lone ob ∧ H b = none
theorem next_steady {b : Addr} : PXN.Steady1 (fun o => Next o b) := fun o v h => by
  obtain ⟨c, d, dt, sl⟩ := o
  intro vs e
  cases dt with
  | fields vs0 =>
    have e2 : vs0.setIfInBounds 1 v = vs := Data.fields.inj e
    rw [← e2]
    exact HotX.set_other (by decide) (h vs0 rfl)
  | _ => first | exact Data.noConfusion e | cases e
def Zk (G : Heap) (H : Hp) (cls : Value) (d : Option Addr) : Obj → Prop := fun o => (o.cls = cls ∧ o.dict = d) ∧ Tail G H cls o
theorem Zk.steady {G : Heap} {H : Hp} {cls : Value} {d : Option Addr} : PXN.Steady1 (Zk G H cls d) := fun o v h => by
  refine ⟨⟨PXN.steady_cls o v h.1.1, PXN.steady_dict o v h.1.2⟩, ?_⟩
  rcases h.2 with h2 | ⟨l, b, ob, n, r⟩
  · exact .inl (PXN.steady_ctx o v h2)
  · exact .inr ⟨l, b, ob, next_steady o v n, r⟩
def XE (X : Cx) (W : WX) (u : Value) (s' : Shared) : Prop :=
  ∃ (ea : Addr) (G : Heap) (s0 : Shared) (pins : List (Addr × Obj)) (σ : L2.St) (H : Hp) (cls : Value) (d : Option Addr), u = .ref ea ∧ Inv X pins σ H s0 ∧
    (∀ b o, s0.heap.get? b = some o → b ∉ frs X.stack → G.get? b = some o) ∧ s0.heap.UpToSlots s'.heap ∧ Sky G X.stack ea (Zk G H cls d) X.env.locals s'.heap ∧ H ea = none ∧ s'.os = s0.os ∧ AllBare s'.gens ∧ W cls d σ H
def Takes (X : Cx) (W : WX) : Prop := ∀ u s', XE X W u s' → X.xe u s'
theorem Takes.imp {X : Cx} {W W' : WX} (t : Takes X W) (h : ∀ c d σ H, W' c d σ H → W c d σ H) : Takes X W' := by
  rintro u s' ⟨ea, G, s0, pins, σ, H, cls, d, r1, r2, r3, r4, r5, r6, r7, r8, r9⟩
  exact t u s' ⟨ea, G, s0, pins, σ, H, cls, d, r1, r2, r3, r4, r5, r6, r7, r8, h _ _ _ _ r9⟩
def CX (P : Program) (w : World) (outer : List Env) (H : Hp) (s : Shared) (E : XK) (u : Value) (s' : Shared) : Prop :=
  ∃ (ea : Addr) (G : Heap) (H1 : Hp) (cls : Value) (d : Option Addr), u = .ref ea ∧ HandSPX.FlyingZ G outer ea (Zk G H1 cls d) s'.heap ∧ HOk P w H1 G ∧ UB (frs outer) H H1 s.heap G s'.heap ∧ H1 ea = none ∧ s'.os = s.os ∧ AllBare s'.gens ∧ E cls d H1
section
variable {X : Cx} {pins : List (Addr × Obj)} {σ : L2.St} {H : Hp} {s0 s s' : Shared} {G : Heap} {W : WX} {E : XK}
theorem XE.of_call (I : Inv X pins σ H s) (hW : ∀ cls d H', E cls d H' → W cls d σ H') {u : Value} (c : CX X.prog X.w X.stack H s E u s') : XE X W u s' := by
  obtain ⟨ea, G, H1, cls, d, rfl, fl, hk, ub, na, ho, hg, hE⟩ := c
  obtain ⟨R, p1, p2⟩ := restrict s'.heap fun b => (G.get? b).isSome || decide (b ∈ frs X.stack)
  have hst : G.StaysIn s'.heap := fl.1
  have inR : ∀ b o, G.get? b = some o → R.get? b = some o := fun b o q => (p1 b (by simp [q])).trans (hst b o q)
  have frR : ∀ b, b ∈ frs X.stack → R.get? b = s'.heap.get? b := fun b q => p1 b (by simp [q])
  have ofR : ∀ b o, R.get? b = some o → s'.heap.get? b = some o ∧ ((G.get? b).isSome = true ∨ b ∈ frs X.stack) := fun b o q => by
    cases z : ((G.get? b).isSome || decide (b ∈ frs X.stack)) with
    | true =>
      rw [p1 b z] at q
      refine ⟨q, ?_⟩
      simpa [Bool.or_eq_true] using z
    | false =>
      rw [p2 b z] at q
      cases q
  refine ⟨ea, G, { s with heap := R, gens := s'.gens, drawn := s'.drawn, toks := s'.toks }, pins, σ, H1, cls, d, rfl, ?_, ?_, Heap.UpToSlots.of_keeps fun b o q => (ofR b o q).1, .inr (.inl fl), na, ho, hg, hW _ _ _ hE⟩
  · refine I.call (ch := []) ⟨fun b o e n hb _ => inR b o (ub.keep b o e n hb), ?_, fun b o e n _ => ub.free b o e n, ?_, ub.tups, ub.frzs, ub.tbls⟩ (hk.kept inR) hg (fun _ z => nomatch z)
    · intro b o e n hb _
      obtain ⟨sl, q⟩ := ub.slot b o e hb
      exact ⟨sl, (frR b hb).trans q⟩
    · intro b o e _
      by_cases hb : b ∈ frs X.stack
      · obtain ⟨sl, q⟩ := ub.slot b o e hb
        exact ⟨_, (frR b hb).trans q⟩
      · obtain ⟨o2, q⟩ := ub.there b o e hb
        exact ⟨o2, inR b o2 q⟩
  · intro b o q hb
    obtain ⟨q1, q2⟩ := ofR b o q
    rcases q2 with q2 | q2
    · obtain ⟨o2, q3⟩ := Option.isSome_iff_exists.mp q2
      have q4 := hst b o2 q3
      rw [q1] at q4
      cases q4
      exact q3
    · exact absurd q2 hb
theorem XE.new {ea : Addr} {oe : Obj} {vs : Array Value} {cls : Value} {d : Option Addr} (I : Inv X pins σ H s0) (k : ∀ b o, s0.heap.get? b = some o → s'.heap.get? b = some o) (hn : s0.heap.get? ea = none) (he : s'.heap.get? ea = some oe)
    (hz : Zk (PySem.W.hideAll s0.heap (frs X.stack)) H cls d oe) (hd : oe.data = .fields vs) (h1 : vs[1]? = some .none) (na : H ea = none) (ho : s'.os = s0.os) (hg : AllBare s'.gens) (w : W cls d σ H) : XE X W (.ref ea) s' := by
  have nG : (PySem.W.hideAll s0.heap (frs X.stack)).get? ea = none := by
    cases q : (PySem.W.hideAll s0.heap (frs X.stack)).get? ea with
    | some o =>
      have q2 := PySem.W.of_hideAll _ q
      rw [hn] at q2
      cases q2
    | none => rfl
  refine ⟨ea, _, s0, pins, σ, H, cls, d, rfl, I, fun b o q hb => PySem.W.hideAll_get _ q hb, Heap.UpToSlots.of_keeps k, .inl ⟨fun b o q => k b o (PySem.W.of_hideAll _ q), nG, ?_, oe, vs, he, hz, hd, h1⟩, na, ho, hg, w⟩
  exact Heap.FunFrames.of_keeps (fun b o q _ => ⟨o, k b o q, rfl⟩) (funFrames_none I.stack fun b hb => PySem.W.hideAll_none _ hb)
theorem XE.leave (hs : X.stack = X.env :: X.outer) (hf : X.env.frame = some X.env.locals) (hex : X.ex = []) {E₁ : Value → Shared → Prop} (hW : ∀ cls d σ H, W cls d σ H → E cls d H) {u : Value} (x : XE X W u s') :
    wpAny (model X.prog X.w) X.A (leaving X.env u) (fun _ s'' => CX X.prog X.w X.outer X.H_0 X.s_0 E u s'') E₁ s' := by
  obtain ⟨ea, G, s0, pins, σ, H, cls, d, rfl, I, nb, up, sky, na, ho, hg, w⟩ := x
  have hfr : X.A.frames = some (X.env :: X.outer) := by rw [I.ok.frames, hs]
  have nst : ∀ b o, X.s_0.heap.get? b = some o → b ∉ X.fs → b ∉ frs X.stack := fun b o q hb hm => by
    rcases List.mem_cons.mp (I.stkSub b hm) with z | z
    · have q1 := Heap.lt_size q
      rw [z] at q1
      exact Nat.lt_irrefl _ (Nat.lt_of_lt_of_le q1 I.ok.above)
    · exact hb z
  have nex : ∀ b, b ∉ X.ex := fun b hb => by rw [hex] at hb; cases hb
  have hkG := I.inGround nb
  have fin : ∀ h', HandSPX.FlyingZ G X.outer ea (Zk G H cls d) h' → s'.heap.UpToSlots h' → CX X.prog X.w X.outer X.H_0 X.s_0 E (.ref ea) { s' with heap := h' } := fun h' fl up' => by
    refine ⟨ea, G, H, cls, d, rfl, fl, hkG, ⟨fun b o q n hb => nb b o (I.base.keep b o q n hb (nex b)) (nst b o q hb), ?_, fun b o q n => I.base.free b o q n (nex b), ?_, I.base.tups, I.base.frzs, I.base.tbls⟩, na, ho.trans I.os, hg, hW _ _ _ _ w⟩
    · intro b o q hb
      obtain ⟨_, o1, q1, hnf⟩ := I.ok.funs.mem hb
      rw [q] at q1
      cases q1
      obtain ⟨sl1, z1⟩ := I.base.slot b o q (I.ok.frf b hb) hb (nex b)
      obtain ⟨sl2, z2⟩ := up b _ z1 hnf
      obtain ⟨sl3, z3⟩ := up' b _ z2 hnf
      exact ⟨sl3, z3⟩
    · intro b o q hb
      obtain ⟨o1, z1⟩ := I.base.there b o q (nex b)
      exact ⟨o1, nb b o1 z1 (nst b o q hb)⟩
  rw [hs] at sky
  rcases sky with ⟨q1, q2, q3, oe, vs, q4, q5, q6, q7⟩ | fl | hd
  · exact PXN.leaving_firstZ Zk.steady hfr q3 hf q4 q1 q2 q6 q7 q5 fin
  · exact PXN.leaves_onZ Zk.steady hfr hf fl fin
  · exact HandSPX.leaves_heldZ hf hd fin
theorem takes_of (hs : X.stack = X.env :: X.outer) (hf : X.env.frame = some X.env.locals) (hex : X.ex = []) {E₁ : Value → Shared → Prop}
    (hx : X.xe = fun e s' => wpAny (model X.prog X.w) X.A (leaving X.env e) (fun _ s'' => CX X.prog X.w X.outer X.H_0 X.s_0 E e s'') E₁ s') : Takes X (fun cls d _ H => E cls d H) := by
  intro u s' x
  rw [hx]
  exact XE.leave (W := fun cls d _ H => E cls d H) (E := E) hs hf hex (fun _ _ _ _ q => q) x
theorem passes_call (tk : Takes X W) (hW : ∀ cls d σ H, E cls d H → W cls d σ H) : Passes (CX X.prog X.w) X E := by
  intro _ σ _ _ e s' I c
  exact tk e s' (XE.of_call I (fun cls d H' q => hW cls d σ H' q) c)
theorem passAt (tk : Takes X W) (σ : L2.St) : PassesAt (L2C.CX X.prog X.w) X σ (WE W σ) := by
  intro _ _ _ e s' I c
  exact tk e s' (XE.of_call I (fun _ _ _ q => q) c)
theorem zk_of {cls : Value} {d : Option Addr} {o : Obj} (h : L2N.Zn cls d o) : Zk G H cls d o := ⟨⟨h.1, h.2.1⟩, .inl h.2.2⟩
theorem ps_raise {e : Expr} {t : L2.St → Hp → XK → Prop} {pos : Pos} (hc : X.calm = true) (tk : Takes X W) (he : L2N.PMk X e t) : PS X (.Raise (some e) none pos) (fun _ σ H => t σ H fun cls d H' => W cls d σ H') := by
  refine ⟨fun pins s σ H D I h => ?_⟩
  show wpAny _ _ (do standAt pos; raiseStmt X.env (some (do let v ← eval e X.env; standAt pos; pure v)) none) _ _ _
  refine wpAny_bind (wpAny_standAt (raise_made (I.ok.hd hc) (wpAny_bind (wpAny_mono (he pins s σ H _ I h) (fun u s1 hu => wpAny_bind (wpAny_standAt (wpAny_pure ?_))) fun _ _ z => z))))
  obtain ⟨ea, oe, vs, s0, H1, cls, d, rfl, J, k, hn, ha, hz, hd, h1, na, ho, hg, rs, q⟩ := hu
  have rr := rs (model X.prog X.w) s1.heap (J.kIn.keeps k)
  exact ⟨ea, oe, vs, cls, rfl, ha, hz.1, hd, h1, rr.1, rr.2, tk _ _ (XE.new J k hn ha (zk_of hz) hd h1 na ho hg q)⟩
theorem ps_raiseN {e : Expr} {t : L2.St → Hp → XK → Prop} {j : Nat} {cpos pos : Pos} (hc : L2H.HotC X) (tk : Takes X W) (he : L2H.PMk5 X e t) :
    PS X (.Raise (some e) (some (.Constant .none j cpos)) pos) (fun _ σ H => t σ H fun cls d H' => TabCx.long cls ∧ W cls d σ H') := by
  refine ⟨fun pins s σ H D I h => ?_⟩
  obtain ⟨p, ⟨hh, v1, e1, c1⟩, hp⟩ := hc
  show wpAny _ _ (do standAt pos; raiseStmt X.env (some (do let v ← eval e X.env; standAt pos; pure v)) (some (do let v ← eval (.Constant .none j cpos) X.env; standAt pos; pure v))) _ _ _
  refine wpAny_bind (wpAny_standAt (HotX.raise_made_hotN (x1 := p.1) (fun s2 Q2 q2 => wpAny_bind (Constant_none (wpAny_bind (wpAny_standAt (wpAny_pure q2))))) (wpAny_bind (wpAny_mono (he pins s σ H _ I h) (fun u s1 hu => wpAny_bind (wpAny_standAt (wpAny_pure ?_))) fun _ _ z => z))))
  obtain ⟨⟨ea, oe, vs, s0, H1, cls, d, rfl, J, k, hn, ha, hz, hd, h1, na, ho, hg, rs, ql, q⟩, h5⟩ := hu
  have hi : 4 < vs.size := h5 ea oe vs rfl ha hd
  have ne_of : ∀ {b : Addr} {u : Obj}, s0.heap.get? b = some u → ea ≠ b := fun {b u} z y => by
    subst y
    rw [hn] at z
    cases z
  have k4 : ∀ b u, s0.heap.get? b = some u → (HotX.noneFrom s1.heap ea).get? b = some u := fun b u z => (HotX.noneFrom_other (ne_of z)).trans (k b u z)
  have rr1 := (rs (model X.prog X.w) s1.heap (J.kIn.keeps k)).1
  have rr2 := (rs (model X.prog X.w) (HotX.noneFrom s1.heap ea) (J.kIn.keeps k4)).2
  have P := J.pin p (List.mem_append_left _ hp)
  have nap : p.1 ≠ ea := fun z => ne_of P.1 z.symm
  have pst : p.1 ∉ frs X.stack := fun hm => (List.mem_cons.mp (J.stkSub p.1 hm)).elim P.2.2.1 P.2.2.2.1
  obtain ⟨ha4, hd4⟩ := HotX.noneFrom_at ha hd
  have hd2 := Obj.data_mapFields hd4 (·.setIfInBounds 2 (Value.ref p.1))
  have h12 : (((vs.setIfInBounds 3 Value.none).setIfInBounds 4 (Value.bool true)).setIfInBounds 2 (Value.ref p.1))[1]? = some Value.none := HotX.set_other (by decide) (HotX.set_other (by decide) (HotX.set_other (by decide) h1))
  have h22 : (((vs.setIfInBounds 3 Value.none).setIfInBounds 4 (Value.bool true)).setIfInBounds 2 (Value.ref p.1))[2]? = some (Value.ref p.1) := by
    have hs2 : 2 < ((vs.setIfInBounds 3 Value.none).setIfInBounds 4 (Value.bool true)).size := by rw [HotX.set_size, HotX.set_size]; omega
    generalize ((vs.setIfInBounds 3 Value.none).setIfInBounds 4 (Value.bool true)) = us at hs2
    first
    | rw [Array.getElem?_setIfInBounds_self_of_lt hs2]
    | (rw [Array.getElem?_setIfInBounds_self, if_pos hs2])
    | simp [Array.getElem?_setIfInBounds, hs2]
  refine ⟨ea, oe, vs, cls, rfl, ha, hz.1, hd, h1, hi, nap, ⟨hh, p.2, v1, k _ _ P.1, e1, c1⟩, rr1, rr2, tk _ _ (XE.new J (fun b u z => ?_) hn (Heap.get?_update_self _ ha4 (Obj.isFreed_of_fields hd2)) ⟨⟨?_, ?_⟩, .inr ⟨ql, p.1, p.2, ?_, PySem.W.hideAll_get _ P.1 pst, ⟨v1, e1, c1⟩, P.2.1⟩⟩ hd2 h12 na ho hg q)⟩
  · show ((HotX.noneFrom s1.heap ea).update ea (Obj.mapFields (·.setIfInBounds 2 (.ref p.1)))).get? b = some u
    rw [Heap.get?_update_other _ _ (ne_of z)]
    exact k4 b u z
  · rw [Obj.cls_mapFields, Obj.cls_mapFields, Obj.cls_mapFields]
    exact hz.1
  · rw [HandSPX.dict_mapFields, HandSPX.dict_mapFields, HandSPX.dict_mapFields]
    exact hz.2.1
  · intro ws z
    rw [hd2] at z
    cases z
    exact h22
end
end L2C
set_option Elab.async false
set_option linter.all false
set_option maxRecDepth 100000
set_option maxHeartbeats 2000000
namespace L2C
open PySem PySem.Spec PyProof.Rows L2 Pv
variable [TabCx]
def Zs (pn : List (Addr × Obj)) (cls : Value) (d : Option Addr) (o : Obj) : Prop := (o.cls = cls ∧ o.dict = d) ∧ (PXN.CtxN o ∨ ∃ q ∈ pn, Next o q.1 ∧ Lone q.2)
section
variable {X : Cx} {pins : List (Addr × Obj)} {σ : L2.St} {H : Hp} {s : Shared} {G : Heap}
theorem off_frames {h : Heap} {l : List Env} {b : Addr} {o : Obj} {vs : Array Value} (ff : h.FunFrames G l) (q : h.get? b = some o) (hd : o.data = .fields vs) : b ∉ frs l := fun hm => by
  obtain ⟨_, o2, q2, nf⟩ := ff.mem hm
  rw [q] at q2
  cases q2
  exact nf _ hd
theorem off_own (hf : X.env.frame = some X.env.locals) {b : Addr} (h : b ∉ frs (X.env :: X.outer)) : b ≠ X.env.locals ∧ b ∉ X.fs := by
  refine ⟨fun z => h (List.mem_filterMap.mpr ⟨X.env, List.mem_cons_self, by rw [hf, z]⟩), fun hm => ?_⟩
  obtain ⟨e, he, q⟩ := List.mem_filterMap.mp hm
  exact h (List.mem_filterMap.mpr ⟨e, List.mem_cons_of_mem _ he, q⟩)
theorem pin_tail (hf : X.env.frame = some X.env.locals) (J : Inv X pins σ H s) (st : G.StaysIn s.heap) (ff : s.heap.FunFrames G (X.env :: X.outer)) {cls : Value} {d : Option Addr} {oe : Obj} (z : Zk G H cls d oe) :
    ∃ pins2, Inv X pins2 σ H s ∧ (∀ {σ2 : L2.St} {H2 : Hp} {s2 : Shared}, Inv X pins2 σ2 H2 s2 → Inv X pins σ2 H2 s2) ∧ Zs (X.pn ++ pins2) cls d oe := by
  obtain ⟨z1, z2⟩ := z
  rcases z2 with z2 | ⟨_, b, ob, n, q, ⟨ws, lo, lo2⟩, hb⟩
  · exact ⟨pins, J, fun I => I, z1, .inl z2⟩
  · have q2 := st b ob q
    have o2 := off_own hf (off_frames ff q2 lo)
    refine ⟨pins ++ [(b, ob)], J.pins_of fun p hp => ?_, fun I => I.unpinned, z1, .inr ⟨(b, ob), by simp, n, ws, lo, lo2⟩⟩
    rcases List.mem_append.mp hp with hp | hp
    · exact J.pin p (List.mem_append_right _ hp)
    · obtain rfl := List.mem_singleton.mp hp
      refine ⟨q2, hb, o2.1, o2.2, fun v y => ?_⟩
      have y2 : ob.data = .cell v := y
      rw [lo] at y2
      cases y2
end
section
variable {X : Cx} {x n : Str} {c : Value} {i : Nat} {body suite : List Stmt} {b₀ : Stmt} {np pos pos' : Pos} {tb : WX → TS} {ts : Addr → Value → Option Addr → TS} {Wout : WX}
theorem fly_on {pins : List (Addr × Obj)} {D : Ends} {ea : Addr} {G : Heap} {s0 s' : Shared} {σ : L2.St} {H : Hp} {cls : Value} {d : Option Addr} {h3 : Heap} (hs : X.stack = X.env :: X.outer) (hf : X.env.frame = some X.env.locals) (tk : Takes X Wout)
    (J : Inv X pins σ H s0) (nb : ∀ b o, s0.heap.get? b = some o → b ∉ frs X.stack → G.get? b = some o) (up : s0.heap.UpToSlots h3) (fl : HandSPX.FlyingZ G (X.env :: X.outer) ea (Zk G H cls d) h3) (na : H ea = none) (ho : s'.os = s0.os) (hg : AllBare s'.gens) (w : Wout cls d σ H) :
    wpAny (model X.prog X.w) X.A (handleBy (.ref ea) X.env []) (SP X pins D) X.xe { s' with heap := h3 } := by
  refine wpAny_handleBy_nil ?_
  obtain ⟨_, _, _, oe, vs, T, oT, ts', q1, _, q2, q3, _⟩ := id fl
  unfold PySem.passOn
  refine wpAny_bind (wpAny_field q1 q2 q3 ?_)
  rw [if_neg (show ¬ ((Value.ref T == Value.none) = true) from by simp)]
  have go : wpAny (model X.prog X.w) X.A (setFlight (.ref ea) X.env.frame) (fun _ s4 => wpAny (model X.prog X.w) X.A (throw (.ref ea) : Sem Flow) (SP X pins D) X.xe s4) X.xe { s' with heap := h3 } := by
    rw [hf]
    refine HandSPX.setFlight_upZ fl fun h4 hh up4 => wpAny_throw (tk _ _ ⟨ea, G, s0, pins, σ, H, cls, d, rfl, J, nb, up.trans up4, .inr (.inr ?_), na, ho, hg, w⟩)
    rw [hs]
    exact hh
  first
  | exact wpAny_bind go
  | exact wpAny_bind (wpAny_pure (wpAny_bind go))
theorem ps_try_as (hs : X.stack = X.env :: X.outer) (hf : X.env.frame = some X.env.locals) (hN : X.N.Nodup) (hi : X.N[i]? = some n) (hln : X.env.kindOf n = some .local) (hc : Names X x c) (tk : Takes X Wout)
    (hb : ∀ (W : WX) (pn : List (Addr × Obj)) (xe : Value → Shared → Prop), Takes (X.tr pn xe) W → PassesOwn (model X.prog X.w) X.A X.env xe → PSs (X.tr pn xe) body (tb W))
    (hsu : ∀ (ea : Addr) (oe : Obj) (cls : Value) (d : Option Addr) (pn : List (Addr × Obj)), Zs pn cls d oe → (∃ vs, oe.data = .fields vs) → PSs (X.suite ea ((ea, oe) :: pn)) (b₀ :: suite) (ts ea cls d)) :
    PS X (.Try body [.ExceptHandler (some (.Name x np)) (some n) (b₀ :: suite) pos'] [] [] pos) (fun D σ H => tb (wAs X.K c i ts Wout D) D σ H) := by
  refine ⟨fun pins s σ H D I h => wpAny_Try_except ?_⟩
  have ok := I.ok
  have hfr : X.A.frames = some (X.env :: X.outer) := by rw [ok.frames, hs]
  have hloc : Loc X.env.scope n := .inl hln
  refine wpAny_mono ((hb (wAs X.K c i ts Wout D) (X.pn ++ pins) (fun e s₁ => wpAny (model X.prog X.w) X.A (noteFrame e X.env) (fun _ s₂ => wpAny (model X.prog X.w) X.A (setFlight e none) (fun _ s₃ =>
    wpAny (model X.prog X.w) X.A (handleBy e X.env [.ExceptHandler (some (.Name x np)) (some n) (b₀ :: suite) pos']) (SP X pins D) X.xe s₃) X.xe s₂) X.xe s₁) (fun u s' xx => ?_) PassesOwn.looking).run [] s σ H D (I.toTry _) h) (fun f s1 q => ?_) (fun _ _ z => z)
  · obtain ⟨ea, G, s0, _, σ', H', cls, d, rfl, J', nb, up, sky, na, ho, hg, b, hb1, hyes, hno⟩ := xx
    have J : Inv X pins σ' H' s0 := J'.ofTry ok
    replace sky : Sky G (X.env :: X.outer) ea (Zk G H' cls d) X.env.locals s'.heap := by rw [← hs]; exact sky
    show wpAny (model X.prog X.w) X.A (noteFrame (.ref ea) X.env) _ _ _
    refine L2N.Sky.land Zk.steady hfr hf sky fun h3 fl3 up3 => ?_
    have J3 : Inv X pins σ' H' { s' with heap := h3 } := J.landed nb fl3.1 (up.trans up3) ho hg
    obtain ⟨oe3, vs3, he3, hz3, hd3⟩ := fl3.there
    obtain ⟨nL, nF⟩ := off_own hf (off_frames fl3.2.2.1 he3 hd3)
    have S3 := J3.suite he3 hd3 na nL nF
    refine wpAny_handleBy_cons (codeAny_handlers_test ?_) (by intro q; cases q)
    have LT : PySem.W.Looks (model X.prog X.w) h3 (typeOf (.ref ea)) cls := fun A Q E s k q => wpAny_typeOf_ref (k _ _ he3) (by rw [hz3.1.1]; exact q)
    have LM := PySem.W.exm_one (M := model X.prog X.w) (J3.kIn) LT hb1
    have test : ∀ {Q : Value → Shared → Prop} {E : Value → Shared → Prop}, Q c { s' with heap := h3 } → wpAny (model X.prog X.w) (X.A.mark (some (.ref ea))) (eval (.Name x np) X.env) Q E { s' with heap := h3 } := fun {Q E} q => by
      obtain ⟨g1, g2, g3 | ⟨g3, g4, g5⟩⟩ := hc
      · exact ld_glob (X := X.suite ea ((ea, oe3) :: (X.pn ++ pins))) S3 g1 g3 q g2
      · exact ld_blt (X := X.suite ea ((ea, oe3) :: (X.pn ++ pins))) S3 g1 g3 g4 q g5 g2
    refine test (LM.here ?_)
    cases b with
    | false =>
      show wpAny _ X.A (handleBy (.ref ea) X.env []) _ _ _
      exact fly_on hs hf tk J nb (up.trans up3) fl3 na ho hg (hno rfl)
    | true =>
      refine codeAny_handlers_suite_as (HandSPX.lands_againZ fl3 fun h4 fl4 up4 => ?_)
      have J4 : Inv X pins σ' H' { s' with heap := h4 } := J.landed nb fl4.1 ((up.trans up3).trans up4) ho hg
      obtain ⟨oe4, vs4, he4, hz4, hd4⟩ := fl4.there
      obtain ⟨pins2, J5, dn, zs⟩ := pin_tail hf J4 fl4.1 fl4.2.2.1 hz4
      have S4 := J5.suite he4 hd4 na nL nF
      refine store_ok (X := X.suite ea ((ea, oe4) :: (X.pn ++ pins2))) (v := .ref ea) S4 hN hi hloc rfl (fun s5 S5 => ?_) (.inr hln)
      refine wpAny_mono ((hsu ea oe4 cls d (X.pn ++ pins2) zs ⟨_, hd4⟩).run [] s5 _ H' _ S5 (hyes rfl ea na)) (fun f s6 hsp => ?_) (fun _ _ z => z.elim)
      have fin : ∀ {σ6 : L2.St} {H6 : Hp} {Q : Shared → Prop}, Inv (X.suite ea ((ea, oe4) :: (X.pn ++ pins2))) [] σ6 H6 s6 → (∀ s7, Inv X pins (σ6.set i none) H6 s7 → Q s7) →
          wpAny (model X.prog X.w) X.A (do bindName X.env n .none; unbindBehindTheSuite X.env n pos') (fun _ s7 => Q s7) X.xe s6 := fun {σ6 H6 Q} S6 hq => gone_ok (dn (S6.unsuite ok)) hN hi hln hq
      cases f with
      | ret u =>
        obtain ⟨v6, σ6, H6, S6, r6, q6⟩ := hsp
        exact fin S6 fun s7 J7 => ⟨v6, _, H6, J7, r6, q6⟩
      | next =>
        obtain ⟨σ6, H6, S6, q6⟩ := hsp
        exact fin S6 fun s7 J7 => ⟨_, H6, J7, q6⟩
      | brk =>
        obtain ⟨σ6, H6, S6, q6⟩ := hsp
        exact fin S6 fun s7 J7 => ⟨_, H6, J7, q6⟩
      | cont =>
        obtain ⟨σ6, H6, S6, q6⟩ := hsp
        exact fin S6 fun s7 J7 => ⟨_, H6, J7, q6⟩
  · cases f with
    | ret u =>
      obtain ⟨v, σ', H', J', r, q⟩ := q
      exact ⟨v, σ', H', J'.ofTry ok, r, q⟩
    | next =>
      obtain ⟨σ', H', J', q⟩ := q
      exact wpAny_execs_nil ⟨σ', H', J'.ofTry ok, q⟩
    | brk =>
      obtain ⟨σ', H', J', q⟩ := q
      exact ⟨σ', H', J'.ofTry ok, q⟩
    | cont =>
      obtain ⟨σ', H', J', q⟩ := q
      exact ⟨σ', H', J'.ofTry ok, q⟩
theorem ps_try_raise (hs : X.stack = X.env :: X.outer) (hf : X.env.frame = some X.env.locals) (hc : Names X x c) (hpa : ∀ hd : Option Value, PassesOwnAt (model X.prog X.w) (X.A.mark hd) X.A X.env X.xe) (tk : Takes X Wout) (hl : ∀ cls, TabCx.long cls → PySem.W.exmOne X.K cls c ≠ some true)
    (hb : ∀ (W : WX) (pn : List (Addr × Obj)) (xe : Value → Shared → Prop), Takes (X.tr pn xe) W → PassesOwn (model X.prog X.w) X.A X.env xe → PSs (X.tr pn xe) body (tb W))
    (hsu : ∀ (ea : Addr) (oe : Obj) (cls : Value) (d : Option Addr) (pn : List (Addr × Obj)), (∃ vs, oe.data = .fields vs) → Takes (L2H.suiteX X ea ((ea, oe) :: pn)) Wout → L2H.HotC (L2H.suiteX X ea ((ea, oe) :: pn)) →
      PSs (L2H.suiteX X ea ((ea, oe) :: pn)) (b₀ :: suite) (ts ea cls d)) :
    PS X (.Try body [.ExceptHandler (some (.Name x np)) none (b₀ :: suite) pos'] [] [] pos) (fun D σ H => tb (wOnly X.K c ts Wout D) D σ H) := by
  refine ⟨fun pins s σ H D I h => wpAny_Try_except ?_⟩
  have ok := I.ok
  have hfr : X.A.frames = some (X.env :: X.outer) := by rw [ok.frames, hs]
  refine wpAny_mono ((hb (wOnly X.K c ts Wout D) (X.pn ++ pins) (fun e s₁ => wpAny (model X.prog X.w) X.A (noteFrame e X.env) (fun _ s₂ => wpAny (model X.prog X.w) X.A (setFlight e none) (fun _ s₃ =>
    wpAny (model X.prog X.w) X.A (handleBy e X.env [.ExceptHandler (some (.Name x np)) none (b₀ :: suite) pos']) (SP X pins D) X.xe s₃) X.xe s₂) X.xe s₁) (fun u s' xx => ?_) PassesOwn.looking).run [] s σ H D (I.toTry _) h) (fun f s1 q => ?_) (fun _ _ z => z)
  · obtain ⟨ea, G, s0, _, σ', H', cls, d, rfl, J', nb, up, sky, na, ho, hg, b, hb1, hyes, hno⟩ := xx
    have J : Inv X pins σ' H' s0 := J'.ofTry ok
    replace sky : Sky G (X.env :: X.outer) ea (Zk G H' cls d) X.env.locals s'.heap := by rw [← hs]; exact sky
    show wpAny (model X.prog X.w) X.A (noteFrame (.ref ea) X.env) _ _ _
    refine L2N.Sky.land Zk.steady hfr hf sky fun h3 fl3 up3 => ?_
    have J3 : Inv X pins σ' H' { s' with heap := h3 } := J.landed nb fl3.1 (up.trans up3) ho hg
    obtain ⟨oe3, vs3, he3, hz3, hd3⟩ := fl3.there
    obtain ⟨nL, nF⟩ := off_own hf (off_frames fl3.2.2.1 he3 hd3)
    have S3 := J3.suite he3 hd3 na nL nF
    refine wpAny_handleBy_cons (codeAny_handlers_test ?_) (by intro q; cases q)
    have LT : PySem.W.Looks (model X.prog X.w) h3 (typeOf (.ref ea)) cls := fun A Q E s k q => wpAny_typeOf_ref (k _ _ he3) (by rw [hz3.1.1]; exact q)
    have LM := PySem.W.exm_one (M := model X.prog X.w) (J3.kIn) LT hb1
    have test : ∀ {Q : Value → Shared → Prop} {E : Value → Shared → Prop}, Q c { s' with heap := h3 } → wpAny (model X.prog X.w) (X.A.mark (some (.ref ea))) (eval (.Name x np) X.env) Q E { s' with heap := h3 } := fun {Q E} q => by
      obtain ⟨g1, g2, g3 | ⟨g3, g4, g5⟩⟩ := hc
      · exact ld_glob (X := X.suite ea ((ea, oe3) :: (X.pn ++ pins))) S3 g1 g3 q g2
      · exact ld_blt (X := X.suite ea ((ea, oe3) :: (X.pn ++ pins))) S3 g1 g3 g4 q g5 g2
    refine test (LM.here ?_)
    cases b with
    | false =>
      show wpAny _ X.A (handleBy (.ref ea) X.env []) _ _ _
      exact fly_on hs hf tk J nb (up.trans up3) fl3 na ho hg (hno rfl)
    | true =>
      refine codeAny_handlers_suite (HandSPX.lands_againZ fl3 fun h4 fl4 up4 => ?_)
      have J4 : Inv X pins σ' H' { s' with heap := h4 } := J.landed nb fl4.1 ((up.trans up3).trans up4) ho hg
      obtain ⟨oe4, vs4, he4, hz4, hd4⟩ := fl4.there
      have S4 := J4.suite he4 hd4 na nL nF
      have hn : PXN.CtxN oe4 := hz4.2.elim id fun z => absurd hb1 (hl cls z.1)
      have hot : L2H.HotC (L2H.suiteX X ea ((ea, oe4) :: (X.pn ++ pins))) := ⟨(ea, oe4), ⟨rfl, vs4, hd4, hn vs4 hd4⟩, List.mem_cons_self⟩
      have tkS : Takes (L2H.suiteX X ea ((ea, oe4) :: (X.pn ++ pins))) Wout := by
        rintro u2 s2 ⟨e2, G2, s02, _, σ2, H2, cls2, d2, r1, I2, r3, r4, r5, r6, r7, r8, r9⟩
        exact tk u2 s2 ⟨e2, G2, s02, pins, σ2, H2, cls2, d2, r1, L2H.unsuiteX I2 ok, r3, r4, r5, r6, r7, r8, r9⟩
      refine wpAny_mono ((hsu ea oe4 cls d (X.pn ++ pins) ⟨_, hd4⟩ tkS hot).run [] _ _ H' _ (L2H.suiteX_of S4) (hyes rfl ea na)) (fun f s6 hsp => ?_) (fun e6 s6 z => hpa (some (.ref ea)) e6 s6 z)
      cases f with
      | ret u =>
        obtain ⟨v6, σ6, H6, S6, r6, q6⟩ := hsp
        exact ⟨v6, σ6, H6, L2H.unsuiteX S6 ok, r6, q6⟩
      | next =>
        obtain ⟨σ6, H6, S6, q6⟩ := hsp
        exact ⟨σ6, H6, L2H.unsuiteX S6 ok, q6⟩
      | brk =>
        obtain ⟨σ6, H6, S6, q6⟩ := hsp
        exact ⟨σ6, H6, L2H.unsuiteX S6 ok, q6⟩
      | cont =>
        obtain ⟨σ6, H6, S6, q6⟩ := hsp
        exact ⟨σ6, H6, L2H.unsuiteX S6 ok, q6⟩
  · cases f with
    | ret u =>
      obtain ⟨v, σ', H', J', r, q⟩ := q
      exact ⟨v, σ', H', J'.ofTry ok, r, q⟩
    | next =>
      obtain ⟨σ', H', J', q⟩ := q
      exact wpAny_execs_nil ⟨σ', H', J'.ofTry ok, q⟩
    | brk =>
      obtain ⟨σ', H', J', q⟩ := q
      exact ⟨σ', H', J'.ofTry ok, q⟩
    | cont =>
      obtain ⟨σ', H', J', q⟩ := q
      exact ⟨σ', H', J'.ofTry ok, q⟩
end
end L2C
set_option Elab.async false
set_option linter.all false
set_option maxRecDepth 100000
set_option maxHeartbeats 2000000
namespace L2C
open PySem PySem.Spec PyProof.Rows L2 Pv
def Nodes (x1 : Addr) (nd : List (Addr × Obj)) : Prop := (∃ o1, nd = [(x1, o1)] ∧ Lone o1) ∨ ∃ o1 q, nd = [(x1, o1), q] ∧ (∃ vs : Array Value, o1.data = .fields vs ∧ vs[2]? = some (.ref q.1)) ∧ Lone q.2
def HotN (A : Around) (nd : List (Addr × Obj)) : Prop := ∃ x1, A.handled = some (.ref x1) ∧ Nodes x1 nd
def HotC2 (X : Cx) : Prop := ∃ nd, HotN X.A nd ∧ ∀ q ∈ nd, q ∈ X.pn
theorem Lone.big {o : Obj} (h : Lone o) : ∃ vs : Array Value, o.data = .fields vs ∧ 2 < vs.size := by
  obtain ⟨ws, e, q⟩ := h
  exact ⟨ws, e, (Array.getElem?_eq_some_iff.mp q).1⟩
theorem HotN.big {A : Around} {nd : List (Addr × Obj)} (h : HotN A nd) : ∀ q ∈ nd, ∃ vs : Array Value, q.2.data = .fields vs ∧ 2 < vs.size := by
  obtain ⟨x1, _, ⟨o1, rfl, lo⟩ | ⟨o1, q, rfl, ⟨vs, e, g⟩, lo⟩⟩ := h
  · intro p hp
    obtain rfl := List.mem_singleton.mp hp
    exact lo.big
  · intro p hp
    rcases List.mem_cons.mp hp with rfl | hp
    · exact ⟨vs, e, (Array.getElem?_eq_some_iff.mp g).1⟩
    · obtain rfl := List.mem_singleton.mp hp
      exact lo.big
section
variable {prog : Program} {w : World} {A : Around} {E : Value → Shared → Prop} {s : Shared} {nd : List (Addr × Obj)}
theorem ends_one {x1 x0 a : Addr} {o1 : Obj} {slow : Value} {b : Bool} {R : _ → Shared → Prop} (h1 : s.heap.get? x1 = some o1) (lo : Lone o1) (q : R (.ok (.ret .none)) s) : codeAny (model prog w) A (.builtin "proto.unchain" ⟨[.ref a, .ref x1, slow, .bool b], []⟩) R s := by
  obtain ⟨ws, e, g⟩ := lo
  refine codeAny_builtin HotX.entry_unchain ?_
  show wpAny _ _ (field (.ref x1) 2 >>= _) _ _ s
  refine wpAny_bind (wpAny_field h1 e g ?_)
  rw [if_pos (show (Value.none == Value.none) = true from rfl)]
  first
  | exact wpAny_bind (wpAny_pure (wpAny_pure q))
  | exact wpAny_pure q
theorem unchainT {x1 a : Addr} {Q : Value → Shared → Prop} (n : Nodes x1 nd) (hk : ∀ q ∈ nd, s.heap.get? q.1 = some q.2) (hne : ∀ q ∈ nd, q.1 ≠ a) (q : Q .none s) :
    wpAny (model prog w) A (holding [Value.ref a] (runValue (.builtin "proto.unchain" ⟨[.ref a, .ref x1, .ref x1, .bool false], []⟩))) Q E s := by
  refine wpAny_holding (wpAny_runValue ?_)
  rcases n with ⟨o1, rfl, lo⟩ | ⟨o1, p, rfl, ⟨vs, e, g⟩, lo⟩
  · exact ends_one (x0 := x1) (hk _ List.mem_cons_self) lo q
  · have k1 : s.heap.get? x1 = some o1 := hk _ List.mem_cons_self
    have k2 : s.heap.get? p.1 = some p.2 := hk p (by simp)
    have n1 : p.1 ≠ x1 := fun z => by
      rw [z, k1] at k2
      obtain ⟨ws, e2, g2⟩ := lo
      rw [← Option.some.inj k2, e] at e2
      cases e2
      rw [g] at g2
      cases g2
    have n2 : p.1 ≠ a := hne p (by simp)
    refine codeAny_builtin HotX.entry_unchain ?_
    show wpAny _ _ (field (.ref x1) 2 >>= _) _ _ s
    refine wpAny_bind (wpAny_field k1 e g ?_)
    rw [if_neg (show ¬ ((Value.ref p.1 == Value.none) = true) from by simp)]
    have b1 : ¬ ((Value.ref p.1 == Value.ref a) = true) := by
      first
      | simp [n2]
      | exact fun z => n2 (Value.ref.inj (eq_of_beq z))
    have b2 : ¬ ((Value.ref p.1 == Value.ref x1) = true) := by
      first
      | simp [n1]
      | exact fun z => n1 (Value.ref.inj (eq_of_beq z))
    rw [if_neg b1, if_neg b2]
    refine wpAny_bind (wpAny_pure ?_)
    show wpAny _ _ (pure (Fin.again _)) _ _ _
    exact wpAny_pure ⟨Code.quiet_builtin _ (by decide +kernel), ends_one (x0 := x1) k2 lo q⟩
theorem raiseNewT {α : Type} {a : Addr} {oe : Obj} {vs : Array Value} {Q : α → Shared → Prop} (hot : HotN A nd) (hk : ∀ q ∈ nd, s.heap.get? q.1 = some q.2) (hne : ∀ q ∈ nd, q.1 ≠ a) (ha : s.heap.get? a = some oe) (da : oe.data = .fields vs) (hi : 2 < vs.size)
    (hE : ∀ x1, E (.ref a) { s with heap := s.heap.update a (Obj.mapFields (·.setIfInBounds 2 (.ref x1))) }) : wpAny (model prog w) A (raiseNew (.ref a) : Sem α) Q E s := by
  obtain ⟨x1, hh, n⟩ := hot
  have nx : x1 ≠ a := by
    rcases n with ⟨o1, rfl, lo⟩ | ⟨o1, p, rfl, _⟩
    · exact hne _ List.mem_cons_self
    · exact hne _ List.mem_cons_self
  unfold raiseNew
  refine wpAny_bind (wpAny_handled ?_)
  rw [hh]
  have hb : (Value.ref x1 != Value.ref a) = true := HotX.ref_bne nx
  first
  | (refine wpAny_bind ?_
     show wpAny _ _ (if (Value.ref x1 != Value.ref a) = true then _ else _) _ _ _
     rw [if_pos hb]
     exact wpAny_bind (unchainT n hk hne (HotX.chained ha da hi (wpAny_throw (hE x1)))))
  | (show wpAny _ _ (if (Value.ref x1 != Value.ref a) = true then _ else _) _ _ _
     rw [if_pos hb]
     first
     | exact wpAny_bind (unchainT n hk hne (wpAny_bind (HotX.chained ha da hi (wpAny_throw (hE x1)))))
     | exact wpAny_bind (wpAny_bind (unchainT n hk hne (HotX.chained ha da hi (wpAny_throw (hE x1))))))
end
end L2C
set_option Elab.async false
set_option linter.all false
set_option maxRecDepth 100000
set_option maxHeartbeats 2000000
namespace Pv
open PySem PySem.Spec PyProof.Rows L2
variable [TabCx]
inductive PV where
  | non
  | bl (b : Bool)
  | int (i : Int)
  | str (x : Str)
  | tup (xs : List PV)
  | lst (xs : List PV)
  | scr (ns : List Int)
  | dct (ks : List Key) (vs : List PV)
  | ins (c : Str) (fs : List PV)
  deriving Inhabited
def GhOk (a : Addr) (gh : List V) : Prop := gh = [] ∨ ∃ i, gh = [.int i] ∧ TabCx.rho i = some a
mutual
def Rep (K : PySem.W.Frag) (F : Hp) : PV → V → Prop
  | .non, v => v = .non
  | .bl b, v => v = .bl b
  | .int i, v => v = .int i
  | .str x, v => v = .str x
  | .tup ds, v => ∃ a xs, v = .ref a ∧ SqT K F a xs ∧ RepL K F ds xs
  | .lst ds, v => ∃ a xs, v = .ref a ∧ F a = some (.lst xs) ∧ RepL K F ds xs
  | .scr ns, v => ∃ a, v = .ref a ∧ SqL K F a (ns.map V.int)
  | .dct ks vs, v => ∃ a ws, v = .ref a ∧ L2.Rd F a (.dK (ks.zip ws)) ∧ ks.length = vs.length ∧ RepL K F vs ws
  | .ins c ds, v => ∃ a dx nvs, v = .ref a ∧ F a = some (.ins (TabCx.cls c) dx nvs) ∧ F dx = some (.own a) ∧ nvs.map (·.1) = TabCx.fld c ∧ ∃ gh, GhOk a gh ∧ RepL K F ds (nvs.map (·.2) ++ gh)
def RepL (K : PySem.W.Frag) (F : Hp) : List PV → List V → Prop
  | [], xs => xs = []
  | d :: ds, xs => ∃ x r, xs = x :: r ∧ Rep K F d x ∧ RepL K F ds r
end
theorem rd_mono {H H' : Hp} {a : Addr} {u : HO} (e : Same H H') (h : L2.Rd H a u) : L2.Rd H' a u := by
  rcases h with h | ⟨o, h⟩
  · exact .inl (e _ _ h)
  · exact .inr ⟨o, e _ _ h⟩
theorem sqT_mono {K : PySem.W.Frag} {H H' : Hp} {a : Addr} {xs : List V} (e : Same H H') (h : SqT K H a xs) : SqT K H' a xs := by
  rcases h with (h | ⟨o, h⟩) | h
  · exact .inl (.inl (e _ _ h))
  · exact .inl (.inr ⟨o, e _ _ h⟩)
  · exact .inr h
section
variable {K : PySem.W.Frag} {F F' : Hp}
mutual
theorem Rep.mono (s : Same F F') : ∀ (d : PV) (v : V), Rep K F d v → Rep K F' d v
  | .non, _, h => h
  | .bl _, _, h => h
  | .int _, _, h => h
  | .str _, _, h => h
  | .tup ds, v, h => by
    simp only [Rep] at h ⊢
    obtain ⟨a, xs, e, q, r⟩ := h
    exact ⟨a, xs, e, sqT_mono s q, RepL.mono s ds xs r⟩
  | .lst ds, v, h => by
    simp only [Rep] at h ⊢
    obtain ⟨a, xs, e, q, r⟩ := h
    exact ⟨a, xs, e, s _ _ q, RepL.mono s ds xs r⟩
  | .scr ns, v, h => by
    simp only [Rep] at h ⊢
    obtain ⟨a, e, q⟩ := h
    exact ⟨a, e, s.seq q⟩
  | .dct ks vs, v, h => by
    simp only [Rep] at h ⊢
    obtain ⟨a, ws, e, q, l, r⟩ := h
    exact ⟨a, ws, e, rd_mono s q, l, RepL.mono s vs ws r⟩
  | .ins c ds, v, h => by
    simp only [Rep] at h ⊢
    obtain ⟨a, dx, nvs, e, q, q2, l, gh, g, r⟩ := h
    exact ⟨a, dx, nvs, e, s _ _ q, s _ _ q2, l, gh, g, RepL.mono s ds _ r⟩
theorem RepL.mono (s : Same F F') : ∀ (ds : List PV) (vs : List V), RepL K F ds vs → RepL K F' ds vs
  | [], _, h => h
  | d :: ds, vs, h => by
    simp only [RepL] at h ⊢
    obtain ⟨x, r, e, h1, h2⟩ := h
    exact ⟨x, r, e, Rep.mono s d x h1, RepL.mono s ds r h2⟩
end
theorem RepL.len : ∀ {ds : List PV} {vs : List V}, RepL K F ds vs → vs.length = ds.length
  | [], vs, h => by simp only [RepL] at h; subst h; rfl
  | d :: ds, vs, h => by
    simp only [RepL] at h
    obtain ⟨x, r, e, h1, h2⟩ := h
    subst e
    simp only [List.length_cons, RepL.len h2]
theorem RepL.app : ∀ {ds es : List PV} {vs ws : List V}, RepL K F ds vs → RepL K F es ws → RepL K F (ds ++ es) (vs ++ ws)
  | [], es, vs, ws, h, g => by simp only [RepL] at h; subst h; exact g
  | d :: ds, es, vs, ws, h, g => by
    simp only [RepL, List.cons_append] at h ⊢
    obtain ⟨x, r, e, h1, h2⟩ := h
    subst e
    exact ⟨x, r ++ ws, rfl, h1, RepL.app h2 g⟩
theorem RepL.one {d : PV} {v : V} (h : Rep K F d v) : RepL K F [d] [v] := by
  simp only [RepL]
  exact ⟨v, [], rfl, h, rfl⟩
theorem RepL.nil : RepL K F [] [] := by simp only [RepL]
theorem RepL.cons {d : PV} {ds : List PV} {v : V} {vs : List V} (h : Rep K F d v) (t : RepL K F ds vs) : RepL K F (d :: ds) (v :: vs) := by
  simp only [RepL]
  exact ⟨v, vs, rfl, h, t⟩
theorem RepL.get : ∀ {ds : List PV} {vs : List V}, RepL K F ds vs → ∀ {i : Nat} {x : V}, vs[i]? = some x → ∃ d, ds[i]? = some d ∧ Rep K F d x
  | [], vs, h, i, x, e => by simp only [RepL] at h; subst h; simp at e
  | d :: ds, vs, h, i, x, e => by
    simp only [RepL] at h
    obtain ⟨y, r, e1, h1, h2⟩ := h
    subst e1
    cases i with
    | zero => simp at e; subst e; exact ⟨d, rfl, h1⟩
    | succ i => simp at e; simpa using RepL.get h2 e
theorem RepL.get' {ds : List PV} {vs : List V} (h : RepL K F ds vs) {i : Nat} {d : PV} (e : ds[i]? = some d) : ∃ x, vs[i]? = some x ∧ Rep K F d x := by
  have hl := h.len
  have hi : i < vs.length := by
    have := (List.getElem?_eq_some_iff.mp e).1
    omega
  obtain ⟨d', e', r⟩ := h.get (List.getElem?_eq_getElem hi)
  rw [e] at e'
  cases e'
  exact ⟨_, List.getElem?_eq_getElem hi, r⟩
theorem RepL.take : ∀ {ds : List PV} {vs : List V} (n : Nat), RepL K F ds vs → RepL K F (ds.take n) (vs.take n)
  | _, _, 0, _ => by simp only [List.take_zero]; exact .nil
  | [], vs, n + 1, h => by simp only [RepL] at h; subst h; exact .nil
  | d :: ds, vs, n + 1, h => by
    simp only [RepL] at h
    obtain ⟨y, r, e1, h1, h2⟩ := h
    subst e1
    simp only [List.take_succ_cons]
    exact .cons h1 (RepL.take n h2)
theorem RepL.drop : ∀ {ds : List PV} {vs : List V} (n : Nat), RepL K F ds vs → RepL K F (ds.drop n) (vs.drop n)
  | _, _, 0, h => h
  | [], vs, n + 1, h => by simp only [RepL] at h; subst h; exact .nil
  | d :: ds, vs, n + 1, h => by
    simp only [RepL] at h
    obtain ⟨y, r, e1, h1, h2⟩ := h
    subst e1
    simp only [List.drop_succ_cons]
    exact RepL.drop n h2
end
def NoTab (o : HO) : Prop := ∀ ps, o ≠ .tbl ps
structure Fz (F H : Hp) : Prop where
  same : Same F H
  tabs : LamX.Tabs TabCx.T H
  noT : ∀ a o, F a = some o → NoTab o
theorem Fz.free {F H : Hp} (s : Fz F H) {a : Addr} (h : H a = none) : F a = none := s.same.free h
theorem Fz.up {F H : Hp} (s : Fz F H) {a : Addr} {o : HO} (h : F a = some o) : H a = some o := s.same a o h
structure Step (F H F' H' : Hp) : Prop where
  s0 : Fz F H
  s1 : Same F F'
  s2 : Fz F' H'
  keep : ∀ a o, H a = some o → F a = none → NoTab o → H' a = some o ∧ F' a = none
theorem Step.refl {F H : Hp} (s : Fz F H) : Step F H F H := ⟨s, Same.refl _, s, fun _ _ h1 h2 _ => ⟨h1, h2⟩⟩
theorem Step.trans {F H F1 H1 F2 H2 : Hp} (a : Step F H F1 H1) (b : Step F1 H1 F2 H2) : Step F H F2 H2 :=
  ⟨a.s0, a.s1.trans b.s1, b.s2, fun x o h n t => let ⟨h1, n1⟩ := a.keep x o h n t; b.keep x o h1 n1 t⟩
theorem Step.old {F H F' H' : Hp} (st : Step F H F' H') {a : Addr} {o : HO} (h : H a = some o) (t : NoTab o := by intro _ z; cases z) : H' a = some o := by
  cases e : F a with
  | none => exact (st.keep a o h e t).1
  | some u =>
    have h2 := st.s0.up e
    rw [h] at h2
    cases h2
    exact st.s2.up (st.s1 a o e)
def Fresh (H : Hp) (a : Addr) : Prop := ∀ o, H a = some o → ¬ NoTab o
theorem Fresh.of {H : Hp} {a : Addr} (h : H a = none) : Fresh H a := fun o e => by rw [h] at e; cases e
theorem Fresh.ne {H : Hp} {a p : Addr} {u : HO} (f : Fresh H p) (e : H a = some u) (t : NoTab u) : a ≠ p := fun z => by subst z; exact f u e t
theorem Step.back {F H F' H' : Hp} (st : Step F H F' H') {a : Addr} (h : Fresh H' a) : Fresh H a := fun o e t => h o (st.old e t) t
theorem tabs_new {H : Hp} {p : Addr} {o : HO} (t : LamX.Tabs TabCx.T H) (hp : H p = none) : LamX.Tabs TabCx.T (upd H p o) := t.ext fun b u h => by rw [upd_ne (ne_of_none h hp)]; exact h
theorem Step.new {F H : Hp} {p : Addr} {o : HO} (s : Fz F H) (hp : H p = none) : Step F H F (upd H p o) :=
  ⟨s, Same.refl _, ⟨fun a u e => by rw [upd_ne (ne_of_none (s.up e) hp)]; exact s.up e, tabs_new s.tabs hp, s.noT⟩, fun a u h n _ => ⟨by rw [upd_ne (ne_of_none h hp)]; exact h, n⟩⟩
theorem Step.frz {F H : Hp} {p : Addr} {o : HO} (s : Fz F H) (hp : H p = none) (t : NoTab o := by intro _ z; cases z) : Step F H (upd F p o) (upd H p o) :=
  ⟨s, fun a u e => by rw [upd_ne (ne_of_none (s.up e) hp)]; exact e,
   ⟨fun a u e => by
    by_cases q : a = p
    · subst q; rw [upd_same] at e ⊢; exact e
    · rw [upd_ne q] at e ⊢; exact s.up e, tabs_new s.tabs hp, fun a u e => by
    by_cases q : a = p
    · subst q; rw [upd_same] at e; cases e; exact t
    · rw [upd_ne q] at e; exact s.noT a u e⟩,
   fun a u h n _ => by
    have q : a ≠ p := ne_of_none h hp
    exact ⟨by rw [upd_ne q]; exact h, by rw [upd_ne q]; exact n⟩⟩
theorem Step.freeze {F H F' H' : Hp} (st : Step F H F' H') {p : Addr} {o : HO} (hp : Fresh H p) (h' : H' p = some o) (hn : F' p = none) (t : NoTab o := by intro _ z; cases z) : Step F H (upd F' p o) H' :=
  ⟨st.s0, fun a u e => by
    have q : a ≠ p := hp.ne (st.s0.up e) (st.s0.noT a u e)
    rw [upd_ne q]; exact st.s1 a u e,
   ⟨fun a u e => by
    by_cases q : a = p
    · subst q; rw [upd_same] at e; cases e; exact h'
    · rw [upd_ne q] at e; exact st.s2.up e, st.s2.tabs, fun a u e => by
    by_cases q : a = p
    · subst q; rw [upd_same] at e; cases e; exact t
    · rw [upd_ne q] at e; exact st.s2.noT a u e⟩,
   fun a u h n t => by
    have q : a ≠ p := hp.ne h t
    obtain ⟨h1, h2⟩ := st.keep a u h n t
    exact ⟨h1, by rw [upd_ne q]; exact h2⟩⟩
structure StepP (P : Addr → Prop) (F H F' H' : Hp) : Prop where
  s0 : Fz F H
  s1 : Same F F'
  s2 : Fz F' H'
  keep : ∀ a o, H a = some o → F a = none → NoTab o → ¬ P a → H' a = some o ∧ F' a = none
theorem Step.p {P : Addr → Prop} {F H F' H' : Hp} (st : Step F H F' H') : StepP P F H F' H' := ⟨st.s0, st.s1, st.s2, fun a o h n t _ => st.keep a o h n t⟩
theorem StepP.trans {P : Addr → Prop} {F H F1 H1 F2 H2 : Hp} (a : StepP P F H F1 H1) (b : StepP P F1 H1 F2 H2) : StepP P F H F2 H2 :=
  ⟨a.s0, a.s1.trans b.s1, b.s2, fun x o h n t z => let ⟨h1, n1⟩ := a.keep x o h n t z; b.keep x o h1 n1 t z⟩
theorem StepP.step {P : Addr → Prop} {F H F1 H1 F2 H2 : Hp} (a : StepP P F H F1 H1) (b : Step F1 H1 F2 H2) : StepP P F H F2 H2 := a.trans b.p
theorem StepP.un {F H F' H' : Hp} (a : StepP (fun _ => False) F H F' H') : Step F H F' H' := ⟨a.s0, a.s1, a.s2, fun x o h n t => a.keep x o h n t fun z => z⟩
theorem StepP.mono {P P' : Addr → Prop} {F H F' H' : Hp} (a : StepP P F H F' H') (h : ∀ b, P b → P' b) : StepP P' F H F' H' := ⟨a.s0, a.s1, a.s2, fun x o e n t z => a.keep x o e n t fun y => z (h x y)⟩
theorem StepP.back {P : Addr → Prop} {F H F' H' : Hp} (st : StepP P F H F' H') {a : Addr} (h : Fresh H' a) : P a ∨ Fresh H a := by
  by_cases z : P a
  · exact .inl z
  · refine .inr fun o e t => ?_
    cases q : F a with
    | none => exact h o (st.keep a o e q t z).1 t
    | some u =>
      have h2 := st.s0.up q
      rw [e] at h2
      cases h2
      exact h o (st.s2.up (st.s1 a o q)) t
theorem StepP.freeze {P : Addr → Prop} {F H F' H' : Hp} (st : StepP P F H F' H') {p : Addr} {o : HO} (hp : P p ∨ Fresh H p) (h0 : F p = none) (h' : H' p = some o) (hn : F' p = none) (t : NoTab o := by intro _ z; cases z) : StepP P F H (upd F' p o) H' :=
  ⟨st.s0, fun a u e => by
    have q : a ≠ p := fun z => by subst z; rw [h0] at e; cases e
    rw [upd_ne q]; exact st.s1 a u e,
   ⟨fun a u e => by
    by_cases q : a = p
    · subst q; rw [upd_same] at e; cases e; exact h'
    · rw [upd_ne q] at e; exact st.s2.up e, st.s2.tabs, fun a u e => by
    by_cases q : a = p
    · subst q; rw [upd_same] at e; cases e; exact t
    · rw [upd_ne q] at e; exact st.s2.noT a u e⟩,
   fun a u h n t z => by
    have q : a ≠ p := fun y => by
      subst y
      rcases hp with hp | hp
      · exact z hp
      · exact hp u h t
    obtain ⟨h1, h2⟩ := st.keep a u h n t z
    exact ⟨h1, by rw [upd_ne q]; exact h2⟩⟩
theorem same_frz {F : Hp} {p : Addr} {o : HO} (hn : F p = none) : Same F (upd F p o) := fun a u e => by
  rw [upd_ne (ne_of_none e hn)]; exact e
theorem tabs_lst {H : Hp} {a : Addr} {xs : List V} {o : HO} (t : LamX.Tabs TabCx.T H) (h : H a = some (.lst xs)) : LamX.Tabs TabCx.T (upd H a o) := fun p hp => by
  obtain ⟨ps, h1, h2, h3⟩ := t p hp
  have n : ∀ b u, H b = some u → u ≠ .lst xs → b ≠ a := fun b u e z y => by rw [y, h] at e; exact z (Option.some.inj e).symm
  refine ⟨ps, by rw [upd_ne (n _ _ h1 fun z => by cases z)]; exact h1, h2, fun pos cv hc => ?_⟩
  obtain ⟨c, e1, e2⟩ := h3 pos cv hc
  exact ⟨c, e1, by rw [upd_ne (n _ _ e2 fun z => by unfold LamX.CodeO at z; cases z)]; exact e2⟩
inductive Ex where
  | cls (n : Str)
  | trb (word what : PV)
inductive R (α : Type) where
  | ok (a : α)
  | ex (e : Ex)
  | bad
def R.bind {α β : Type} : R α → (α → R β) → R β
  | .ok a, k => k a
  | .ex e, _ => .ex e
  | .bad, _ => .bad
@[simp] theorem R.bind_ok {α β : Type} (a : α) (k : α → R β) : (R.ok a).bind k = k a := rfl
@[simp] theorem R.bind_ex {α β : Type} (e : Ex) (k : α → R β) : (R.ex e : R α).bind k = .ex e := rfl
@[simp] theorem R.bind_bad {α β : Type} (k : α → R β) : (R.bad : R α).bind k = .bad := rfl
def RP {α : Type} (r : R α) (A : α → Prop) (B : Ex → Prop) : Prop := match r with
  | .ok a => A a
  | .ex e => B e
  | .bad => False
inductive Slot where
  | un
  | pv (d : PV)
  | own (l : List PV)
  | dic (ks : List Key) (vs : List PV)
  | exn (a : Addr) (d : Option Addr) (e : Ex)
  | byr (l : List PV)
  | lck (ks : List Key) (vs : List PV)
  | obj (c : Str) (fs : List Slot)
  deriving Inhabited
abbrev Fm := List Slot
abbrev Fp := Nat → List Addr
mutual
def SlotOk (K : PySem.W.Frag) (F H : Hp) : Slot → Option (Option V) → List Addr → Prop
  | .un, _, fp => fp = []
  | .pv d, v, fp => fp = [] ∧ ∃ x, v = some (some x) ∧ Rep K F d x
  | .own l, v, fp => ∃ a xs, v = some (some (.ref a)) ∧ H a = some (.lst xs) ∧ F a = none ∧ RepL K F l xs ∧ fp = [a]
  | .byr l, v, fp => ∃ a xs, v = some (some (.ref a)) ∧ H a = some (.lst xs) ∧ F a = none ∧ RepL K F l xs ∧ fp = [a]
  | .dic ks vs, v, fp => ∃ a ws, v = some (some (.ref a)) ∧ H a = some (.dK (ks.zip ws)) ∧ F a = none ∧ ks.length = vs.length ∧ RepL K F vs ws ∧ fp = [a]
  | .lck ks vs, v, fp => ∃ a ws od, v = some (some (.ref a)) ∧ H a = some (.frz od (.dK (ks.zip ws))) ∧ F a = none ∧ ks.length = vs.length ∧ RepL K F vs ws ∧ fp = [a]
  | .exn a dd e, v, fp => fp = [] ∧ v = some (some (.ref a)) ∧ (∀ d, dd = some d → ∃ fs, F d = some (.xd fs)) ∧ ∀ w1 w2, e = .trb w1 w2 → ∃ d x y, dd = some d ∧ F d = some (.xd [("what", y), ("word", x)]) ∧ Rep K F w1 x ∧ Rep K F w2 y
  | .obj c fs, v, fp => ∃ a dx nvs fq, v = some (some (.ref a)) ∧ H a = some (.ins (TabCx.cls c) dx nvs) ∧ F a = none ∧ H dx = some (.own a) ∧ F dx = none ∧ nvs.map (·.1) = (TabCx.fld c).take nvs.length ∧ fs.length = (TabCx.fld c).length ∧ SlotsOk K F H fs (nvs.map (·.2)) fq ∧ fp = a :: dx :: fq
def SlotsOk (K : PySem.W.Frag) (F H : Hp) : List Slot → List V → List Addr → Prop
  | [], vs, fp => vs = [] ∧ fp = []
  | s :: ss, vs, fp => (vs = [] ∧ s = .un ∧ SlotsOk K F H ss [] fp) ∨ ∃ x r f1 f2, vs = x :: r ∧ SlotOk K F H s (some (some x)) f1 ∧ SlotsOk K F H ss r f2 ∧ fp = f1 ++ f2
end
section
variable {K : PySem.W.Frag} {F H F' H' : Hp}
def ownK : HO → Bool
  | .lst _ => true
  | .dK _ => true
  | .ins _ _ _ => true
  | .own _ => true
  | .frz _ (.dK _) => true
  | _ => false
theorem ownK_noTab {o : HO} (h : ownK o = true) : NoTab o := fun ps z => by subst z; cases h
mutual
/-- what is one's own stands and is not frozen -/
theorem SlotOk.held : ∀ (s : Slot) (v : Option (Option V)) (fp : List Addr), SlotOk K F H s v fp → ∀ b ∈ fp, F b = none ∧ ∃ o, H b = some o ∧ ownK o = true
  | .un, v, fp, h => by simp only [SlotOk] at h; subst h; intro b hb; cases hb
  | .pv d, v, fp, h => by simp only [SlotOk] at h; rw [h.1]; intro b hb; cases hb
  | .exn _ _ _, v, fp, h => by simp only [SlotOk] at h; rw [h.1]; intro b hb; cases hb
  | .own l, v, fp, h => by
    simp only [SlotOk] at h
    obtain ⟨a, xs, _, h1, h2, _, rfl⟩ := h
    intro b hb
    rw [List.mem_singleton] at hb; subst hb
    exact ⟨h2, _, h1, rfl⟩
  | .byr l, v, fp, h => by
    simp only [SlotOk] at h
    obtain ⟨a, xs, _, h1, h2, _, rfl⟩ := h
    intro b hb
    rw [List.mem_singleton] at hb; subst hb
    exact ⟨h2, _, h1, rfl⟩
  | .dic ks vs, v, fp, h => by
    simp only [SlotOk] at h
    obtain ⟨a, xs, _, h1, h2, _, _, rfl⟩ := h
    intro b hb
    rw [List.mem_singleton] at hb; subst hb
    exact ⟨h2, _, h1, rfl⟩
  | .lck ks vs, v, fp, h => by
    simp only [SlotOk] at h
    obtain ⟨a, xs, od, _, h1, h2, _, _, rfl⟩ := h
    intro b hb
    rw [List.mem_singleton] at hb; subst hb
    exact ⟨h2, _, h1, rfl⟩
  | .obj c fs, v, fp, h => by
    simp only [SlotOk] at h
    obtain ⟨a, dx, nvs, fq, _, h1, h2, h3, h4, _, _, h5, rfl⟩ := h
    intro b hb
    rcases List.mem_cons.mp hb with rfl | hb
    · exact ⟨h2, _, h1, rfl⟩
    · rcases List.mem_cons.mp hb with rfl | hb
      · exact ⟨h4, _, h3, rfl⟩
      · exact SlotsOk.held fs _ fq h5 b hb
theorem SlotsOk.held : ∀ (ss : List Slot) (vs : List V) (fp : List Addr), SlotsOk K F H ss vs fp → ∀ b ∈ fp, F b = none ∧ ∃ o, H b = some o ∧ ownK o = true
  | [], vs, fp, h => by simp only [SlotsOk] at h; rw [h.2]; intro b hb; cases hb
  | s :: ss, vs, fp, h => by
    simp only [SlotsOk] at h
    rcases h with ⟨_, _, h⟩ | ⟨x, r, f1, f2, _, h1, h2, rfl⟩
    · exact SlotsOk.held ss _ fp h
    · intro b hb
      rcases List.mem_append.mp hb with hb | hb
      · exact SlotOk.held s _ f1 h1 b hb
      · exact SlotsOk.held ss _ f2 h2 b hb
end
mutual
/-- a slot stays along what keeps its own -/
theorem SlotOk.keep (s1 : Same F F') : ∀ (s : Slot) (v : Option (Option V)) (fp : List Addr), SlotOk K F H s v fp → (∀ b ∈ fp, ∀ o, H b = some o → H' b = some o ∧ F' b = none) → SlotOk K F' H' s v fp
  | .un, v, fp, h, _ => by simp only [SlotOk] at h ⊢; exact h
  | .pv d, v, fp, h, _ => by
    simp only [SlotOk] at h ⊢
    obtain ⟨h0, x, e, r⟩ := h
    exact ⟨h0, x, e, r.mono s1⟩
  | .exn a dd e, v, fp, h, _ => by
    simp only [SlotOk] at h ⊢
    obtain ⟨h0, e1, q0, q⟩ := h
    refine ⟨h0, e1, fun d z => let ⟨fs, h⟩ := q0 d z; ⟨fs, s1 _ _ h⟩, fun w1 w2 z => ?_⟩
    obtain ⟨d, x, y, h1, h2, h3, h4⟩ := q w1 w2 z
    exact ⟨d, x, y, h1, s1 _ _ h2, h3.mono s1, h4.mono s1⟩
  | .own l, v, fp, h, k => by
    simp only [SlotOk] at h ⊢
    obtain ⟨a, xs, e, h1, h2, r, rfl⟩ := h
    obtain ⟨k1, k2⟩ := k a (List.mem_singleton.mpr rfl) _ h1
    exact ⟨a, xs, e, k1, k2, r.mono s1, rfl⟩
  | .byr l, v, fp, h, k => by
    simp only [SlotOk] at h ⊢
    obtain ⟨a, xs, e, h1, h2, r, rfl⟩ := h
    obtain ⟨k1, k2⟩ := k a (List.mem_singleton.mpr rfl) _ h1
    exact ⟨a, xs, e, k1, k2, r.mono s1, rfl⟩
  | .dic ks vs, v, fp, h, k => by
    simp only [SlotOk] at h ⊢
    obtain ⟨a, xs, e, h1, h2, l, r, rfl⟩ := h
    obtain ⟨k1, k2⟩ := k a (List.mem_singleton.mpr rfl) _ h1
    exact ⟨a, xs, e, k1, k2, l, r.mono s1, rfl⟩
  | .lck ks vs, v, fp, h, k => by
    simp only [SlotOk] at h ⊢
    obtain ⟨a, xs, od, e, h1, h2, l, r, rfl⟩ := h
    obtain ⟨k1, k2⟩ := k a (List.mem_singleton.mpr rfl) _ h1
    exact ⟨a, xs, od, e, k1, k2, l, r.mono s1, rfl⟩
  | .obj c fs, v, fp, h, k => by
    simp only [SlotOk] at h ⊢
    obtain ⟨a, dx, nvs, fq, e, h1, h2, h3, h4, n, l, h5, rfl⟩ := h
    obtain ⟨k1, k2⟩ := k a List.mem_cons_self _ h1
    obtain ⟨k3, k4⟩ := k dx (List.mem_cons_of_mem _ List.mem_cons_self) _ h3
    exact ⟨a, dx, nvs, fq, e, k1, k2, k3, k4, n, l, SlotsOk.keep s1 fs _ fq h5 fun b hb => k b (List.mem_cons_of_mem _ (List.mem_cons_of_mem _ hb)), rfl⟩
theorem SlotsOk.keep (s1 : Same F F') : ∀ (ss : List Slot) (vs : List V) (fp : List Addr), SlotsOk K F H ss vs fp → (∀ b ∈ fp, ∀ o, H b = some o → H' b = some o ∧ F' b = none) → SlotsOk K F' H' ss vs fp
  | [], vs, fp, h, _ => by simp only [SlotsOk] at h ⊢; exact h
  | s :: ss, vs, fp, h, k => by
    simp only [SlotsOk] at h ⊢
    rcases h with ⟨e1, e2, h⟩ | ⟨x, r, f1, f2, e, h1, h2, rfl⟩
    · exact .inl ⟨e1, e2, SlotsOk.keep s1 ss _ fp h k⟩
    · exact .inr ⟨x, r, f1, f2, e, SlotOk.keep s1 s _ f1 h1 fun b hb => k b (List.mem_append_left _ hb), SlotsOk.keep s1 ss _ f2 h2 fun b hb => k b (List.mem_append_right _ hb), rfl⟩
end
theorem SlotOk.step (st : Step F H F' H') {s : Slot} {v : Option (Option V)} {fp : List Addr} (h : SlotOk K F H s v fp) : SlotOk K F' H' s v fp := SlotOk.keep st.s1 s v fp h fun b hb o e => by
  obtain ⟨h1, o', h2, t⟩ := SlotOk.held s v fp h b hb
  rw [e] at h2
  cases h2
  exact st.keep b o e h1 (ownK_noTab t)
end
structure FmOkP (K : PySem.W.Frag) (F H : Hp) (σ : L2.St) (env : Fm) (fp : Fp) : Prop where
  s0 : Fz F H
  len : env.length = σ.length
  at' : ∀ (i : Nat) (s : Slot), env[i]? = some s → SlotOk K F H s σ[i]? (fp i)
  out : ∀ i, env.length ≤ i → fp i = []
  nd : ∀ i, (fp i).Nodup
  dj : ∀ (i j : Nat) (b : Addr), b ∈ fp i → b ∈ fp j → i = j
def FmOk (K : PySem.W.Frag) (F H : Hp) (σ : L2.St) (env : Fm) : Prop := ∃ fp, FmOkP K F H σ env fp
theorem FmOk.s0 {K : PySem.W.Frag} {F H : Hp} {σ : L2.St} {env : Fm} (h : FmOk K F H σ env) : Fz F H := let ⟨_, p⟩ := h; p.s0
theorem FmOk.len {K : PySem.W.Frag} {F H : Hp} {σ : L2.St} {env : Fm} (h : FmOk K F H σ env) : env.length = σ.length := let ⟨_, p⟩ := h; p.len
theorem FmOk.at' {K : PySem.W.Frag} {F H : Hp} {σ : L2.St} {env : Fm} (h : FmOk K F H σ env) (i : Nat) (s : Slot) (e : env[i]? = some s) : ∃ fp, SlotOk K F H s σ[i]? fp := let ⟨f, p⟩ := h; ⟨f i, p.at' i s e⟩
theorem FmOkP.step {K : PySem.W.Frag} {F H F' H' : Hp} {σ : L2.St} {env : Fm} {fp : Fp} (h : FmOkP K F H σ env fp) (st : Step F H F' H') : FmOkP K F' H' σ env fp := ⟨st.s2, h.len, fun i s e => (h.at' i s e).step st, h.out, h.nd, h.dj⟩
theorem FmOk.step {K : PySem.W.Frag} {F H F' H' : Hp} {σ : L2.St} {env : Fm} (h : FmOk K F H σ env) (st : Step F H F' H') : FmOk K F' H' σ env := let ⟨f, p⟩ := h; ⟨f, p.step st⟩
def RD (K : PySem.W.Frag) (F H : Hp) : PV → V → Prop
  | .lst l, v => ∃ a xs, v = .ref a ∧ H a = some (.lst xs) ∧ RepL K F l xs
  | .dct ks l, v => ∃ a ws, v = .ref a ∧ L2.Rd H a (.dK (ks.zip ws)) ∧ ks.length = l.length ∧ RepL K F l ws
  | d, v => Rep K F d v
theorem RD.of {K : PySem.W.Frag} {F H : Hp} (s : Fz F H) : ∀ {d : PV} {v : V}, Rep K F d v → RD K F H d v
  | .non, _, h => h
  | .bl _, _, h => h
  | .int _, _, h => h
  | .str _, _, h => h
  | .tup _, _, h => h
  | .scr _, _, h => h
  | .ins _ _, _, h => h
  | .dct ks l, v, h => by
    simp only [Rep] at h
    obtain ⟨a, ws, e, h1, l1, r⟩ := h
    exact ⟨a, ws, e, rd_mono s.same h1, l1, r⟩
  | .lst l, v, h => by
    simp only [Rep] at h
    obtain ⟨a, xs, e, h1, r⟩ := h
    exact ⟨a, xs, e, s.up h1, r⟩
theorem RD.step {K : PySem.W.Frag} {F H F' H' : Hp} (st : Step F H F' H') : ∀ {d : PV} {v : V}, RD K F H d v → RD K F' H' d v
  | .non, _, h => h
  | .bl _, _, h => h
  | .int _, _, h => h
  | .str _, _, h => h
  | .tup _, _, h => Rep.mono st.s1 _ _ h
  | .scr _, _, h => Rep.mono st.s1 _ _ h
  | .ins _ _, _, h => Rep.mono st.s1 _ _ h
  | .dct ks l, v, h => by
    obtain ⟨a, ws, e, h1, l1, r⟩ := h
    refine ⟨a, ws, e, ?_, l1, r.mono st.s1⟩
    rcases h1 with h1 | ⟨o, h1⟩
    · exact .inl (st.old h1)
    · exact .inr ⟨o, st.old h1⟩
  | .lst l, v, h => by
    obtain ⟨a, xs, e, h1, r⟩ := h
    exact ⟨a, xs, e, st.old h1, r.mono st.s1⟩
def RDL (K : PySem.W.Frag) (F H : Hp) : List PV → List V → Prop
  | [], xs => xs = []
  | d :: ds, xs => ∃ x r, xs = x :: r ∧ RD K F H d x ∧ RDL K F H ds r
theorem RDL.step {K : PySem.W.Frag} {F H F' H' : Hp} (st : Step F H F' H') : ∀ {ds : List PV} {vs : List V}, RDL K F H ds vs → RDL K F' H' ds vs
  | [], _, h => h
  | d :: ds, vs, h => by
    obtain ⟨x, r, e, h1, h2⟩ := h
    exact ⟨x, r, e, h1.step st, h2.step st⟩
theorem RDL.of {K : PySem.W.Frag} {F H : Hp} (s : Fz F H) : ∀ {ds : List PV} {vs : List V}, RepL K F ds vs → RDL K F H ds vs
  | [], _, h => by simp only [RepL] at h; exact h
  | d :: ds, vs, h => by
    simp only [RepL] at h
    obtain ⟨x, r, e, h1, h2⟩ := h
    exact ⟨x, r, e, RD.of s h1, RDL.of s h2⟩
def RepX (K : PySem.W.Frag) (mg : Str → Option Value) (F : Hp) : Ex → Value → Option Addr → Prop
  | .cls n, c, d => ∃ C, mg n = some (.ref C) ∧ c = .ref C ∧ d = none
  | .trb a b, c, d => ∃ C dd x y, mg "Trouble" = some (.ref C) ∧ c = .ref C ∧ d = some dd ∧ F dd = some (.xd [("what", y), ("word", x)]) ∧ Rep K F a x ∧ Rep K F b y
def GV (K : PySem.W.Frag) (F H : Hp) (Q : VK) (d : PV) : Prop := ∀ x F' H', Step F H F' H' → Rep K F' d x → Q x H'
def GF (K : PySem.W.Frag) (F H : Hp) (Q : VK) (l : List PV) : Prop := ∀ a xs F' H', Step F H F' H' → Fresh H a → F' a = none → H' a = some (.lst xs) → RepL K F' l xs → Q (.ref a) H'
def GR (K : PySem.W.Frag) (F H : Hp) (Q : VK) (d : PV) : Prop := ∀ x F' H', Step F H F' H' → RD K F' H' d x → Q x H'
def GX (K : PySem.W.Frag) (mg : Str → Option Value) (F H : Hp) (σ : L2.St) (W : WX) (e : Ex) : Prop := ∀ cls dd F' H', Step F H F' H' → RepX K mg F' e cls dd → W cls dd σ H'
def tG {α : Type} (K : PySem.W.Frag) (mg : Str → Option Value) (W : WX) (G : Hp → Hp → VK → α → Prop) (d : Fm → R α) : TE := fun σ H Q =>
  ∃ F env, FmOk K F H σ env ∧ RP (d env) (G F H Q) (GX K mg F H σ W)
abbrev tV (K : PySem.W.Frag) (mg : Str → Option Value) (W : WX) (d : Fm → R PV) : TE := tG K mg W (GV K) d
abbrev tF (K : PySem.W.Frag) (mg : Str → Option Value) (W : WX) (d : Fm → R (List PV)) : TE := tG K mg W (GF K) d
abbrev tR (K : PySem.W.Frag) (mg : Str → Option Value) (W : WX) (d : Fm → R PV) : TE := tG K mg W (GR K) d
def GVL (K : PySem.W.Frag) (F H : Hp) (Q : List V → Hp → Prop) (ds : List PV) : Prop := ∀ xs F' H', Step F H F' H' → RepL K F' ds xs → Q xs H'
def GRL (K : PySem.W.Frag) (F H : Hp) (Q : List V → Hp → Prop) (ds : List PV) : Prop := ∀ xs F' H', Step F H F' H' → RDL K F' H' ds xs → Q xs H'
def tAG (K : PySem.W.Frag) (mg : Str → Option Value) (W : WX) (G : Hp → Hp → (List V → Hp → Prop) → List PV → Prop) (d : Fm → R (List PV)) : TA := fun σ H Q =>
  ∃ F env, FmOk K F H σ env ∧ RP (d env) (G F H Q) (GX K mg F H σ W)
def GT (F H : Hp) (Q : Bool → Hp → Prop) (b : Bool) : Prop := ∀ F' H', Step F H F' H' → Q b H'
def tT (K : PySem.W.Frag) (mg : Str → Option Value) (W : WX) (d : Fm → R Bool) : TT := fun σ H Q =>
  ∃ F env, FmOk K F H σ env ∧ RP (d env) (GT F H Q) (GX K mg F H σ W)
section
variable {K : PySem.W.Frag} {mg : Str → Option Value} {F H F' H' : Hp}
theorem GV.step {Q : VK} {d : PV} (g : GV K F H Q d) (st : Step F H F' H') : GV K F' H' Q d := fun x F2 H2 s2 r => g x F2 H2 (st.trans s2) r
theorem GF.step {Q : VK} {d : List PV} (g : GF K F H Q d) (st : Step F H F' H') : GF K F' H' Q d := fun x xs F2 H2 s2 n r => g x xs F2 H2 (st.trans s2) (st.back n) r
theorem GR.step {Q : VK} {d : PV} (g : GR K F H Q d) (st : Step F H F' H') : GR K F' H' Q d := fun x F2 H2 s2 r => g x F2 H2 (st.trans s2) r
theorem GX.step {σ : L2.St} {W : WX} {e : Ex} (g : GX K mg F H σ W e) (st : Step F H F' H') : GX K mg F' H' σ W e := fun c d F2 H2 s2 r => g c d F2 H2 (st.trans s2) r
theorem GT.step {Q : Bool → Hp → Prop} {b : Bool} (g : GT F H Q b) (st : Step F H F' H') : GT F' H' Q b := fun F2 H2 s2 => g F2 H2 (st.trans s2)
theorem GVL.step {Q : List V → Hp → Prop} {d : List PV} (g : GVL K F H Q d) (st : Step F H F' H') : GVL K F' H' Q d := fun x F2 H2 s2 r => g x F2 H2 (st.trans s2) r
theorem GRL.step {Q : List V → Hp → Prop} {d : List PV} (g : GRL K F H Q d) (st : Step F H F' H') : GRL K F' H' Q d := fun x F2 H2 s2 r => g x F2 H2 (st.trans s2) r
structure Stays {α β : Type} (G : Hp → Hp → β → α → Prop) : Prop where
  up : ∀ (F H F' H' : Hp) (Q : β) (d : α), G F H Q d → Step F H F' H' → G F' H' Q d
theorem stGV : Stays (GV K) := ⟨fun _ _ _ _ _ _ g s => GV.step g s⟩
theorem stGF : Stays (GF K) := ⟨fun _ _ _ _ _ _ g s => GF.step g s⟩
theorem stGT : Stays GT := ⟨fun _ _ _ _ _ _ g s => GT.step g s⟩
end
section
variable {X : Cx}
theorem PE.imp {e : Expr} {t t' : TE} (h : PE X e t) (i : ∀ σ H Q, t' σ H Q → t σ H Q) : PE X e t' := ⟨fun pins s σ H Q I q => h.run pins s σ H Q I (i σ H Q q)⟩
theorem PT.imp {e : Expr} {t t' : TT} (h : PT X e t) (i : ∀ σ H Q, t' σ H Q → t σ H Q) : PT X e t' := ⟨fun pins s σ H Q I q => h.run pins s σ H Q I (i σ H Q q)⟩
theorem PA.imp {e : List Expr} {t t' : TA} (h : PA X e t) (i : ∀ σ H Q, t' σ H Q → t σ H Q) : PA X e t' := ⟨fun pos pins s σ H Q I q => h.run pos pins s σ H Q I (i σ H Q q)⟩
theorem PS.imp {e : Stmt} {t t' : TS} (h : PS X e t) (i : ∀ D σ H, t' D σ H → t D σ H) : PS X e t' := ⟨fun pins s σ H D I q => h.run pins s σ H D I (i D σ H q)⟩
theorem PSs.imp {e : List Stmt} {t t' : TS} (h : PSs X e t) (i : ∀ D σ H, t' D σ H → t D σ H) : PSs X e t' := ⟨fun pins s σ H D I q => h.run pins s σ H D I (i D σ H q)⟩
end
end Pv
set_option Elab.async false
set_option linter.all false
set_option maxRecDepth 100000
set_option maxHeartbeats 2000000
namespace Pv
open PySem PySem.Spec PyProof.Rows L2
variable [TabCx]
def ofO {α : Type} : Option α → R α
  | some a => .ok a
  | none => .bad
@[simp] theorem ofO_some {α : Type} (a : α) : ofO (some a) = .ok a := rfl
@[simp] theorem ofO_none {α : Type} : (ofO none : R α) = .bad := rfl
def dV (i : Nat) : Fm → R PV := fun env => match env[i]? with
  | some (.pv d) => .ok d
  | _ => .bad
def dR (i : Nat) : Fm → R PV := fun env => match env[i]? with
  | some (.pv d) => .ok d
  | some (.own l) => .ok (.lst l)
  | some (.byr l) => .ok (.lst l)
  | some (.dic ks vs) => .ok (.dct ks vs)
  | some (.lck ks vs) => .ok (.dct ks vs)
  | _ => .bad
def dC (d : PV) : Fm → R PV := fun _ => .ok d
def d1 {α : Type} (f : PV → Option α) (da : Fm → R PV) : Fm → R α := fun env => (da env).bind fun x => ofO (f x)
def d2 {α : Type} (f : PV → PV → Option α) (da db : Fm → R PV) : Fm → R α := fun env => (da env).bind fun x => (db env).bind fun y => ofO (f x y)
def d3 {α : Type} (f : PV → PV → PV → Option α) (da db dc : Fm → R PV) : Fm → R α := fun env => (da env).bind fun x => (db env).bind fun y => (dc env).bind fun z => ofO (f x y z)
def dNil : Fm → R (List PV) := fun _ => .ok []
def dCons (da : Fm → R PV) (dr : Fm → R (List PV)) : Fm → R (List PV) := fun env => (da env).bind fun x => (dr env).bind fun xs => .ok (x :: xs)
def dL (d : Fm → R (List PV)) : Fm → R PV := fun env => (d env).bind fun l => .ok (.lst l)
def dTup (d : Fm → R (List PV)) : Fm → R PV := fun env => (d env).bind fun l => if l.length ≤ sizeLine then .ok (.tup l) else .bad
def dLst (d : Fm → R (List PV)) : Fm → R (List PV) := fun env => (d env).bind fun l => if l.length ≤ sizeLine then .ok l else .bad
def dCall {α : Type} (f : List PV → R α) (d : Fm → R (List PV)) : Fm → R α := fun env => (d env).bind f
def dB (d : Fm → R PV) : Fm → R Bool := fun env => (d env).bind fun v => match v with
  | .bl b => .ok b
  | _ => .bad
def dBv (d : Fm → R Bool) : Fm → R PV := fun env => (d env).bind fun b => .ok (.bl b)
def dIf {α : Type} (c : Fm → R Bool) (a b : Fm → R α) : Fm → R α := fun env => (c env).bind fun k => match k with
  | true => a env
  | false => b env
def dAnd (a b : Fm → R Bool) : Fm → R Bool := dIf a b (fun _ => .ok false)
def dOr (a b : Fm → R Bool) : Fm → R Bool := dIf a (fun _ => .ok true) b
def dNot (a : Fm → R Bool) : Fm → R Bool := fun env => (a env).bind fun k => .ok (!k)
section
variable {X : Cx} {W : WX}
abbrev xV (X : Cx) (W : WX) (d : Fm → R PV) : TE := tV X.K X.mg W d
abbrev xF (X : Cx) (W : WX) (d : Fm → R (List PV)) : TE := tF X.K X.mg W d
abbrev xR (X : Cx) (W : WX) (d : Fm → R PV) : TE := tR X.K X.mg W d
abbrev xVL (X : Cx) (W : WX) (d : Fm → R (List PV)) : TA := tAG X.K X.mg W (GVL X.K) d
abbrev xRL (X : Cx) (W : WX) (d : Fm → R (List PV)) : TA := tAG X.K X.mg W (GRL X.K) d
abbrev xT (X : Cx) (W : WX) (d : Fm → R Bool) : TT := tT X.K X.mg W d
theorem rV {e : Expr} {d : Fm → R PV} (h : PE X e (xV X W d)) : PE X e (xR X W d) := PE.imp h fun σ H Q ⟨F, env, ok, p⟩ => by
  refine ⟨F, env, ok, ?_⟩
  cases q : d env with
  | ok v => rw [q] at p; exact fun x F' H' st r => p x F' H' st (RD.of st.s2 r)
  | ex e => rw [q] at p; exact p
  | bad => rw [q] at p; exact p
theorem vF {e : Expr} {d : Fm → R (List PV)} (h : PE X e (xF X W d)) : PE X e (xV X W (dL d)) := PE.imp h fun σ H Q ⟨F, env, ok, p⟩ => by
  refine ⟨F, env, ok, ?_⟩
  unfold dL at p
  cases q : d env with
  | ok v =>
    rw [q] at p
    intro a xs F' H' st hn hf hx r
    refine p (.ref a) (upd F' a (.lst xs)) H' (st.freeze hn hx hf) ?_
    simp only [Rep]
    exact ⟨a, xs, rfl, upd_same, r.mono (same_frz hf)⟩
  | ex e => rw [q] at p; exact p
  | bad => rw [q] at p; exact p
theorem rF {e : Expr} {d : Fm → R (List PV)} (h : PE X e (xF X W d)) : PE X e (xR X W (dL d)) := rV (vF h)
section
variable {K : PySem.W.Frag} {mg : Str → Option Value} {α β : Type}
theorem seq1 {G : Hp → Hp → β → α → Prop} {da : Fm → R PV} {f : Fm → PV → R α} {σ : L2.St} {H : Hp} {Q : β} {r : V → Hp → Prop} (sG : Stays G)
    (h : ∃ F env, FmOk K F H σ env ∧ RP ((da env).bind (f env)) (G F H Q) (GX K mg F H σ W))
    (hr : ∀ F H x a env, FmOk K F H σ env → RD K F H a x → RP (f env a) (G F H Q) (GX K mg F H σ W) → r x H) : tR K mg W da σ H r := by
  obtain ⟨F, env, ok, p⟩ := h
  refine ⟨F, env, ok, ?_⟩
  cases q : da env with
  | ok v =>
    rw [q] at p
    intro x F' H' st rx
    refine hr F' H' x v env (ok.step st) rx ?_
    have p' : RP (f env v) (G F H Q) (GX K mg F H σ W) := p
    cases q2 : f env v with
    | ok u => rw [q2] at p'; exact sG.up _ _ _ _ _ _ p' st
    | ex e => rw [q2] at p'; exact GX.step p' st
    | bad => rw [q2] at p'; exact p'
  | ex e => rw [q] at p; exact p
  | bad => rw [q] at p; exact p
theorem seq2 {G : Hp → Hp → β → α → Prop} {da db : Fm → R PV} {f : PV → PV → R α} {σ : L2.St} {H : Hp} {Q : β} {r : V → V → Hp → Prop} (sG : Stays G)
    (h : ∃ F env, FmOk K F H σ env ∧ RP ((da env).bind fun x => (db env).bind fun y => f x y) (G F H Q) (GX K mg F H σ W))
    (hr : ∀ F H x y a b, Fz F H → RD K F H a x → RD K F H b y → RP (f a b) (G F H Q) (GX K mg F H σ W) → r x y H) :
    tR K mg W da σ H fun x H1 => tR K mg W db σ H1 fun y H2 => r x y H2 := by
  obtain ⟨F, env, ok, p⟩ := h
  refine ⟨F, env, ok, ?_⟩
  cases q : da env with
  | ok v =>
    rw [q] at p
    intro x F1 H1 st1 rx
    refine ⟨F1, env, ok.step st1, ?_⟩
    have p1 : RP ((db env).bind fun y => f v y) (G F H Q) (GX K mg F H σ W) := p
    cases q1 : db env with
    | ok u =>
      rw [q1] at p1
      intro y F2 H2 st2 ry
      refine hr F2 H2 x y v u st2.s2 (rx.step st2) ry ?_
      have p2 : RP (f v u) (G F H Q) (GX K mg F H σ W) := p1
      cases q2 : f v u with
      | ok z => rw [q2] at p2; exact sG.up _ _ _ _ _ _ (sG.up _ _ _ _ _ _ p2 st1) st2
      | ex e => rw [q2] at p2; exact GX.step (GX.step p2 st1) st2
      | bad => rw [q2] at p2; exact p2
    | ex e => rw [q1] at p1; exact GX.step p1 st1
    | bad => rw [q1] at p1; exact p1
  | ex e => rw [q] at p; exact p
  | bad => rw [q] at p; exact p
end
theorem pe_V {e : Expr} (i : Nat) (h : PE X e (tVar i)) : PE X e (xV X W (dV i)) := PE.imp h fun σ H Q ⟨F, env, ok, p⟩ => by
  unfold dV at p
  cases q : env[i]? with
  | none => rw [q] at p; exact p.elim
  | some s =>
    rw [q] at p
    obtain ⟨fp, at1⟩ := ok.at' i s q
    cases s with
    | un => exact p.elim
    | exn _ _ _ => exact p.elim
    | byr _ => exact p.elim
    | lck _ _ => exact p.elim
    | own l => exact p.elim
    | dic _ _ => exact p.elim
    | obj _ _ => exact p.elim
    | pv d =>
      simp only [SlotOk] at at1
      obtain ⟨_, x, e1, r⟩ := at1
      exact ⟨x, e1, p x F H (Step.refl ok.s0) r⟩
def slotR : Slot → R PV
  | .pv d => .ok d
  | .own l => .ok (.lst l)
  | .byr l => .ok (.lst l)
  | .dic ks vs => .ok (.dct ks vs)
  | .lck ks vs => .ok (.dct ks vs)
  | _ => .bad
theorem slotR_rd {K : PySem.W.Frag} {F H : Hp} {s : Slot} {v : Option (Option V)} {fp : List Addr} {d : PV} (s0 : Fz F H) (h : SlotOk K F H s v fp) (e : slotR s = .ok d) : ∃ x, v = some (some x) ∧ RD K F H d x := by
  cases s with
  | un => cases e
  | exn _ _ _ => cases e
  | obj _ _ => cases e
  | own l =>
    cases e
    simp only [SlotOk] at h
    obtain ⟨a, xs, e1, h1, n1, r, _⟩ := h
    exact ⟨_, e1, a, xs, rfl, h1, r⟩
  | byr l =>
    cases e
    simp only [SlotOk] at h
    obtain ⟨a, xs, e1, h1, n1, r, _⟩ := h
    exact ⟨_, e1, a, xs, rfl, h1, r⟩
  | dic ks vs =>
    cases e
    simp only [SlotOk] at h
    obtain ⟨a, xs, e1, h1, n1, l1, r, _⟩ := h
    exact ⟨_, e1, a, xs, rfl, .inl h1, l1, r⟩
  | lck ks vs =>
    cases e
    simp only [SlotOk] at h
    obtain ⟨a, xs, od, e1, h1, n1, l1, r, _⟩ := h
    exact ⟨_, e1, a, xs, rfl, .inr ⟨od, h1⟩, l1, r⟩
  | pv d =>
    cases e
    simp only [SlotOk] at h
    obtain ⟨_, x, e1, r⟩ := h
    exact ⟨x, e1, RD.of s0 r⟩
theorem dR_is (i : Nat) (env : Fm) : dR i env = match env[i]? with
    | some s => slotR s
    | none => .bad := by
  unfold dR
  cases env[i]? with
  | none => rfl
  | some s => cases s <;> rfl
theorem pe_R {e : Expr} (i : Nat) (h : PE X e (tVar i)) : PE X e (xR X W (dR i)) := PE.imp h fun σ H Q ⟨F, env, ok, p⟩ => by
  rw [dR_is] at p
  cases q : env[i]? with
  | none => rw [q] at p; exact p.elim
  | some s =>
    rw [q] at p
    simp only at p
    obtain ⟨fp, at1⟩ := ok.at' i s q
    cases q2 : slotR s with
    | ok d =>
      rw [q2] at p
      obtain ⟨x, e1, r⟩ := slotR_rd ok.s0 at1 q2
      exact ⟨x, e1, p x F H (Step.refl ok.s0) r⟩
    | ex e => rw [q2] at p; cases s <;> cases q2
    | bad => rw [q2] at p; exact p.elim
theorem pe_K {e : Expr} {v : V} {d : PV} (h : PE X e (tC v)) (r : ∀ F, Rep X.K F d v) : PE X e (xV X W (dC d)) := PE.imp h fun σ H Q ⟨F, env, ok, p⟩ => p v F H (Step.refl ok.s0) (r F)
theorem kInt {i : Int} {j : Nat} {pos : Pos} : PE X (.Constant (.int i) j pos) (xV X W (dC (.int i))) := pe_K pe_int fun _ => by simp only [Rep]
theorem kStr {i : Str} {j : Nat} {pos : Pos} : PE X (.Constant (.str i) j pos) (xV X W (dC (.str i))) := pe_K pe_str fun _ => by simp only [Rep]
theorem kBl {i : Bool} {j : Nat} {pos : Pos} : PE X (.Constant (.bool i) j pos) (xV X W (dC (.bl i))) := pe_K pe_bl fun _ => by simp only [Rep]
theorem kNon {j : Nat} {pos : Pos} : PE X (.Constant .none j pos) (xV X W (dC .non)) := pe_K pe_non fun _ => by simp only [Rep]
theorem kGlInt {x : Str} {pos : Pos} {i : Int} (hg : Gl X x) (hm : ∃ t, X.mg x = some (.int i t)) (hd : (x == ("__debug__" : Str)) = false := by decide) : PE X (.Name x pos) (xV X W (dC (.int i))) := by
  obtain ⟨t, hm⟩ := hm
  exact pe_K (pe_glob (v := .int i) hg hm ⟨t, rfl⟩ hd) fun _ => by simp only [Rep]
theorem kGlStr {x : Str} {pos : Pos} {i : Str} (hg : Gl X x) (hm : ∃ t, X.mg x = some (.str i t)) (hd : (x == ("__debug__" : Str)) = false := by decide) : PE X (.Name x pos) (xV X W (dC (.str i))) := by
  obtain ⟨t, hm⟩ := hm
  exact pe_K (pe_glob (v := .str i) hg hm ⟨t, rfl⟩ hd) fun _ => by simp only [Rep]
theorem kGlRef {x : Str} {pos : Pos} {a : Addr} {d : PV} (hg : Gl X x) (hm : X.mg x = some (.ref a)) (r : ∀ F, Rep X.K F d (.ref a)) (hd : (x == ("__debug__" : Str)) = false := by decide) : PE X (.Name x pos) (xV X W (dC d)) :=
  pe_K (pe_glob (v := .ref a) hg hm rfl hd) r
def OpS {α : Type} (K : PySem.W.Frag) (r : R2) (f : PV → PV → Option α) (G : Hp → Hp → VK → α → Prop) : Prop :=
  ∀ F H x y a b v Q, Fz F H → RD K F H a x → RD K F H b y → f a b = some v → G F H Q v → r x y H Q
theorem pe_bin {α : Type} {G : Hp → Hp → VK → α → Prop} {a b : Expr} {op : Operator} {r : R2} {f : PV → PV → Option α} {da db : Fm → R PV} {pos : Pos} (ho : OpR X (binaryOp op) r) (hf : OpS X.K r f G) (sG : Stays G)
    (ha : PE X a (xR X W da)) (hb : PE X b (xR X W db)) : PE X (.BinOp a op b pos) (tG X.K X.mg W G (d2 f da db)) := PE.imp (pe_op ho ha hb) fun σ H Q h => by
  refine seq2 sG h fun F H x y a b s ra rb p => ?_
  cases q : f a b with
  | none => rw [q] at p; exact p.elim
  | some v => rw [q] at p; exact hf F H x y a b v Q s ra rb q p
def OpB (K : PySem.W.Frag) (r : R2) (f : PV → PV → Option Bool) : Prop :=
  ∀ F H x y a b v (Q : VK), Fz F H → RD K F H a x → RD K F H b y → f a b = some v → Q (.bl v) H → r x y H Q
theorem pt_cmpS {a b : Expr} {op : CmpOp} {r : R2} {f : PV → PV → Option Bool} {da db : Fm → R PV} {pos : Pos} (ho : OpR X (compareOp op) r) (hf : OpB X.K r f)
    (ha : PE X a (xR X W da)) (hb : PE X b (xR X W db)) (hm : behindInMarks op b = false) : PT X (.Compare a [op] [b] pos) (xT X W (d2 f da db)) := PT.imp (pt_cmpR ho ha hb hm) fun σ H Q h => by
  refine seq2 stGT h fun F H x y a b s ra rb p => ?_
  cases q : f a b with
  | none => rw [q] at p; exact p.elim
  | some v => rw [q] at p; exact hf F H x y a b v _ s ra rb q ⟨v, rfl, p F H (Step.refl s)⟩
theorem pe_cmpB {a b : Expr} {op : CmpOp} {r : R2} {f : PV → PV → Option Bool} {da db : Fm → R PV} {pos : Pos} (ho : OpR X (compareOp op) r) (hf : OpB X.K r f)
    (ha : PE X a (xR X W da)) (hb : PE X b (xR X W db)) (hm : behindInMarks op b = false) : PE X (.Compare a [op] [b] pos) (xV X W (dBv (d2 f da db))) := PE.imp (pe_cmpR ho ha hb hm) fun σ H Q ⟨F, env, ok, p⟩ => by
  have h : ∃ F env, FmOk X.K F H σ env ∧ RP ((da env).bind fun x => (db env).bind fun y => (ofO (f x y)).bind fun b => .ok (PV.bl b)) (GV X.K F H Q) (GX X.K X.mg F H σ W) := by
    refine ⟨F, env, ok, ?_⟩
    unfold dBv d2 at p
    cases q : da env with
    | ok v =>
      rw [q] at p
      cases q1 : db env with
      | ok u => simp only [q1, R.bind_ok] at p ⊢; exact p
      | ex e => simp only [q1, R.bind_ok, R.bind_ex] at p ⊢; exact p
      | bad => simp only [q1, R.bind_ok, R.bind_bad] at p ⊢; exact p
    | ex e => rw [q] at p; exact p
    | bad => rw [q] at p; exact p
  refine seq2 stGV h fun F H x y a b s ra rb p => ?_
  cases q : f a b with
  | none => rw [q] at p; exact p.elim
  | some v => rw [q] at p; exact hf F H x y a b v _ s ra rb q (p _ F H (Step.refl s) (by simp only [Rep]))
def dChain (f g : PV → PV → Option Bool) (da db dc : Fm → R PV) : Fm → R Bool := fun env => (da env).bind fun x => (db env).bind fun y => (ofO (f x y)).bind fun k => match k with
  | true => (dc env).bind fun z => ofO (g y z)
  | false => .ok false
theorem chain_go {K : PySem.W.Frag} {mg : Str → Option Value} {r r' : R2} {f g : PV → PV → Option Bool} {da db dc : Fm → R PV} {σ : L2.St} {H : Hp} {Q : VK} (hf : OpB K r f) (hg : OpB K r' g)
    (h : ∃ F env, FmOk K F H σ env ∧ RP (dChain f g da db dc env) (fun b => ∀ F' H', Step F H F' H' → Q (.bl b) H') (GX K mg F H σ W)) : tChain r r' (tR K mg W da) (tR K mg W db) (tR K mg W dc) σ H Q := by
  obtain ⟨F, env, ok, p⟩ := h
  refine ⟨F, env, ok, ?_⟩
  unfold dChain at p
  cases q : da env with
  | ok v =>
    rw [q] at p
    intro x F1 H1 st1 rx
    refine ⟨F1, env, ok.step st1, ?_⟩
    simp only [R.bind_ok] at p
    cases q1 : db env with
    | ok u =>
      rw [q1] at p
      intro y F2 H2 st2 ry
      simp only [R.bind_ok] at p
      cases q2 : f v u with
      | none => rw [q2] at p; exact p.elim
      | some k =>
        rw [q2] at p
        refine hf F2 H2 x y v u k _ st2.s2 (rx.step st2) ry q2 ⟨k, rfl, ?_⟩
        cases k with
        | false =>
          rw [if_neg Bool.false_ne_true]
          exact p F2 H2 (st1.trans st2)
        | true =>
          rw [if_pos rfl]
          refine ⟨F2, env, (ok.step st1).step st2, ?_⟩
          simp only [ofO_some, R.bind_ok] at p
          cases q3 : dc env with
          | ok w =>
            rw [q3] at p
            intro z F3 H3 st3 rz
            simp only [R.bind_ok] at p
            cases q4 : g u w with
            | none => rw [q4] at p; exact p.elim
            | some b => rw [q4] at p; exact hg F3 H3 y z u w b _ st3.s2 (ry.step st3) rz q4 (p F3 H3 ((st1.trans st2).trans st3))
          | ex e => rw [q3] at p; exact GX.step (GX.step p st1) st2
          | bad => rw [q3] at p; exact p
    | ex e => rw [q1] at p; exact GX.step p st1
    | bad => rw [q1] at p; exact p
  | ex e => rw [q] at p; exact p
  | bad => rw [q] at p; exact p
theorem pe_chainS {op op' : CmpOp} {a b c : Expr} {r r' : R2} {f g : PV → PV → Option Bool} {da db dc : Fm → R PV} {pos : Pos} (ho : OpR X (compareOp op) r) (hf : OpB X.K r f) (ho' : OpR X (compareOp op') r') (hg : OpB X.K r' g)
    (ha : PE X a (xR X W da)) (hb : PE X b (xR X W db)) (hc : PE X c (xR X W dc)) (hm : lastMarks [op, op'] [b, c] = false := by with_unfolding_all rfl) : PE X (.Compare a [op, op'] [b, c] pos) (xV X W (dBv (dChain f g da db dc))) :=
  PE.imp (pe_chain ho ho' ha hb hc hm) fun σ H Q ⟨F, env, ok, p⟩ => chain_go hf hg (mg := X.mg) ⟨F, env, ok, by
    unfold dBv at p
    cases q : dChain f g da db dc env with
    | ok b => rw [q] at p; exact fun F' H' st => p _ F' H' st (by simp only [Rep])
    | ex e => rw [q] at p; exact p
    | bad => rw [q] at p; exact p⟩
theorem go_tB {d : Fm → R PV} {σ : L2.St} {H : Hp} {Q : Bool → Hp → Prop} (h : xT X W (dB d) σ H Q) : tB (xV X W d) σ H Q := by
  obtain ⟨F, env, ok, p⟩ := h
  refine ⟨F, env, ok, ?_⟩
  unfold dB at p
  cases q : d env with
  | ok v =>
    rw [q] at p
    intro x F' H' st r
    cases v with
    | bl b =>
      simp only [Rep] at r
      exact ⟨b, r, p F' H' st⟩
    | non => exact p.elim
    | int i => exact p.elim
    | str i => exact p.elim
    | tup i => exact p.elim
    | lst i => exact p.elim
    | scr i => exact p.elim
    | dct _ _ => exact p.elim
    | ins _ _ => exact p.elim
  | ex e => rw [q] at p; exact p
  | bad => rw [q] at p; exact p
theorem tV_test {e : Expr} {d : Fm → R PV} (h : PE X e (xV X W d)) (he : ∀ whole, isTrue e X.env whole = (do let v ← whole; standAt e.pos; holding [v] (truthy v)) := by intro _; rfl) : PT X e (xT X W (dB d)) :=
  PT.imp (pt_val h he) fun σ H Q h => go_tB h
theorem go_if {K : PySem.W.Frag} {mg : Str → Option Value} {α β : Type} {G : Hp → Hp → β → α → Prop} {c : Fm → R Bool} {a b : Fm → R α} {σ : L2.St} {H : Hp} {Q : β} {P1 P2 : Hp → Prop} (sG : Stays G)
    (h : ∃ F env, FmOk K F H σ env ∧ RP (dIf c a b env) (G F H Q) (GX K mg F H σ W))
    (h1 : ∀ H, (∃ F env, FmOk K F H σ env ∧ RP (a env) (G F H Q) (GX K mg F H σ W)) → P1 H) (h2 : ∀ H, (∃ F env, FmOk K F H σ env ∧ RP (b env) (G F H Q) (GX K mg F H σ W)) → P2 H) :
    tT K mg W c σ H fun k H1 => if k = true then P1 H1 else P2 H1 := by
  obtain ⟨F, env, ok, p⟩ := h
  refine ⟨F, env, ok, ?_⟩
  unfold dIf at p
  have up : ∀ {t : R α} {F' H' : Hp}, Step F H F' H' → RP t (G F H Q) (GX K mg F H σ W) → RP t (G F' H' Q) (GX K mg F' H' σ W) := fun {t F' H'} st p => by
    cases t with
    | ok v => exact sG.up _ _ _ _ _ _ p st
    | ex e => exact GX.step p st
    | bad => exact p
  cases q : c env with
  | ok k =>
    rw [q] at p
    intro F' H' st
    cases k with
    | true => rw [if_pos rfl]; exact h1 H' ⟨F', env, ok.step st, up st p⟩
    | false => rw [if_neg Bool.false_ne_true]; exact h2 H' ⟨F', env, ok.step st, up st p⟩
  | ex e => rw [q] at p; exact p
  | bad => rw [q] at p; exact p
theorem pe_ifS {α : Type} {G : Hp → Hp → VK → α → Prop} {c a b : Expr} {dc : Fm → R Bool} {da db : Fm → R α} {pos : Pos} (sG : Stays G) (hc : PT X c (xT X W dc)) (ha : PE X a (tG X.K X.mg W G da)) (hb : PE X b (tG X.K X.mg W G db)) :
    PE X (.IfExp c a b pos) (tG X.K X.mg W G (dIf dc da db)) := PE.imp (pe_ifExp hc ha hb) fun σ H Q h => go_if sG h (fun H h => h) (fun H h => h)
theorem bl_true {F H : Hp} {Q : Bool → Hp → Prop} {b : Bool} (g : GT F H Q b) (s : Fz F H) : Q b H := g F H (Step.refl s)
theorem w_and {a b : Expr} {rest : List Expr} {da db : Fm → R Bool} {pos : Pos} (ha : PT X a (xT X W da)) (hb : PW X (.BoolOp .And (b :: rest) pos) (xT X W db)) : PW X (.BoolOp .And (a :: b :: rest) pos) (xT X W (dAnd da db)) :=
  ⟨fun whole pins s σ H Q I h => (pw_and ha hb).run whole pins s σ H Q I (go_if stGT h (fun H h => h) fun H ⟨F, env, ok, p⟩ => bl_true p ok.s0)⟩
theorem w_or {a b : Expr} {rest : List Expr} {da db : Fm → R Bool} {pos : Pos} (ha : PT X a (xT X W da)) (hb : PW X (.BoolOp .Or (b :: rest) pos) (xT X W db)) : PW X (.BoolOp .Or (a :: b :: rest) pos) (xT X W (dOr da db)) :=
  ⟨fun whole pins s σ H Q I h => (pw_or ha hb).run whole pins s σ H Q I (go_if stGT h (fun H ⟨F, env, ok, p⟩ => bl_true p ok.s0) fun H h => h)⟩
theorem t_not {a : Expr} {da : Fm → R Bool} {pos : Pos} (ha : PT X a (xT X W da)) : PT X (.UnaryOp .Not a pos) (xT X W (dNot da)) := PT.imp (pt_not ha) fun σ H Q ⟨F, env, ok, p⟩ => by
  refine ⟨F, env, ok, ?_⟩
  unfold dNot at p
  cases q : da env with
  | ok k => rw [q] at p; exact p
  | ex e => rw [q] at p; exact p
  | bad => rw [q] at p; exact p
def dAndV (a b : Fm → R PV) : Fm → R PV := dIf (dB a) b (fun _ => .ok (.bl false))
def dOrV (a b : Fm → R PV) : Fm → R PV := dIf (dB a) (fun _ => .ok (.bl true)) b
def dNotV (a : Fm → R PV) : Fm → R PV := fun env => (dB a env).bind fun k => .ok (.bl (!k))
theorem gv_here {K : PySem.W.Frag} {F H : Hp} {Q : VK} {d : PV} {x : V} (g : GV K F H Q d) (s : Fz F H) (r : Rep K F d x) : Q x H := g x F H (Step.refl s) r
theorem v_and {a b : Expr} {rest : List Expr} {da db : Fm → R PV} {pos : Pos} (ha : PE X a (xV X W da)) (hb : PE X (.BoolOp .And (b :: rest) pos) (xV X W db)) : PE X (.BoolOp .And (a :: b :: rest) pos) (xV X W (dAndV da db)) :=
  PE.imp (pe_and ha hb) fun σ H Q h => go_tB (Q := fun c H1 => if c = true then xV X W db σ H1 Q else Q (.bl false) H1) (go_if stGV h (fun H h => h) fun H ⟨F, env, ok, p⟩ => gv_here p ok.s0 (by simp only [Rep]))
theorem v_or {a b : Expr} {rest : List Expr} {da db : Fm → R PV} {pos : Pos} (ha : PE X a (xV X W da)) (hb : PE X (.BoolOp .Or (b :: rest) pos) (xV X W db)) : PE X (.BoolOp .Or (a :: b :: rest) pos) (xV X W (dOrV da db)) :=
  PE.imp (pe_or ha hb) fun σ H Q h => go_tB (Q := fun c H1 => if c = true then Q (.bl true) H1 else xV X W db σ H1 Q) (go_if stGV h (fun H ⟨F, env, ok, p⟩ => gv_here p ok.s0 (by simp only [Rep])) fun H h => h)
theorem v_not {a : Expr} {da : Fm → R PV} {pos : Pos} (ha : PE X a (xV X W da)) : PE X (.UnaryOp .Not a pos) (xV X W (dNotV da)) := PE.imp (pe_not ha) fun σ H Q ⟨F, env, ok, p⟩ =>
  go_tB (Q := fun c H1 => Q (.bl (!c)) H1) ⟨F, env, ok, by
    unfold dNotV at p
    cases q : dB da env with
    | ok k => rw [q] at p; exact fun F' H' st => p _ F' H' st (by simp only [Rep])
    | ex e => rw [q] at p; exact p
    | bad => rw [q] at p; exact p⟩
theorem aVnil : PA X [] (xVL X W dNil) := PA.imp pa_nil fun σ H Q ⟨F, env, ok, p⟩ => p [] F H (Step.refl ok.s0) .nil
theorem aRnil : PA X [] (xRL X W dNil) := PA.imp pa_nil fun σ H Q ⟨F, env, ok, p⟩ => p [] F H (Step.refl ok.s0) rfl
theorem aVcons {e : Expr} {es : List Expr} {da : Fm → R PV} {dr : Fm → R (List PV)} (ha : PE X e (xV X W da)) (hr : PA X es (xVL X W dr)) (hs : starEach (e :: es) X.env = (false, eval e X.env) :: starEach es X.env := by rfl) : PA X (e :: es) (xVL X W (dCons da dr)) :=
  PA.imp (pa_cons ha hr hs) fun σ H Q ⟨F, env, ok, p⟩ => by
    refine ⟨F, env, ok, ?_⟩
    unfold dCons at p
    cases q : da env with
    | ok v =>
      rw [q] at p
      intro x F1 H1 st1 rx
      refine ⟨F1, env, ok.step st1, ?_⟩
      simp only [R.bind_ok] at p
      cases q1 : dr env with
      | ok vs =>
        rw [q1] at p
        intro xs F2 H2 st2 rs
        exact p (x :: xs) F2 H2 (st1.trans st2) (.cons (rx.mono st2.s1) rs)
      | ex e => rw [q1] at p; exact GX.step p st1
      | bad => rw [q1] at p; exact p
    | ex e => rw [q] at p; exact p
    | bad => rw [q] at p; exact p
theorem aRcons {e : Expr} {es : List Expr} {da : Fm → R PV} {dr : Fm → R (List PV)} (ha : PE X e (xR X W da)) (hr : PA X es (xRL X W dr)) (hs : starEach (e :: es) X.env = (false, eval e X.env) :: starEach es X.env := by rfl) : PA X (e :: es) (xRL X W (dCons da dr)) :=
  PA.imp (pa_cons ha hr hs) fun σ H Q ⟨F, env, ok, p⟩ => by
    refine ⟨F, env, ok, ?_⟩
    unfold dCons at p
    cases q : da env with
    | ok v =>
      rw [q] at p
      intro x F1 H1 st1 rx
      refine ⟨F1, env, ok.step st1, ?_⟩
      simp only [R.bind_ok] at p
      cases q1 : dr env with
      | ok vs =>
        rw [q1] at p
        intro xs F2 H2 st2 rs
        exact p (x :: xs) F2 H2 (st1.trans st2) ⟨x, xs, rfl, rx.step st2, rs⟩
      | ex e => rw [q1] at p; exact GX.step p st1
      | bad => rw [q1] at p; exact p
    | ex e => rw [q] at p; exact p
    | bad => rw [q] at p; exact p
theorem seqA {K : PySem.W.Frag} {mg : Str → Option Value} {α : Type} {G : Hp → Hp → VK → α → Prop} {d : Fm → R (List PV)} {f : List PV → R α} {σ : L2.St} {H : Hp} {Q : VK} {r : List V → Hp → Prop} (sG : Stays G)
    (h : ∃ F env, FmOk K F H σ env ∧ RP ((d env).bind f) (G F H Q) (GX K mg F H σ W))
    (hr : ∀ F H xs ds, Fz F H → RDL K F H ds xs → RP (f ds) (G F H Q) (GX K mg F H σ W) → r xs H) : tAG K mg W (GRL K) d σ H r := by
  obtain ⟨F, env, ok, p⟩ := h
  refine ⟨F, env, ok, ?_⟩
  cases q : d env with
  | ok v =>
    rw [q] at p
    intro xs F' H' st rx
    refine hr F' H' xs v st.s2 rx ?_
    have p' : RP (f v) (G F H Q) (GX K mg F H σ W) := p
    cases q2 : f v with
    | ok u => rw [q2] at p'; exact sG.up _ _ _ _ _ _ p' st
    | ex e => rw [q2] at p'; exact GX.step p' st
    | bad => rw [q2] at p'; exact p'
  | ex e => rw [q] at p; exact p
  | bad => rw [q] at p; exact p
theorem seqV {K : PySem.W.Frag} {mg : Str → Option Value} {α : Type} {G : Hp → Hp → VK → α → Prop} {d : Fm → R (List PV)} {f : List PV → R α} {σ : L2.St} {H : Hp} {Q : VK} {r : List V → Hp → Prop} (sG : Stays G)
    (h : ∃ F env, FmOk K F H σ env ∧ RP ((d env).bind f) (G F H Q) (GX K mg F H σ W))
    (hr : ∀ F H xs ds, Fz F H → RepL K F ds xs → RP (f ds) (G F H Q) (GX K mg F H σ W) → r xs H) : tAG K mg W (GVL K) d σ H r := by
  obtain ⟨F, env, ok, p⟩ := h
  refine ⟨F, env, ok, ?_⟩
  cases q : d env with
  | ok v =>
    rw [q] at p
    intro xs F' H' st rx
    refine hr F' H' xs v st.s2 rx ?_
    have p' : RP (f v) (G F H Q) (GX K mg F H σ W) := p
    cases q2 : f v with
    | ok u => rw [q2] at p'; exact sG.up _ _ _ _ _ _ p' st
    | ex e => rw [q2] at p'; exact GX.step p' st
    | bad => rw [q2] at p'; exact p'
  | ex e => rw [q] at p; exact p
  | bad => rw [q] at p; exact p
theorem v_tup {es : List Expr} {d : Fm → R (List PV)} {n : Nat} {pos : Pos} (h : PA X es (xVL X W d)) : PE X (.Tuple es n pos) (xV X W (dTup d)) := PE.imp (pe_tup h) fun σ H Q h => by
  refine seqV stGV h fun F H xs ds s r p => ?_
  by_cases c : ds.length ≤ sizeLine
  · rw [if_pos c] at p
    refine ⟨by rw [r.len]; exact c, fun q hq => p (.ref q) (upd F q (.tup xs)) _ (Step.frz s hq) ?_⟩
    simp only [Rep]
    exact ⟨q, xs, rfl, SqT.of upd_same, r.mono (same_frz (s.free hq))⟩
  · rw [if_neg c] at p; exact p.elim
theorem f_lst {es : List Expr} {d : Fm → R (List PV)} {pos : Pos} (h : PA X es (xVL X W d)) : PE X (.List es pos) (xF X W (dLst d)) := PE.imp (pe_lst h) fun σ H Q h => by
  refine seqV stGF h fun F H xs ds s r p => ?_
  by_cases c : ds.length ≤ sizeLine
  · rw [if_pos c] at p
    exact ⟨by rw [r.len]; exact c, fun q hq => p q xs F _ (Step.new s hq) (.of hq) (s.free hq) upd_same r⟩
  · rw [if_neg c] at p; exact p.elim
def CaS {α : Type} (K : PySem.W.Frag) (r : List V → Hp → VK → Prop) (f : List PV → Option α) (G : Hp → Hp → VK → α → Prop) : Prop :=
  ∀ F H xs ds v Q, Fz F H → RDL K F H ds xs → f ds = some v → G F H Q v → r xs H Q
theorem pe_callBS {α : Type} {G : Hp → Hp → VK → α → Prop} {x : Str} {p pos : Pos} {e : Expr} {es : List Expr} {id : String} {r : List V → Hp → VK → Prop} {f : List PV → Option α} {d : Fm → R (List PV)} (hc : CallR X (.builtin id) r) (hf : CaS X.K r f G) (sG : Stays G)
    (hg : Gl X x) (hm : X.mg x = none) (hv : bootBuiltins x = some (.builtin id)) (ha : PA X (e :: es) (xRL X W d)) (hn : x ≠ "__name__" := by decide) (hdb : (x == ("__debug__" : Str)) = false := by decide)
    (he : starEach (e :: es) X.env = (false, eval e X.env) :: starEach es X.env := by rfl) (hpl : (backTo pos (starEach es X.env)).any (·.1) = false := by rfl) : PE X (.Call (.Name x p) (e :: es) [] pos) (tG X.K X.mg W G (dCall (fun ds => ofO (f ds)) d)) :=
  PE.imp (pe_callB hc hg hm hv ha hn hdb he hpl) fun σ H Q h => seqA sG h fun F H xs ds s r p => by
    cases q : f ds with
    | none => rw [q] at p; exact p.elim
    | some v => rw [q] at p; exact hf F H xs ds v Q s r q p
theorem pe_callTS {α : Type} {G : Hp → Hp → VK → α → Prop} {x : Str} {p pos : Pos} {e : Expr} {es : List Expr} {T : String} {r : List V → Hp → VK → Prop} {f : List PV → Option α} {d : Fm → R (List PV)} (hc : CallR X (.type T) r) (hf : CaS X.K r f G) (sG : Stays G)
    (hg : Gl X x) (hm : X.mg x = none) (hv : bootBuiltins x = some (.type T)) (ha : PA X (e :: es) (xRL X W d)) (hn : x ≠ "__name__" := by decide) (hdb : (x == ("__debug__" : Str)) = false := by decide)
    (he : starEach (e :: es) X.env = (false, eval e X.env) :: starEach es X.env := by rfl) (hpl : (backTo pos (starEach es X.env)).any (·.1) = false := by rfl) : PE X (.Call (.Name x p) (e :: es) [] pos) (tG X.K X.mg W G (dCall (fun ds => ofO (f ds)) d)) :=
  PE.imp (pe_callTy hc hg hm hv ha hn hdb he hpl) fun σ H Q h => seqA sG h fun F H xs ds s r p => by
    cases q : f ds with
    | none => rw [q] at p; exact p.elim
    | some v => rw [q] at p; exact hf F H xs ds v Q s r q p
theorem pe_ixS {a b : Expr} {r : R2} {f : PV → PV → Option PV} {da db : Fm → R PV} {pos : Pos} (ho : IxR X r) (hf : OpS X.K r f (GV X.K)) (ha : PE X a (xR X W da)) (hb : PE X b (xR X W db)) (hs : PlainIx b) : PE X (.Subscript a b pos) (xV X W (d2 f da db)) :=
  PE.imp (pe_ix ho ha hb hs) fun σ H Q h => by
    refine seq2 stGV h fun F H x y a b s ra rb p => ?_
    cases q : f a b with
    | none => rw [q] at p; exact p.elim
    | some v => rw [q] at p; exact hf F H x y a b v Q s ra rb q p
end
end Pv
set_option Elab.async false
set_option linter.all false
set_option maxRecDepth 100000
set_option maxHeartbeats 2000000
namespace Pv
open PySem PySem.Spec PyProof.Rows L2
variable [TabCx]
mutual
def toD : PV → PyData
  | .non => .none
  | .bl b => .bool b
  | .int i => .int i
  | .str x => .str x
  | .tup xs => .tuple (toDs xs)
  | .lst xs => .list (toDs xs)
  | .scr ns => .list (ns.map .int)
  | .dct _ _ => .str ⟨#[1114112]⟩
  | .ins _ _ => .str ⟨#[1114112]⟩
def toDs : List PV → List PyData
  | [] => []
  | x :: xs => toD x :: toDs xs
end
theorem toDs_map : ∀ xs : List PV, toDs xs = xs.map toD
  | [] => by simp only [toDs, List.map_nil]
  | x :: xs => by simp only [toDs, List.map_cons, toDs_map xs]
section
variable {K : PySem.W.Frag} {F H : Hp}
theorem dpInts : ∀ ns : List Int, DpAll K H (ns.map V.int) (ns.map PyData.int)
  | [] => .nil
  | n :: ns => .cons (.int n) (dpInts ns)
mutual
theorem Rep.dp (s : Fz F H) : ∀ (d : PV) (v : V), (toD d).canLay0 = true → Rep K F d v → Dp K H v (toD d)
  | .non, v, _, h => by simp only [Rep] at h; subst h; simp only [toD]; exact .non
  | .bl b, v, _, h => by simp only [Rep] at h; subst h; simp only [toD]; exact .bl b
  | .int b, v, _, h => by simp only [Rep] at h; subst h; simp only [toD]; exact .int b
  | .str b, v, _, h => by simp only [Rep] at h; subst h; simp only [toD]; exact .str b
  | .tup ds, v, c, h => by
    simp only [Rep] at h
    obtain ⟨a, xs, rfl, q, r⟩ := h
    simp only [toD, PyData.canLay0] at c ⊢
    exact .tup (sqT_mono s.same q) (RepL.dp s ds xs c r)
  | .lst ds, v, c, h => by
    simp only [Rep] at h
    obtain ⟨a, xs, rfl, q, r⟩ := h
    simp only [toD, PyData.canLay0] at c ⊢
    exact .lst (SqL.of (s.same _ _ q)) (RepL.dp s ds xs c r)
  | .scr ns, v, _, h => by
    simp only [Rep] at h
    obtain ⟨a, rfl, q⟩ := h
    simp only [toD]
    exact .lst (s.same.seq q) (dpInts ns)
  | .dct ks vs, v, c, h => by
    simp only [toD, PyData.canLay0] at c
    exact absurd c (by decide +kernel)
  | .ins c ds, v, z, h => by
    simp only [toD, PyData.canLay0] at z
    exact absurd z (by decide +kernel)
theorem RepL.dp (s : Fz F H) : ∀ (ds : List PV) (vs : List V), PyData.canLayAll0 (toDs ds) = true → RepL K F ds vs → DpAll K H vs (toDs ds)
  | [], vs, _, h => by simp only [RepL] at h; subst h; simp only [toDs]; exact .nil
  | d :: ds, vs, c, h => by
    simp only [RepL] at h
    obtain ⟨x, r, rfl, h1, h2⟩ := h
    simp only [toDs, PyData.canLayAll0, Bool.and_eq_true] at c ⊢
    exact .cons (Rep.dp s d x c.1 h1) (RepL.dp s ds r c.2 h2)
end
theorem RD.dp0 (s : Fz F H) {d : PV} {v : V} (c : (toD d).canLay0 = true) (h : RD K F H d v) : Dp K H v (toD d) := by
  cases d with
  | lst l =>
    obtain ⟨a, xs, rfl, h1, r⟩ := h
    simp only [toD, PyData.canLay0] at c ⊢
    exact .lst (SqL.of h1) (RepL.dp s l xs c r)
  | non => exact Rep.dp s _ _ c h
  | bl b => exact Rep.dp s _ _ c h
  | int b => exact Rep.dp s _ _ c h
  | str b => exact Rep.dp s _ _ c h
  | tup b => exact Rep.dp s _ _ c h
  | scr b => exact Rep.dp s _ _ c h
  | dct _ _ =>
    simp only [toD, PyData.canLay0] at c
    exact absurd c (by decide +kernel)
  | ins _ _ => exact Rep.dp s _ _ c h
theorem RD.dp (s : Fz F H) {d : PV} {v : V} (c : SeqAt.shaped (toD d) = true) (h : RD K F H d v) : Dp K H v (toD d) := RD.dp0 s (SeqAt.canLay_of_shaped c) h
end
section
variable {K : PySem.W.Frag} {F H : Hp} {v : V}
theorem RD.int {i : Int} (h : RD K F H (.int i) v) : v = .int i := by simpa only [RD, Rep] using h
theorem RD.bl {i : Bool} (h : RD K F H (.bl i) v) : v = .bl i := by simpa only [RD, Rep] using h
theorem RD.str {i : Str} (h : RD K F H (.str i) v) : v = .str i := by simpa only [RD, Rep] using h
theorem RD.non (h : RD K F H .non v) : v = .non := by simpa only [RD, Rep] using h
theorem RD.tup {l : List PV} (h : RD K F H (.tup l) v) : ∃ a xs, v = .ref a ∧ SqT K F a xs ∧ RepL K F l xs := by simpa only [RD, Rep] using h
theorem RD.lst {l : List PV} (h : RD K F H (.lst l) v) : ∃ a xs, v = .ref a ∧ H a = some (.lst xs) ∧ RepL K F l xs := h
theorem RD.scr {l : List Int} (h : RD K F H (.scr l) v) : ∃ a, v = .ref a ∧ SqL K F a (l.map V.int) := by simpa only [RD, Rep] using h
theorem RD.dct {ks : List Key} {l : List PV} (h : RD K F H (.dct ks l) v) : ∃ a ws, v = .ref a ∧ L2.Rd H a (.dK (ks.zip ws)) ∧ ks.length = l.length ∧ RepL K F l ws := h
theorem RD.ins {c : Str} {l : List PV} (h : RD K F H (.ins c l) v) : ∃ a dx nvs, v = .ref a ∧ F a = some (.ins (TabCx.cls c) dx nvs) ∧ F dx = some (.own a) ∧ nvs.map (·.1) = TabCx.fld c ∧ ∃ gh, GhOk a gh ∧ RepL K F l (nvs.map (·.2) ++ gh) := by simpa only [RD, Rep] using h
theorem RDL.one {d : PV} {xs : List V} (h : RDL K F H [d] xs) : ∃ x, xs = [x] ∧ RD K F H d x := by
  obtain ⟨x, r, e, h1, h2⟩ := h
  cases (show r = [] from h2)
  exact ⟨x, e, h1⟩
theorem RDL.two {d e : PV} {xs : List V} (h : RDL K F H [d, e] xs) : ∃ x y, xs = [x, y] ∧ RD K F H d x ∧ RD K F H e y := by
  obtain ⟨x, r, e, h1, h2⟩ := h
  obtain ⟨y, rfl, h3⟩ := h2.one
  exact ⟨x, y, e, h1, h3⟩
theorem repNew {xs : List V} {l : List PV} {p : Addr} (s : Fz F H) (hp : H p = none) (r : RepL K F l xs) : Rep K (upd F p (.tup xs)) (.tup l) (.ref p) := by
  simp only [Rep]
  exact ⟨p, xs, rfl, SqT.of upd_same, r.mono (same_frz (s.free hp))⟩
theorem repTup {xs : List V} {l : List PV} {p : Addr} (q : SqT K F p xs) (r : RepL K F l xs) : Rep K F (.tup l) (.ref p) := by
  simp only [Rep]
  exact ⟨p, xs, rfl, q, r⟩
end
def pAdd : PV → PV → Option PV
  | .int i, .int j => some (.int (i + j))
  | .str a, .str b => if a.length + b.length ≤ sizeLine then some (.str (a ++ b)) else none
  | .tup a, .tup b => if a.length + b.length ≤ sizeLine then some (.tup (a ++ b)) else none
  | _, _ => none
def fCat : PV → PV → Option (List PV)
  | .lst a, .lst b => if a.length + b.length ≤ sizeLine then some (a ++ b) else none
  | _, _ => none
def pSub : PV → PV → Option PV
  | .int i, .int j => some (.int (i - j))
  | _, _ => none
def mulB (a b : Int) : Bool := !(decide (Builtin.Int.intBits a > shortFactorBits) && decide (Builtin.Int.intBits b > shortFactorBits) && Builtin.Int.intTooBig (Builtin.Int.intBits a + Builtin.Int.intBits b))
theorem mulB_ok {a b : Int} (h : mulB a b = true) : IntMulOk a b := by
  unfold IntMulOk
  unfold mulB at h
  intro z
  rw [z] at h
  exact Bool.noConfusion h
theorem mulB_of {a b : Int} (h : IntMulOk a b) : mulB a b = true := by
  unfold IntMulOk at h
  unfold mulB
  cases q : (decide (Builtin.Int.intBits a > shortFactorBits) && decide (Builtin.Int.intBits b > shortFactorBits) && Builtin.Int.intTooBig (Builtin.Int.intBits a + Builtin.Int.intBits b)) with
  | true => exact absurd q h
  | false => rfl
def pMul : PV → PV → Option PV
  | .int i, .int j => if mulB i j = true then some (.int (i * j)) else none
  | _, _ => none
def pDiv : PV → PV → Option PV
  | .int i, .int j => if 0 < j ∧ j.natAbs.log2 < 9000 then some (.int (i / j)) else none
  | _, _ => none
def pMod : PV → PV → Option PV
  | .int i, .int j => if 0 < j then some (.int (i % j)) else none
  | _, _ => none
def pPow : PV → PV → Option PV
  | .int i, .int j => if 0 ≤ j ∧ j ≤ 1000000 ∧ i.natAbs < 2 ^ 64 then some (.int (i ^ j.toNat)) else none
  | _, _ => none
section
variable {X : Cx} {W : WX}
def rPlus (K : PySem.W.Frag) : R2 := fun x y H Q => (rI0 (fun i j => V.int (i + j)) x y H Q ∨ (∃ i j, x = .str i ∧ y = .str j ∧ i.length + j.length ≤ sizeLine ∧ Q (.str (i ++ j)) H)) ∨ rCatA K x y H Q
theorem op_plus : OpR X (binaryOp .Add) (rPlus X.K) := (op_add.or op_add_str).or op_catA
theorem os_plus {K : PySem.W.Frag} : OpS K (rPlus K) pAdd (GV K) := by
  intro F H x y a b v Q s ra rb e g
  cases a with
  | int i =>
    cases b with
    | int j =>
      cases ra.int
      cases rb.int
      cases e
      exact .inl (.inl ⟨i, j, rfl, rfl, gv_here g s (by simp only [Rep])⟩)
    | non => cases e
    | bl _ => cases e
    | str _ => cases e
    | tup _ => cases e
    | lst _ => cases e
    | scr _ => cases e
    | dct _ _ => cases e
    | ins _ _ => cases e
  | str i =>
    cases b with
    | str j =>
      cases ra.str
      cases rb.str
      simp only [pAdd] at e
      split at e
      · rename_i c
        cases e
        exact .inl (.inr ⟨i, j, rfl, rfl, c, gv_here g s (by simp only [Rep])⟩)
      · cases e
    | non => cases e
    | bl _ => cases e
    | int _ => cases e
    | tup _ => cases e
    | lst _ => cases e
    | scr _ => cases e
    | dct _ _ => cases e
    | ins _ _ => cases e
  | tup i =>
    cases b with
    | tup j =>
      obtain ⟨a1, xs, rfl, q1, r1⟩ := ra.tup
      obtain ⟨a2, ys, rfl, q2, r2⟩ := rb.tup
      simp only [pAdd] at e
      split at e
      · rename_i c
        cases e
        refine .inr ⟨a1, a2, xs, ys, rfl, rfl, sqT_mono s.same q1, sqT_mono s.same q2, by rw [r1.len, r2.len]; exact c, fun z => ?_, fun _ z => ?_, fun _ _ p hp => ?_⟩
        · subst z
          have l1 := r1.len
          have z1 : i = [] := List.eq_nil_of_length_eq_zero l1.symm
          subst z1
          exact gv_here g s (repTup q2 r2)
        · subst z
          have l2 := r2.len
          have z2 : j = [] := List.eq_nil_of_length_eq_zero l2.symm
          subst z2
          exact gv_here g s (repTup q1 (by rw [List.append_nil]; exact r1))
        · exact g _ _ _ (Step.frz s hp) (repNew s hp (r1.app r2))
      · cases e
    | non => cases e
    | bl _ => cases e
    | int _ => cases e
    | str _ => cases e
    | lst _ => cases e
    | scr _ => cases e
    | dct _ _ => cases e
    | ins _ _ => cases e
  | non => cases e
  | bl _ => cases e
  | lst _ => cases e
  | scr _ => cases e
  | dct _ _ => cases e
  | ins _ _ => cases e
theorem os_cat {K : PySem.W.Frag} : OpS K rCat fCat (GF K) := by
  intro F H x y a b v Q s ra rb e g
  cases a with
  | lst i =>
    cases b with
    | lst j =>
      obtain ⟨a1, xs, rfl, q1, r1⟩ := ra.lst
      obtain ⟨a2, ys, rfl, q2, r2⟩ := rb.lst
      simp only [fCat] at e
      split at e
      · rename_i c
        cases e
        exact ⟨a1, a2, xs, ys, rfl, rfl, q1, q2, by rw [r1.len, r2.len]; exact c, fun p hp => g p _ F _ (Step.new s hp) (.of hp) (s.free hp) upd_same (r1.app r2)⟩
      · cases e
    | non => cases e
    | bl _ => cases e
    | int _ => cases e
    | str _ => cases e
    | tup _ => cases e
    | scr _ => cases e
    | dct _ _ => cases e
    | ins _ _ => cases e
  | non => cases e
  | bl _ => cases e
  | int _ => cases e
  | str _ => cases e
  | tup _ => cases e
  | scr _ => cases e
  | dct _ _ => cases e
  | ins _ _ => cases e
theorem os_int {K : PySem.W.Frag} {r : R2} {f : PV → PV → Option PV} {C : Int → Int → Prop} {g : Int → Int → Int} (hr : ∀ i j H Q, C i j → Q (.int (g i j)) H → r (.int i) (.int j) H Q)
    (hf : ∀ a b v, f a b = some v → ∃ i j, a = .int i ∧ b = .int j ∧ C i j ∧ v = .int (g i j)) : OpS K r f (GV K) := by
  intro F H x y a b v Q s ra rb e gq
  obtain ⟨i, j, rfl, rfl, c, rfl⟩ := hf a b v e
  cases ra.int
  cases rb.int
  exact hr i j H Q c (gv_here gq s (by simp only [Rep]))
theorem os_sub {K : PySem.W.Frag} : OpS K (rI0 fun i j => .int (i - j)) pSub (GV K) := os_int (C := fun _ _ => True) (g := fun i j => i - j) (fun i j H Q _ q => ⟨i, j, rfl, rfl, q⟩) fun a b v e => by
  unfold pSub at e
  split at e
  · cases e; exact ⟨_, _, rfl, rfl, trivial, rfl⟩
  · cases e
theorem op_mulX : OpR X (binaryOp .Mult) (rI (fun i j => mulB i j = true) fun i j => .int (i * j)) := opI fun _ _ _ _ _ _ _ hc q => mul_int q (mulB_ok hc)
theorem os_mul {K : PySem.W.Frag} : OpS K (rI (fun i j => mulB i j = true) fun i j => .int (i * j)) pMul (GV K) := os_int (C := fun i j => mulB i j = true) (g := fun i j => i * j) (fun i j H Q c q => ⟨i, j, rfl, rfl, c, q⟩) fun a b v e => by
  unfold pMul at e
  split at e
  · split at e
    · rename_i c; cases e; exact ⟨_, _, rfl, rfl, c, rfl⟩
    · cases e
  · cases e
theorem os_div {K : PySem.W.Frag} : OpS K (rI CDivW fun i j => .int (i / j)) pDiv (GV K) := os_int (C := CDivW) (g := fun i j => i / j) (fun i j H Q c q => ⟨i, j, rfl, rfl, c, q⟩) fun a b v e => by
  unfold pDiv at e
  split at e
  · split at e
    · rename_i c; cases e; exact ⟨_, _, rfl, rfl, c, rfl⟩
    · cases e
  · cases e
theorem os_mod {K : PySem.W.Frag} : OpS K (rI (fun _ j => 0 < j) fun i j => .int (i % j)) pMod (GV K) := os_int (C := fun _ j => 0 < j) (g := fun i j => i % j) (fun i j H Q c q => ⟨i, j, rfl, rfl, c, q⟩) fun a b v e => by
  unfold pMod at e
  split at e
  · split at e
    · rename_i c; cases e; exact ⟨_, _, rfl, rfl, c, rfl⟩
    · cases e
  · cases e
theorem os_pow {K : PySem.W.Frag} : OpS K (rI CPow fun i j => .int (i ^ j.toNat)) pPow (GV K) := os_int (C := CPow) (g := fun i j => i ^ j.toNat) (fun i j H Q c q => ⟨i, j, rfl, rfl, c, q⟩) fun a b v e => by
  unfold pPow at e
  split at e
  · split at e
    · rename_i c; cases e; exact ⟨_, _, rfl, rfl, c, rfl⟩
    · cases e
  · cases e
theorem v_add {a b : Expr} {da db : Fm → R PV} {pos : Pos} (ha : PE X a (xR X W da)) (hb : PE X b (xR X W db)) : PE X (.BinOp a .Add b pos) (xV X W (d2 pAdd da db)) := pe_bin op_plus os_plus stGV ha hb
theorem f_cat {a b : Expr} {da db : Fm → R PV} {pos : Pos} (ha : PE X a (xR X W da)) (hb : PE X b (xR X W db)) : PE X (.BinOp a .Add b pos) (xF X W (d2 fCat da db)) := pe_bin op_cat os_cat stGF ha hb
theorem v_sub {a b : Expr} {da db : Fm → R PV} {pos : Pos} (ha : PE X a (xR X W da)) (hb : PE X b (xR X W db)) : PE X (.BinOp a .Sub b pos) (xV X W (d2 pSub da db)) := pe_bin op_sub os_sub stGV ha hb
theorem v_mul {a b : Expr} {da db : Fm → R PV} {pos : Pos} (ha : PE X a (xR X W da)) (hb : PE X b (xR X W db)) : PE X (.BinOp a .Mult b pos) (xV X W (d2 pMul da db)) := pe_bin op_mulX os_mul stGV ha hb
theorem v_div {a b : Expr} {da db : Fm → R PV} {pos : Pos} (ha : PE X a (xR X W da)) (hb : PE X b (xR X W db)) : PE X (.BinOp a .FloorDiv b pos) (xV X W (d2 pDiv da db)) := pe_bin op_fdivW os_div stGV ha hb
theorem v_mod {a b : Expr} {da db : Fm → R PV} {pos : Pos} (ha : PE X a (xR X W da)) (hb : PE X b (xR X W db)) : PE X (.BinOp a .Mod b pos) (xV X W (d2 pMod da db)) := pe_bin op_mod os_mod stGV ha hb
theorem v_pow {a b : Expr} {da db : Fm → R PV} {pos : Pos} (ha : PE X a (xR X W da)) (hb : PE X b (xR X W db)) : PE X (.BinOp a .Pow b pos) (xV X W (d2 pPow da db)) := pe_bin op_pow os_pow stGV ha hb
def pNeg : PV → Option PV
  | .int i => some (.int (-i))
  | _ => none
def pLt : PV → PV → Option Bool
  | .int i, .int j => some (decide (i < j))
  | .str a, .str b => some (decide (a.cps.toList < b.cps.toList))
  | _, _ => none
def pLe : PV → PV → Option Bool
  | .int i, .int j => some (decide (i ≤ j))
  | .str a, .str b => some (!decide (b.cps.toList < a.cps.toList))
  | _, _ => none
def pGt (a b : PV) : Option Bool := match a, b with
  | .int i, .int j => some (decide (j < i))
  | _, _ => none
def pEq (a b : PV) : Option Bool := if SeqAt.shaped (toD a) = true ∧ SeqAt.shaped (toD b) = true then some (PyData.eqv (toD a) (toD b)) else none
def pNe (a b : PV) : Option Bool := if SeqAt.shaped (toD a) = true ∧ SeqAt.shaped (toD b) = true then some (!PyData.eqv (toD a) (toD b)) else none
def inL (a : PV) (l : List PV) : Bool := l.any fun z => PyData.eqv (toD z) (toD a)
def inStr (a b : Str) : Bool := !(Builtin.Str.occurrences b a 0 b.length 1).isEmpty
def pIn (a b : PV) : Option Bool := match a, b with
  | a, .lst l => if SeqAt.shaped (toD a) = true ∧ SeqAt.shaped (toD (.lst l)) = true then some (inL a l) else none
  | a, .tup l => if SeqAt.shaped (toD a) = true ∧ SeqAt.shaped (toD (.tup l)) = true then some (inL a l) else none
  | .str x, .str y => some (inStr x y)
  | _, _ => none
def pNotIn (a b : PV) : Option Bool := (pIn a b).map (!·)
def rTwo (r r' : R2) : R2 := fun x y H Q => r x y H Q ∨ r' x y H Q
theorem ob_lt {K : PySem.W.Frag} : OpB K (rTwo (rI0 fun i j => .bl (decide (i < j))) (fun x y H Q => ∃ i j, x = .str i ∧ y = .str j ∧ Q (.bl (decide (i.cps.toList < j.cps.toList))) H)) pLt := by
  intro F H x y a b v Q s ra rb e q
  unfold pLt at e
  split at e
  · cases e; cases ra.int; cases rb.int; exact .inl ⟨_, _, rfl, rfl, q⟩
  · cases e; cases ra.str; cases rb.str; exact .inr ⟨_, _, rfl, rfl, q⟩
  · cases e
theorem ob_le {K : PySem.W.Frag} : OpB K (rTwo (rI0 fun i j => .bl (decide (i ≤ j))) (fun x y H Q => ∃ i j, x = .str i ∧ y = .str j ∧ Q (.bl (!decide (j.cps.toList < i.cps.toList))) H)) pLe := by
  intro F H x y a b v Q s ra rb e q
  unfold pLe at e
  split at e
  · cases e; cases ra.int; cases rb.int; exact .inl ⟨_, _, rfl, rfl, q⟩
  · cases e; cases ra.str; cases rb.str; exact .inr ⟨_, _, rfl, rfl, q⟩
  · cases e
theorem ob_gt {K : PySem.W.Frag} : OpB K (rI0 fun i j => .bl (decide (j < i))) pGt := by
  intro F H x y a b v Q s ra rb e q
  unfold pGt at e
  split at e
  · cases e; cases ra.int; cases rb.int; exact ⟨_, _, rfl, rfl, q⟩
  · cases e
theorem ob_eq {K : PySem.W.Frag} : OpB K (rEqD K) pEq := by
  intro F H x y a b v Q s ra rb e q
  unfold pEq at e
  split at e
  · rename_i c
    cases e
    exact ⟨_, _, RD.dp s c.1 ra, RD.dp s c.2 rb, c.1, c.2, q⟩
  · cases e
theorem ob_ne {K : PySem.W.Frag} : OpB K (rNeD K) pNe := by
  intro F H x y a b v Q s ra rb e q
  unfold pNe at e
  split at e
  · rename_i c
    cases e
    exact ⟨_, _, RD.dp s c.1 ra, RD.dp s c.2 rb, c.1, c.2, q⟩
  · cases e
def rInT (K : PySem.W.Frag) (neg : Bool) : R2 := fun x y H Q => ∃ d ds, Dp K H x d ∧ Dp K H y (.tuple ds) ∧ SeqAt.shaped d = true ∧ SeqAt.shaped (.tuple ds) = true ∧ Q (.bl (if neg then !ds.any fun z => PyData.eqv z d else ds.any fun z => PyData.eqv z d)) H
theorem op_inT (hu : X.A.units + 65 < cLine) : OpR X (compareOp .In) (rInT X.K false) := by
  intro pins s σ H x y v u Q I rx ry h
  obtain ⟨d, ds, hd, he, sd, se, q⟩ := h
  obtain ⟨as, r1⟩ := Dp.reads I d x v hd rx
  obtain ⟨bs, r2⟩ := Dp.reads I (.tuple ds) y u he ry
  exact SeqAt.in_tuple_reads r2 r1 (SeqAt.canLay_of_shaped se) (SeqAt.canLay_of_shaped sd) (room_in_shaped sd hu) ⟨.bl _, H, I, rfl, q⟩
theorem op_notInT (hu : X.A.units + 65 < cLine) : OpR X (compareOp .NotIn) (rInT X.K true) := by
  intro pins s σ H x y v u Q I rx ry h
  obtain ⟨d, ds, hd, he, sd, se, q⟩ := h
  obtain ⟨as, r1⟩ := Dp.reads I d x v hd rx
  obtain ⟨bs, r2⟩ := Dp.reads I (.tuple ds) y u he ry
  exact SeqAt.notIn_tuple_reads r2 r1 (SeqAt.canLay_of_shaped se) (SeqAt.canLay_of_shaped sd) (room_in_shaped sd hu) ⟨.bl _, H, I, rfl, q⟩
theorem inL_any (a : PV) (l : List PV) : (toDs l).any (fun z => PyData.eqv z (toD a)) = inL a l := by
  rw [toDs_map, List.any_map]
  rfl
theorem ob_in {K : PySem.W.Frag} : OpB K (rTwo (rInD K) (rTwo (rInT K false) (fun x y H Q => ∃ i j, x = .str i ∧ y = .str j ∧ Q (.bl (!(Builtin.Str.occurrences j i 0 j.length 1).isEmpty)) H))) pIn := by
  intro F H x y a b v Q s ra rb e q
  unfold pIn at e
  split at e
  · split at e
    · rename_i c
      cases e
      have h2 := RD.dp s c.2 rb
      simp only [toD] at h2 c
      exact .inl ⟨_, _, RD.dp s c.1 ra, h2, c.1, c.2, by rw [inL_any]; exact q⟩
    · cases e
  · split at e
    · rename_i c
      cases e
      have h2 := RD.dp s c.2 rb
      simp only [toD] at h2 c
      exact .inr (.inl ⟨_, _, RD.dp s c.1 ra, h2, c.1, c.2, by rw [inL_any]; exact q⟩)
    · cases e
  · cases e; cases ra.str; cases rb.str; exact .inr (.inr ⟨_, _, rfl, rfl, q⟩)
  · cases e
theorem ob_notIn {K : PySem.W.Frag} : OpB K (rTwo (rNotInD K) (rTwo (rInT K true) (fun x y H Q => ∃ i j, x = .str i ∧ y = .str j ∧ Q (.bl (!(!(Builtin.Str.occurrences j i 0 j.length 1).isEmpty))) H))) pNotIn := by
  intro F H x y a b v Q s ra rb e q
  unfold pNotIn pIn at e
  split at e
  · split at e
    · rename_i c
      cases e
      have h2 := RD.dp s c.2 rb
      simp only [toD] at h2 c
      exact .inl ⟨_, _, RD.dp s c.1 ra, h2, c.1, c.2, by rw [inL_any]; exact q⟩
    · cases e
  · split at e
    · rename_i c
      cases e
      have h2 := RD.dp s c.2 rb
      simp only [toD] at h2 c
      exact .inr (.inl ⟨_, _, RD.dp s c.1 ra, h2, c.1, c.2, by rw [inL_any]; exact q⟩)
    · cases e
  · cases e; cases ra.str; cases rb.str; exact .inr (.inr ⟨_, _, rfl, rfl, q⟩)
  · cases e
structure CmpR (X : Cx) (op : CmpOp) (f : PV → PV → Option Bool) : Prop where
  ex : ∃ r, OpR X (compareOp op) r ∧ OpB X.K r f
theorem c_lt : CmpR X .Lt pLt := ⟨_, op_lt.or op_lt_str, ob_lt⟩
theorem c_le : CmpR X .LtE pLe := ⟨_, op_le.or op_le_str, ob_le⟩
theorem c_gt : CmpR X .Gt pGt := ⟨_, op_gt, ob_gt⟩
theorem c_eq {k : Nat} (hr : Room k X.A) : CmpR X .Eq pEq := ⟨_, op_eqD hr.units, ob_eq⟩
theorem c_ne {k : Nat} (hr : Room k X.A) : CmpR X .NotEq pNe := ⟨_, op_neD hr.units, ob_ne⟩
theorem units65 {k : Nat} {A : Around} (hr : Room k A) : A.units + 65 < cLine := by have := hr.un; omega
theorem c_in {k : Nat} (hr : Room k X.A) : CmpR X .In pIn := ⟨_, (op_inD (units65 hr)).or ((op_inT (units65 hr)).or op_in_str), ob_in⟩
theorem c_notIn {k : Nat} (hr : Room k X.A) : CmpR X .NotIn pNotIn := ⟨_, (op_notInD (units65 hr)).or ((op_notInT (units65 hr)).or op_notin_str), ob_notIn⟩
theorem t_cmp {a b : Expr} {op : CmpOp} {f : PV → PV → Option Bool} {da db : Fm → R PV} {pos : Pos} (c : CmpR X op f) (ha : PE X a (xR X W da)) (hb : PE X b (xR X W db)) (hm : behindInMarks op b = false := by rfl) :
    PT X (.Compare a [op] [b] pos) (xT X W (d2 f da db)) := by
  obtain ⟨r, h1, h2⟩ := c.ex
  exact pt_cmpS h1 h2 ha hb hm
theorem v_cmp {a b : Expr} {op : CmpOp} {f : PV → PV → Option Bool} {da db : Fm → R PV} {pos : Pos} (c : CmpR X op f) (ha : PE X a (xR X W da)) (hb : PE X b (xR X W db)) (hm : behindInMarks op b = false := by rfl) :
    PE X (.Compare a [op] [b] pos) (xV X W (dBv (d2 f da db))) := by
  obtain ⟨r, h1, h2⟩ := c.ex
  exact pe_cmpB h1 h2 ha hb hm
theorem v_chain {a b c : Expr} {op op' : CmpOp} {f g : PV → PV → Option Bool} {da db dc : Fm → R PV} {pos : Pos} (c1 : CmpR X op f) (c2 : CmpR X op' g) (ha : PE X a (xR X W da)) (hb : PE X b (xR X W db)) (hc : PE X c (xR X W dc))
    (hm : lastMarks [op, op'] [b, c] = false := by with_unfolding_all rfl) : PE X (.Compare a [op, op'] [b, c] pos) (xV X W (dBv (dChain f g da db dc))) := by
  obtain ⟨r, h1, h2⟩ := c1.ex
  obtain ⟨r', h1', h2'⟩ := c2.ex
  exact pe_chainS h1 h2 h1' h2' ha hb hc hm
def isNon : PV → Bool
  | .non => true
  | _ => false
theorem isNon_V {K : PySem.W.Frag} {F H : Hp} {d : PV} {v : V} (h : RD K F H d v) : decide (v = .non) = isNon d := by
  cases d with
  | non => cases h.non; rfl
  | bl _ => cases h.bl; rfl
  | int _ => cases h.int; rfl
  | str _ => cases h.str; rfl
  | tup _ => obtain ⟨a, xs, rfl, _⟩ := h.tup; rfl
  | lst _ => obtain ⟨a, xs, rfl, _⟩ := h.lst; rfl
  | scr _ => obtain ⟨a, rfl, _⟩ := h.scr; rfl
  | dct _ _ => obtain ⟨a, ws, rfl, _⟩ := h.dct; rfl
  | ins _ _ => obtain ⟨a, _, _, rfl, _⟩ := h.ins; rfl
def pIsN (a : PV) : Option Bool := some (isNon a)
def pNotN (a : PV) : Option Bool := some (!isNon a)
theorem t_notN {a : Expr} {da : Fm → R PV} {j : Nat} {pos pos' : Pos} (ha : PE X a (xR X W da)) : PT X (.Compare a [.IsNot] [.Constant .none j pos'] pos) (xT X W (d1 pNotN da)) := PT.imp (pt_cmp (pc_notN ha)) fun σ H Q h => by
  refine seq1 stGT h fun F H x a env ok ra p => ?_
  exact ⟨_, by rw [isNon_V ra], bl_true p ok.s0⟩
def pIdx : PV → PV → Option PV
  | .lst l, .int i => atI l i
  | .tup l, .int i => atI l i
  | .scr l, .int i => (atI l i).map .int
  | .str z, .int i => if z.length ≤ sizeLine then (atI z.cps.toList i).map fun c => .str ⟨#[c]⟩ else none
  | _, _ => none
theorem RepL.atI {K : PySem.W.Frag} {F : Hp} {l : List PV} {xs : List V} {i : Int} {d : PV} (r : RepL K F l xs) (h : L2.atI l i = some d) : ∃ x, L2.atI xs i = some x ∧ Rep K F d x := by
  unfold L2.atI at h ⊢
  rw [r.len]
  cases q : ixN l.length i with
  | none => rw [q] at h; cases h
  | some j =>
    rw [q] at h
    exact r.get' h
theorem os_idx {K : PySem.W.Frag} : OpS K (rIx K) pIdx (GV K) := by
  intro F H x y a b v Q s ra rb e g
  unfold pIdx at e
  split at e
  · cases rb.int
    obtain ⟨a1, xs, rfl, q1, r1⟩ := ra.lst
    obtain ⟨z, e1, r2⟩ := r1.atI e
    exact .inl ⟨a1, xs, _, z, rfl, rfl, SqL.of q1, e1, gv_here g s r2⟩
  · cases rb.int
    obtain ⟨a1, xs, rfl, q1, r1⟩ := ra.tup
    obtain ⟨z, e1, r2⟩ := r1.atI e
    exact .inr (.inl ⟨a1, xs, _, z, rfl, rfl, sqT_mono s.same q1, e1, gv_here g s r2⟩)
  · cases rb.int
    obtain ⟨a1, rfl, q1⟩ := ra.scr
    rename_i l i
    cases q2 : L2.atI l i with
    | none => rw [q2] at e; cases e
    | some n =>
      rw [q2] at e
      cases e
      refine .inl ⟨a1, _, _, .int n, rfl, rfl, s.same.seq q1, ?_, gv_here g s (by simp only [Rep])⟩
      unfold L2.atI at q2 ⊢
      rw [List.length_map]
      cases q3 : ixN l.length i with
      | none => rw [q3] at q2; cases q2
      | some j =>
        rw [q3] at q2
        have q2' : l[j]? = some n := q2
        show (l.map V.int)[j]? = some (.int n)
        rw [List.getElem?_map, q2']
        rfl
  · cases rb.int
    cases ra.str
    split at e
    · rename_i z i c
      cases q2 : L2.atI z.cps.toList i with
      | none => rw [q2] at e; cases e
      | some n =>
        rw [q2] at e
        cases e
        exact .inr (.inr ⟨_, _, n, rfl, rfl, c, q2, gv_here g s (by simp only [Rep])⟩)
    · cases e
  · cases e
theorem v_idx {a b : Expr} {da db : Fm → R PV} {pos : Pos} (ha : PE X a (xR X W da)) (hb : PE X b (xR X W db)) (hs : PlainIx b := by exact fun _ _ => rfl) : PE X (.Subscript a b pos) (xV X W (d2 pIdx da db)) := pe_ixS ix_seq os_idx ha hb hs
def cutP {α : Type} (xs : List α) (lo hi : Option Int) : List α := (xs.drop (HT.sIx xs.length 0 lo)).take (HT.sIx xs.length xs.length hi - HT.sIx xs.length 0 lo)
theorem RepL.cut {K : PySem.W.Frag} {F : Hp} {l : List PV} {xs : List V} (r : RepL K F l xs) (lo hi : Option Int) : RepL K F (cutP l lo hi) (cutV xs lo hi) := by
  unfold cutP cutV
  rw [r.len]
  exact (r.drop _).take _
def dNo : Fm → R (Option Int) := fun _ => .ok none
def dSo (d : Fm → R PV) : Fm → R (Option Int) := fun env => (d env).bind fun v => match v with
  | .int i => .ok (some i)
  | _ => .bad
def GO (F H : Hp) (Q : Option Int → Hp → Prop) (b : Option Int) : Prop := ∀ F' H', Step F H F' H' → Q b H'
def xO (X : Cx) (W : WX) (d : Fm → R (Option Int)) : TO := fun σ H Q => ∃ F env, FmOk X.K F H σ env ∧ RP (d env) (GO F H Q) (GX X.K X.mg F H σ W)
theorem o_no : PO X none (xO X W dNo) := ⟨fun pins s σ H Q I ⟨F, env, ok, p⟩ => po_none.run pins s σ H Q I (p F H (Step.refl ok.s0))⟩
theorem o_so {e : Expr} {d : Fm → R PV} (h : PE X e (xV X W d)) : PO X (some e) (xO X W (dSo d)) := ⟨fun pins s σ H Q I ⟨F, env, ok, p⟩ => (po_some h).run pins s σ H Q I (by
  refine ⟨F, env, ok, ?_⟩
  unfold dSo at p
  cases q : d env with
  | ok v =>
    rw [q] at p
    intro x F' H' st r
    cases v with
    | int i => simp only [Rep] at r; exact ⟨i, r, p F' H' st⟩
    | non => exact p.elim
    | bl _ => exact p.elim
    | str _ => exact p.elim
    | tup _ => exact p.elim
    | lst _ => exact p.elim
    | scr _ => exact p.elim
    | dct _ _ => exact p.elim
    | ins _ _ => exact p.elim
  | ex e => rw [q] at p; exact p
  | bad => rw [q] at p; exact p)⟩
def dSl {α : Type} (f : PV → Option Int → Option Int → Option α) (da : Fm → R PV) (dl dh : Fm → R (Option Int)) : Fm → R α := fun env => (da env).bind fun x => (dl env).bind fun l => (dh env).bind fun h => ofO (f x l h)
def pSl : PV → Option Int → Option Int → Option PV
  | .str z, lo, hi => if z.length ≤ sizeLine then some (.str (cutS z lo hi)) else none
  | .tup l, lo, hi => some (.tup (cutP l lo hi))
  | _, _, _ => none
def fSl : PV → Option Int → Option Int → Option (List PV)
  | .lst l, lo, hi => some (cutP l lo hi)
  | _, _, _ => none
theorem seqSl {α : Type} {G : Hp → Hp → VK → α → Prop} {da : Fm → R PV} {dl dh : Fm → R (Option Int)} {f : PV → Option Int → Option Int → Option α} {σ : L2.St} {H : Hp} {Q : VK} {r : V → Option Int → Option Int → Hp → Prop} (sG : Stays G)
    (h : tG X.K X.mg W G (dSl f da dl dh) σ H Q)
    (hr : ∀ F H x a l u v, Fz F H → RD X.K F H a x → f a l u = some v → G F H Q v → r x l u H) :
    xR X W da σ H fun x H1 => xO X W dl σ H1 fun l H2 => xO X W dh σ H2 fun u H3 => r x l u H3 := by
  obtain ⟨F, env, ok, p⟩ := h
  refine ⟨F, env, ok, ?_⟩
  unfold dSl at p
  cases q : da env with
  | ok v =>
    rw [q] at p
    intro x F1 H1 st1 rx
    refine ⟨F1, env, ok.step st1, ?_⟩
    simp only [R.bind_ok] at p
    cases q1 : dl env with
    | ok l =>
      rw [q1] at p
      intro F2 H2 st2
      refine ⟨F2, env, (ok.step st1).step st2, ?_⟩
      simp only [R.bind_ok] at p
      cases q2 : dh env with
      | ok u =>
        rw [q2] at p
        intro F3 H3 st3
        simp only [R.bind_ok] at p
        cases q3 : f v l u with
        | none => rw [q3] at p; exact p.elim
        | some z => rw [q3] at p; exact hr F3 H3 x v l u z st3.s2 ((rx.step st2).step st3) q3 (sG.up _ _ _ _ _ _ p ((st1.trans st2).trans st3))
      | ex e => rw [q2] at p; exact GX.step (GX.step p st1) st2
      | bad => rw [q2] at p; exact p
    | ex e => rw [q1] at p; exact GX.step p st1
    | bad => rw [q1] at p; exact p
  | ex e => rw [q] at p; exact p
  | bad => rw [q] at p; exact p
theorem v_slice {e : Expr} {lo hi : Option Expr} {da : Fm → R PV} {dl dh : Fm → R (Option Int)} {pos p2 : Pos} (ha : PE X e (xR X W da)) (hl : PO X lo (xO X W dl)) (hh : PO X hi (xO X W dh)) : PE X (.Subscript e (.Slice lo hi none p2) pos) (xV X W (dSl pSl da dl dh)) :=
  PE.imp (pe_slice (sl_str.or sl_tupA) ha hl hh) fun σ H Q h => by
    refine seqSl stGV h fun F H x a l u v s ra e g => ?_
    unfold pSl at e
    split at e
    · split at e
      · rename_i c
        cases e
        cases ra.str
        exact .inl ⟨_, rfl, c, gv_here g s (by simp only [Rep])⟩
      · cases e
    · cases e
      obtain ⟨a1, xs, rfl, q1, r1⟩ := ra.tup
      refine .inr ⟨a1, xs, rfl, sqT_mono s.same q1, fun z => ?_, fun z p hp => ?_⟩
      · refine gv_here g s (repTup q1 ?_)
        have h0 := r1.cut l u
        have e0 : cutV xs l u = xs := by
          unfold cutV
          rw [z.1, z.2, List.drop_zero, Nat.sub_zero]
          exact List.take_length
        rw [e0] at h0
        exact h0
      · exact g _ _ _ (Step.frz s hp) (repNew s hp (r1.cut l u))
    · cases e
theorem f_slice {e : Expr} {lo hi : Option Expr} {da : Fm → R PV} {dl dh : Fm → R (Option Int)} {pos p2 : Pos} (ha : PE X e (xR X W da)) (hl : PO X lo (xO X W dl)) (hh : PO X hi (xO X W dh)) : PE X (.Subscript e (.Slice lo hi none p2) pos) (xF X W (dSl fSl da dl dh)) :=
  PE.imp (pe_slice sl_list ha hl hh) fun σ H Q h => by
    refine seqSl stGF h fun F H x a l u v s ra e g => ?_
    unfold fSl at e
    split at e
    · cases e
      obtain ⟨a1, xs, rfl, q1, r1⟩ := ra.lst
      exact ⟨a1, xs, rfl, SqL.of q1, fun p hp => g p _ F _ (Step.new s hp) (.of hp) (s.free hp) upd_same (r1.cut l u)⟩
    · cases e
def pLen : List PV → Option PV
  | [.lst l] => some (.int l.length)
  | [.tup l] => some (.int l.length)
  | [.scr l] => some (.int l.length)
  | [.str z] => if z.length ≤ sizeLine then some (.int z.length) else none
  | _ => none
theorem cs_len {K : PySem.W.Frag} : CaS K (fun xs H Q => (∃ p ys, xs = [.ref p] ∧ (SqL K H p ys ∨ SqT K H p ys) ∧ Q (.int ys.length) H) ∨ (∃ z, xs = [.str z] ∧ z.length ≤ sizeLine ∧ Q (.int z.length) H)) pLen (GV K) := by
  intro F H xs ds v Q s r e g
  unfold pLen at e
  split at e
  · cases e
    obtain ⟨x, rfl, rx⟩ := r.one
    obtain ⟨a1, ys, rfl, q1, r1⟩ := rx.lst
    exact .inl ⟨a1, ys, rfl, .inl (SqL.of q1), gv_here g s (by simp only [Rep, r1.len])⟩
  · cases e
    obtain ⟨x, rfl, rx⟩ := r.one
    obtain ⟨a1, ys, rfl, q1, r1⟩ := rx.tup
    exact .inl ⟨a1, ys, rfl, .inr (sqT_mono s.same q1), gv_here g s (by simp only [Rep, r1.len])⟩
  · cases e
    obtain ⟨x, rfl, rx⟩ := r.one
    obtain ⟨a1, rfl, q1⟩ := rx.scr
    exact .inl ⟨a1, _, rfl, .inl (s.same.seq q1), gv_here g s (by simp only [Rep, List.length_map])⟩
  · split at e
    · rename_i c
      cases e
      obtain ⟨x, rfl, rx⟩ := r.one
      cases rx.str
      exact .inr ⟨_, rfl, c, gv_here g s (by simp only [Rep])⟩
    · cases e
  · cases e
theorem v_len {e : Expr} {es : List Expr} {d : Fm → R (List PV)} {p pos : Pos} (hm : X.mg "len" = none) (ha : PA X (e :: es) (xRL X W d)) (hg : Gl X "len" := by rfl) (he : starEach (e :: es) X.env = (false, eval e X.env) :: starEach es X.env := by rfl) (hpl : (backTo pos (starEach es X.env)).any (·.1) = false := by rfl) :
    PE X (.Call (.Name "len" p) (e :: es) [] pos) (xV X W (dCall (fun ds => ofO (pLen ds)) d)) := pe_callBS (call_len_seq.or call_len_str) cs_len stGV hg hm PySem.boot_len ha (by decide) (by decide) he hpl
def pAbs : List PV → Option PV
  | [.int i] => some (.int (if i < 0 then -i else i))
  | _ => none
theorem v_abs {e : Expr} {es : List Expr} {d : Fm → R (List PV)} {p pos : Pos} (hm : X.mg "abs" = none) (ha : PA X (e :: es) (xRL X W d)) (hg : Gl X "abs" := by rfl) (he : starEach (e :: es) X.env = (false, eval e X.env) :: starEach es X.env := by rfl) (hpl : (backTo pos (starEach es X.env)).any (·.1) = false := by rfl) :
    PE X (.Call (.Name "abs" p) (e :: es) [] pos) (xV X W (dCall (fun ds => ofO (pAbs ds)) d)) := pe_callBS call_abs (by
      intro F H xs ds v Q s r e g
      unfold pAbs at e
      split at e
      · cases e
        obtain ⟨x, rfl, rx⟩ := r.one
        cases rx.int
        exact ⟨_, rfl, gv_here g s (by simp only [Rep])⟩
      · cases e) stGV hg hm PyProof.Rows.boot_abs ha (by decide) (by decide) he hpl
def pMin2 : List PV → Option PV
  | [.int i, .int j] => some (.int (if j < i then j else i))
  | _ => none
def pMax2 : List PV → Option PV
  | [.int i, .int j] => some (.int (if j > i then j else i))
  | _ => none
theorem v_min2 {e : Expr} {es : List Expr} {d : Fm → R (List PV)} {p pos : Pos} (hc : X.calm = true) (hm : X.mg "min" = none) (ha : PA X (e :: es) (xRL X W d)) (hg : Gl X "min" := by rfl) (he : starEach (e :: es) X.env = (false, eval e X.env) :: starEach es X.env := by rfl) (hpl : (backTo pos (starEach es X.env)).any (·.1) = false := by rfl) :
    PE X (.Call (.Name "min" p) (e :: es) [] pos) (xV X W (dCall (fun ds => ofO (pMin2 ds)) d)) := pe_callBS (call_min2 hc) (by
      intro F H xs ds v Q s r e g
      unfold pMin2 at e
      split at e
      · cases e
        obtain ⟨x, y, rfl, rx, ry⟩ := r.two
        cases rx.int
        cases ry.int
        exact ⟨_, _, rfl, gv_here g s (by simp only [Rep])⟩
      · cases e) stGV hg hm (by decide +kernel) ha (by decide) (by decide) he hpl
theorem v_max2 {e : Expr} {es : List Expr} {d : Fm → R (List PV)} {p pos : Pos} (hc : X.calm = true) (hm : X.mg "max" = none) (ha : PA X (e :: es) (xRL X W d)) (hg : Gl X "max" := by rfl) (he : starEach (e :: es) X.env = (false, eval e X.env) :: starEach es X.env := by rfl) (hpl : (backTo pos (starEach es X.env)).any (·.1) = false := by rfl) :
    PE X (.Call (.Name "max" p) (e :: es) [] pos) (xV X W (dCall (fun ds => ofO (pMax2 ds)) d)) := pe_callBS (call_max2 hc) (by
      intro F H xs ds v Q s r e g
      unfold pMax2 at e
      split at e
      · cases e
        obtain ⟨x, y, rfl, rx, ry⟩ := r.two
        cases rx.int
        cases ry.int
        exact ⟨_, _, rfl, gv_here g s (by simp only [Rep])⟩
      · cases e) stGV hg hm (by decide +kernel) ha (by decide) (by decide) he hpl
def pOrd : List PV → Option PV
  | [.str x] => if x.length = 1 then some (.int (x.cps.getD 0 0 : Nat)) else none
  | _ => none
theorem v_ord {e : Expr} {es : List Expr} {d : Fm → R (List PV)} {p pos : Pos} (hm : X.mg "ord" = none) (ha : PA X (e :: es) (xRL X W d)) (hg : Gl X "ord" := by rfl) (he : starEach (e :: es) X.env = (false, eval e X.env) :: starEach es X.env := by rfl) (hpl : (backTo pos (starEach es X.env)).any (·.1) = false := by rfl) :
    PE X (.Call (.Name "ord" p) (e :: es) [] pos) (xV X W (dCall (fun ds => ofO (pOrd ds)) d)) := pe_callBS call_ord (by
      intro F H xs ds v Q s r e g
      unfold pOrd at e
      split at e
      · split at e
        · rename_i c
          cases e
          obtain ⟨x, rfl, rx⟩ := r.one
          cases rx.str
          exact ⟨_, rfl, c, gv_here g s (by simp only [Rep])⟩
        · cases e
      · cases e) stGV hg hm (by decide +kernel) ha (by decide) (by decide) he hpl
def pInt1 : List PV → Option PV
  | [.int i] => some (.int i)
  | [.bl k] => some (.int (if k then 1 else 0))
  | _ => none
theorem v_int1 {e : Expr} {es : List Expr} {d : Fm → R (List PV)} {p pos : Pos} (hm : X.mg "int" = none) (ha : PA X (e :: es) (xRL X W d)) (hg : Gl X "int" := by rfl) (he : starEach (e :: es) X.env = (false, eval e X.env) :: starEach es X.env := by rfl) (hpl : (backTo pos (starEach es X.env)).any (·.1) = false := by rfl) :
    PE X (.Call (.Name "int" p) (e :: es) [] pos) (xV X W (dCall (fun ds => ofO (pInt1 ds)) d)) := pe_callTS call_int1 (by
      intro F H xs ds v Q s r e g
      unfold pInt1 at e
      split at e
      · cases e
        obtain ⟨x, rfl, rx⟩ := r.one
        cases rx.int
        exact .inl ⟨_, rfl, gv_here g s (by simp only [Rep])⟩
      · cases e
        obtain ⟨x, rfl, rx⟩ := r.one
        cases rx.bl
        exact .inr ⟨_, rfl, gv_here g s (by simp only [Rep])⟩
      · cases e) stGV hg hm (by decide +kernel) ha (by decide) (by decide) he hpl
def intsOf : List PV → Option (List Int)
  | [] => some []
  | .int i :: r => (intsOf r).map (i :: ·)
  | _ :: _ => none
def blsOf : List PV → Option (List Bool)
  | [] => some []
  | .bl i :: r => (blsOf r).map (i :: ·)
  | _ :: _ => none
def strsOf : List PV → Option (List Str)
  | [] => some []
  | .str i :: r => (strsOf r).map (i :: ·)
  | _ :: _ => none
theorem intsOf_rep {K : PySem.W.Frag} {F : Hp} : ∀ {l : List PV} {xs : List V} {ns : List Int}, RepL K F l xs → intsOf l = some ns → xs = ns.map V.int
  | [], xs, ns, r, e => by simp only [RepL] at r; subst r; cases e; rfl
  | .int i :: l, xs, ns, r, e => by
    simp only [RepL, Rep] at r
    obtain ⟨x, t, rfl, rfl, r2⟩ := r
    simp only [intsOf] at e
    cases q : intsOf l with
    | none => rw [q] at e; cases e
    | some m => rw [q] at e; cases e; rw [intsOf_rep r2 q]; rfl
  | .non :: _, _, _, _, e => by cases e
  | .bl _ :: _, _, _, _, e => by cases e
  | .str _ :: _, _, _, _, e => by cases e
  | .tup _ :: _, _, _, _, e => by cases e
  | .lst _ :: _, _, _, _, e => by cases e
  | .scr _ :: _, _, _, _, e => by cases e
  | .dct _ _ :: _, _, _, _, e => by cases e
  | .ins _ _ :: _, _, _, _, e => by cases e
theorem blsOf_rep {K : PySem.W.Frag} {F : Hp} : ∀ {l : List PV} {xs : List V} {ns : List Bool}, RepL K F l xs → blsOf l = some ns → xs = ns.map V.bl
  | [], xs, ns, r, e => by simp only [RepL] at r; subst r; cases e; rfl
  | .bl i :: l, xs, ns, r, e => by
    simp only [RepL, Rep] at r
    obtain ⟨x, t, rfl, rfl, r2⟩ := r
    simp only [blsOf] at e
    cases q : blsOf l with
    | none => rw [q] at e; cases e
    | some m => rw [q] at e; cases e; rw [blsOf_rep r2 q]; rfl
  | .non :: _, _, _, _, e => by cases e
  | .int _ :: _, _, _, _, e => by cases e
  | .str _ :: _, _, _, _, e => by cases e
  | .tup _ :: _, _, _, _, e => by cases e
  | .lst _ :: _, _, _, _, e => by cases e
  | .scr _ :: _, _, _, _, e => by cases e
  | .dct _ _ :: _, _, _, _, e => by cases e
  | .ins _ _ :: _, _, _, _, e => by cases e
theorem strsOf_rep {K : PySem.W.Frag} {F : Hp} : ∀ {l : List PV} {xs : List V} {ns : List Str}, RepL K F l xs → strsOf l = some ns → xs = ns.map V.str
  | [], xs, ns, r, e => by simp only [RepL] at r; subst r; cases e; rfl
  | .str i :: l, xs, ns, r, e => by
    simp only [RepL, Rep] at r
    obtain ⟨x, t, rfl, rfl, r2⟩ := r
    simp only [strsOf] at e
    cases q : strsOf l with
    | none => rw [q] at e; cases e
    | some m => rw [q] at e; cases e; rw [strsOf_rep r2 q]; rfl
  | .non :: _, _, _, _, e => by cases e
  | .int _ :: _, _, _, _, e => by cases e
  | .bl _ :: _, _, _, _, e => by cases e
  | .tup _ :: _, _, _, _, e => by cases e
  | .lst _ :: _, _, _, _, e => by cases e
  | .scr _ :: _, _, _, _, e => by cases e
  | .dct _ _ :: _, _, _, _, e => by cases e
  | .ins _ _ :: _, _, _, _, e => by cases e
def pSum : List PV → Option PV
  | [.lst l] => (intsOf l).map fun ns => .int ns.sum
  | _ => none
def pAll : List PV → Option PV
  | [.lst l] => (blsOf l).map fun ns => .bl (ns.all id)
  | _ => none
def pAny : List PV → Option PV
  | [.lst l] => (blsOf l).map fun ns => .bl (ns.any id)
  | _ => none
theorem v_all {e : Expr} {es : List Expr} {d : Fm → R (List PV)} {p pos : Pos} (hc : X.calm = true) (hm : X.mg "all" = none) (ha : PA X (e :: es) (xRL X W d)) (hg : Gl X "all" := by rfl) (he : starEach (e :: es) X.env = (false, eval e X.env) :: starEach es X.env := by rfl) (hpl : (backTo pos (starEach es X.env)).any (·.1) = false := by rfl) :
    PE X (.Call (.Name "all" p) (e :: es) [] pos) (xV X W (dCall (fun ds => ofO (pAll ds)) d)) := pe_callBS (cr_all hc) (by
      intro F H xs ds v Q s r e g
      unfold pAll at e
      split at e
      · rename_i l
        cases q : blsOf l with
        | none => rw [q] at e; cases e
        | some ns =>
          rw [q] at e
          cases e
          obtain ⟨x, rfl, rx⟩ := r.one
          obtain ⟨a1, ys, rfl, q1, r1⟩ := rx.lst
          have e2 := blsOf_rep r1 q
          subst e2
          exact ⟨a1, ns, rfl, SqL.of q1, gv_here g s (by simp only [Rep])⟩
      · cases e) stGV hg hm (by decide +kernel) ha (by decide) (by decide) he hpl
def pTuple : List PV → Option PV
  | [.lst l] => some (.tup l)
  | _ => none
theorem v_tuple {e : Expr} {es : List Expr} {d : Fm → R (List PV)} {p pos : Pos} (hm : X.mg "tuple" = none) (ha : PA X (e :: es) (xRL X W d)) (hg : Gl X "tuple" := by rfl) (he : starEach (e :: es) X.env = (false, eval e X.env) :: starEach es X.env := by rfl) (hpl : (backTo pos (starEach es X.env)).any (·.1) = false := by rfl) :
    PE X (.Call (.Name "tuple" p) (e :: es) [] pos) (xV X W (dCall (fun ds => ofO (pTuple ds)) d)) := pe_callTS call_tuple_of (by
      intro F H xs ds v Q s r e g
      unfold pTuple at e
      split at e
      · cases e
        obtain ⟨x, rfl, rx⟩ := r.one
        obtain ⟨a1, ys, rfl, q1, r1⟩ := rx.lst
        exact ⟨a1, ys, rfl, .inl ⟨SqL.of q1, fun l hl => g _ _ _ (Step.frz s hl) (repNew s hl r1)⟩⟩
      · cases e) stGV hg hm (by decide +kernel) ha (by decide) (by decide) he hpl
def kindOf : PV → String
  | .non => "NoneType"
  | .bl _ => "bool"
  | .int _ => "int"
  | .str _ => "str"
  | .tup _ => "tuple"
  | .lst _ => "list"
  | .scr _ => "list"
  | .dct _ _ => "dict"
  | .ins _ _ => ""
theorem tyX_of {K : PySem.W.Frag} {F H : Hp} {d : PV} {v : V} (s : Fz F H) (h : RD K F H d v) (hn : ∀ c fs, d ≠ .ins c fs) : TyX K H v (.type (kindOf d)) := by
  cases d with
  | non => cases h.non; exact .base .non
  | bl b => cases h.bl; exact .base (.bl b)
  | int i => cases h.int; exact .base (.int i)
  | str x => cases h.str; exact .base (.str x)
  | tup l =>
    obtain ⟨a, xs, rfl, q, _⟩ := h.tup
    rcases sqT_mono s.same q with (q | ⟨o, q⟩) | ⟨o, its, n, h1, h2, _⟩
    · exact .base (.tup q)
    · exact .fTuple q
    · exact .kTuple h1 h2
  | lst l => obtain ⟨a, xs, rfl, q, _⟩ := h.lst; exact .base (.lst q)
  | scr l =>
    obtain ⟨a, rfl, q⟩ := h.scr
    rcases s.same.seq q with (q | ⟨o, q⟩) | ⟨o, its, n, h1, h2, _⟩
    · exact .base (.lst q)
    · exact .base (.frz q)
    · exact .kList h1 h2
  | dct ks vs =>
    obtain ⟨a, ws, rfl, q, _⟩ := h.dct
    rcases q with q | ⟨o, q⟩
    · exact .base (.dK q)
    · exact .fDict q
  | ins c fs => exact absurd rfl (hn c fs)
def pIsi (T : String) : PV → Option PV
  | .ins _ _ => none
  | a => (kitB (kindOf a) T).map .bl
theorem pIsi_ok {T : String} {a v : PV} (h : pIsi T a = some v) : (∀ c fs, a ≠ .ins c fs) ∧ ∃ b, kitB (kindOf a) T = some b ∧ v = .bl b := by
  have go : ∀ a, (∀ c fs, a ≠ .ins c fs) → (kitB (kindOf a) T).map PV.bl = some v → (∀ c fs, a ≠ .ins c fs) ∧ ∃ b, kitB (kindOf a) T = some b ∧ v = .bl b := fun a n h => by
    cases q : kitB (kindOf a) T with
    | none => rw [q] at h; cases h
    | some b => rw [q] at h; cases h; exact ⟨n, b, rfl, rfl⟩
  cases a with
  | ins _ _ => cases h
  | non => exact go _ (fun _ _ z => by cases z) h
  | bl _ => exact go _ (fun _ _ z => by cases z) h
  | int _ => exact go _ (fun _ _ z => by cases z) h
  | str _ => exact go _ (fun _ _ z => by cases z) h
  | tup _ => exact go _ (fun _ _ z => by cases z) h
  | lst _ => exact go _ (fun _ _ z => by cases z) h
  | scr _ => exact go _ (fun _ _ z => by cases z) h
  | dct _ _ => exact go _ (fun _ _ z => by cases z) h
theorem v_isi {e : Expr} {da : Fm → R PV} {T : String} {x : Str} {p p2 pos : Pos} (hm : X.mg "isinstance" = none) (ha : PE X e (xR X W da)) (gT : Gl X x) (mT : X.mg x = none) (bT : bootBuiltins x = some (.type T)) (hg : Gl X "isinstance" := by rfl)
    (hn : x ≠ "__name__" := by decide) (hd : (x == ("__debug__" : Str)) = false := by decide)
    (hs : starEach [e, .Name x p2] X.env = (false, eval e X.env) :: starEach [.Name x p2] X.env := by rfl) (hs2 : starEach [.Name x p2] X.env = (false, eval (.Name x p2) X.env) :: starEach [] X.env := by rfl)
    (hpl : (backTo pos (starEach [.Name x p2] X.env)).any (·.1) = false := by rfl) :
    PE X (.Call (.Name "isinstance" p) [e, .Name x p2] [] pos) (xV X W (d1 (pIsi T) da)) := by
  have h2 : PE X (.Name x p2) (tC (.ty T)) := pe_bltn (v := .ty T) gT mT bT rfl hn hd
  refine PE.imp (pe_callB call_isi hg hm (by decide +kernel) (pa_cons ha (pa_cons h2 pa_nil hs2) hs) (by decide) (by decide) hs hpl) fun σ H Q h => ?_
  refine seq1 stGV h fun F H x a env ok ra p => ?_
  cases q0 : pIsi T a with
  | none => rw [q0] at p; exact p.elim
  | some v =>
    obtain ⟨hn, b, q, rfl⟩ := pIsi_ok q0
    rw [q0] at p
    exact ⟨x, .ty T, _, _, b, rfl, .ty T, tyX_of ok.s0 ra hn, kit_ty q, gv_here p ok.s0 (by simp only [Rep])⟩
end
end Pv
set_option Elab.async false
set_option linter.all false
set_option maxRecDepth 100000
set_option maxHeartbeats 2000000
namespace Pv
open PySem PySem.Spec PyProof.Rows L2
variable [TabCx]
def WalksR (K : PySem.W.Frag) (F H : Hp) (J : It) (ds : List PV) : Prop := ∀ F' H', Step F H F' H' → (∀ i d, ds[i]? = some d → J.go i H' ∧ ∀ x H2, J.yld i H' x H2 → ∃ F2, Step F' H' F2 H2 ∧ Rep K F2 d x) ∧ J.stop ds.length H'
def Walks (K : PySem.W.Frag) (F : Hp) (J : It) (ds : List PV) : Prop := ∀ F' H', Same F F' → Fz F' H' → (∀ i d, ds[i]? = some d → J.go i H' ∧ ∀ x H2, J.yld i H' x H2 → ∃ F2, Step F' H' F2 H2 ∧ Rep K F2 d x) ∧ J.stop ds.length H'
theorem Walks.r {K : PySem.W.Frag} {F H : Hp} {J : It} {ds : List PV} (h : Walks K F J ds) : WalksR K F H J ds := fun F' H' st => h F' H' st.s1 st.s2
def GI (K : PySem.W.Frag) (F H : Hp) (R : It → Hp → Prop) (ds : List PV) : Prop := ∀ J F' H', Step F H F' H' → Walks K F' J ds → R J H'
def GIR (K : PySem.W.Frag) (F H : Hp) (R : It → Hp → Prop) (ds : List PV) : Prop := ∀ J F' H', Step F H F' H' → WalksR K F' H' J ds → R J H'
def tI (K : PySem.W.Frag) (mg : Str → Option Value) (W : WX) (G : Hp → Hp → (It → Hp → Prop) → List PV → Prop) (d : Fm → R (List PV)) : TI := fun σ H R => ∃ F env, FmOk K F H σ env ∧ RP (d env) (G F H R) (GX K mg F H σ W)
abbrev xI (X : Cx) (W : WX) (d : Fm → R (List PV)) : TI := tI X.K X.mg W (GI X.K) d
abbrev xIR (X : Cx) (W : WX) (d : Fm → R (List PV)) : TI := tI X.K X.mg W (GIR X.K) d
theorem PI.imp {X : Cx} {tg iter : Expr} {t t' : TI} (h : PI X tg iter t) (i : ∀ σ H R, t' σ H R → t σ H R) : PI X tg iter t' := ⟨fun pins s σ H R I q => h.run pins s σ H R I (i σ H R q)⟩
section
variable {X : Cx} {W : WX} {tg : Expr}
theorem iR {iter : Expr} {d : Fm → R (List PV)} (h : PI X tg iter (xI X W d)) : PI X tg iter (xIR X W d) := PI.imp h fun σ H R ⟨F, env, ok, p⟩ => by
  refine ⟨F, env, ok, ?_⟩
  cases q : d env with
  | ok v => rw [q] at p; exact fun J F' H' st w => p J F' H' st w.r
  | ex e => rw [q] at p; exact p
  | bad => rw [q] at p; exact p
def lstIt : PV → Option (List PV)
  | .lst l => some l
  | _ => none
def tupIt : PV → Option (List PV)
  | .tup l => some l
  | _ => none
def chr1 (c : Nat) : PV := .str ⟨#[c]⟩
def strIt : PV → Option (List PV)
  | .str x => some (x.cps.toList.map chr1)
  | _ => none
theorem walks_lst {K : PySem.W.Frag} {F : Hp} {a : Addr} {xs : List V} {l : List PV} (h : F a = some (.lst xs)) (r : RepL K F l xs) : Walks K F (Itl K a) l := by
  intro F' H' s1 s2
  have h2 : SqL K H' a xs := SqL.of (s2.same _ _ (s1 _ _ h))
  refine ⟨fun i d e => ?_, xs, h2, by rw [r.len]; exact Nat.le_refl _⟩
  obtain ⟨x, e1, r1⟩ := r.get' e
  refine ⟨⟨xs, x, h2, e1⟩, fun y H2 ⟨e2, e3⟩ => ?_⟩
  subst e2
  have e4 := e3 xs h2
  rw [e1] at e4
  cases e4
  exact ⟨F', Step.refl s2, r1.mono s1⟩
theorem walksR_lst {K : PySem.W.Frag} {F H : Hp} {a : Addr} {xs : List V} {l : List PV} (h : H a = some (.lst xs)) (r : RepL K F l xs) : WalksR K F H (Itl K a) l := by
  intro F' H' st
  have h2 : SqL K H' a xs := SqL.of (st.old h)
  refine ⟨fun i d e => ?_, xs, h2, by rw [r.len]; exact Nat.le_refl _⟩
  obtain ⟨x, e1, r1⟩ := r.get' e
  refine ⟨⟨xs, x, h2, e1⟩, fun y H2 ⟨e2, e3⟩ => ?_⟩
  subst e2
  have e4 := e3 xs h2
  rw [e1] at e4
  cases e4
  exact ⟨F', Step.refl st.s2, r1.mono st.s1⟩
theorem walks_tup {K : PySem.W.Frag} {F : Hp} {a : Addr} {xs : List V} {l : List PV} (h : SqT K F a xs) (r : RepL K F l xs) : Walks K F (Itt K a) l := by
  intro F' H' s1 s2
  have h2 : SqT K H' a xs := sqT_mono s2.same (sqT_mono s1 h)
  refine ⟨fun i d e => ?_, xs, h2, by rw [r.len]; exact Nat.le_refl _⟩
  obtain ⟨x, e1, r1⟩ := r.get' e
  refine ⟨⟨xs, x, h2, e1⟩, fun y H2 ⟨e2, e3⟩ => ?_⟩
  subst e2
  have e4 := e3 xs h2
  rw [e1] at e4
  cases e4
  exact ⟨F', Step.refl s2, r1.mono s1⟩
theorem walks_str {K : PySem.W.Frag} {F : Hp} (x : Str) : Walks K F (Its x) (x.cps.toList.map chr1) := by
  intro F' H' s1 s2
  refine ⟨fun i d e => ?_, ?_⟩
  · rw [List.getElem?_map] at e
    cases q : x.cps.toList[i]? with
    | none => rw [q] at e; cases e
    | some c =>
      rw [q] at e
      cases e
      have hi : i < x.cps.size := by
        have := (List.getElem?_eq_some_iff.mp q).1
        simpa using this
      refine ⟨hi, fun y H2 ⟨e2, c', e3, e4⟩ => ?_⟩
      subst e2 e4
      have e5 : c' = c := by
        have q' : x.cps[i]? = some c := by simpa using q
        rw [e3] at q'
        exact Option.some.inj q'
      subst e5
      exact ⟨F', Step.refl s2, by simp only [chr1, Rep]⟩
  · show x.cps.size ≤ _
    rw [List.length_map, Array.length_toList]
    exact Nat.le_refl _
theorem seqI {K : PySem.W.Frag} {mg : Str → Option Value} {da : Fm → R PV} {f : PV → Option (List PV)} {σ : L2.St} {H : Hp} {Z : It → Hp → Prop} {r : V → Hp → Prop}
    (h : tI K mg W (GIR K) (d1 f da) σ H Z)
    (hr : ∀ F H x a l, Fz F H → RD K F H a x → f a = some l → GIR K F H Z l → r x H) : tR K mg W da σ H r := by
  obtain ⟨F, env, ok, p⟩ := h
  refine ⟨F, env, ok, ?_⟩
  unfold d1 at p
  cases q : da env with
  | ok v =>
    rw [q] at p
    simp only [R.bind_ok] at p
    intro x F1 H1 st rx
    cases q2 : f v with
    | none => rw [q2] at p; exact p.elim
    | some l => rw [q2] at p; exact hr F1 H1 x v l st.s2 rx q2 fun J F' H' st' w => p J F' H' (st.trans st') w
  | ex e => rw [q] at p; exact p
  | bad => rw [q] at p; exact p
theorem seqIV {K : PySem.W.Frag} {mg : Str → Option Value} {da : Fm → R PV} {f : PV → Option (List PV)} {σ : L2.St} {H : Hp} {Z : It → Hp → Prop} {r : V → Hp → Prop}
    (h : tI K mg W (GI K) (d1 f da) σ H Z)
    (hr : ∀ F H x a l, Fz F H → Rep K F a x → f a = some l → GI K F H Z l → r x H) : tV K mg W da σ H r := by
  obtain ⟨F, env, ok, p⟩ := h
  refine ⟨F, env, ok, ?_⟩
  unfold d1 at p
  cases q : da env with
  | ok v =>
    rw [q] at p
    simp only [R.bind_ok] at p
    intro x F1 H1 st rx
    cases q2 : f v with
    | none => rw [q2] at p; exact p.elim
    | some l => rw [q2] at p; exact hr F1 H1 x v l st.s2 rx q2 fun J F' H' st' w => p J F' H' (st.trans st') w
  | ex e => rw [q] at p; exact p
  | bad => rw [q] at p; exact p
theorem i_lst {e : Expr} {da : Fm → R PV} (h : PE X e (xV X W da)) : PI X tg e (xI X W (d1 lstIt da)) := PI.imp (pi_list h) fun σ H R h => by
  refine seqIV h fun F H x a l s ra e g => ?_
  cases a with
  | lst l' =>
    cases e
    simp only [Rep] at ra
    obtain ⟨a1, xs, rfl, q1, r1⟩ := ra
    exact ⟨a1, rfl, ⟨xs, SqL.of (s.same _ _ q1)⟩, g _ F H (Step.refl s) (walks_lst q1 r1)⟩
  | non => cases e
  | bl _ => cases e
  | int _ => cases e
  | str _ => cases e
  | tup _ => cases e
  | scr _ => cases e
  | dct _ _ => cases e
  | ins _ _ => cases e
theorem i_lstR {e : Expr} {da : Fm → R PV} (h : PE X e (xR X W da)) : PI X tg e (xIR X W (d1 lstIt da)) := PI.imp (pi_list h) fun σ H R h => by
  refine seqI h fun F H x a l s ra e g => ?_
  cases a with
  | lst l' =>
    cases e
    obtain ⟨a1, xs, rfl, q1, r1⟩ := ra.lst
    exact ⟨a1, rfl, ⟨xs, SqL.of q1⟩, g _ F H (Step.refl s) (walksR_lst q1 r1)⟩
  | non => cases e
  | bl _ => cases e
  | int _ => cases e
  | str _ => cases e
  | tup _ => cases e
  | scr _ => cases e
  | dct _ _ => cases e
  | ins _ _ => cases e
theorem i_tup {e : Expr} {da : Fm → R PV} (h : PE X e (xV X W da)) : PI X tg e (xI X W (d1 tupIt da)) := PI.imp (pi_tup h) fun σ H R h => by
  refine seqIV h fun F H x a l s ra e g => ?_
  cases a with
  | tup l' =>
    cases e
    simp only [Rep] at ra
    obtain ⟨a1, xs, rfl, q1, r1⟩ := ra
    exact ⟨a1, rfl, ⟨xs, sqT_mono s.same q1⟩, g _ F H (Step.refl s) (walks_tup q1 r1)⟩
  | non => cases e
  | bl _ => cases e
  | int _ => cases e
  | str _ => cases e
  | lst _ => cases e
  | scr _ => cases e
  | dct _ _ => cases e
  | ins _ _ => cases e
theorem i_str {e : Expr} {da : Fm → R PV} (h : PE X e (xV X W da)) : PI X tg e (xI X W (d1 strIt da)) := PI.imp (pi_str h) fun σ H R h => by
  refine seqIV h fun F H x a l s ra e g => ?_
  cases a with
  | str x' =>
    cases e
    simp only [Rep] at ra
    exact ⟨x', ra, g _ F H (Step.refl s) (walks_str x')⟩
  | non => cases e
  | bl _ => cases e
  | int _ => cases e
  | tup _ => cases e
  | lst _ => cases e
  | scr _ => cases e
  | dct _ _ => cases e
  | ins _ _ => cases e
def smI (j : Int) : Bool := Nat.ble j.natAbs 4611686018427387903
theorem smI_ok {j : Int} (h : smI j = true) : -(2 ^ 62) ≤ j ∧ j < 2 ^ 62 := by
  have := Nat.le_of_ble_eq_true h
  omega
theorem smI_of {j : Int} (h : j.natAbs ≤ 4611686018427387903) : smI j = true := Nat.ble_eq_true_of_le h
def rgIt1 : List PV → Option (List PV)
  | [.int j] => if smI j = true then some ((List.range j.toNat).map fun (k : Nat) => .int (0 + (k : Int))) else none
  | _ => none
theorem walks_rng {K : PySem.W.Frag} {F : Hp} (lo : Int) (n : Nat) : Walks K F (Itr lo n) ((List.range n).map fun (k : Nat) => .int (lo + (k : Int))) := by
  intro F' H' s1 s2
  refine ⟨fun i d e => ?_, ?_⟩
  · rw [List.getElem?_map] at e
    by_cases hi : i < n
    · rw [List.getElem?_range hi] at e
      cases e
      refine ⟨hi, fun y H2 ⟨e2, e3⟩ => ?_⟩
      subst e2 e3
      exact ⟨F', Step.refl s2, by simp only [Rep]⟩
    · rw [List.getElem?_eq_none (by rw [List.length_range]; omega)] at e
      cases e
  · show n ≤ _
    rw [List.length_map, List.length_range]
    exact Nat.le_refl _
theorem seqAI {K : PySem.W.Frag} {mg : Str → Option Value} {d : Fm → R (List PV)} {f : List PV → Option (List PV)} {σ : L2.St} {H : Hp} {Z : It → Hp → Prop} {r : List V → Hp → Prop}
    (h : tI K mg W (GI K) (dCall (fun ds => ofO (f ds)) d) σ H Z)
    (hr : ∀ F H xs ds l, Fz F H → RDL K F H ds xs → f ds = some l → GI K F H Z l → r xs H) : tAG K mg W (GRL K) d σ H r := by
  obtain ⟨F, env, ok, p⟩ := h
  refine ⟨F, env, ok, ?_⟩
  unfold dCall at p
  cases q : d env with
  | ok v =>
    rw [q] at p
    simp only [R.bind_ok] at p
    intro x F1 H1 st rx
    cases q2 : f v with
    | none => rw [q2] at p; exact p.elim
    | some l => rw [q2] at p; exact hr F1 H1 x v l st.s2 rx q2 fun J F' H' st' w => p J F' H' (st.trans st') w
  | ex e => rw [q] at p; exact p
  | bad => rw [q] at p; exact p
theorem i_rg1 {a : Expr} {d : Fm → R (List PV)} {p pos : Pos} (hm : X.mg "range" = none) (ha : PA X [a] (xRL X W d)) (hg : Gl X "range" := by rfl) (hs : starEach [a] X.env = [(false, eval a X.env)] := by rfl) :
    PI X tg (.Call (.Name "range" p) [a] [] pos) (xI X W (dCall (fun ds => ofO (rgIt1 ds)) d)) := PI.imp (pi_range1 hg hm ha hs) fun σ H Z h => by
  refine seqAI h fun F H xs ds l s r e g => ?_
  unfold rgIt1 at e
  split at e
  · split at e
    · rename_i c
      cases e
      obtain ⟨x, rfl, rx⟩ := r.one
      cases rx.int
      exact ⟨_, rfl, (smI_ok c).1, (smI_ok c).2, g _ F H (Step.refl s) (walks_rng 0 _)⟩
    · cases e
  · cases e
end
abbrev Tgt := PV → Fm → Option Fm
def tgN (i : Nat) : Tgt := fun d env => if i < env.length then some (env.set i (.pv d)) else none
structure Bs where
  Fb : Hp
  F0 : Hp
  H0 : Hp
  /-- what may be changed -/
  P : Addr → Prop := fun _ => False
  /-- the object in the first slot -/
  S : Option Addr := none
def isP : Nat → Slot → Bool
  | 0, .obj _ _ => true
  | _, .byr _ => true
  | _, _ => false
@[simp] theorem isP_pv (k : Nat) (d : PV) : isP k (.pv d) = false := by cases k <;> rfl
@[simp] theorem isP_un (k : Nat) : isP k .un = false := by cases k <;> rfl
@[simp] theorem isP_own (k : Nat) (l : List PV) : isP k (.own l) = false := by cases k <;> rfl
@[simp] theorem isP_dic (k : Nat) (l : List Key) (m : List PV) : isP k (.dic l m) = false := by cases k <;> rfl
@[simp] theorem isP_lck (k : Nat) (l : List Key) (m : List PV) : isP k (.lck l m) = false := by cases k <;> rfl
@[simp] theorem isP_byr (k : Nat) (l : List PV) : isP k (.byr l) = true := by cases k <;> rfl
@[simp] theorem isP_obj (k : Nat) (c : Str) (fs : List Slot) : isP (k + 1) (.obj c fs) = false := rfl
theorem isP_obj_eq (k : Nat) (c c' : Str) (fs fs' : List Slot) : isP k (.obj c fs) = isP k (.obj c' fs') := by cases k <;> rfl
structure FmStP (K : PySem.W.Frag) (B : Bs) (F H : Hp) (σ : L2.St) (env : Fm) (fp : Fp) : Prop where
  ok : FmOkP K F H σ env fp
  st : StepP B.P B.F0 B.H0 F H
  sb : Same B.Fb F
  fr : ∀ i b, b ∈ fp i → (B.P b ∧ B.F0 b = none) ∨ Fresh B.H0 b
  pin : ∀ a, B.S = some a → ∀ k s, env[k]? = some s → isP k s = true → σ[k]? = some (some (.ref a))
def FmSt (K : PySem.W.Frag) (B : Bs) (F H : Hp) (σ : L2.St) (env : Fm) : Prop := ∃ fp, FmStP K B F H σ env fp
theorem FmSt.ok {K : PySem.W.Frag} {B : Bs} {F H : Hp} {σ : L2.St} {env : Fm} (h : FmSt K B F H σ env) : FmOk K F H σ env := let ⟨f, p⟩ := h; ⟨f, p.ok⟩
theorem FmSt.st {K : PySem.W.Frag} {B : Bs} {F H : Hp} {σ : L2.St} {env : Fm} (h : FmSt K B F H σ env) : StepP B.P B.F0 B.H0 F H := let ⟨f, p⟩ := h; p.st
theorem FmSt.sb {K : PySem.W.Frag} {B : Bs} {F H : Hp} {σ : L2.St} {env : Fm} (h : FmSt K B F H σ env) : Same B.Fb F := let ⟨f, p⟩ := h; p.sb
def fpSet (fp : Fp) (i : Nat) (l : List Addr) : Fp := fun j => if j = i then l else fp j
theorem fpSet_same {fp : Fp} {i : Nat} {l : List Addr} : fpSet fp i l i = l := if_pos rfl
theorem fpSet_ne {fp : Fp} {i j : Nat} {l : List Addr} (h : i ≠ j) : fpSet fp i l j = fp j := if_neg fun z => h z.symm
theorem FmOkP.set {K : PySem.W.Frag} {F H : Hp} {σ : L2.St} {env : Fm} {fp : Fp} {i : Nat} {s : Slot} {v : Option V} {l : List Addr} (h : FmOkP K F H σ env fp) (hi : i < env.length) (hs : SlotOk K F H s (some v) l) (nd : l.Nodup) (dj : ∀ j b, j ≠ i → b ∈ l → b ∉ fp j) :
    FmOkP K F H (σ.set i v) (env.set i s) (fpSet fp i l) := by
  have hs2 : i < σ.length := by rw [← h.len]; exact hi
  refine ⟨h.s0, by rw [List.length_set, List.length_set]; exact h.len, fun j t e => ?_, fun j hj => ?_, fun j => ?_, fun j k b hj hk => ?_⟩
  · by_cases c : i = j
    · subst c
      rw [List.getElem?_set_self hi] at e
      cases e
      rw [List.getElem?_set_self hs2, fpSet_same]
      exact hs
    · rw [List.getElem?_set_ne c] at e ⊢
      rw [fpSet_ne c]
      exact h.at' j t e
  · rw [List.length_set] at hj
    rw [fpSet_ne (by omega)]
    exact h.out j hj
  · by_cases c : i = j
    · subst c; rw [fpSet_same]; exact nd
    · rw [fpSet_ne c]; exact h.nd j
  · by_cases c : i = j
    · by_cases d : i = k
      · exact c.symm.trans d
      · subst c
        rw [fpSet_same] at hj
        rw [fpSet_ne d] at hk
        exact absurd hk (dj k b (fun z => d z.symm) hj)
    · by_cases d : i = k
      · subst d
        rw [fpSet_same] at hk
        rw [fpSet_ne c] at hj
        exact absurd hj (dj j b (fun z => c z.symm) hk)
      · rw [fpSet_ne c] at hj
        rw [fpSet_ne d] at hk
        exact h.dj j k b hj hk
theorem slot_pv {K : PySem.W.Frag} {F H : Hp} {d : PV} {x : V} (r : Rep K F d x) : SlotOk K F H (.pv d) (some (some x)) [] := by
  rw [SlotOk]
  exact ⟨rfl, x, rfl, r⟩
theorem FmOkP.setPv {K : PySem.W.Frag} {F H : Hp} {σ : L2.St} {env : Fm} {fp : Fp} {i : Nat} {d : PV} {x : V} (h : FmOkP K F H σ env fp) (hi : i < env.length) (r : Rep K F d x) : FmOkP K F H (σ.set i (some x)) (env.set i (.pv d)) (fpSet fp i []) :=
  h.set hi (slot_pv r) List.nodup_nil fun _ _ _ z => by cases z
def clr (env : Fm) : List Nat → Fm
  | [] => env
  | i :: r => (clr env r).set i .un
theorem clr_len (env : Fm) : ∀ l : List Nat, (clr env l).length = env.length
  | [] => rfl
  | i :: r => by unfold clr; rw [List.length_set, clr_len env r]
theorem clr_at (env : Fm) : ∀ (l : List Nat) (j : Nat) (s : Slot), (clr env l)[j]? = some s → (s = .un ∧ j ∈ l) ∨ (env[j]? = some s ∧ j ∉ l)
  | [], j, s, e => .inr ⟨e, by simp⟩
  | i :: r, j, s, e => by
    unfold clr at e
    by_cases c : i = j
    · subst c
      by_cases hi : i < (clr env r).length
      · rw [List.getElem?_set_self hi] at e; cases e; exact .inl ⟨rfl, List.mem_cons_self⟩
      · rw [List.getElem?_eq_none (by rw [List.length_set]; omega)] at e; cases e
    · rw [List.getElem?_set_ne c] at e
      rcases clr_at env r j s e with ⟨h, h'⟩ | ⟨h1, h2⟩
      · exact .inl ⟨h, List.mem_cons_of_mem _ h'⟩
      · exact .inr ⟨h1, fun z => by rcases List.mem_cons.mp z with z | z; exact c z.symm; exact h2 z⟩
def fpClr (fp : Fp) (l : List Nat) : Fp := fun j => if j ∈ l then [] else fp j
theorem fpClr_in {fp : Fp} {l : List Nat} {j : Nat} (h : j ∈ l) : fpClr fp l j = [] := if_pos h
theorem fpClr_out {fp : Fp} {l : List Nat} {j : Nat} (h : j ∉ l) : fpClr fp l j = fp j := if_neg h
theorem fpClr_sub {fp : Fp} {l : List Nat} {j : Nat} {b : Addr} (h : b ∈ fpClr fp l j) : b ∈ fp j := by
  unfold fpClr at h
  split at h
  · cases h
  · exact h
theorem wipe_ne {σ : L2.St} {j : Nat} : ∀ {l : List Nat}, j ∉ l → (wipe σ l)[j]? = σ[j]?
  | [], _ => rfl
  | i :: r, h => by
    unfold wipe
    rw [List.getElem?_set_ne (fun e => h (by rw [e]; exact List.mem_cons_self))]
    exact wipe_ne fun z => h (List.mem_cons_of_mem _ z)
theorem FmOkP.clr2 {K : PySem.W.Frag} {F H : Hp} {σ σ' : L2.St} {env : Fm} {fp : Fp} (h : FmOkP K F H σ env fp) (l : List Nat) (hl : σ'.length = σ.length) (he : ∀ j, j ∉ l → σ'[j]? = σ[j]?) : FmOkP K F H σ' (clr env l) (fpClr fp l) := by
  refine ⟨h.s0, by rw [clr_len, hl]; exact h.len, fun j s e => ?_, fun j hj => ?_, fun j => ?_, fun j k b hj hk => ?_⟩
  · rcases clr_at env l j s e with ⟨z, z'⟩ | ⟨z, n⟩
    · subst z; rw [fpClr_in z']; simp only [SlotOk]
    · rw [fpClr_out n, he j n]; exact h.at' j s z
  · unfold fpClr
    split
    · rfl
    · exact h.out j (by rw [clr_len] at hj; exact hj)
  · unfold fpClr
    split
    · exact List.nodup_nil
    · exact h.nd j
  · exact h.dj j k b (fpClr_sub hj) (fpClr_sub hk)
theorem FmOkP.clr {K : PySem.W.Frag} {F H : Hp} {σ : L2.St} {env : Fm} {fp : Fp} (h : FmOkP K F H σ env fp) (l : List Nat) : FmOkP K F H σ (clr env l) (fpClr fp l) := h.clr2 l rfl fun _ _ => rfl
theorem FmOkP.wipe {K : PySem.W.Frag} {F H : Hp} {σ : L2.St} {env : Fm} {fp : Fp} (h : FmOkP K F H σ env fp) (l : List Nat) : FmOkP K F H (wipe σ l) (Pv.clr env l) (fpClr fp l) := h.clr2 l (wipe_length ..) fun j n => wipe_ne n
def TgS (K : PySem.W.Frag) (g : TG) (t : Tgt) (js : List Nat) : Prop := ∀ F H σ env fp x d env' (Q : L2.St → Hp → Prop), FmOkP K F H σ env fp → Rep K F d x → t d env = some env' →
  (∀ σ', FmOkP K F H σ' env' (fpClr fp js) → (∀ j, j ∉ js → σ'[j]? = σ[j]?) → (∀ j, j ∉ js → env'[j]? = env[j]?) → (∀ j s, j ∈ js → env'[j]? = some s → ∃ d, s = .pv d) → σ'.length = σ.length → Q σ' H) → g x σ H Q
theorem fpSet_clr {fp : Fp} {i : Nat} : fpSet fp i [] = fpClr fp [i] := by
  funext j
  unfold fpSet fpClr
  by_cases c : j = i
  · rw [if_pos c, if_pos (by rw [c]; exact List.mem_cons_self)]
  · rw [if_neg c, if_neg (by simpa using c)]
theorem tg_name {K : PySem.W.Frag} (i : Nat) : TgS K (gName i) (tgN i) [i] := by
  intro F H σ env fp x d env' Q ok r e q
  unfold tgN at e
  split at e
  · rename_i hi
    cases e
    refine q _ (fpSet_clr ▸ ok.setPv hi r) (fun j hj => ?_) (fun j hj => ?_) (fun j s hj es => ?_) (List.length_set ..)
    · rw [List.getElem?_set_ne (fun z => hj (by rw [z]; exact List.mem_cons_self))]
    · rw [List.getElem?_set_ne (fun z => hj (by rw [z]; exact List.mem_cons_self))]
    · rw [List.mem_singleton] at hj
      subst hj
      rw [List.getElem?_set_self hi] at es
      cases es
      exact ⟨d, rfl⟩
  · cases e
end Pv
set_option Elab.async false
set_option linter.all false
set_option maxRecDepth 100000
set_option maxHeartbeats 2000000
namespace Pv
open PySem PySem.Spec PyProof.Rows L2
variable [TabCx]
theorem tabs_own {H : Hp} {a : Addr} {o0 o : HO} (t : LamX.Tabs TabCx.T H) (h : H a = some o0) (k : ownK o0 = true) : LamX.Tabs TabCx.T (upd H a o) := fun p hp => by
  obtain ⟨ps, h1, h2, h3⟩ := t p hp
  have n : ∀ b u, H b = some u → ownK u = false → b ≠ a := fun b u e z y => by
    rw [y, h] at e
    cases e
    rw [k] at z
    cases z
  refine ⟨ps, by rw [upd_ne (n _ _ h1 rfl)]; exact h1, h2, fun pos cv hc => ?_⟩
  obtain ⟨c, e1, e2⟩ := h3 pos cv hc
  exact ⟨c, e1, by rw [upd_ne (n _ _ e2 (by unfold LamX.CodeO; rfl))]; exact e2⟩
theorem Step.mut {F H F' H' : Hp} (st : Step F H F' H') {p : Addr} {o : HO} {xs : List V} (hl : H' p = some (.lst xs)) (hp : Fresh H p) (hn : F' p = none) : Step F H F' (upd H' p o) :=
  ⟨st.s0, st.s1, ⟨fun a u e => by
    have q : a ≠ p := ne_of_none e hn
    rw [upd_ne q]; exact st.s2.up e, tabs_lst st.s2.tabs hl, st.s2.noT⟩,
   fun a u h n t => by
    have q : a ≠ p := hp.ne h t
    rw [upd_ne q]; exact st.keep a u h n t⟩
theorem StepP.mut {P : Addr → Prop} {F H F' H' : Hp} (st : StepP P F H F' H') {p : Addr} {o o0 : HO} (hl : H' p = some o0) (k : ownK o0 = true) (hp : (P p ∧ F p = none) ∨ Fresh H p) (hn : F' p = none) : StepP P F H F' (upd H' p o) :=
  ⟨st.s0, st.s1, ⟨fun a u e => by
    have q : a ≠ p := ne_of_none e hn
    rw [upd_ne q]; exact st.s2.up e, tabs_own st.s2.tabs hl k, st.s2.noT⟩,
   fun a u h n t z => by
    have q : a ≠ p := fun y => by
      subst y
      rcases hp with hp | hp
      · exact z hp.1
      · exact hp u h t
    rw [upd_ne q]; exact st.keep a u h n t z⟩
theorem StepP.frOf {P : Addr → Prop} {F H F' H' : Hp} (st : StepP P F H F' H') {a : Addr} (h : Fresh H' a) : (P a ∧ F a = none) ∨ Fresh H a := by
  rcases st.back h with z | z
  · refine .inl ⟨z, ?_⟩
    cases q : F a with
    | none => rfl
    | some o => exact absurd (st.s2.noT a o (st.s1 a o q)) (h o (st.s2.up (st.s1 a o q)))
  · exact .inr z
theorem nodup1 (a : Addr) : [a].Nodup := List.nodup_cons.mpr ⟨by simp, List.nodup_nil⟩
theorem noTab_lst {xs : List V} : NoTab (.lst xs) := fun _ z => by cases z
theorem wipe_in {σ : L2.St} {j : Nat} : ∀ {l : List Nat}, j ∈ l → j < σ.length → (wipe σ l)[j]? = some none
  | [], h, _ => by cases h
  | i :: r, h, hj => by
    unfold wipe
    by_cases c : i = j
    · subst c
      rw [List.getElem?_set_self (by rw [wipe_length]; exact hj)]
    · rw [List.getElem?_set_ne c]
      rcases List.mem_cons.mp h with z | z
      · exact absurd z.symm c
      · exact wipe_in z hj
theorem wipe_eq {σ σ' : L2.St} {vs js : List Nat} (hl : σ'.length = (wipe σ vs).length) (hj : ∀ j ∈ js, j ∈ vs) (h : ∀ j, j ∉ js → σ'[j]? = (wipe σ vs)[j]?) : wipe σ' vs = wipe σ vs := by
  apply List.ext_getElem?
  intro j
  have hl2 : σ'.length = σ.length := by rw [hl, wipe_length]
  by_cases c : j ∈ vs
  · by_cases d : j < σ.length
    · rw [wipe_in c (by rw [hl2]; exact d), wipe_in c d]
    · rw [List.getElem?_eq_none (by rw [wipe_length]; omega), List.getElem?_eq_none (by rw [wipe_length]; omega)]
  · rw [wipe_ne c, h j (fun z => c (hj j z))]
def WF : WX := fun _ _ _ _ => False
def noX {α : Type} : R α → R α
  | .ex _ => .bad
  | r => r
def lcGo (t : Tgt) (tt : Fm → R Bool) (te : Fm → R PV) (env : Fm) : List PV → R (List PV)
  | [] => .ok []
  | d :: ds => match t d env with
    | none => .bad
    | some e1 => (tt e1).bind fun b => match b with
      | true => (te e1).bind fun v => (lcGo t tt te env ds).bind fun r => .ok (v :: r)
      | false => lcGo t tt te env ds
def dLc (vs : List Nat) (t : Tgt) (tt : Fm → R Bool) (te : Fm → R PV) (src : Fm → R (List PV)) : Fm → R (List PV) := fun env => (src env).bind fun ds =>
  if ds.length ≤ sizeLine then noX (lcGo t tt te (clr env vs) ds) else .bad
def dYes : Fm → R Bool := fun _ => .ok true
section
variable {X : Cx} {W : WX}
theorem lc_go {vs js : List Nat} {g : TG} {t : Tgt} {tt : Fm → R Bool} {te : Fm → R PV} {src : Fm → R (List PV)} {σ : L2.St} {H : Hp} {Q : VK} (tS : TgS X.K g t js) (hjs : ∀ j ∈ js, j ∈ vs)
    (h : xF X W (dLc vs t tt te src) σ H Q) : tLc (xIR X W src) g (tT X.K X.mg WF tt) (tV X.K X.mg WF te) vs σ H Q := by
  obtain ⟨F, env, ⟨fpx, fo⟩, p⟩ := h
  refine ⟨F, env, ⟨fpx, fo⟩, ?_⟩
  unfold dLc at p
  cases q : src env with
  | ex e => rw [q] at p; exact p
  | bad => rw [q] at p; exact p
  | ok ds =>
    rw [q] at p
    simp only [R.bind_ok] at p
    intro J F1 H1 st1 wk D hD
    by_cases hz : ds.length ≤ sizeLine
    · rw [if_pos hz] at p
      cases q1 : lcGo t tt te (clr env vs) ds with
      | bad => rw [q1] at p; exact p.elim
      | ex e => rw [q1] at p; exact p.elim
      | ok l =>
        rw [q1] at p
        have p' : GF X.K F H Q l := p
        refine ⟨fun i m H' => m = ds.length - i ∧ i ≤ ds.length ∧ ∃ F' acc ys rest, Step F1 H1 F' H' ∧ F' D = none ∧ H' D = some (.lst ys) ∧ RepL X.K F' acc ys ∧ acc.length ≤ i ∧ lcGo t tt te (clr env vs) (ds.drop i) = .ok rest ∧ l = acc ++ rest,
          ⟨ds.length, by simp, Nat.zero_le _, F1, [], [], l, Step.new st1.s2 hD, st1.s2.free hD, upd_same, .nil, Nat.le_refl _, q1, rfl⟩, ?_⟩
        rintro i m H' ⟨rfl, hi, F', acc, ys, rest, st, fD, eD, r, hacc, hgo, hl⟩
        obtain ⟨w1, w2⟩ := wk F' H' st
        by_cases hlt : i < ds.length
        · obtain ⟨d, hd⟩ : ∃ d, ds[i]? = some d := ⟨_, List.getElem?_eq_getElem hlt⟩
          obtain ⟨go, yl⟩ := w1 i d hd
          have hdrop : ds.drop i = d :: ds.drop (i + 1) := by
            rw [List.drop_eq_getElem_cons hlt]
            rw [List.getElem?_eq_getElem hlt] at hd
            cases hd
            rfl
          rw [hdrop, lcGo] at hgo
          refine .inr ⟨go, fun H'' => ∃ F' acc ys rest, Step F1 H1 F' H'' ∧ F' D = none ∧ H'' D = some (.lst ys) ∧ RepL X.K F' acc ys ∧ acc.length ≤ i + 1 ∧ lcGo t tt te (clr env vs) (ds.drop (i + 1)) = .ok rest ∧ l = acc ++ rest,
            fun H'' hN => ⟨ds.length - (i + 1), by omega, rfl, hlt, hN⟩, fun x H2 hy => ?_⟩
          obtain ⟨F2, st2, rx⟩ := yl x H2 hy
          cases qt : t d (clr env vs) with
          | none => rw [qt] at hgo; cases hgo
          | some e1 =>
            rw [qt] at hgo
            simp only at hgo
            have fw := ((fo.step st1).step (st.trans st2)).wipe vs
            refine tS F2 H2 (wipe σ vs) (clr env vs) _ x d e1 _ fw rx qt fun σ2 ok2 h1 h2 h3 h4 => ⟨wipe_eq h4 hjs h1, F2, e1, ⟨_, ok2⟩, ?_⟩
            obtain ⟨eD2, fD2⟩ := st2.keep D _ eD fD noTab_lst
            cases qb : tt e1 with
            | bad => rw [qb] at hgo; cases hgo
            | ex e => rw [qb] at hgo; cases hgo
            | ok b =>
              rw [qb] at hgo
              simp only [R.bind_ok] at hgo
              intro F3 H3 st3
              obtain ⟨eD3, fD3⟩ := st3.keep D _ eD2 fD2 noTab_lst
              cases b with
              | false =>
                rw [if_neg Bool.false_ne_true]
                exact ⟨F3, acc, ys, rest, (st.trans st2).trans st3, fD3, eD3, r.mono (st2.s1.trans st3.s1), by omega, hgo, hl⟩
              | true =>
                rw [if_pos rfl]
                refine ⟨F3, e1, ⟨_, ok2.step st3⟩, ?_⟩
                cases qv : te e1 with
                | bad => rw [qv] at hgo; cases hgo
                | ex e => rw [qv] at hgo; cases hgo
                | ok v =>
                  rw [qv] at hgo
                  simp only [R.bind_ok] at hgo
                  cases qr : lcGo t tt te (clr env vs) (ds.drop (i + 1)) with
                  | bad => rw [qr] at hgo; cases hgo
                  | ex e => rw [qr] at hgo; cases hgo
                  | ok rest' =>
                    rw [qr] at hgo
                    cases hgo
                    intro y F4 H4 st4 ry
                    obtain ⟨eD4, fD4⟩ := st4.keep D _ eD3 fD3 noTab_lst
                    refine ⟨ys, eD4, by rw [r.len]; omega, F4, acc ++ [v], ys ++ [y], rest', (((st.trans st2).trans st3).trans st4).mut eD4 (.of hD) fD4, fD4, upd_same, (r.mono ((st2.s1.trans st3.s1).trans st4.s1)).app (.one ry), ?_, rfl, ?_⟩
                    · rw [List.length_append, List.length_singleton]; omega
                    · rw [hl, List.append_assoc]; rfl
        · have e : i = ds.length := by omega
          subst e
          refine .inl ⟨w2, ?_⟩
          rw [List.drop_length, lcGo] at hgo
          cases hgo
          rw [List.append_nil] at hl
          subst hl
          exact p' D ys F' H' (st1.trans st) (st1.back (.of hD)) fD eD r
    · rw [if_neg hz] at p; exact p.elim
theorem tests_nil : PTs X [] (xT X W dYes) := ⟨fun pins s σ H Q I ⟨F, env, ok, p⟩ => pts_nil.run pins s σ H Q I (p F H (Step.refl ok.s0))⟩
theorem tests_one {c : Expr} {d : Fm → R Bool} (h : PT X c (xT X W d)) : PTs X [c] (xT X W d) := pts_one h
theorem f_lc {elt tg iter : Expr} {ifs : List Expr} {scope : Scope} {pos : Pos} {g : TG} {t : Tgt} {js vs : List Nat} {tt : Fm → R Bool} {te : Fm → R PV} {src : Fm → R (List PV)} (own : List (Str × Nat)) (hvs : own.map (·.2) = vs) (hc : X.calm = true) (hN : X.N.Nodup) (hi : PI X tg iter (xIR X W src)) (ok : BlkOk X.N X.env.scope scope own)
    (hg : ∀ (s : Shared) (H : Hp) (C : Addr) (cl : List (Str × Addr)) (fp : List Addr), PG (X.blk s H scope (compEnvC scope cl C X.env) fp) tg g) (tS : TgS X.K g t js) (hjs : ∀ j ∈ js, j ∈ vs)
    (ht : ∀ (s : Shared) (H : Hp) (C : Addr) (cl : List (Str × Addr)) (fp : List Addr), PTs (X.blk s H scope (compEnvC scope cl C X.env) fp) ifs (xT (X.blk s H scope (compEnvC scope cl C X.env) fp) WF tt))
    (he : ∀ (s : Shared) (H : Hp) (C : Addr) (cl : List (Str × Addr)) (fp : List Addr), PE (X.blk s H scope (compEnvC scope cl C X.env) fp) elt (xV (X.blk s H scope (compEnvC scope cl C X.env) fp) WF te)) (hs : ∀ x, foldedSetIterable iter X.env x = pure x := by intro _; rfl) :
    PE X (.ListComp elt [⟨tg, iter, ifs, 0⟩] scope pos) (xF X W (dLc vs t tt te src)) := by
  subst hvs
  exact PE.imp (pe_lc hc hN hi ok hg ht he hs) fun σ H Q h => lc_go tS hjs h
inductive RS where
  | nx (env : Fm)
  | rt (v : PV)
  | rm (v : PV) (env : Fm)
  | rf (l : List PV)
  | bk (env : Fm)
  | ct (env : Fm)
  | ex (e : Ex) (env : Fm)
  | bad
def SPs (K : PySem.W.Frag) (mg : Str → Option Value) (W : WX) (B : Bs) (D : Ends) : RS → Prop
  | .nx e' => ∀ σ' F' H', FmSt K B F' H' σ' e' → D.nx σ' H'
  | .rt v => ∀ x F' H', StepP B.P B.F0 B.H0 F' H' → Rep K F' v x → D.rt x H'
  | .rm v e' => ∀ x σ' F' H', FmSt K B F' H' σ' e' → Rep K F' v x → D.rt x H'
  | .rf l => ∀ a xs F' H', StepP B.P B.F0 B.H0 F' H' → ((B.P a ∧ B.F0 a = none) ∨ Fresh B.H0 a) → F' a = none → H' a = some (.lst xs) → RepL K F' l xs → D.rt (.ref a) H'
  | .bk e' => ∀ σ' F' H', FmSt K B F' H' σ' e' → D.bk σ' H'
  | .ct e' => ∀ σ' F' H', FmSt K B F' H' σ' e' → D.ct σ' H'
  | .ex e e' => ∀ c dd σ' F' H', FmSt K B F' H' σ' e' → RepX K mg F' e c dd → W c dd σ' H'
  | .bad => False
def tS (K : PySem.W.Frag) (mg : Str → Option Value) (W : WX) (d : Fm → RS) : TS := fun D σ H => ∃ B F env, FmSt K B F H σ env ∧ SPs K mg W B D (d env)
abbrev xS (X : Cx) (W : WX) (d : Fm → RS) : TS := tS X.K X.mg W d
def dSeq (a b : Fm → RS) : Fm → RS := fun env => match a env with
  | .nx e => b e
  | r => r
def dSkip : Fm → RS := fun env => .nx env
def dSet (i : Nat) (d : Fm → R PV) : Fm → RS := fun env => match d env with
  | .ok v => if i < env.length then .nx (env.set i (.pv v)) else .bad
  | .ex e => .ex e env
  | .bad => .bad
def dSetF (i : Nat) (d : Fm → R (List PV)) : Fm → RS := fun env => match d env with
  | .ok v => if i < env.length then .nx (env.set i (.own v)) else .bad
  | .ex e => .ex e env
  | .bad => .bad
def dRet (d : Fm → R PV) : Fm → RS := fun env => match d env with
  | .ok v => .rt v
  | .ex e => .ex e env
  | .bad => .bad
def dRetF (d : Fm → R (List PV)) : Fm → RS := fun env => match d env with
  | .ok v => .rf v
  | .ex e => .ex e env
  | .bad => .bad
def dRetO (i : Nat) : Fm → RS := fun env => match env[i]? with
  | some (.own l) => .rf l
  | _ => .bad
def dIfS (c : Fm → R Bool) (a b : Fm → RS) : Fm → RS := fun env => match c env with
  | .ok true => a env
  | .ok false => b env
  | .ex e => .ex e env
  | .bad => .bad
def dExpr (d : Fm → R PV) : Fm → RS := fun env => match d env with
  | .ok _ => .nx env
  | .ex e => .ex e env
  | .bad => .bad
def dApp (i : Nat) (d : Fm → R PV) : Fm → RS := fun env => match env[i]? with
  | some (.own l) => (match d env with
    | .ok v => if l.length < sizeLine then .nx (env.set i (.own (l ++ [v]))) else .bad
    | .ex e => .ex e env
    | .bad => .bad)
  | _ => .bad
def dExt (i : Nat) (d : Fm → R PV) : Fm → RS := fun env => match env[i]? with
  | some (.own l) => (match d env with
    | .ok (.lst m) => if l.length + m.length ≤ sizeLine then .nx (env.set i (.own (l ++ m))) else .bad
    | .ok _ => .bad
    | .ex e => .ex e env
    | .bad => .bad)
  | _ => .bad
def frzS (i : Nat) (env : Fm) : Fm := match env[i]? with
  | some (.own l) => env.set i (.pv (.lst l))
  | some (.dic ks vs) => env.set i (.pv (.dct ks vs))
  | _ => env
def dFrz (i : Nat) (d : Fm → RS) : Fm → RS := fun env => d (frzS i env)
def forGo (t : Tgt) (body : Fm → RS) (wp : List Nat) : List PV → Fm → RS
  | [], env => .nx env
  | d :: ds, env => match t d env with
    | none => .bad
    | some e1 => match body e1 with
      | .nx e2 => forGo t body wp ds (clr e2 wp)
      | .ct e2 => forGo t body wp ds (clr e2 wp)
      | .bk e2 => .nx (clr e2 wp)
      | .rt v => .rt v
      | .rm v e' => .rm v e'
      | .rf l => .rf l
      | .ex e e' => .ex e e'
      | .bad => .bad
def dFor (src : Fm → R (List PV)) (t : Tgt) (body : Fm → RS) (wp : List Nat) : Fm → RS := fun env => match src env with
  | .ok ds => forGo t body wp ds (clr env wp)
  | .ex e => .ex e env
  | .bad => .bad
def whGo (c : Fm → R Bool) (body : Fm → RS) (wp : List Nat) : Nat → Fm → RS
  | 0, _ => .bad
  | n + 1, env => match c env with
    | .ok true => (match body env with
      | .nx e2 => whGo c body wp n (clr e2 wp)
      | .ct e2 => whGo c body wp n (clr e2 wp)
      | .bk e2 => .nx (clr e2 wp)
      | .rt v => .rt v
      | .rm v e' => .rm v e'
      | .rf l => .rf l
      | .ex e e' => .ex e e'
      | .bad => .bad)
    | .ok false => .nx env
    | .ex e => .ex e env
    | .bad => .bad
def dWhile (m : Fm → Nat) (c : Fm → R Bool) (body : Fm → RS) (wp : List Nat) : Fm → RS := fun env => whGo c body wp (m env) (clr env wp)
variable {B : Bs}
theorem FmStP.step {K : PySem.W.Frag} {F H F' H' : Hp} {σ : L2.St} {env : Fm} {fp : Fp} (h : FmStP K B F H σ env fp) (st : Step F H F' H') : FmStP K B F' H' σ env fp := ⟨h.ok.step st, h.st.step st, h.sb.trans st.s1, h.fr, h.pin⟩
theorem FmSt.step {K : PySem.W.Frag} {F H F' H' : Hp} {σ : L2.St} {env : Fm} (h : FmSt K B F H σ env) (st : Step F H F' H') : FmSt K B F' H' σ env := let ⟨f, p⟩ := h; ⟨f, p.step st⟩
theorem FmSt.clr {K : PySem.W.Frag} {F H : Hp} {σ : L2.St} {env : Fm} (h : FmSt K B F H σ env) (l : List Nat) : FmSt K B F H σ (Pv.clr env l) := by
  obtain ⟨f, p⟩ := h
  refine ⟨fpClr f l, p.ok.clr l, p.st, p.sb, fun i b hb => p.fr i b (fpClr_sub hb), fun a ha k s e y => ?_⟩
  rcases clr_at env l k _ e with ⟨z, _⟩ | ⟨z, _⟩
  · subst z; rw [isP_un] at y; cases y
  · exact p.pin a ha k s z y
theorem FmStP.setPv {K : PySem.W.Frag} {F H : Hp} {σ : L2.St} {env : Fm} {fp : Fp} {i : Nat} {d : PV} {x : V} (h : FmStP K B F H σ env fp) (hi : i < env.length) (r : Rep K F d x) : FmStP K B F H (σ.set i (some x)) (env.set i (.pv d)) (fpSet fp i []) := by
  refine ⟨h.ok.setPv hi r, h.st, h.sb, fun j b hb => ?_, fun a ha k s e y => ?_⟩
  · by_cases z : i = j
    · subst z; rw [fpSet_same] at hb; cases hb
    · rw [fpSet_ne z] at hb; exact h.fr j b hb
  · by_cases z : i = k
    · subst z; rw [List.getElem?_set_self hi] at e; cases e; rw [isP_pv] at y; cases y
    · rw [List.getElem?_set_ne z] at e ⊢; exact h.pin a ha k s e y
theorem FmSt.setPv {K : PySem.W.Frag} {F H : Hp} {σ : L2.St} {env : Fm} {i : Nat} {d : PV} {x : V} (h : FmSt K B F H σ env) (hi : i < env.length) (r : Rep K F d x) : FmSt K B F H (σ.set i (some x)) (env.set i (.pv d)) :=
  let ⟨f, p⟩ := h; ⟨_, p.setPv hi r⟩
theorem FmStP.setNew {K : PySem.W.Frag} {F H : Hp} {σ : L2.St} {env : Fm} {fp : Fp} {i : Nat} {s : Slot} {x : V} {l : List Addr} (h : FmStP K B F H σ env fp) (hi : i < env.length) (hs : SlotOk K F H s (some (some x)) l) (nd : l.Nodup) (dj : ∀ j b, b ∈ l → b ∉ fp j) (fr : ∀ b ∈ l, (B.P b ∧ B.F0 b = none) ∨ Fresh B.H0 b)
    (h0 : isP i s = false) : FmStP K B F H (σ.set i (some x)) (env.set i s) (fpSet fp i l) := by
  refine ⟨h.ok.set hi hs nd fun j b _ hb => dj j b hb, h.st, h.sb, fun j b hb => ?_, fun a ha k s e y => ?_⟩
  · by_cases z : i = j
    · subst z; rw [fpSet_same] at hb; exact fr b hb
    · rw [fpSet_ne z] at hb; exact h.fr j b hb
  · by_cases z : i = k
    · subst z; rw [List.getElem?_set_self hi] at e; cases e; rw [h0] at y; cases y
    · rw [List.getElem?_set_ne z] at e ⊢; exact h.pin a ha k s e y
theorem FmOkP.fresh {K : PySem.W.Frag} {F H : Hp} {σ : L2.St} {env : Fm} {fp : Fp} (h : FmOkP K F H σ env fp) {j : Nat} {a : Addr} (hn : Fresh H a) : a ∉ fp j := fun z => by
  by_cases c : j < env.length
  · obtain ⟨_, o, e, k⟩ := SlotOk.held _ _ _ (h.at' j _ (List.getElem?_eq_getElem c)) a z
    exact hn o e (ownK_noTab k)
  · rw [h.out j (by omega)] at z; cases z
theorem slot_own {K : PySem.W.Frag} {F H : Hp} {l : List PV} {xs : List V} {a : Addr} (ha : H a = some (.lst xs)) (hf : F a = none) (r : RepL K F l xs) : SlotOk K F H (.own l) (some (some (.ref a))) [a] := by
  rw [SlotOk]
  exact ⟨a, xs, rfl, ha, hf, r, rfl⟩
theorem FmSt.setOwn {K : PySem.W.Frag} {F H F' H' : Hp} {σ : L2.St} {env : Fm} {i : Nat} {l : List PV} {xs : List V} {a : Addr} (h : FmSt K B F H σ env) (st : Step F H F' H') (hi : i < env.length) (hn : Fresh H a) (ha : H' a = some (.lst xs)) (hf : F' a = none) (r : RepL K F' l xs) :
    FmSt K B F' H' (σ.set i (some (.ref a))) (env.set i (.own l)) := by
  obtain ⟨f, p⟩ := h
  refine ⟨_, (p.step st).setNew hi (slot_own ha hf r) (nodup1 a) (fun j b hb => ?_) (fun b hb => ?_) (isP_own _ _)⟩
  · rw [List.mem_singleton] at hb; subst hb; exact p.ok.fresh hn
  · rw [List.mem_singleton] at hb; subst hb; exact p.st.frOf hn
theorem FmStP.mut {K : PySem.W.Frag} {F H : Hp} {σ : L2.St} {env : Fm} {fp : Fp} {i : Nat} {s s' : Slot} {a : Addr} {o' : HO} {l : List Addr} (h : FmStP K B F H σ env fp) (hi : env[i]? = some s) (ha : a ∈ fp i) (hs : SlotOk K F (upd H a o') s' σ[i]? l) (nd : l.Nodup)
    (hl : ∀ b ∈ l, b ∈ fp i ∨ ((∀ j, b ∉ fp j) ∧ ((B.P b ∧ B.F0 b = none) ∨ Fresh B.H0 b))) (hp : isP i s' = true → isP i s = true) : FmStP K B F (upd H a o') σ (env.set i s') (fpSet fp i l) := by
  have hil : i < env.length := (List.getElem?_eq_some_iff.mp hi).1
  obtain ⟨fa, o, ea, ka⟩ := SlotOk.held _ _ _ (h.ok.at' i s hi) a ha
  have st := h.st.mut (o := o') ea ka (h.fr i a ha) fa
  refine ⟨⟨st.s2, by rw [List.length_set]; exact h.ok.len, fun j t e => ?_, fun j hj => ?_, fun j => ?_, fun j k b hj hk => ?_⟩, st, h.sb, fun j b hb => ?_, fun x hx k s e y => ?_⟩
  · by_cases c : i = j
    · subst c
      rw [List.getElem?_set_self hil] at e
      cases e
      rw [fpSet_same]
      exact hs
    · rw [List.getElem?_set_ne c] at e
      rw [fpSet_ne c]
      refine SlotOk.keep (Same.refl _) _ _ _ (h.ok.at' j t e) fun b hb u eb => ?_
      have nb : b ≠ a := fun z => by subst z; exact c (h.ok.dj i j b ha hb)
      exact ⟨by rw [upd_ne nb]; exact eb, (SlotOk.held _ _ _ (h.ok.at' j t e) b hb).1⟩
  · rw [List.length_set] at hj
    rw [fpSet_ne (by omega)]
    exact h.ok.out j hj
  · by_cases c : i = j
    · subst c; rw [fpSet_same]; exact nd
    · rw [fpSet_ne c]; exact h.ok.nd j
  · have one : ∀ j, i ≠ j → b ∈ l → b ∉ fp j := fun j c hb z => by
      rcases hl b hb with y | y
      · exact c (h.ok.dj i j b y z)
      · exact y.1 j z
    by_cases c : i = j
    · by_cases d : i = k
      · exact c.symm.trans d
      · subst c
        rw [fpSet_same] at hj
        rw [fpSet_ne d] at hk
        exact absurd hk (one k d hj)
    · by_cases d : i = k
      · subst d
        rw [fpSet_same] at hk
        rw [fpSet_ne c] at hj
        exact absurd hj (one j c hk)
      · rw [fpSet_ne c] at hj
        rw [fpSet_ne d] at hk
        exact h.ok.dj j k b hj hk
  · by_cases c : i = j
    · subst c
      rw [fpSet_same] at hb
      rcases hl b hb with y | y
      · exact h.fr i b y
      · exact y.2
    · rw [fpSet_ne c] at hb; exact h.fr j b hb
  · by_cases c0 : i = k
    · subst c0
      rw [List.getElem?_set_self hil] at e
      cases e
      exact h.pin x hx _ _ hi (hp y)
    · rw [List.getElem?_set_ne c0] at e
      exact h.pin x hx _ _ e y
theorem FmSt.grow {K : PySem.W.Frag} {F H : Hp} {σ : L2.St} {env : Fm} {i : Nat} {l m : List PV} {ys : List V} {a : Addr} (h : FmSt K B F H σ env) (hi : env[i]? = some (.own l)) (hs : σ[i]? = some (some (.ref a))) (r : RepL K F m ys) :
    FmSt K B F (upd H a (.lst ys)) σ (env.set i (.own m)) := by
  obtain ⟨f, p⟩ := h
  have q := p.ok.at' i _ hi
  simp only [SlotOk] at q
  obtain ⟨b, xs, e, hb, fb, _, ef⟩ := q
  rw [hs] at e
  cases e
  refine ⟨_, p.mut (l := [a]) hi (by rw [ef]; exact List.mem_singleton.mpr rfl) ?_ (nodup1 a) (fun b hb => .inl (by rw [ef]; exact hb)) (fun z => by rw [isP_own] at z; cases z)⟩
  rw [hs]
  exact slot_own upd_same fb r
theorem FmSt.frz {K : PySem.W.Frag} {F H : Hp} {σ : L2.St} {env : Fm} (i : Nat) (h : FmSt K B F H σ env) : ∃ F', FmSt K B F' H σ (frzS i env) := by
  obtain ⟨f, p⟩ := h
  have go : ∀ (s : Slot) (a : Addr) (o : HO) (d : PV), env[i]? = some s → f i = [a] → F a = none → H a = some o → σ[i]? = some (some (.ref a)) → ownK o = true → Rep K (upd F a o) d (.ref a) → ∃ F', FmSt K B F' H σ (env.set i (.pv d)) := fun s a o d e ef hf ha es k rd => by
    have hil : i < env.length := (List.getElem?_eq_some_iff.mp e).1
    have hfr := p.fr i a (by rw [ef]; exact List.mem_singleton.mpr rfl)
    have f0 : B.F0 a = none := by
      cases q : B.F0 a with
      | none => rfl
      | some u => have := p.st.s1 a u q; rw [hf] at this; cases this
    have st := p.st.freeze (o := o) (hfr.imp (·.1) id) f0 ha hf (ownK_noTab k)
    refine ⟨upd F a o, fpSet f i [], ⟨st.s2, by rw [List.length_set]; exact p.ok.len, fun j t e2 => ?_, fun j hj => ?_, fun j => ?_, fun j k b hj hk => ?_⟩, st, p.sb.trans (same_frz hf), fun j b hb => ?_, fun x hx k s2 e2 y => ?_⟩
    · by_cases c : i = j
      · subst c
        rw [List.getElem?_set_self hil] at e2
        cases e2
        rw [fpSet_same, es]
        exact slot_pv rd
      · rw [List.getElem?_set_ne c] at e2
        rw [fpSet_ne c]
        refine SlotOk.keep (same_frz hf) _ _ _ (p.ok.at' j t e2) fun b hb u eb => ?_
        have nb : b ≠ a := fun z => by subst z; exact c (p.ok.dj i j b (by rw [ef]; exact List.mem_singleton.mpr rfl) hb)
        exact ⟨eb, by rw [upd_ne nb]; exact (SlotOk.held _ _ _ (p.ok.at' j t e2) b hb).1⟩
    · rw [List.length_set] at hj
      rw [fpSet_ne (by omega)]
      exact p.ok.out j hj
    · by_cases c : i = j
      · subst c; rw [fpSet_same]; exact List.nodup_nil
      · rw [fpSet_ne c]; exact p.ok.nd j
    · have sub : ∀ j, b ∈ fpSet f i [] j → b ∈ f j := fun j hb => by
        by_cases c : i = j
        · subst c; rw [fpSet_same] at hb; cases hb
        · rw [fpSet_ne c] at hb; exact hb
      exact p.ok.dj j k b (sub j hj) (sub k hk)
    · by_cases c : i = j
      · subst c; rw [fpSet_same] at hb; cases hb
      · rw [fpSet_ne c] at hb; exact p.fr j b hb
    · by_cases z : i = k
      · subst z; rw [List.getElem?_set_self hil] at e2; cases e2; rw [isP_pv] at y; cases y
      · rw [List.getElem?_set_ne z] at e2; exact p.pin x hx _ _ e2 y
  unfold frzS
  split
  · rename_i l e
    have q := p.ok.at' i _ e
    simp only [SlotOk] at q
    obtain ⟨a, xs, es, ha, hf, r, ef⟩ := q
    exact go _ a _ (.lst l) e ef hf ha es rfl (by rw [Rep]; exact ⟨a, xs, rfl, upd_same, r.mono (same_frz hf)⟩)
  · rename_i ks vs e
    have q := p.ok.at' i _ e
    simp only [SlotOk] at q
    obtain ⟨a, xs, es, ha, hf, l, r, ef⟩ := q
    exact go _ a _ (.dct ks vs) e ef hf ha es rfl (by rw [Rep]; exact ⟨a, xs, rfl, .inl upd_same, l, r.mono (same_frz hf)⟩)
  · exact ⟨F, f, p⟩
theorem GXs {K : PySem.W.Frag} {mg : Str → Option Value} {F H : Hp} {σ : L2.St} {env : Fm} {D : Ends} {e : Ex} (fs : FmSt K B F H σ env) (p : SPs K mg W B D (.ex e env)) : GX K mg F H σ W e := fun c dd F' H' st r => p c dd σ F' H' (fs.step st) r
theorem s_cons {st : Stmt} {rest : List Stmt} {a b : Fm → RS} (h1 : PS X st (xS X W a)) (h2 : PSs X rest (xS X W b)) : PSs X (st :: rest) (xS X W (dSeq a b)) := PSs.imp (pss_cons h1 h2) fun D σ H ⟨B, F, env, fs, p⟩ => by
  refine ⟨B, F, env, fs, ?_⟩
  unfold dSeq at p
  cases q : a env with
  | nx e => rw [q] at p; exact fun σ' F' H' fs' => ⟨B, F', e, fs', p⟩
  | rt v => rw [q] at p; exact p
  | rm v w => rw [q] at p; exact p
  | rf v => rw [q] at p; exact p
  | bk v => rw [q] at p; exact p
  | ct v => rw [q] at p; exact p
  | ex v w => rw [q] at p; exact p
  | bad => rw [q] at p; exact p
theorem s_one {st : Stmt} {a : Fm → RS} (h1 : PS X st (xS X W a)) : PSs X [st] (xS X W a) := pss_one h1
theorem s_nil : PSs X [] (xS X W dSkip) := PSs.imp pss_nil fun D σ H ⟨B, F, env, fs, p⟩ => p σ F H fs
theorem s_frz {sts : List Stmt} {d : Fm → RS} (i : Nat) (h : PSs X sts (xS X W d)) : PSs X sts (xS X W (dFrz i d)) := PSs.imp h fun D σ H ⟨B, F, env, fs, p⟩ => by
  obtain ⟨F', fs'⟩ := fs.frz i
  exact ⟨B, F', _, fs', p⟩
theorem go_set {i : Nat} {d : Fm → R PV} {D : Ends} {σ : L2.St} {H : Hp} (h : xS X W (dSet i d) D σ H) : xV X W d σ H fun x H1 => D.nx (σ.set i (some x)) H1 := by
  obtain ⟨B, F, env, fs, p⟩ := h
  refine ⟨F, env, fs.ok, ?_⟩
  unfold dSet at p
  cases q : d env with
  | ok v =>
    rw [q] at p
    simp only at p
    split at p
    · rename_i hi
      exact fun x F' H' st r => p _ F' H' ((fs.step st).setPv hi r)
    · exact p.elim
  | ex e => rw [q] at p; exact GXs fs p
  | bad => rw [q] at p; exact p
theorem go_setF {i : Nat} {d : Fm → R (List PV)} {D : Ends} {σ : L2.St} {H : Hp} (h : xS X W (dSetF i d) D σ H) : xF X W d σ H fun x H1 => D.nx (σ.set i (some x)) H1 := by
  obtain ⟨B, F, env, fs, p⟩ := h
  refine ⟨F, env, fs.ok, ?_⟩
  unfold dSetF at p
  cases q : d env with
  | ok v =>
    rw [q] at p
    simp only at p
    split at p
    · rename_i hi
      exact fun a xs F' H' st hn hf ha r => p _ F' H' (fs.setOwn st hi hn ha hf r)
    · exact p.elim
  | ex e => rw [q] at p; exact GXs fs p
  | bad => rw [q] at p; exact p
theorem s_set {i : Nat} {x : Str} {e : Expr} {d : Fm → R PV} {pos pos' : Pos} (hN : X.N.Nodup) (he : PE X e (xV X W d)) (hi : X.N[i]? = some x := by rfl) (hx : Loc X.env.scope x := by first | exact Or.inl rfl | exact Or.inr rfl) (hs : swapsWith e (some (.Name x pos')) pos.line X.env = pure false := by rfl)
    (hf : X.fn x = true ∨ X.env.scope.names.lookup x = some .local := by first | exact .inl rfl | exact .inr rfl | assumption) : PS X (.Assign [.Name x pos'] e pos) (xS X W (dSet i d)) := PS.imp (ps_set hN hi hx he hs hf) fun D σ H h => go_set h
theorem s_setF {i : Nat} {x : Str} {e : Expr} {d : Fm → R (List PV)} {pos pos' : Pos} (hN : X.N.Nodup) (he : PE X e (xF X W d)) (hi : X.N[i]? = some x := by rfl) (hx : Loc X.env.scope x := by first | exact Or.inl rfl | exact Or.inr rfl) (hs : swapsWith e (some (.Name x pos')) pos.line X.env = pure false := by rfl)
    (hf : X.fn x = true ∨ X.env.scope.names.lookup x = some .local := by first | exact .inl rfl | exact .inr rfl | assumption) : PS X (.Assign [.Name x pos'] e pos) (xS X W (dSetF i d)) := PS.imp (ps_set hN hi hx he hs hf) fun D σ H h => go_setF h
theorem s_setLc {i : Nat} {y : Str} {py : Pos} {elt tg iter : Expr} {ifs : List Expr} {scope : Scope} {pos spos : Pos} {g : TG} {t : Tgt} {js vs : List Nat} {tt : Fm → R Bool} {te : Fm → R PV} {src : Fm → R (List PV)} (own : List (Str × Nat)) (hvs : own.map (·.2) = vs) (hc : X.calm = true) (hN : X.N.Nodup) (hy : X.N[i]? = some y) (hyl : X.env.scope.names.lookup y = some .local)
    (hsw : swapsWith (.ListComp elt [⟨tg, iter, ifs, 0⟩] scope pos) (some (.Name y py)) spos.line X.env = pure true) (hi : PI X tg iter (xIR X W src)) (ok : BlkOk X.N X.env.scope scope own)
    (hg : ∀ (s : Shared) (H : Hp) (C : Addr) (cl : List (Str × Addr)) (fp : List Addr), PG (X.blk s H scope (compEnvC scope cl C X.env) fp) tg g) (tS : TgS X.K g t js) (hjs : ∀ j ∈ js, j ∈ vs)
    (ht : ∀ (s : Shared) (H : Hp) (C : Addr) (cl : List (Str × Addr)) (fp : List Addr), PTs (X.blk s H scope (compEnvC scope cl C X.env) fp) ifs (xT (X.blk s H scope (compEnvC scope cl C X.env) fp) WF tt))
    (he : ∀ (s : Shared) (H : Hp) (C : Addr) (cl : List (Str × Addr)) (fp : List Addr), PE (X.blk s H scope (compEnvC scope cl C X.env) fp) elt (xV (X.blk s H scope (compEnvC scope cl C X.env) fp) WF te)) (hs : ∀ x, foldedSetIterable iter X.env x = pure x := by intro _; rfl) :
    PS X (.Assign [.Name y py] (.ListComp elt [⟨tg, iter, ifs, 0⟩] scope pos) spos) (xS X W (dSetF i (dLc vs t tt te src))) := by
  subst hvs
  exact PS.imp (ps_setLc hc hN hy hyl hsw hi ok hg ht he hs) fun D σ H h => lc_go tS hjs (go_setF h)
theorem s_ret {e : Expr} {d : Fm → R PV} {pos : Pos} (he : PE X e (xV X W d)) : PS X (.Return (some e) pos) (xS X W (dRet d)) := PS.imp (ps_ret he) fun D σ H ⟨B, F, env, fs, p⟩ => by
  refine ⟨F, env, fs.ok, ?_⟩
  unfold dRet at p
  cases q : d env with
  | ok v => rw [q] at p; exact fun x F' H' st r => p x F' H' (fs.st.step st) r
  | ex e => rw [q] at p; exact GXs fs p
  | bad => rw [q] at p; exact p
theorem s_retF {e : Expr} {d : Fm → R (List PV)} {pos : Pos} (he : PE X e (xF X W d)) : PS X (.Return (some e) pos) (xS X W (dRetF d)) := PS.imp (ps_ret he) fun D σ H ⟨B, F, env, fs, p⟩ => by
  refine ⟨F, env, fs.ok, ?_⟩
  unfold dRetF at p
  cases q : d env with
  | ok v => rw [q] at p; exact fun a xs F' H' st hn hf ha r => p a xs F' H' (fs.st.step st) (fs.st.frOf hn) hf ha r
  | ex e => rw [q] at p; exact GXs fs p
  | bad => rw [q] at p; exact p
theorem s_retO {e : Expr} {pos : Pos} (i : Nat) (he : PE X e (tVar i)) : PS X (.Return (some e) pos) (xS X W (dRetO i)) := PS.imp (ps_ret he) fun D σ H ⟨B, F, env, fs, p⟩ => by
  unfold dRetO at p
  split at p
  · rename_i l e
    obtain ⟨f, fp⟩ := fs
    have q := fp.ok.at' i _ e
    simp only [SlotOk] at q
    obtain ⟨a, xs, es, ha, hf, r, ef⟩ := q
    exact ⟨.ref a, es, p a xs F H fp.st (fp.fr i a (by rw [ef]; exact List.mem_singleton.mpr rfl)) hf ha r⟩
  · exact p.elim
theorem s_if {c : Expr} {a b : List Stmt} {dc : Fm → R Bool} {da db : Fm → RS} {pos : Pos} (hc : PT X c (xT X W dc)) (ha : PSs X a (xS X W da)) (hb : PSs X b (xS X W db)) : PS X (.If c a b pos) (xS X W (dIfS dc da db)) := PS.imp (ps_if hc ha hb) fun D σ H ⟨B, F, env, fs, p⟩ => by
  refine ⟨F, env, fs.ok, ?_⟩
  unfold dIfS at p
  cases q : dc env with
  | ok k =>
    rw [q] at p
    intro F' H' st
    cases k with
    | true => rw [if_pos rfl]; exact ⟨B, F', env, fs.step st, p⟩
    | false => rw [if_neg Bool.false_ne_true]; exact ⟨B, F', env, fs.step st, p⟩
  | ex e => rw [q] at p; exact GXs fs p
  | bad => rw [q] at p; exact p
theorem s_expr {e : Expr} {d : Fm → R PV} {pos : Pos} (he : PE X e (xV X W d)) (hs : swapsWith e none pos.line X.env = pure false := by rfl) : PS X (.Expr e pos) (xS X W (dExpr d)) := PS.imp (ps_expr he hs) fun D σ H ⟨B, F, env, fs, p⟩ => by
  refine ⟨F, env, fs.ok, ?_⟩
  unfold dExpr at p
  cases q : d env with
  | ok v => rw [q] at p; exact fun x F' H' st r => p σ F' H' (fs.step st)
  | ex e => rw [q] at p; exact GXs fs p
  | bad => rw [q] at p; exact p
theorem s_never {st : Stmt} : PS X st (xS X W fun _ => .bad) := PS.imp ps_never fun D σ H ⟨B, F, env, fs, p⟩ => p
theorem s_app {o e : Expr} {d : Fm → R PV} {apos cpos pos : Pos} (i : Nat) (ho : PE X o (tVar i)) (he : PE X e (xV X W d)) (hbase : attributeBase o "append" X.env (eval o X.env) = eval o X.env := by rfl)
    (hfew : ((backTo cpos (starEach [e] X.env)).all (fun x => !x.1) && (backToKw cpos (keywordEach [] X.env)).all (fun x => x.1.isSome) && decide ([e].length + ([] : List Keyword).length + (if ([] : List Keyword).isEmpty then 0 else 1) < 30)) = true := by rfl)
    (hline : (apos.endLine == cpos.line) = true := by rfl) (hs : starEach [e] X.env = (false, eval e X.env) :: starEach [] X.env := by rfl) (hplain : (backTo cpos (starEach [] X.env)).any (·.1) = false := by rfl)
    (hsw : swapsWith (.Call (.Attribute o "append" apos) [e] [] cpos) none pos.line X.env = pure false := by rfl) :
    PS X (.Expr (.Call (.Attribute o "append" apos) [e] [] cpos) pos) (xS X W (dApp i d)) :=
  PS.imp (ps_expr (pe_bm PySem.F.plainAttrs_list PySem.F.slot_list_append PySem.F.type_list_append mt_append ho (pa_cons he pa_nil hs) hbase hfew hline hs hplain) hsw) fun D σ H ⟨B, F, env, fs, p⟩ => by
    unfold dApp at p
    split at p
    · rename_i l e
      obtain ⟨fpx, q0⟩ := fs.ok.at' i _ e
      simp only [SlotOk] at q0
      obtain ⟨a, xs, es, ha, hf, r, _⟩ := q0
      refine ⟨.ref a, es, .inl ⟨rfl, _, SqL.of ha⟩, F, env, fs.ok, ?_⟩
      cases q : d env with
      | ok v =>
        rw [q] at p
        simp only at p
        split at p
        · rename_i hz
          intro y F' H' st ry
          obtain ⟨ha', hf'⟩ := st.keep a _ ha hf noTab_lst
          exact ⟨a, xs, y, rfl, rfl, ha', by rw [r.len]; exact hz, p σ F' _ ((fs.step st).grow e es ((r.mono st.s1).app (.one ry)))⟩
        · exact p.elim
      | ex e => rw [q] at p; exact GXs fs p
      | bad => rw [q] at p; exact p
    · exact p.elim
theorem FmSt.base {K : PySem.W.Frag} {F H G : Hp} {σ : L2.St} {env : Fm} (h : FmSt K { B with Fb := G } F H σ env) (s : Same B.Fb G) : FmSt K B F H σ env := let ⟨f, p⟩ := h; ⟨f, p.ok, p.st, s.trans p.sb, p.fr, p.pin⟩
theorem FmSt.rebase {K : PySem.W.Frag} {F H : Hp} {σ : L2.St} {env : Fm} (h : FmSt K B F H σ env) : FmSt K { B with Fb := F } F H σ env := let ⟨f, p⟩ := h; ⟨f, p.ok, p.st, Same.refl _, p.fr, p.pin⟩
theorem s_for {tg iter : Expr} {body : List Stmt} {g : TG} {t : Tgt} {js : List Nat} {src : Fm → R (List PV)} {db : Fm → RS} {pos : Pos} (wp : List Nat) (hp : PassesOwn (model X.prog X.w) X.A X.env X.xe) (hc : X.calm = true) (hi : PI X tg iter (xI X W src)) (hg : PG X tg g) (tS' : TgS X.K g t js) (hb : PSs X body (xS X W db))
    (hs : ∀ x, foldedSetIterable iter X.env x = pure x := by intro _; rfl) : PS X (.For tg iter body [] pos) (xS X W (dFor src t db wp)) := PS.imp (ps_for hp hc hi hg hb hs) fun D σ H ⟨B, F, env, fs, p⟩ => by
  refine ⟨F, env, fs.ok, ?_⟩
  unfold dFor at p
  cases q : src env with
  | ex e => rw [q] at p; exact GXs fs p
  | bad => rw [q] at p; exact p
  | ok ds =>
    rw [q] at p
    simp only at p
    intro J F1 H1 st1 wk
    have fs1 := fs.step st1
    have sB : Same B.Fb F1 := fs1.sb
    refine ⟨fun i m σ' H' => m = ds.length - i ∧ i ≤ ds.length ∧ ∃ F' env', FmSt X.K { B with Fb := F1 } F' H' σ' env' ∧ SPs X.K X.mg W B D (forGo t db wp (ds.drop i) env'), ⟨ds.length, by simp, Nat.zero_le _, F1, _, FmSt.clr (B := { B with Fb := F1 }) fs1.rebase wp, p⟩, ?_⟩
    rintro i m σ' H' ⟨rfl, hi, F', env', fs', p'⟩
    obtain ⟨w1, w2⟩ := wk F' H' fs'.sb fs'.ok.s0
    by_cases hlt : i < ds.length
    · obtain ⟨d, hd⟩ : ∃ d, ds[i]? = some d := ⟨_, List.getElem?_eq_getElem hlt⟩
      obtain ⟨go, yl⟩ := w1 i d hd
      have hdrop : ds.drop i = d :: ds.drop (i + 1) := by
        rw [List.drop_eq_getElem_cons hlt]
        rw [List.getElem?_eq_getElem hlt] at hd
        cases hd
        rfl
      rw [hdrop, forGo] at p'
      refine .inr ⟨go, fun σ2 H2 => ∃ F2 env2, FmSt X.K { B with Fb := F1 } F2 H2 σ2 env2 ∧ SPs X.K X.mg W B D (forGo t db wp (ds.drop (i + 1)) (clr env2 wp)), fun σ2 H2 ⟨F2, env2, f2, p2⟩ => ⟨ds.length - (i + 1), by omega, rfl, hlt, F2, _, f2.clr wp, p2⟩, fun x H2 hy => ?_⟩
      obtain ⟨F2, st2, rx⟩ := yl x H2 hy
      cases qt : t d env' with
      | none => rw [qt] at p'; exact p'.elim
      | some e1 =>
        rw [qt] at p'
        simp only at p'
        have f2 := fs'.step st2
        obtain ⟨fx, fy⟩ := f2
        refine tS' F2 H2 σ' env' _ x d e1 _ fy.ok rx qt fun σ2 ok2 h1 h2 h3 h4 => ⟨{ B with Fb := F1 }, F2, e1, ⟨_, ok2, fy.st, fy.sb, fun j b hb => fy.fr j b (fpClr_sub hb), fun a ha k s ej y => ?_⟩, ?_⟩
        · by_cases z : k ∈ js
          · obtain ⟨d0, z0⟩ := h3 k _ z ej; subst z0; rw [isP_pv] at y; cases y
          · rw [h2 k z] at ej; rw [h1 k z]; exact fy.pin a ha k s ej y
        · cases qb : db e1 with
          | nx e2 => rw [qb] at p'; exact fun σ3 F3 H3 f3 => ⟨F3, e2, f3, p'⟩
          | ct e2 => rw [qb] at p'; exact fun σ3 F3 H3 f3 => ⟨F3, e2, f3, p'⟩
          | bk e2 => rw [qb] at p'; exact fun σ3 F3 H3 f3 => p' σ3 F3 H3 ((f3.base sB).clr wp)
          | rt v => rw [qb] at p'; exact p'
          | rm v w => rw [qb] at p'; exact fun x σ3 F3 H3 f3 r => p' x σ3 F3 H3 (f3.base sB) r
          | rf v => rw [qb] at p'; exact p'
          | ex v w => rw [qb] at p'; exact fun c dd σ3 F3 H3 f3 r => p' c dd σ3 F3 H3 (f3.base sB) r
          | bad => rw [qb] at p'; exact p'
    · have e : i = ds.length := by omega
      subst e
      rw [List.drop_length, forGo] at p'
      exact .inl ⟨w2, p' σ' F' H' (fs'.base sB)⟩
def spV (K : PySem.W.Frag) (mg : Str → Option Value) (f : List PV → R PV) : Sp := fun vs H Q E => ∃ F ds, Fz F H ∧ RepL K F ds vs ∧ RP (f ds) (GV K F H Q) (fun e => ∀ cls dd F' H', Step F H F' H' → RepX K mg F' e cls dd → E cls dd H')
def spF (K : PySem.W.Frag) (mg : Str → Option Value) (f : List PV → R (List PV)) : Sp := fun vs H Q E => ∃ F ds, Fz F H ∧ RepL K F ds vs ∧ RP (f ds) (GF K F H Q) (fun e => ∀ cls dd F' H', Step F H F' H' → RepX K mg F' e cls dd → E cls dd H')
def fm0 (n : Nat) (ds : List PV) : Fm := ds.map .pv ++ List.replicate (n - ds.length) .un
def toV : RS → R PV
  | .nx _ => .ok .non
  | .rt v => .ok v
  | .rm v _ => .ok v
  | .ex e _ => .ex e
  | _ => .bad
def toF : RS → R (List PV)
  | .rf l => .ok l
  | .ex e _ => .ex e
  | _ => .bad
theorem fm0_at {n : Nat} {ds : List PV} {i : Nat} {s : Slot} (h : (fm0 n ds)[i]? = some s) : s = .un ∨ ∃ d, ds[i]? = some d ∧ s = .pv d := by
  unfold fm0 at h
  by_cases c : i < ds.length
  · rw [List.getElem?_append_left (by rw [List.length_map]; exact c), List.getElem?_map] at h
    cases q : ds[i]? with
    | none => rw [q] at h; cases h
    | some d => rw [q] at h; cases h; exact .inr ⟨d, rfl, rfl⟩
  · rw [List.getElem?_append_right (by rw [List.length_map]; omega)] at h
    have := List.mem_of_getElem? h
    exact .inl (List.eq_of_mem_replicate this)
theorem fmSt0 {K : PySem.W.Frag} {F H : Hp} {N : List Str} {ds : List PV} {vs : List V} (s : Fz F H) (r : RepL K F ds vs) : FmSt K { Fb := F, F0 := F, H0 := H } F H (start N vs) (fm0 N.length ds) := by
  refine ⟨fun _ => [], ⟨s, ?_, fun i s' e => ?_, fun _ _ => rfl, fun _ => List.nodup_nil, fun i j b h => (by cases h)⟩, (Step.refl s).p, Same.refl _, fun i b h => (by cases h), fun a h => (by cases h)⟩
  · unfold fm0 L2.start
    simp only [List.length_append, List.length_map, List.length_replicate, r.len]
  · rcases fm0_at e with z | ⟨d, h1, h2⟩
    · subst z; rw [SlotOk]
    · subst h2
      obtain ⟨x, ex, rx⟩ := r.get' h1
      have e2 : (start N vs)[i]? = some (some x) := by
        unfold L2.start
        have hi : i < vs.length := (List.getElem?_eq_some_iff.mp ex).1
        rw [List.getElem?_append_left (by rw [List.length_map]; exact hi), List.getElem?_map, ex]
        rfl
      rw [e2]
      exact slot_pv rx
end
section
variable {P : Program} {w : World} {K : PySem.W.Frag} {mg : Str → Option Value} {base : Heap}
theorem takes0 {X : Cx} : L2C.Takes X (fun _ _ _ _ => False) := fun _ _ x => by
  obtain ⟨_, _, _, _, _, _, _, _, _, _, _, _, _, _, _, _, z⟩ := x
  exact z.elim
theorem fun_okN {x qual : Str} {st : Stmt} {f : Addr} {fd : FuncData} {N ps : List Str} {k : Nat} {sp : Sp} (F : Fun K x qual st f fd) (S : FnScope N ps (defScope st)) (len : ∀ vs H Q E, sp vs H Q E → vs.length = ps.length)
    (hbody : ∀ (cdv : Value) (A : Around) (outer : List Env) (s : Shared) (H : Hp) (vs : List V) (Q : VK) (E : XK), fd.code = cdv → Room k (A.deeper (envOfC qual (defScope st) s.heap.objs.size f cdv)) → sp vs H Q E →
      ∃ t, PSs (cxOf (L2C.CX P w) P w K mg base N qual (defScope st) f cdv A outer s H E) (defBody st) t ∧ t { nx := fun _ H' => Q .non H', rt := Q } (start N vs) H) : FnOk P w K mg base (L2C.CX P w) (k + 1) f fd ps sp := by
  obtain ⟨oc, od, kV, doc, pm, an, cdv, ct, osl, rfl, lk, hcd⟩ := F.ex
  exact fn_of lk hcd S len fun A outer s H vs Q E hr hsp => hbody cdv A outer s H vs Q E rfl hr hsp
theorem fun_ofD {x qual : Str} {st : Stmt} {f : Addr} {fd : FuncData} (F : FunD K x qual (defArgs st) (defBody st) (defScope st) [] [] f fd) : Fun K x qual st f fd := by
  obtain ⟨⟨oc, od, dV, kV, doc, pm, an, cdv, ct, osl, e, lk, hcd, hd, _⟩, kp⟩ := F
  rcases hd with ⟨_, h1⟩ | ⟨z, _⟩
  · subst h1
    exact ⟨⟨oc, od, kV, doc, pm, an, cdv, ct, osl, e, lk, hcd⟩, kp⟩
  · exact absurd rfl z
abbrev cxX (P : Program) (w : World) (K : PySem.W.Frag) (mg : Str → Option Value) (base : Heap) (N : List Str) (qual : Str) (st : Stmt) (f : Addr) (cdv : Value) (A : Around) (outer : List Env) (s : Shared) (H : Hp) (E : XK) : Cx := cxOf (L2C.CX P w) P w K mg base N qual (defScope st) f cdv A outer s H E
abbrev wE (E : XK) : WX := fun c d _ H => E c d H
theorem fn_V {x qual : Str} {st : Stmt} {f : Addr} {fd : FuncData} {N ps : List Str} {k : Nat} {g : List PV → R PV} {d : Fm → RS} (Fn : Fun K x qual st f fd) (S : FnScope N ps (defScope st)) (hl : ∀ ds, g ds ≠ .bad → ds.length = ps.length)
    (hd : ∀ ds, g ds ≠ .bad → toV (d (fm0 N.length ds)) = g ds)
    (body : ∀ (cdv : Value) (A : Around) (outer : List Env) (s : Shared) (H : Hp) (E : XK), fd.code = cdv → Room k (A.deeper (envOfC qual (defScope st) s.heap.objs.size f cdv)) → PSs (cxX P w K mg base N qual st f cdv A outer s H E) (defBody st) (xS (cxX P w K mg base N qual st f cdv A outer s H E) (wE E) d)) :
    FnOk P w K mg base (L2C.CX P w) (k + 1) f fd ps (spV K mg g) := by
  have nb : ∀ {ds : List PV} {A : PV → Prop} {Bx : Ex → Prop}, RP (g ds) A Bx → g ds ≠ .bad := fun {ds A Bx} p z => by rw [z] at p; exact p
  refine fun_okN Fn S (fun vs H Q E h => ?_) (fun cdv A outer s H vs Q E hcv hr h => ⟨_, body cdv A outer s H E hcv hr, ?_⟩)
  · obtain ⟨F, ds, s0, r, p⟩ := h
    rw [r.len]
    exact hl ds (nb p)
  · obtain ⟨F, ds, s0, r, p⟩ := h
    refine ⟨{ Fb := F, F0 := F, H0 := H }, F, fm0 N.length ds, fmSt0 s0 r, ?_⟩
    have e := hd ds (nb p)
    cases q : d (fm0 N.length ds) with
    | nx e' =>
      rw [q] at e
      have e2 : g ds = .ok .non := e.symm
      rw [e2] at p
      exact fun σ' F' H' fs => p .non F' H' fs.st.un (by simp only [Rep])
    | rt v =>
      rw [q] at e
      have e2 : g ds = .ok v := e.symm
      rw [e2] at p
      exact fun y F' H' st r => p y F' H' st.un r
    | rm v e' =>
      rw [q] at e
      have e2 : g ds = .ok v := e.symm
      rw [e2] at p
      exact fun y σ' F' H' fs r => p y F' H' fs.st.un r
    | rf v =>
      rw [q] at e
      have e2 : g ds = .bad := e.symm
      rw [e2] at p
      exact p.elim
    | bk v =>
      rw [q] at e
      have e2 : g ds = .bad := e.symm
      rw [e2] at p
      exact p.elim
    | ct v =>
      rw [q] at e
      have e2 : g ds = .bad := e.symm
      rw [e2] at p
      exact p.elim
    | ex v w' =>
      rw [q] at e
      have e2 : g ds = .ex v := e.symm
      rw [e2] at p
      exact fun c dd σ' F' H' fs r => p c dd F' H' fs.st.un r
    | bad =>
      rw [q] at e
      have e2 : g ds = .bad := e.symm
      rw [e2] at p
      exact p.elim
theorem fn_F {x qual : Str} {st : Stmt} {f : Addr} {fd : FuncData} {N ps : List Str} {k : Nat} {g : List PV → R (List PV)} {d : Fm → RS} (Fn : Fun K x qual st f fd) (S : FnScope N ps (defScope st)) (hl : ∀ ds, g ds ≠ .bad → ds.length = ps.length)
    (hd : ∀ ds, g ds ≠ .bad → toF (d (fm0 N.length ds)) = g ds)
    (body : ∀ (cdv : Value) (A : Around) (outer : List Env) (s : Shared) (H : Hp) (E : XK), fd.code = cdv → Room k (A.deeper (envOfC qual (defScope st) s.heap.objs.size f cdv)) → PSs (cxX P w K mg base N qual st f cdv A outer s H E) (defBody st) (xS (cxX P w K mg base N qual st f cdv A outer s H E) (wE E) d)) :
    FnOk P w K mg base (L2C.CX P w) (k + 1) f fd ps (spF K mg g) := by
  have nb : ∀ {ds : List PV} {A : List PV → Prop} {Bx : Ex → Prop}, RP (g ds) A Bx → g ds ≠ .bad := fun {ds A Bx} p z => by rw [z] at p; exact p
  refine fun_okN Fn S (fun vs H Q E h => ?_) (fun cdv A outer s H vs Q E hcv hr h => ⟨_, body cdv A outer s H E hcv hr, ?_⟩)
  · obtain ⟨F, ds, s0, r, p⟩ := h
    rw [r.len]
    exact hl ds (nb p)
  · obtain ⟨F, ds, s0, r, p⟩ := h
    refine ⟨{ Fb := F, F0 := F, H0 := H }, F, fm0 N.length ds, fmSt0 s0 r, ?_⟩
    have e := hd ds (nb p)
    cases q : d (fm0 N.length ds) with
    | rf v =>
      rw [q] at e
      have e2 : g ds = .ok v := e.symm
      rw [e2] at p
      exact fun a xs F' H' st hn hf ha r => p a xs F' H' st.un (hn.elim (fun z => z.1.elim) id) hf ha r
    | rm v e' =>
      rw [q] at e
      have e2 : g ds = .bad := e.symm
      rw [e2] at p
      exact p.elim
    | ex v w' =>
      rw [q] at e
      have e2 : g ds = .ex v := e.symm
      rw [e2] at p
      exact fun c dd σ' F' H' fs r => p c dd F' H' fs.st.un r
    | nx v =>
      rw [q] at e
      have e2 : g ds = .bad := e.symm
      rw [e2] at p
      exact p.elim
    | rt v =>
      rw [q] at e
      have e2 : g ds = .bad := e.symm
      rw [e2] at p
      exact p.elim
    | bk v =>
      rw [q] at e
      have e2 : g ds = .bad := e.symm
      rw [e2] at p
      exact p.elim
    | ct v =>
      rw [q] at e
      have e2 : g ds = .bad := e.symm
      rw [e2] at p
      exact p.elim
    | bad =>
      rw [q] at e
      have e2 : g ds = .bad := e.symm
      rw [e2] at p
      exact p.elim
end
structure CaV (P : Program) (w : World) (K : PySem.W.Frag) (mg : Str → Option Value) (base : Heap) (k : Nat) (x : Str) (g : List PV → R PV) : Prop where
  ex : ∃ f fd ps, FnOk P w K mg base (L2C.CX P w) k f fd ps (spV K mg g) ∧ mg x = some (.ref f) ∧ PySem.W.keepIn K (.ref f) = true ∧ Binds K fd ps []
structure CaF (P : Program) (w : World) (K : PySem.W.Frag) (mg : Str → Option Value) (base : Heap) (k : Nat) (x : Str) (g : List PV → R (List PV)) : Prop where
  ex : ∃ f fd ps, FnOk P w K mg base (L2C.CX P w) k f fd ps (spF K mg g) ∧ mg x = some (.ref f) ∧ PySem.W.keepIn K (.ref f) = true ∧ Binds K fd ps []
section
variable {X : Cx} {W : WX} {k j : Nat} {x : Str} {p pos : Pos} {e : Expr} {es : List Expr} {d : Fm → R (List PV)}
theorem go_call {α : Type} {G : Hp → Hp → VK → α → Prop} {g : List PV → R α} {σ : L2.St} {H : Hp} {Q : VK} {K : PySem.W.Frag} {mg : Str → Option Value} (sG : Stays G) (h : tG K mg W G (dCall g d) σ H Q) :
    tAG K mg W (GVL K) d σ H fun vs H1 => ∃ F ds, Fz F H1 ∧ RepL K F ds vs ∧ RP (g ds) (G F H1 Q) (fun e => ∀ cls dd F' H', Step F H1 F' H' → RepX K mg F' e cls dd → W cls dd σ H') :=
  seqV sG h fun F H xs ds s r p => ⟨F, ds, s, r, p⟩
theorem v_call {g : List PV → R PV} (c : CaV X.prog X.w X.K X.mg X.base k x g) (tk : L2C.Takes X W) (hr : Room j X.A) (ha : PA X (e :: es) (xVL X W d)) (hk : k ≤ j := by omega) (hg : Gl X x := by rfl) (hdb : (x == ("__debug__" : Str)) = false := by decide)
    (he : starEach (e :: es) X.env = (false, eval e X.env) :: starEach es X.env := by rfl) (hpl : (backTo pos (starEach es X.env)).any (·.1) = false := by rfl) : PE X (.Call (.Name x p) (e :: es) [] pos) (xV X W (dCall g d)) := by
  obtain ⟨f, fd, ps, F, m, kp, b⟩ := c.ex
  exact PE.imp (pe_callS F (hr.mono hk) hg m kp b (fun σ => L2C.passAt tk σ) ha hdb he hpl) fun σ H Q h => go_call stGV h
theorem go_call0 {α : Type} {G : Hp → Hp → VK → α → Prop} {g : List PV → R α} {σ : L2.St} {H : Hp} {Q : VK} {K : PySem.W.Frag} {mg : Str → Option Value} (h : tG K mg W G (dCall g dNil) σ H Q) :
    ∃ F ds, Fz F H ∧ RepL K F ds [] ∧ RP (g ds) (G F H Q) (fun e => ∀ cls dd F' H', Step F H F' H' → RepX K mg F' e cls dd → W cls dd σ H') := by
  obtain ⟨F, env, ok, p⟩ := h
  exact ⟨F, [], ok.s0, .nil, p⟩
theorem pe_callS0 {CX : CXT} {f : Addr} {fd : FuncData} {ps : List Str} {sp : Sp} {E : L2.St → XK} (F : FnOk X.prog X.w X.K X.mg X.base CX k f fd ps sp) (hr : Room k X.A) (hg : Gl X x) (hm : X.mg x = some (.ref f)) (hk : PySem.W.keepIn X.K (.ref f) = true) (hb : Binds X.K fd ps []) (hx : ∀ σ, PassesAt CX X σ (E σ))
    (hdb : (x == ("__debug__" : Str)) = false := by decide) : PE X (.Call (.Name x p) [] [] pos) (fun σ H Q => sp [] H Q (E σ)) := by
  refine ⟨fun pins s σ H Q I h => ?_⟩
  refine wpAny_Call_Name_kw (ld_glob I hg hm ?_ hdb)
  exact PySem.W.callWith_K0 I.kIn hk (run_fnS (us := []) F hr hb (hx σ) I .nil h)
theorem v_call0 {g : List PV → R PV} (c : CaV X.prog X.w X.K X.mg X.base k x g) (tk : L2C.Takes X W) (hr : Room j X.A) (hk : k ≤ j := by omega) (hg : Gl X x := by rfl) (hdb : (x == ("__debug__" : Str)) = false := by decide) : PE X (.Call (.Name x p) [] [] pos) (xV X W (dCall g dNil)) := by
  obtain ⟨f, fd, ps, F, m, kp, b⟩ := c.ex
  exact PE.imp (pe_callS0 F (hr.mono hk) hg m kp b (fun σ => L2C.passAt tk σ) hdb) fun σ H Q h => go_call0 h
theorem f_call0 {g : List PV → R (List PV)} (c : CaF X.prog X.w X.K X.mg X.base k x g) (tk : L2C.Takes X W) (hr : Room j X.A) (hk : k ≤ j := by omega) (hg : Gl X x := by rfl) (hdb : (x == ("__debug__" : Str)) = false := by decide) : PE X (.Call (.Name x p) [] [] pos) (xF X W (dCall g dNil)) := by
  obtain ⟨f, fd, ps, F, m, kp, b⟩ := c.ex
  exact PE.imp (pe_callS0 F (hr.mono hk) hg m kp b (fun σ => L2C.passAt tk σ) hdb) fun σ H Q h => go_call0 h
end
section
variable {P : Program} {w : World} {K : PySem.W.Frag} {mg : Str → Option Value} {base : Heap}
theorem fn_badV {k : Nat} {f : Addr} {fd : FuncData} (ps : List Str) : FnOk P w K mg base (L2C.CX P w) k f fd ps (spV K mg fun _ => .bad) :=
  ⟨fun vs H Q E ⟨F, ds, _, _, p⟩ => p.elim, fun A outer s H args us vs Q E _ _ _ _ ⟨F, ds, _, _, p⟩ => p.elim⟩
def spLaw (K : PySem.W.Frag) : Sp := fun vs H Q _ => ∃ (a : Addr) (ns : List Int), vs = [.ref a] ∧ SqL K H a (ns.map V.int) ∧ ns.length ≤ 63 ∧ (∀ z ∈ ns, Builtin.Int.intBits z ≤ 1048576) ∧ (∀ p ∈ TabCx.T, H p.1 = some (.tbl #[])) ∧ ∀ H', Q (.bl true) H'
def notabs (H : Hp) : Hp := fun a => match H a with
  | some (.tbl _) => none
  | o => o
theorem spLaw_imp {g : List PV → R PV} (hp : ∀ ns : List Int, ns.length ≤ 63 → (∀ z ∈ ns, Builtin.Int.intBits z ≤ 1048576) → g [.scr ns] = .ok (.bl true)) {vs : List V} {H : Hp} {Q : VK} {E : XK} (h : spLaw K vs H Q E) : spV K mg g vs H Q E := by
  obtain ⟨a, ns, rfl, hS, hl, hb, hT, q⟩ := h
  have up : ∀ b o, H b = some o → NoTab o → notabs H b = some o := fun b o e t => by
    unfold notabs
    rw [e]
    cases o with
    | tbl ps => exact absurd rfl (t ps)
    | _ => rfl
  have dn : ∀ b o, notabs H b = some o → H b = some o ∧ NoTab o := fun b o e => by
    unfold notabs at e
    cases q : H b with
    | none => rw [q] at e; cases e
    | some u =>
      rw [q] at e
      cases u with
      | tbl ps => cases e
      | _ => cases e; exact ⟨rfl, fun _ z => by cases z⟩
  have hS' : SqL K (notabs H) a (ns.map V.int) := by
    rcases hS with (h | ⟨o, h⟩) | h
    · exact .inl (.inl (up _ _ h fun _ z => by cases z))
    · exact .inl (.inr ⟨o, up _ _ h fun _ z => by cases z⟩)
    · exact .inr h
  refine ⟨notabs H, [.scr ns], ⟨fun b o e => (dn b o e).1, fun p hp => .nil (hT p hp), fun b o e => (dn b o e).2⟩, .one (by simp only [Rep]; exact ⟨a, rfl, hS'⟩), ?_⟩
  rw [hp ns hl hb]
  intro x F' H' _ r
  simp only [Rep] at r
  subst r
  exact q H'
end
end Pv
set_option Elab.async false
set_option linter.all false
set_option maxRecDepth 100000
set_option maxHeartbeats 2000000
namespace Pv
open PySem PySem.Spec PyProof.Rows L2
local instance : TabCx := TabCx.nil
@[simp] theorem isi_int_dct (ks : List Key) (vs : List PV) : pIsi "int" (.dct ks vs) = some (.bl false) := by
  show (kitB "dict" "int").map PV.bl = _
  rw [show kitB "dict" "int" = some false by decide +kernel]
  rfl
@[simp] theorem isi_str_dct (ks : List Key) (vs : List PV) : pIsi "str" (.dct ks vs) = some (.bl false) := by
  show (kitB "dict" "str").map PV.bl = _
  rw [show kitB "dict" "str" = some false by decide +kernel]
  rfl
@[simp] theorem isi_tuple_dct (ks : List Key) (vs : List PV) : pIsi "tuple" (.dct ks vs) = some (.bl false) := by
  show (kitB "dict" "tuple").map PV.bl = _
  rw [show kitB "dict" "tuple" = some false by decide +kernel]
  rfl
@[simp] theorem isi_list_dct (ks : List Key) (vs : List PV) : pIsi "list" (.dct ks vs) = some (.bl false) := by
  show (kitB "dict" "list").map PV.bl = _
  rw [show kitB "dict" "list" = some false by decide +kernel]
  rfl
@[simp] theorem isi_bool_dct (ks : List Key) (vs : List PV) : pIsi "bool" (.dct ks vs) = some (.bl false) := by
  show (kitB "dict" "bool").map PV.bl = _
  rw [show kitB "dict" "bool" = some false by decide +kernel]
  rfl
@[simp] theorem isi_int_non : pIsi "int" .non = some (.bl false) := by
  show (kitB "NoneType" "int").map PV.bl = _
  rw [show kitB "NoneType" "int" = some false by decide +kernel]
  rfl
@[simp] theorem isi_int_bl (b : Bool) : pIsi "int" (.bl b) = some (.bl true) := by
  show (kitB "bool" "int").map PV.bl = _
  rw [show kitB "bool" "int" = some true by decide +kernel]
  rfl
@[simp] theorem isi_int_int (i : Int) : pIsi "int" (.int i) = some (.bl true) := by
  show (kitB "int" "int").map PV.bl = _
  rw [show kitB "int" "int" = some true by decide +kernel]
  rfl
@[simp] theorem isi_int_str (x : Str) : pIsi "int" (.str x) = some (.bl false) := by
  show (kitB "str" "int").map PV.bl = _
  rw [show kitB "str" "int" = some false by decide +kernel]
  rfl
@[simp] theorem isi_int_tup (l : List PV) : pIsi "int" (.tup l) = some (.bl false) := by
  show (kitB "tuple" "int").map PV.bl = _
  rw [show kitB "tuple" "int" = some false by decide +kernel]
  rfl
@[simp] theorem isi_int_lst (l : List PV) : pIsi "int" (.lst l) = some (.bl false) := by
  show (kitB "list" "int").map PV.bl = _
  rw [show kitB "list" "int" = some false by decide +kernel]
  rfl
@[simp] theorem isi_int_scr (l : List Int) : pIsi "int" (.scr l) = some (.bl false) := by
  show (kitB "list" "int").map PV.bl = _
  rw [show kitB "list" "int" = some false by decide +kernel]
  rfl
@[simp] theorem isi_str_non : pIsi "str" .non = some (.bl false) := by
  show (kitB "NoneType" "str").map PV.bl = _
  rw [show kitB "NoneType" "str" = some false by decide +kernel]
  rfl
@[simp] theorem isi_str_bl (b : Bool) : pIsi "str" (.bl b) = some (.bl false) := by
  show (kitB "bool" "str").map PV.bl = _
  rw [show kitB "bool" "str" = some false by decide +kernel]
  rfl
@[simp] theorem isi_str_int (i : Int) : pIsi "str" (.int i) = some (.bl false) := by
  show (kitB "int" "str").map PV.bl = _
  rw [show kitB "int" "str" = some false by decide +kernel]
  rfl
@[simp] theorem isi_str_str (x : Str) : pIsi "str" (.str x) = some (.bl true) := by
  show (kitB "str" "str").map PV.bl = _
  rw [show kitB "str" "str" = some true by decide +kernel]
  rfl
@[simp] theorem isi_str_tup (l : List PV) : pIsi "str" (.tup l) = some (.bl false) := by
  show (kitB "tuple" "str").map PV.bl = _
  rw [show kitB "tuple" "str" = some false by decide +kernel]
  rfl
@[simp] theorem isi_str_lst (l : List PV) : pIsi "str" (.lst l) = some (.bl false) := by
  show (kitB "list" "str").map PV.bl = _
  rw [show kitB "list" "str" = some false by decide +kernel]
  rfl
@[simp] theorem isi_str_scr (l : List Int) : pIsi "str" (.scr l) = some (.bl false) := by
  show (kitB "list" "str").map PV.bl = _
  rw [show kitB "list" "str" = some false by decide +kernel]
  rfl
@[simp] theorem isi_tuple_non : pIsi "tuple" .non = some (.bl false) := by
  show (kitB "NoneType" "tuple").map PV.bl = _
  rw [show kitB "NoneType" "tuple" = some false by decide +kernel]
  rfl
@[simp] theorem isi_tuple_bl (b : Bool) : pIsi "tuple" (.bl b) = some (.bl false) := by
  show (kitB "bool" "tuple").map PV.bl = _
  rw [show kitB "bool" "tuple" = some false by decide +kernel]
  rfl
@[simp] theorem isi_tuple_int (i : Int) : pIsi "tuple" (.int i) = some (.bl false) := by
  show (kitB "int" "tuple").map PV.bl = _
  rw [show kitB "int" "tuple" = some false by decide +kernel]
  rfl
@[simp] theorem isi_tuple_str (x : Str) : pIsi "tuple" (.str x) = some (.bl false) := by
  show (kitB "str" "tuple").map PV.bl = _
  rw [show kitB "str" "tuple" = some false by decide +kernel]
  rfl
@[simp] theorem isi_tuple_tup (l : List PV) : pIsi "tuple" (.tup l) = some (.bl true) := by
  show (kitB "tuple" "tuple").map PV.bl = _
  rw [show kitB "tuple" "tuple" = some true by decide +kernel]
  rfl
@[simp] theorem isi_tuple_lst (l : List PV) : pIsi "tuple" (.lst l) = some (.bl false) := by
  show (kitB "list" "tuple").map PV.bl = _
  rw [show kitB "list" "tuple" = some false by decide +kernel]
  rfl
@[simp] theorem isi_tuple_scr (l : List Int) : pIsi "tuple" (.scr l) = some (.bl false) := by
  show (kitB "list" "tuple").map PV.bl = _
  rw [show kitB "list" "tuple" = some false by decide +kernel]
  rfl
@[simp] theorem isi_list_non : pIsi "list" .non = some (.bl false) := by
  show (kitB "NoneType" "list").map PV.bl = _
  rw [show kitB "NoneType" "list" = some false by decide +kernel]
  rfl
@[simp] theorem isi_list_bl (b : Bool) : pIsi "list" (.bl b) = some (.bl false) := by
  show (kitB "bool" "list").map PV.bl = _
  rw [show kitB "bool" "list" = some false by decide +kernel]
  rfl
@[simp] theorem isi_list_int (i : Int) : pIsi "list" (.int i) = some (.bl false) := by
  show (kitB "int" "list").map PV.bl = _
  rw [show kitB "int" "list" = some false by decide +kernel]
  rfl
@[simp] theorem isi_list_str (x : Str) : pIsi "list" (.str x) = some (.bl false) := by
  show (kitB "str" "list").map PV.bl = _
  rw [show kitB "str" "list" = some false by decide +kernel]
  rfl
@[simp] theorem isi_list_tup (l : List PV) : pIsi "list" (.tup l) = some (.bl false) := by
  show (kitB "tuple" "list").map PV.bl = _
  rw [show kitB "tuple" "list" = some false by decide +kernel]
  rfl
@[simp] theorem isi_list_lst (l : List PV) : pIsi "list" (.lst l) = some (.bl true) := by
  show (kitB "list" "list").map PV.bl = _
  rw [show kitB "list" "list" = some true by decide +kernel]
  rfl
@[simp] theorem isi_list_scr (l : List Int) : pIsi "list" (.scr l) = some (.bl true) := by
  show (kitB "list" "list").map PV.bl = _
  rw [show kitB "list" "list" = some true by decide +kernel]
  rfl
@[simp] theorem isi_bool_non : pIsi "bool" .non = some (.bl false) := by
  show (kitB "NoneType" "bool").map PV.bl = _
  rw [show kitB "NoneType" "bool" = some false by decide +kernel]
  rfl
@[simp] theorem isi_bool_bl (b : Bool) : pIsi "bool" (.bl b) = some (.bl true) := by
  show (kitB "bool" "bool").map PV.bl = _
  rw [show kitB "bool" "bool" = some true by decide +kernel]
  rfl
@[simp] theorem isi_bool_int (i : Int) : pIsi "bool" (.int i) = some (.bl false) := by
  show (kitB "int" "bool").map PV.bl = _
  rw [show kitB "int" "bool" = some false by decide +kernel]
  rfl
@[simp] theorem isi_bool_str (x : Str) : pIsi "bool" (.str x) = some (.bl false) := by
  show (kitB "str" "bool").map PV.bl = _
  rw [show kitB "str" "bool" = some false by decide +kernel]
  rfl
@[simp] theorem isi_bool_tup (l : List PV) : pIsi "bool" (.tup l) = some (.bl false) := by
  show (kitB "tuple" "bool").map PV.bl = _
  rw [show kitB "tuple" "bool" = some false by decide +kernel]
  rfl
@[simp] theorem isi_bool_lst (l : List PV) : pIsi "bool" (.lst l) = some (.bl false) := by
  show (kitB "list" "bool").map PV.bl = _
  rw [show kitB "list" "bool" = some false by decide +kernel]
  rfl
@[simp] theorem isi_bool_scr (l : List Int) : pIsi "bool" (.scr l) = some (.bl false) := by
  show (kitB "list" "bool").map PV.bl = _
  rw [show kitB "list" "bool" = some false by decide +kernel]
  rfl
def mk (l : List Nat) : Str := ⟨l.toArray⟩
@[simp] theorem mk_len (l : List Nat) : (mk l).length = l.length := by simp [mk, Str.length]
@[simp] theorem mk_app (a b : List Nat) : mk a ++ mk b = mk (a ++ b) := by
  show Str.append (mk a) (mk b) = mk (a ++ b)
  simp [mk, Str.append]
@[simp] theorem mk_cps (l : List Nat) : (mk l).cps.toList = l := by simp [mk]
theorem mk_cpsA (l : List Nat) : (mk l).cps = l.toArray := rfl
theorem mk_inj {a b : List Nat} (h : mk a = mk b) : a = b := by
  have := congrArg (fun x : Str => x.cps.toList) h
  simpa using this
@[simp] theorem mk_beq (a b : List Nat) : (mk a == mk b) = decide (a = b) := by
  by_cases h : a = b
  · subst h; simp
  · rw [decide_eq_false h]
    exact beq_eq_false_iff_ne.mpr fun z => h (mk_inj z)
theorem cutP_to {α : Type} (l : List α) (k : Nat) : cutP l none (some (k : Int)) = l.take k := by
  unfold cutP
  rw [HT.sIx_none, HT.sIx_nat, List.drop_zero, Nat.sub_zero]
  by_cases h : k ≤ l.length
  · rw [Nat.min_eq_left h]
  · rw [Nat.min_eq_right (by omega), List.take_of_length_le (Nat.le_refl _), List.take_of_length_le (by omega)]
theorem cutP_from {α : Type} (l : List α) (k : Nat) : cutP l (some (k : Int)) none = l.drop k := by
  unfold cutP
  rw [HT.sIx_none, HT.sIx_nat]
  by_cases h : k ≤ l.length
  · rw [Nat.min_eq_left h]
    exact List.take_of_length_le (by rw [List.length_drop]; omega)
  · rw [Nat.min_eq_right (by omega), List.drop_eq_nil_of_le (Nat.le_refl _), List.drop_eq_nil_of_le (by omega)]
    simp
theorem cutP_from1 {α : Type} (l : List α) (k : Nat) : cutP l (some ((k : Int) + 1)) none = l.drop (k + 1) := cutP_from l (k + 1)
theorem atI_in {α : Type} {l : List α} {k : Nat} (h : k < l.length) : L2.atI l (k : Int) = some l[k] := atI_nat (List.getElem?_eq_getElem h)
theorem lc_map {i : Nat} {te : Fm → R PV} {env : Fm} {f : PV → PV} (hi : i < env.length) : ∀ {ds : List PV}, (∀ d ∈ ds, te (env.set i (.pv d)) = .ok (f d)) → lcGo (tgN i) dYes te env ds = .ok (ds.map f)
  | [], _ => rfl
  | d :: ds, h => by
    rw [lcGo]
    simp only [tgN, if_pos hi, dYes, R.bind_ok]
    rw [h d List.mem_cons_self, lc_map hi fun x hx => h x (List.mem_cons_of_mem _ hx)]
    rfl
theorem dLc_map {vs : List Nat} {i : Nat} {te : Fm → R PV} {src : Fm → R (List PV)} {env : Fm} {ds : List PV} (f : PV → PV) (hs : src env = .ok ds) (hz : ds.length ≤ sizeLine) (hi : i < env.length) (h : ∀ d ∈ ds, te ((clr env vs).set i (.pv d)) = .ok (f d)) :
    dLc vs (tgN i) dYes te src env = .ok (ds.map f) := by
  unfold dLc
  rw [hs]
  simp only [R.bind_ok, if_pos hz]
  rw [lc_map (by rw [clr_len]; exact hi) h]
  rfl
theorem for_fold {α : Type} {t : Tgt} {body : Fm → RS} {wp : List Nat} (P : α → Fm) (step : α → PV → α) : ∀ (ds : List PV) (a : α), (∀ a d, d ∈ ds → ∃ e1 e2, t d (P a) = some e1 ∧ (body e1 = .nx e2 ∨ body e1 = .ct e2) ∧ clr e2 wp = P (step a d)) → forGo t body wp ds (P a) = .nx (P (ds.foldl step a))
  | [], a, _ => rfl
  | d :: ds, a, h => by
    obtain ⟨e1, e2, h1, h2, h3⟩ := h a d List.mem_cons_self
    rw [forGo, h1]
    have ih := for_fold P step ds (step a d) fun b x hx => h b x (List.mem_cons_of_mem _ hx)
    rcases h2 with h2 | h2
    · simp only [h2, h3]
      exact ih
    · simp only [h2, h3]
      exact ih
theorem for_inv {t : Tgt} {body : Fm → RS} {wp : List Nat} : ∀ (ds : List PV) (Jv : Nat → Fm → Prop) (e0 : Fm), Jv 0 e0 → (∀ i e d, ds[i]? = some d → Jv i e → ∃ e1 e2, t d e = some e1 ∧ (body e1 = .nx e2 ∨ body e1 = .ct e2) ∧ Jv (i + 1) (clr e2 wp)) → ∃ e', forGo t body wp ds e0 = .nx e' ∧ Jv ds.length e'
  | [], Jv, e0, h0, _ => ⟨e0, rfl, h0⟩
  | d :: ds, Jv, e0, h0, hs => by
    obtain ⟨e1, e2, h1, h2, h3⟩ := hs 0 e0 d rfl h0
    obtain ⟨e', r1, r2⟩ := for_inv (t := t) (body := body) (wp := wp) ds (fun i e => Jv (i + 1) e) (clr e2 wp) h3 (fun i e x hx hi => hs (i + 1) e x (by simpa using hx) hi)
    refine ⟨e', ?_, r2⟩
    rw [forGo, h1]
    rcases h2 with h2 | h2
    · simp only [h2]; exact r1
    · simp only [h2]; exact r1
theorem shaped_of {d : PyData} (h1 : d.canLay0 = true) (h2 : d.depth ≤ 64) : SeqAt.shaped d = true := by
  unfold SeqAt.shaped
  rw [h1, decide_eq_true h2]
  rfl
theorem eq_rng (n : Nat) : (List.range n).map (fun (k : Nat) => PV.int (0 + (k : Int))) = (List.range n).map fun (k : Nat) => PV.int (k : Int) := by
  congr 1
  funext k
  rw [Int.zero_add]
section
variable (env : Fm)
@[simp] theorem dV_ap (i : Nat) : dV i env = match env[i]? with | some (.pv d) => .ok d | _ => .bad := rfl
@[simp] theorem dR_ap (i : Nat) : dR i env = match env[i]? with | some (.pv d) => .ok d | some (.own l) => .ok (.lst l) | some (.byr l) => .ok (.lst l) | some (.dic ks vs) => .ok (.dct ks vs) | some (.lck ks vs) => .ok (.dct ks vs) | _ => .bad := rfl
@[simp] theorem dC_ap (d : PV) : dC d env = .ok d := rfl
@[simp] theorem d1_ap {α : Type} (f : PV → Option α) (a : Fm → R PV) : d1 f a env = (a env).bind fun x => ofO (f x) := rfl
@[simp] theorem d2_ap {α : Type} (f : PV → PV → Option α) (a b : Fm → R PV) : d2 f a b env = (a env).bind fun x => (b env).bind fun y => ofO (f x y) := rfl
@[simp] theorem dNil_ap : dNil env = .ok [] := rfl
@[simp] theorem dCons_ap (a : Fm → R PV) (r : Fm → R (List PV)) : dCons a r env = (a env).bind fun x => (r env).bind fun xs => .ok (x :: xs) := rfl
@[simp] theorem dL_ap (d : Fm → R (List PV)) : dL d env = (d env).bind fun l => .ok (.lst l) := rfl
@[simp] theorem dTup_ap (d : Fm → R (List PV)) : dTup d env = (d env).bind fun l => if l.length ≤ sizeLine then .ok (.tup l) else .bad := rfl
@[simp] theorem dLst_ap (d : Fm → R (List PV)) : dLst d env = (d env).bind fun l => if l.length ≤ sizeLine then .ok l else .bad := rfl
@[simp] theorem dCall_ap {α : Type} (f : List PV → R α) (d : Fm → R (List PV)) : dCall f d env = (d env).bind f := rfl
@[simp] theorem dB_ap (d : Fm → R PV) : dB d env = (d env).bind fun v => match v with | .bl b => .ok b | _ => .bad := rfl
@[simp] theorem dBv_ap (d : Fm → R Bool) : dBv d env = (d env).bind fun b => .ok (.bl b) := rfl
@[simp] theorem dIf_ap {α : Type} (c : Fm → R Bool) (a b : Fm → R α) : dIf c a b env = (c env).bind fun k => match k with | true => a env | false => b env := rfl
@[simp] theorem dAnd_ap (a b : Fm → R Bool) : dAnd a b env = (a env).bind fun k => match k with | true => b env | false => .ok false := rfl
@[simp] theorem dOr_ap (a b : Fm → R Bool) : dOr a b env = (a env).bind fun k => match k with | true => .ok true | false => b env := rfl
@[simp] theorem dNot_ap (a : Fm → R Bool) : dNot a env = (a env).bind fun k => .ok (!k) := rfl
@[simp] theorem dChain_ap (f g : PV → PV → Option Bool) (a b c : Fm → R PV) : dChain f g a b c env = (a env).bind fun x => (b env).bind fun y => (ofO (f x y)).bind fun k => match k with | true => (c env).bind fun z => ofO (g y z) | false => .ok false := rfl
@[simp] theorem dAndV_ap (a b : Fm → R PV) : dAndV a b env = (dB a env).bind fun k => match k with | true => b env | false => .ok (.bl false) := rfl
@[simp] theorem dOrV_ap (a b : Fm → R PV) : dOrV a b env = (dB a env).bind fun k => match k with | true => .ok (.bl true) | false => b env := rfl
@[simp] theorem dNotV_ap (a : Fm → R PV) : dNotV a env = (dB a env).bind fun k => .ok (.bl (!k)) := rfl
@[simp] theorem dSl_ap {α : Type} (f : PV → Option Int → Option Int → Option α) (a : Fm → R PV) (l h : Fm → R (Option Int)) : dSl f a l h env = (a env).bind fun x => (l env).bind fun l => (h env).bind fun h => ofO (f x l h) := rfl
@[simp] theorem dNo_ap : dNo env = .ok none := rfl
@[simp] theorem dSo_ap (d : Fm → R PV) : dSo d env = (d env).bind fun v => match v with | .int i => .ok (some i) | _ => .bad := rfl
@[simp] theorem dYes_ap : dYes env = .ok true := rfl
@[simp] theorem dSeq_ap (a b : Fm → RS) : dSeq a b env = match a env with | .nx e => b e | r => r := rfl
@[simp] theorem dSkip_ap : dSkip env = .nx env := rfl
@[simp] theorem dSet_ap (i : Nat) (d : Fm → R PV) : dSet i d env = match d env with | .ok v => if i < env.length then .nx (env.set i (.pv v)) else .bad | .ex e => .ex e env | .bad => .bad := rfl
@[simp] theorem dSetF_ap (i : Nat) (d : Fm → R (List PV)) : dSetF i d env = match d env with | .ok v => if i < env.length then .nx (env.set i (.own v)) else .bad | .ex e => .ex e env | .bad => .bad := rfl
@[simp] theorem dRet_ap (d : Fm → R PV) : dRet d env = match d env with | .ok v => .rt v | .ex e => .ex e env | .bad => .bad := rfl
@[simp] theorem dRetF_ap (d : Fm → R (List PV)) : dRetF d env = match d env with | .ok v => .rf v | .ex e => .ex e env | .bad => .bad := rfl
@[simp] theorem dRetO_ap (i : Nat) : dRetO i env = match env[i]? with | some (.own l) => .rf l | _ => .bad := rfl
@[simp] theorem dIfS_ap (c : Fm → R Bool) (a b : Fm → RS) : dIfS c a b env = match c env with | .ok true => a env | .ok false => b env | .ex e => .ex e env | .bad => .bad := rfl
@[simp] theorem dExpr_ap (d : Fm → R PV) : dExpr d env = match d env with | .ok _ => .nx env | .ex e => .ex e env | .bad => .bad := rfl
@[simp] theorem dApp_ap (i : Nat) (d : Fm → R PV) : dApp i d env = match env[i]? with | some (.own l) => (match d env with | .ok v => if l.length < sizeLine then .nx (env.set i (.own (l ++ [v]))) else .bad | .ex e => .ex e env | .bad => .bad) | _ => .bad := rfl
@[simp] theorem dExt_ap (i : Nat) (d : Fm → R PV) : dExt i d env = match env[i]? with | some (.own l) => (match d env with | .ok (.lst m) => if l.length + m.length ≤ sizeLine then .nx (env.set i (.own (l ++ m))) else .bad | .ok _ => .bad | .ex e => .ex e env | .bad => .bad) | _ => .bad := rfl
@[simp] theorem dFrz_ap (i : Nat) (d : Fm → RS) : dFrz i d env = d (frzS i env) := rfl
@[simp] theorem frzS_ap (i : Nat) : frzS i env = match env[i]? with | some (.own l) => env.set i (.pv (.lst l)) | some (.dic ks vs) => env.set i (.pv (.dct ks vs)) | _ => env := rfl
@[simp] theorem toV_nx (e : Fm) : toV (.nx e) = .ok .non := rfl
@[simp] theorem toV_rt (v : PV) : toV (.rt v) = .ok v := rfl
@[simp] theorem toV_rm (v : PV) (e : Fm) : toV (.rm v e) = .ok v := rfl
@[simp] theorem toV_ex (x : Ex) (e : Fm) : toV (.ex x e) = .ex x := rfl
@[simp] theorem toV_bad : toV .bad = .bad := rfl
@[simp] theorem toF_rf (v : List PV) : toF (.rf v) = .ok v := rfl
@[simp] theorem toF_ex (x : Ex) (e : Fm) : toF (.ex x e) = .ex x := rfl
@[simp] theorem clr_nil : clr env [] = env := rfl
@[simp] theorem clr_cons (i : Nat) (r : List Nat) : clr env (i :: r) = (clr env r).set i .un := rfl
end
@[simp] theorem tgN_ap (i : Nat) (d : PV) (env : Fm) : tgN i d env = if i < env.length then some (env.set i (.pv d)) else none := rfl
@[simp] theorem pAdd_ii (i j : Int) : pAdd (.int i) (.int j) = some (.int (i + j)) := rfl
@[simp] theorem pAdd_ss (a b : Str) : pAdd (.str a) (.str b) = if a.length + b.length ≤ sizeLine then some (.str (a ++ b)) else none := rfl
@[simp] theorem pAdd_tt (a b : List PV) : pAdd (.tup a) (.tup b) = if a.length + b.length ≤ sizeLine then some (.tup (a ++ b)) else none := rfl
@[simp] theorem fCat_ll (a b : List PV) : fCat (.lst a) (.lst b) = if a.length + b.length ≤ sizeLine then some (a ++ b) else none := rfl
@[simp] theorem pSub_ii (i j : Int) : pSub (.int i) (.int j) = some (.int (i - j)) := rfl
@[simp] theorem pMul_ii (i j : Int) : pMul (.int i) (.int j) = if mulB i j = true then some (.int (i * j)) else none := rfl
@[simp] theorem pMod_ii (i j : Int) : pMod (.int i) (.int j) = if 0 < j then some (.int (i % j)) else none := rfl
theorem pDiv_ii (i j : Int) : pDiv (.int i) (.int j) = if 0 < j ∧ j.natAbs.log2 < 9000 then some (.int (i / j)) else none := rfl
theorem log2_small {n : Nat} (h : n < 9000) : n.log2 < 9000 := Nat.lt_of_le_of_lt (Nat.log2_le_self n) h
theorem pDiv_small {i j : Int} (h0 : 0 < j) (h : j < 9000) : pDiv (.int i) (.int j) = some (.int (i / j)) := by
  rw [pDiv_ii, if_pos ⟨h0, log2_small (by omega)⟩]
@[simp] theorem pNeg_i (i : Int) : pNeg (.int i) = some (.int (-i)) := rfl
@[simp] theorem pLt_ii (i j : Int) : pLt (.int i) (.int j) = some (decide (i < j)) := rfl
@[simp] theorem pLe_ii (i j : Int) : pLe (.int i) (.int j) = some (decide (i ≤ j)) := rfl
@[simp] theorem pGt_ii (i j : Int) : pGt (.int i) (.int j) = some (decide (j < i)) := rfl
theorem sh_int (i : Int) : SeqAt.shaped (.int i) = true := shaped_of (by simp only [PyData.canLay0]) (by simp only [PyData.depth]; omega)
theorem strOk_mk {l : List Nat} (h : ∀ c ∈ l, c < 1114112) : PyData.strOk (mk l) = true := by
  unfold PyData.strOk
  rw [mk_cpsA, Array.all_eq_true]
  intro i hi
  simp only [List.getElem_toArray]
  exact decide_eq_true (h _ (List.getElem_mem _))
theorem sh_str {l : List Nat} (h : ∀ c ∈ l, c < 1114112) : SeqAt.shaped (.str (mk l)) = true := shaped_of (by simp only [PyData.canLay0]; exact strOk_mk h) (by simp only [PyData.depth]; omega)
@[simp] theorem pEq_ii (i j : Int) : pEq (.int i) (.int j) = some (decide (i = j)) := by
  unfold pEq
  simp only [toD, sh_int, PyData.eqv]
  rfl
@[simp] theorem pNe_ii (i j : Int) : pNe (.int i) (.int j) = some (!decide (i = j)) := by
  unfold pNe
  simp only [toD, sh_int, PyData.eqv]
  rfl
theorem pEq_ss {a b : List Nat} (ha : ∀ c ∈ a, c < 1114112) (hb : ∀ c ∈ b, c < 1114112) : pEq (.str (mk a)) (.str (mk b)) = some (decide (a = b)) := by
  unfold pEq
  simp only [toD, sh_str ha, sh_str hb, PyData.eqv, mk_beq]
  rfl
theorem pNe_ss {a b : List Nat} (ha : ∀ c ∈ a, c < 1114112) (hb : ∀ c ∈ b, c < 1114112) : pNe (.str (mk a)) (.str (mk b)) = some (!decide (a = b)) := by
  unfold pNe
  simp only [toD, sh_str ha, sh_str hb, PyData.eqv, mk_beq]
  rfl
@[simp] theorem pIdx_l (l : List PV) (i : Int) : pIdx (.lst l) (.int i) = L2.atI l i := rfl
@[simp] theorem pIdx_t (l : List PV) (i : Int) : pIdx (.tup l) (.int i) = L2.atI l i := rfl
@[simp] theorem pIdx_c (l : List Int) (i : Int) : pIdx (.scr l) (.int i) = (L2.atI l i).map .int := rfl
@[simp] theorem pLen_l (l : List PV) : pLen [.lst l] = some (.int l.length) := rfl
@[simp] theorem pLen_t (l : List PV) : pLen [.tup l] = some (.int l.length) := rfl
@[simp] theorem pLen_c (l : List Int) : pLen [.scr l] = some (.int l.length) := rfl
@[simp] theorem pAbs_i (i : Int) : pAbs [.int i] = some (.int i.natAbs) := by
  show some (PV.int (if i < 0 then -i else i)) = _
  congr 2
  split <;> omega
@[simp] theorem pMin2_ii (i j : Int) : pMin2 [.int i, .int j] = some (.int (min i j)) := by
  show some (PV.int (if j < i then j else i)) = _
  congr 2
  rw [Int.min_def]
  split <;> split <;> omega
@[simp] theorem pMax2_ii (i j : Int) : pMax2 [.int i, .int j] = some (.int (max i j)) := by
  show some (PV.int (if j > i then j else i)) = _
  congr 2
  rw [Int.max_def]
  split <;> split <;> omega
@[simp] theorem pInt1_i (i : Int) : pInt1 [.int i] = some (.int i) := rfl
@[simp] theorem pInt1_b (k : Bool) : pInt1 [.bl k] = some (.int (if k then 1 else 0)) := rfl
@[simp] theorem pOrd_c (c : Nat) : pOrd [chr1 c] = some (.int (c : Int)) := rfl
@[simp] theorem pTuple_l (l : List PV) : pTuple [.lst l] = some (.tup l) := rfl
@[simp] theorem pIsN_ap (a : PV) : pIsN a = some (isNon a) := rfl
@[simp] theorem pNotN_ap (a : PV) : pNotN a = some (!isNon a) := rfl
@[simp] theorem isNon_non : isNon .non = true := rfl
@[simp] theorem lstIt_l (l : List PV) : lstIt (.lst l) = some l := rfl
@[simp] theorem tupIt_t (l : List PV) : tupIt (.tup l) = some l := rfl
@[simp] theorem strIt_s (l : List Nat) : strIt (.str (mk l)) = some (l.map chr1) := by
  show some ((mk l).cps.toList.map chr1) = _
  rw [mk_cps]
theorem rg1 {n : Nat} (h : n ≤ 1000) : rgIt1 [.int (n : Int)] = some ((List.range n).map fun (k : Nat) => PV.int (k : Int)) := by
  have c : smI (n : Int) = true := smI_of (by omega)
  simp only [rgIt1]
  rw [if_pos c, eq_rng, Int.toNat_natCast]
theorem ints_map (l : List Int) : intsOf (l.map .int) = some l := by
  induction l with
  | nil => rfl
  | cons a l ih => simp only [List.map_cons, intsOf, ih, Option.map_some]
theorem bls_map (l : List Bool) : blsOf (l.map .bl) = some l := by
  induction l with
  | nil => rfl
  | cons a l ih => simp only [List.map_cons, blsOf, ih, Option.map_some]
theorem strs_map (l : List Str) : strsOf (l.map .str) = some l := by
  induction l with
  | nil => rfl
  | cons a l ih => simp only [List.map_cons, strsOf, ih, Option.map_some]
theorem pSum_m (l : List Int) : pSum [.lst (l.map .int)] = some (.int l.sum) := by
  show (intsOf (l.map .int)).map _ = _
  rw [ints_map]; rfl
theorem pAll_m (l : List Bool) : pAll [.lst (l.map .bl)] = some (.bl (l.all id)) := by
  show (blsOf (l.map .bl)).map _ = _
  rw [bls_map]; rfl
theorem pAny_m (l : List Bool) : pAny [.lst (l.map .bl)] = some (.bl (l.any id)) := by
  show (blsOf (l.map .bl)).map _ = _
  rw [bls_map]; rfl
theorem pSum_f {α : Type} (f : α → Int) (l : List α) : pSum [.lst (l.map (PV.int ∘ f))] = some (.int (l.map f).sum) := by
  rw [← List.map_map, pSum_m]
theorem sz {n : Nat} (h : n ≤ 100000) : n ≤ sizeLine := by rw [sizeLine_eq]; omega
theorem szl {n : Nat} (h : n ≤ 100000) : n < sizeLine := by rw [sizeLine_eq]; omega
end Pv
set_option Elab.async false
set_option linter.all false
set_option maxRecDepth 100000
set_option maxHeartbeats 2000000
namespace Pv
open PySem PySem.Spec PyProof.Rows L2
variable [TabCx]
structure Exc1 (K : PySem.W.Frag) (mg : Str → Option Value) (n : Str) : Prop where
  ex : ∃ C, mg n = some (.ref C) ∧ PySem.W.excIn K C He.veBase "ValueError.__new__" = true ∧ PySem.W.keepIn K (.ref C) = true ∧ PySem.W.subIn K (.ref C) (.type "BaseException") = some true ∧ PySem.W.typeIn K (.ref C) = some (.type "type")
def dRaise (e : Ex) : Fm → RS := fun env => .ex e env
theorem s_raise {X : Cx} {W : WX} {x m : Str} {j : Nat} {p p2 pos pos' : Pos} (T : Exc1 X.K X.mg x) (hc : X.calm = true) (tk : L2C.Takes X W) (hg : Gl X x := by rfl) (hdb : (x == ("__debug__" : Str)) = false := by decide) :
    PS X (.Raise (some (.Call (.Name x p) [.Constant (.str m) j p2] [] pos)) none pos') (xS X W (dRaise (.cls x))) := by
  obtain ⟨C, gC, q, kC, s1, t1⟩ := T.ex
  exact PS.imp (L2C.ps_raise hc tk (L2N.pmk_own PySem.F.excBase_ValueError q gC kC (raises_own s1 t1) hg hdb)) fun D σ H ⟨B, F, env, fs, p⟩ => p (.ref C) none σ F H fs ⟨C, gC, rfl, rfl⟩
def lamN (X : Cx) (A : Around) (outer : List Env) (s : Shared) (H : Hp) (E : XK) (scope : Scope) (f c' : Addr) : Cx :=
  (LamX.lamCx X A outer s H E scope f c').tr [] fun e s' => wpAny (model X.prog X.w) (A.deeper (LamX.lamEnv X scope s.heap.objs.size f c')) (leaving (LamX.lamEnv X scope s.heap.objs.size f c') e) (fun _ s'' => L2C.CX X.prog X.w outer H s E e s'') (fun e' s'' => L2C.CX X.prog X.w outer H s E e' s'') s'
theorem lamN_takes {X : Cx} {A : Around} {outer : List Env} {s : Shared} {H : Hp} {E : XK} {scope : Scope} {f c' : Addr} : L2C.Takes (lamN X A outer s H E scope f c') (wE E) := L2C.takes_of rfl rfl rfl rfl
section
variable {X : Cx} {pins : List (Addr × Obj)} {σ : L2.St} {H HZ : Hp} {s s1 : Shared}
theorem act_N {CXg : CXT} {Eg : XK} {Ng : List Str} {qg : Str} {sg : Scope} {g f c' : Addr} {cdg pm ctv : Value} {params : Arguments} {body : Expr} {scope : Scope} {k i : Nat} {a : Str} {pn : List (Addr × Obj)} {xe : Value → Shared → Prop} {W : WX} {E : XK} {tb : TE} {p1 p2 : Pos}
    (I : Inv X pins σ H s) (L : LamX.LamS X.env.scope scope) (hf : s.heap.get? f = some (PySem.W.kla_obj "<lambda>" (X.env.qual ++ "<lambda>") params body scope (cloFrom X.env.cells scope.names []) pm c' ctv)) (hfn : H f = none) (hfr : f ∉ frs X.stack)
    (hbind : bindArgs (PySem.W.kla_fn "<lambda>" (X.env.qual ++ "<lambda>") params body scope (cloFrom X.env.cells scope.names []) pm (.ref c') ctv) ⟨[], []⟩ = pure [])
    (tk : L2C.Takes ((cxOf CXg X.prog X.w X.K X.mg X.base Ng qg sg g cdg X.A X.stack s H Eg).tr pn xe) W) (hW : ∀ cls d σ' H', E cls d H' → W cls d σ' H') (hr : Room (k + 1) (X.A.deeper (envOfC qg sg s.heap.objs.size g cdg)))
    (hbody : ∀ (A : Around) (outer : List Env) (s : Shared) (H : Hp), Room k (A.deeper (LamX.lamEnv X scope s.heap.objs.size f c')) → PE (lamN X A outer s H E scope f c') body tb)
    (hN : Ng[i]? = some a) (hv : Vis sg a) (hd : (a == ("__debug__" : Str)) = false := by decide) (hcd : (a == ("__classdict__" : Str)) = false := by decide) :
    PE ((cxOf CXg X.prog X.w X.K X.mg X.base Ng qg sg g cdg X.A X.stack s H Eg).tr pn xe) (.Call (.Name a p1) [] [] p2)
      (fun σZ HZ Q => σZ[i]? = some (some (.ref f)) ∧ HZ c' = some (LamX.CodeO c' (X.env.qual ++ "<lambda>")) ∧ tb σ HZ Q) := by
  refine ⟨fun pinsZ sZ σZ HZ Q IZ h => ?_⟩
  obtain ⟨hs, hc, ht⟩ := h
  refine wpAny_Call_Name_kw (thn ((pe_var (pos := p1) (i := i) hN hv hd hcd).run pinsZ sZ σZ HZ (fun v H1 => v = .ref f ∧ H1 = HZ) IZ ⟨.ref f, hs, rfl, rfl⟩) fun u s1 ⟨v, H1, I1, r1, q1⟩ => ?_)
  obtain ⟨ev, eH⟩ := q1
  subst ev
  rw [eH] at I1
  obtain rfl : u = Value.ref f := r1
  have of1 := I1.base.keep f _ hf hfn hfr (fun z => nomatch (show f ∈ ([] : List Addr) from z))
  refine PySem.W.callWith_F0 ⟨_, _, _, _, of1⟩ ?_
  have un : Un (frs X.stack) [] H HZ s.heap s1.heap := I1.base
  obtain ⟨⟨oc, vs, t, hoc, hdc, hvc⟩, _, _⟩ := I1.hok c' _ hc
  have rc : codeAny (model X.prog X.w) (X.A.deeper (envOfC qg sg s.heap.objs.size g cdg)) (.call (.ref f) ⟨[], []⟩) (CR (L2C.CX X.prog X.w) (envOfC qg sg s.heap.objs.size g cdg :: X.stack) X.prog X.w HZ s1 Q E) s1 := by
    refine PySem.W.kla_callFunE hr.depth of1 rfl L.co L.gen rfl ⟨c', oc, vs, t, rfl, hoc, hdc, hvc⟩ ?_
    rw [hbind]
    refine wpAny_pure (wpAny_newFunctionEnv (fun y hy => (L.own y hy).2) (fun y hy => absurd hy (by simp)) (fun h₁ hns hsb => ⟨I1.nolimit.fresh _ hsb, ?_⟩) L.kind)
    show codeAny _ _ (.expr body (LamX.lamEnv X scope s1.heap.objs.size f c')) _ _
    have kp : ∀ b o, s1.heap.get? b = some o → h₁.get? b = some o := fun b o e => hsb.extBut b o (Nat.ne_of_lt (Heap.lt_size e)) (Heap.get?_push_of_some _ e)
    have J := (LamX.lam_start2 (E := E) (f := f) (c' := c') (tk := s1.toks + ([] : List (Str × Value)).length) I L I1.env0 hr.hd un hns kp).toTry (pins := []) fun e s' => wpAny (model X.prog X.w) ((X.A.deeper (envOfC qg sg s.heap.objs.size g cdg)).deeper (LamX.lamEnv X scope s1.heap.objs.size f c')) (leaving (LamX.lamEnv X scope s1.heap.objs.size f c') e) (fun _ s'' => L2C.CX X.prog X.w (envOfC qg sg s.heap.objs.size g cdg :: X.stack) HZ s1 E e s'') (fun e' s'' => L2C.CX X.prog X.w (envOfC qg sg s.heap.objs.size g cdg :: X.stack) HZ s1 E e' s'') s'
    refine PySem.W.kla_codeExpr (wpAny_mono ((hbody _ _ s1 HZ (hr.deeper _)).run [] _ _ HZ Q J ht) (fun v s' hq => ?_) fun e s' hq => hq)
    obtain ⟨w', H', J', rv, q⟩ := hq
    exact ⟨w', H', J'.os, J'.bare, J'.base, J'.hok, rv, q⟩
  have hx : Passes (L2C.CX X.prog X.w) ((cxOf CXg X.prog X.w X.K X.mg X.base Ng qg sg g cdg X.A X.stack s H Eg).tr pn xe) E := L2C.passes_call tk hW
  refine wpAny_call (codeAny_mono rc fun r s' hq => ?_)
  cases r with
  | error e => exact hx pinsZ σZ HZ s1 e s' I1 hq
  | ok fl =>
    cases fl with
    | ret u => exact I1.after hq
    | next => exact False.elim hq
    | brk => exact False.elim hq
    | cont => exact False.elim hq
end
def Gives (P : Program) (w : World) (K : PySem.W.Frag) (mg : Str → Option Value) (base : Heap) (j : Nat) (Ng : List Str) (x : Str) (sg : Scope) (g : Addr) (cdg : Value) (bg : List Stmt) (a : Str) (TT : (XK → Hp → VK → Prop) → Hp → VK → Prop) : Prop :=
  ∀ (q : Str) (A : Around) (stack : List Env) (f c' : Addr) (s : Shared) (H : Hp) (Q : VK) (tl : XK → Hp → VK → Prop), Room j (A.deeper (envOfC x sg s.heap.objs.size g cdg)) →
    (∀ (W : WX) (pn : List (Addr × Obj)) (xe : Value → Shared → Prop) (E : XK) (p1 p2 : Pos), L2C.Takes ((cxOf C8.CX0 P w K mg base Ng x sg g cdg A stack s H C8.E0).tr pn xe) W → (∀ cls d σ' H', E cls d H' → W cls d σ' H') →
      PE ((cxOf C8.CX0 P w K mg base Ng x sg g cdg A stack s H C8.E0).tr pn xe) (.Call (.Name a p1) [] [] p2) (fun σZ HZ Q => σZ[0]? = some (some (.ref f)) ∧ HZ c' = some (LamX.CodeO c' q) ∧ tl E HZ Q)) →
    H c' = some (LamX.CodeO c' q) → TT tl H Q →
    ∃ t, PSs (cxOf C8.CX0 P w K mg base Ng x sg g cdg A stack s H C8.E0).nox bg t ∧ t { nx := fun _ H' => Q .non H', rt := Q } (L2.start Ng [.ref f]) H
def wordOf : Ex → PV
  | .cls n => .tup [.str "refused", .str n]
  | .trb a b => .tup [.str "refused", a, b]
def goodEx : Ex → Bool
  | .cls n => (["BadValue", "BadSteps", "BadHouse", "BadName", "BadChoice", "BadRecord"] : List Str).contains n
  | .trb _ _ => true
def TTold (K : PySem.W.Frag) (mg : Str → Option Value) : (XK → Hp → VK → Prop) → Hp → VK → Prop := fun tl H Q =>
  tl (fun cls dd H' => ∃ F' e, Fz F' H' ∧ RepX K mg F' e cls dd ∧ goodEx e = true ∧ GV K F' H' Q (wordOf e)) H Q
structure Told (P : Program) (w : World) (K : PySem.W.Frag) (mg : Str → Option Value) (base : Heap) (j : Nat) (x : Str) : Prop where
  ex : ∃ (g : Addr) (pg : Arguments) (bg : List Stmt) (sg : Scope) (dV kV doc pm cdv ct oc : Value) (an od : Option Addr) (osl : Array (Option Value)) (Ng : List Str) (a : Str),
    mg x = some (.ref g) ∧ PySem.W.keepIn K (.ref g) = true ∧ K.lookup g = some ⟨oc, od, .func (PySem.W.fnOf x x pg bg sg dV kV doc pm an cdv ct), osl⟩ ∧ PySem.W.codeIn K cdv x = true ∧ L2.Binds K (PySem.W.fnOf x x pg bg sg dV kV doc pm an cdv ct) [a] [] ∧ FnScope Ng [a] sg ∧ Ng[0]? = some a ∧ Vis sg a ∧
      (a == ("__debug__" : Str)) = false ∧ (a == ("__classdict__" : Str)) = false ∧ Gives P w K mg base j Ng x sg g cdv bg a (TTold K mg)
structure LamAt (base : Heap) (mg : Str → Option Value) (code : Value) (q : Str) : Prop where
  ex : ∃ c P, code = .ref c ∧ LamX.TabB base mg c P ∧ (P, q) ∈ TabCx.T ∧ ∀ p ∈ TabCx.T, p.1 = P → p.2 = q
def dTold (d : Fm → R PV) : Fm → R PV := fun env => match d env with
  | .ok v => .ok v
  | .ex e => if goodEx e = true then .ok (wordOf e) else .bad
  | .bad => .bad
theorem v_told {X : Cx} {W : WX} {x : Str} {j k jj : Nat} {params : Arguments} {body : Expr} {scope : Scope} {d : Fm → R PV} {p lpos pos : Pos} (T : Told X.prog X.w X.K X.mg X.base jj x) (LA : LamAt X.base X.mg X.env.code (X.env.qual ++ "<lambda>")) (hr : Room j X.A) (L : LamX.LamS X.env.scope scope)
    (hbody : ∀ (A : Around) (outer : List Env) (s : Shared) (H : Hp) (E : XK) (f c' : Addr), Room k (A.deeper (LamX.lamEnv X scope s.heap.objs.size f c')) → PE (lamN X A outer s H E scope f c') body (xV X (wE E) d))
    (hk : k + 2 ≤ j := by omega) (hjj : jj + 1 ≤ j := by omega) (hg : Gl X x := by rfl) (hdef : defaultsOf params X.env = ([], []) := by rfl)
    (hbind : ∀ (q : Str) (cl : List (Str × Addr)) (pm cv ctv : Value), bindArgs (PySem.W.kla_fn "<lambda>" q params body scope cl pm cv ctv) ⟨[], []⟩ = pure [] := by intros; rfl) (hdb : (x == ("__debug__" : Str)) = false := by decide) :
    PE X (.Call (.Name x p) [.Lambda params body scope lpos] [] pos) (xV X W (dTold d)) := by
  obtain ⟨g, pg, bg, sg, dV, kV, doc, pm, cdv, ct, oc, an, od, osl, Ng, a, hm, hkp, lk, hcg, hb, Sg, hNg, hva, hd, hcd, hG⟩ := T.ex
  obtain ⟨c, P, hcode, TB, hmT, hu⟩ := LA.ex
  refine ⟨fun pins s σ H Q I h => ?_⟩
  obtain ⟨F, env, ok, h⟩ := h
  refine wpAny_Call_Name_kw (ld_glob I hg hm ?_ hdb)
  refine PySem.W.callWith_K (h₀ := X.base) I.ok.mod.kin hkp ?_ (by rfl) (by rfl)
  show wpAny _ _ (spliced ((false, eval (.Lambda params body scope lpos) X.env) :: backTo pos (starEach [] X.env))) _ _ s
  refine Calls.spliced_cons (LamX.lam_make2 I TB hcode hmT hu ok.s0.tabs hdef (L.has I.ok) fun f c' pm' ctv H1 s' I1 eN T1 hf hfn hfr hco => ?_)
  refine Calls.spliced_nil ⟨I1.kIn, ?_⟩
  have st : Step F H F H1 := ⟨ok.s0, Same.refl _, ⟨fun b o e => eN b o (ok.s0.up e) (ok.s0.noT b o e), T1, ok.s0.noT⟩, fun b o e n t => ⟨eN b o e t, n⟩⟩
  have tl0 : xV X (wE fun cls dd H' => ∃ F' e, Fz F' H' ∧ RepX X.K X.mg F' e cls dd ∧ goodEx e = true ∧ GV X.K F' H' Q (wordOf e)) d σ H1 Q := by
    refine ⟨F, env, ok.step st, ?_⟩
    unfold dTold at h
    cases q : d env with
    | ok v => rw [q] at h; exact GV.step h st
    | ex e =>
      rw [q] at h
      simp only at h
      split at h
      · rename_i hge
        exact fun cls dd F' H' st' r => ⟨F', e, st'.s2, r, hge, GV.step h (st.trans st')⟩
      · exact h.elim
    | bad => rw [q] at h; exact h
  have rc : codeAny (model X.prog X.w) X.A (.call (.ref g) ⟨[.ref f], []⟩) (CR C8.CX0 X.stack X.prog X.w H1 s' Q C8.E0) s' := by
    refine LamX.run_ofS (N := Ng) (ps := [a]) (us := [.ref f]) (vs := [.ref f]) (k := j - 1) lk hcg Sg (hr.mono (by omega)) I1.env0 (hb s' [.ref f] I1.kIn rfl) (.cons rfl .nil) rfl fun hr' => ?_
    obtain ⟨t', ht', hq'⟩ := hG (X.env.qual ++ "<lambda>") X.A X.stack f c' s' H1 Q (fun E H' Q' => xV X (wE E) d σ H' Q') (hr'.mono (by omega)) (fun W pn xe E p1 p2 tk hW => act_N (k := k) (i := 0) I1 L hf hfn hfr (hbind _ _ _ _ _) tk hW (hr'.mono (by omega)) (fun A outer s H hr2 => hbody A outer s H E f c' hr2) hNg hva hd hcd) hco tl0
    exact ⟨t', ht'.nox, hq'⟩
  refine wpAny_call (codeAny_mono rc fun r s2 hq => ?_)
  cases r with
  | error e => exact (show False from hq).elim
  | ok fl =>
    cases fl with
    | ret u => exact I1.after hq
    | next => exact False.elim hq
    | brk => exact False.elim hq
    | cont => exact False.elim hq
end Pv
set_option Elab.async false
set_option linter.all false
set_option maxRecDepth 100000
set_option maxHeartbeats 2000000
namespace Pv
open PySem PySem.Spec PyProof.Rows L2 L2H HotX L2C
section
variable {prog : Program} {w : World} {A : Around} {E : Value → Shared → Prop} {s : Shared}
theorem list_end_hot {it l : Addr} {nd : List (Addr × Obj)} {i : Nat} {items} {Q : Option Value → Shared → Prop} (hot : HotN A nd) (hk0 : ∀ q ∈ nd, s.heap.get? q.1 = some q.2) (hit : s.heap.IsListIter it l i) (hl : s.heap.IsList l items) (hx : items[i]? = none)
    (hQ : ∀ h', (∀ b o, b ≠ it → s.heap.get? b = some o → h'.get? b = some o) → Q none { s with heap := h' }) : wpAny (model prog w) A (pyNext (.ref it)) Q E s := by
  obtain ⟨o, ho, hc, hd⟩ := id hit
  obtain ⟨ol, hol, _, nl, hdl⟩ := hl
  have hne : ∀ q ∈ nd, q.1 ≠ it := fun q hq z => by
    have e1 := hk0 q hq
    rw [z, ho] at e1
    obtain ⟨vs, e2, e3⟩ := hot.big q hq
    rw [← Option.some.inj e1, hd] at e2
    cases e2
    exact absurd e3 (by simp)
  unfold pyNext
  refine wpAny_bind (wpAny_attempt (wpAny_callSpecial?_slot (name := Str.ofString "__next__") hit.typeIs slot_listiter_next
    (wpAny_call_entry slot_listiter_next hit.typeIs entry_listiter_next ?_ (args_listiter_next _))))
  show wpAny _ _ (field (.ref it) 0 >>= _) _ _ s
  refine wpAny_bind (wpAny_field ho hd (x := .ref l) rfl ?_)
  show wpAny _ _ (if (Value.ref l == Value.none) = true then _ else _) _ _ s
  rw [if_neg (show ¬ ((Value.ref l == Value.none) = true) from Bool.false_ne_true)]
  show wpAny _ _ (field (.ref it) 1 >>= _) _ _ s
  refine wpAny_bind (wpAny_field ho hd (x := .int i 0) rfl ?_)
  show wpAny _ _ (seqItems? (.ref l) >>= _) _ _ s
  refine wpAny_bind (wpAny_seqItems hol hdl ?_)
  simp only [Int.toNat_natCast, hx]
  refine wpAny_bind (wpAny_rule (wpAny_bind (wpAny_setField ho hd (by simp) ?_)))
  show wpAny _ _ (newExc (.type "StopIteration") [] >>= _) _ _ _
  refine wpAny_bind ?_
  simp only [newExc, newTuple]
  refine wpAny_bind (wpAny_newObj_type ?_ (by size_fits))
  refine wpAny_bind (m := firstArgMember _ _) (wpAny_of_eq (a := Value.none) (by first | rfl | (simp only [firstArgMember]; rfl)) ?_)
  refine wpAny_newObj_type ?_ (by size_fits)
  have hk : ∀ b o', b ≠ it → s.heap.get? b = some o' → (s.heap.update it (Obj.mapFields (·.setIfInBounds 0 .none))).get? b = some o' := fun b o' hb e => by rw [Heap.get?_update_other _ _ (Ne.symm hb)]; exact e
  refine raiseNewT hot (fun q hq => Heap.get?_push_of_some _ (Heap.get?_push_of_some _ (hk _ _ (hne q hq) (hk0 q hq)))) (fun q hq => Nat.ne_of_lt (Heap.lt_size (Heap.get?_push_of_some _ (hk _ _ (hne q hq) (hk0 q hq))))) (Heap.get?_push_size _ rfl) rfl (by first | (simp; done) | (simp; omega) | (simp only [Array.size_append]; simp; omega)) fun x1 => ?_
  refine wpAny_bind (wpAny_isInstance (T := "StopIteration") (b := true) ⟨_, Heap.get?_update_self _ (Heap.get?_push_size _ rfl) rfl, rfl⟩ isSubtype_stop ?_)
  refine wpAny_pure (hQ _ fun b o' hb e => ?_)
  rw [Heap.get?_update_other _ _ (Nat.ne_of_gt (Heap.lt_size (Heap.get?_push_of_some _ (hk b o' hb e))))]
  exact Heap.get?_push_of_some _ (Heap.get?_push_of_some _ (hk b o' hb e))
end
theorem walks_listH {prog : Program} {w : World} {A : Around} {nd : List (Addr × Obj)} (hot : HotN A nd) (I ax : Addr) (hne : ax ≠ I) (hx1 : ∀ q ∈ nd, q.1 ≠ I) (items : Array Value) :
    PySem.Walks prog w A I (I :: ax :: nd.map (·.1)) [I] items.size (fun i v => items[i]? = some v) (fun i h => h.IsListIter I ax i ∧ h.IsList ax items ∧ ∀ q ∈ nd, h.get? q.1 = some q.2) where
  sub := fun b hb => by simp at hb; simp [hb]
  frame := fun _ _ _ st hk => ⟨st.1.at fun o e => hk I (by simp) o e, st.2.1.at fun o e => hk ax (by simp) o e, fun q hq => hk q.1 (List.mem_cons_of_mem _ (List.mem_cons_of_mem _ (List.mem_map_of_mem hq))) _ (st.2.2 q hq)⟩
  item := fun i s Q E hi st hQ => by
    refine wpAny_pyNext_list_item st.1 st.2.1 (x := items[i]) (by simp [hi]) fun h' hit' hs' => ?_
    exact hQ _ h' s.toks (by simp [hi]) ⟨hit', st.2.1.extBut hs'.extBut hne, fun q hq => hs'.extBut _ _ (hx1 q hq) (st.2.2 q hq)⟩ fun b o hb e => hs'.extBut b o (fun h => hb (by simp [h])) e
  done := fun s Q E st hQ => list_end_hot hot st.2.2 st.1 st.2.1 (by simp) fun h' he' => hQ h' s.toks fun b o hb e => he' b o (fun h => hb (by simp [h])) e
  self := fun _ _ _ _ st hQ => wpAny_pyIter_listiter st.1 hQ
section
variable {prog : Program} {w : World} {A : Around} {E : Value → Shared → Prop} {s : Shared} {l : Addr} {its : List Value} {ns : List Int} {Q : Value → Shared → Prop}
theorem sum_rawH {nd : List (Addr × Obj)} (hot : HotN A nd) (hk0 : ∀ q ∈ nd, s.heap.get? q.1 = some q.2) (hl : s.heap.IsList l its.toArray) (hi : IntsAre its ns)
    (h : ∀ h' tk t', (∀ b o, s.heap.get? b = some o → h'.get? b = some o) → Q (.int ns.sum t') { s with heap := h', toks := tk }) : wpAny (model prog w) A (call (.builtin "sum") [.ref l]) Q E s := by
  obtain ⟨xs, e⟩ := hi.allInts.items
  have hn : numsOf (intItems xs).toList = ns := by rw [← e]; exact hi.numsOf
  rw [nums_intItems] at hn
  rw [e] at hl
  refine call_sum_walkG (iter_intList hl fun s₂ e st hfp hlI => ?_)
  subst e
  refine ⟨_, _, _, _, _, _, numAt xs, rfl, walks_listH (A := A.in1) (nd := nd) hot _ l hlI (fun q hq => Nat.ne_of_lt (Heap.lt_size (hk0 q hq))) (intItems xs), ⟨st.1, st.2, fun q hq => Heap.get?_push_of_some _ (hk0 q hq)⟩, ?_, (fun _ _ => intItems_at), fun h' tk t' hk => ?_⟩
  · intro b hb
    rcases List.mem_cons.mp hb with z | hb
    · exact hfp b (by simp [z])
    · rcases List.mem_cons.mp hb with z | hb
      · exact hfp b (by simp [z])
      · obtain ⟨q, hq, rfl⟩ := List.mem_map.mp hb
        exact Heap.lt_size (Heap.get?_push_of_some _ (hk0 q hq))
  · have := h h' tk t' (old_kept hk)
    rw [preSum_eq, List.take_of_length_le (by simp [intItems]), hn]
    simpa [intItems] using this
end
section
variable {X : Cx}
theorem hotC2_at {pins : List (Addr × Obj)} {σ : L2.St} {H : Hp} {s : Shared} (c : HotC2 X) (I : Inv X pins σ H s) : ∃ nd, HotN X.A nd ∧ ∀ q ∈ nd, s.heap.get? q.1 = some q.2 := by
  obtain ⟨nd, hot, hp⟩ := c
  exact ⟨nd, hot, fun q hq => (I.pin q (List.mem_append_left _ (hp q hq))).1⟩
theorem cr_sumH (hc : HotC2 X) : CallR X (.builtin "sum") (rSum X.K) := by
  intro pins s σ H vs us Q I r h
  obtain ⟨a, ns, rfl, hs, q⟩ := h
  obtain ⟨its, rv, hl, _⟩ := I.list hs
  obtain ⟨nd, hot, hk⟩ := hotC2_at hc I
  rw [Vals.ref1 r]
  exact sum_rawH hot hk hl.isList rv.ints fun h' tk t' hk => ⟨.int _, H, I.kept hk, ⟨_, rfl⟩, q⟩
end
section
variable {X : Cx}
theorem pe_lcH {elt tg iter : Expr} {ifs : List Expr} {scope : Scope} {own : List (Str × Nat)} {pos : Pos} {tl : TE} {g : TG} {tt : TT} {te : TE} (hc : HotC2 X) (hN : X.N.Nodup) (hl : PE X iter tl) (ok : BlkOk X.N X.env.scope scope own)
    (hg : ∀ (s : Shared) (H : Hp) (C : Addr) (cl : List (Str × Addr)) (fp : List Addr), PG (X.blk s H scope (compEnvC scope cl C X.env) fp) tg g) (ht : ∀ (s : Shared) (H : Hp) (C : Addr) (cl : List (Str × Addr)) (fp : List Addr), PTs (X.blk s H scope (compEnvC scope cl C X.env) fp) ifs tt)
    (he : ∀ (s : Shared) (H : Hp) (C : Addr) (cl : List (Str × Addr)) (fp : List Addr), PE (X.blk s H scope (compEnvC scope cl C X.env) fp) elt te) (hs : ∀ x, foldedSetIterable iter X.env x = pure x := by intro _; rfl) :
    PE X (.ListComp elt [⟨tg, iter, ifs, 0⟩] scope pos) (tLc (iList X.K tl) g tt te (own.map (·.2))) := by
  refine ⟨fun pins s σ H Q I h => ?_⟩
  rw [eval_ListComp]
  have hfree : ∀ y ∈ scope.names, y.2 = .free → ∃ c, X.env.cells.lookup y.1 = some c := fun y hy e => by
    rcases ok.free y hy e with k | k
    · exact I.ok.has _ (.inl k)
    · exact I.ok.has _ (.inr k)
  refine wpAny_comprehension_free rfl hs (closure_ok hfree) ok.kind (fun y hy e => by rw [ok.uniq y hy, e])
    (thn (hl.run pins s σ H _ I h) fun xv s1 ⟨x, H2, I1, r1, q1⟩ => ?_)
  obtain ⟨a, e, ⟨xs, hq⟩, q⟩ := q1
  subst e
  cases r1
  obtain ⟨its, rv, pl, hz⟩ := I1.list hq
  refine wpAny_pyIter_list pl.isList ?_
  generalize hit : s1.heap.objs.size = it
  generalize hs2 : ({ s1 with heap := s1.heap.push { cls := .type "list_iterator", data := .fields #[.ref a, .int 0 0] } } : Shared) = s2
  have I2 : Inv X pins σ H2 s2 := by
    rw [← hs2]
    exact I1.kept (t' := s1.toks) fun b o e => Heap.get?_push_of_some _ e
  have st2 : s2.heap.IsListIter it a 0 := by
    rw [← hs2, ← hit]
    exact ⟨_, Heap.get?_push_size _ rfl, rfl, rfl⟩
  have f2 : FpOk X pins H2 it := by
    rw [← hit]
    exact I1.fpOk (Nat.le_refl _) (I1.hok.fresh (Nat.le_refl _))
  have hlt2 : it < s2.heap.objs.size := by
    obtain ⟨o, e, _⟩ := st2
    exact Heap.lt_size e
  refine wpAny_newObj_type (newEnv_comp ?_) (by show 0 ≤ sizeLine; decide)
  generalize hD : s2.heap.objs.size = D
  have hDn : H2 D = none := I2.hok.fresh (Nat.le_of_eq hD)
  obtain ⟨W, ⟨m0, w0⟩, turn⟩ := q D hDn
  generalize hs3 : ({ s2 with heap := s2.heap.push { cls := .type "list", data := .seq ([] : List Value).toArray } } : Shared) = s3
  have I3 : Inv X pins σ (upd H2 D (.lst [])) s3 := by
    rw [← hs3]
    refine I2.laid (t' := s2.toks) (fun b o e => Heap.get?_push_of_some _ e) (Nat.le_of_eq hD) ⟨Nat.zero_le _, [], 0, .nil, ?_⟩
    rw [← hD]
    exact Heap.get?_push_size _ rfl
  have h3 : s3.heap = s2.heap.push { cls := .type "list", data := .seq ([] : List Value).toArray } := by rw [← hs3]
  have f3 : ∀ b ∈ [it], FpOk X pins (upd H2 D (.lst [])) b ∧ b < s3.heap.objs.size := fun b hb => by
    have e : b = it := by simpa using hb
    subst e
    refine ⟨⟨?_, f2.2⟩, by rw [h3, Heap.size_push]; exact Nat.lt_succ_of_lt hlt2⟩
    rw [upd_ne (by rw [← hD]; exact Nat.ne_of_lt hlt2)]
    exact f2.1
  have st3 : s3.heap.IsListIter it a 0 := st2.at fun o e => by rw [h3]; exact Heap.get?_push_of_some _ e
  obtain ⟨nd, hot, hp⟩ := hc
  have P1 := fun q hq => I3.pin q (List.mem_append_left _ (hp q hq))
  have np : ∀ q ∈ nd, q.1 ∉ frs X.stack := fun q hq hm => (List.mem_cons.mp (I3.stkSub q.1 hm)).elim (P1 q hq).2.2.1 (P1 q hq).2.2.2.1
  have npf : ∀ q ∈ nd, q.1 ≠ it := fun q hq => f2.2.2.2.2.2 q (List.mem_append_left _ (hp q hq))
  have I4 := block_start I3 ok hN f3
  have pg := hg s3 (upd H2 D (.lst [])) s3.heap.objs.size (cellsFrom (s3.heap.objs.size + 1) scope.names (cloFrom X.env.cells scope.names [])) [it]
  have pt := ht s3 (upd H2 D (.lst [])) s3.heap.objs.size (cellsFrom (s3.heap.objs.size + 1) scope.names (cloFrom X.env.cells scope.names [])) [it]
  have pe := he s3 (upd H2 D (.lst [])) s3.heap.objs.size (cellsFrom (s3.heap.objs.size + 1) scope.names (cloFrom X.env.cells scope.names [])) [it]
  show codeAny _ _ (.compStart (.ListComp elt [⟨tg, iter, ifs, 0⟩] scope pos) 0 (.ref it) (.ref D) (compEnvC scope (cellsFrom (s3.heap.objs.size + 1) scope.names (cloFrom X.env.cells scope.names [])) s3.heap.objs.size X.env)) (compPost (model X.prog X.w) X.A X.xe none _ (.ref D) s3.heap.objs.size) { s3 with heap := pushCells (s3.heap.push { cls := .type "dict", data := .dict #[] }) scope.names }
  have nfp : ∀ b ∈ [it], (upd H2 D (.lst [])) b = none := fun b hb => (f3 b hb).1.1
  generalize hce : compEnvC scope (cellsFrom (s3.heap.objs.size + 1) scope.names (cloFrom X.env.cells scope.names [])) s3.heap.objs.size X.env = ce at I4 pg pt pe ⊢
  have cL : ce.locals = s3.heap.objs.size := by subst hce; rfl
  generalize hH3 : upd H2 D (.lst []) = H3 at I3 I4 pg pt pe w0 nfp f3 P1
  generalize hs4 : ({ s3 with heap := pushCells (s3.heap.push { cls := .type "dict", data := .dict #[] }) scope.names } : Shared) = s4 at I4 ⊢
  have st4 : s4.heap.IsListIter it a 0 := st3.at fun o e => by rw [← hs4]; exact pushCells_keeps _ _ _ _ (Heap.get?_push_of_some _ e)
  have stat : ∀ {σ' : L2.St} {H' : Hp} {s' : Shared}, Inv (X.blk s3 H3 scope ce [it]) [] σ' H' s' → (∀ b ∈ [it], H' b = none) → ∀ b ∈ [it], FpOk (X.blk s3 H3 scope ce [it]) [] H' b := fun {σ' H' s'} I' hn b hb =>
    ⟨hn b hb, (I'.ok.exf b hb).1, I'.ok.exfs b hb, .inl hb, fun x c e => (I'.ok.exf b hb).2 x c e, fun p hp => absurd (show p ∈ ([] : List (Addr × Obj)) ++ [] from hp) (by simp)⟩
  have T := turn_list (P := X.prog) (w := X.w) (K := X.K) (tg := tg) a it
  have loop : codeAny (model X.prog X.w) X.A (.compLoop (.ListComp elt [⟨tg, iter, ifs, 0⟩] scope pos) 0 (.ref it) (.ref D) ce) (compPost (model X.prog X.w) X.A X.xe none (EP X pins σ Q) (.ref D) s3.heap.objs.size) s4 := by
    refine compLoop_any (fun n s' => ∃ i H', Inv (X.blk s3 H3 scope ce [it]) [] (wipe σ (own.map (·.2))) H' s' ∧ s'.heap.IsListIter it a i ∧ (∀ b ∈ [it], H' b = none) ∧ W i n H') ?_ m0 ⟨0, H3, I4, st4, nfp, w0⟩
    rintro n s5 ⟨i, H5, I5, st5, n5, w5⟩
    rcases turn i n H5 w5 with ⟨stop, qq⟩ | ⟨go, Nx, hNx, step⟩
    · obtain ⟨xs', hq', hx'⟩ := stop
      obtain ⟨its', rv', pl', hz'⟩ := I5.list hq'
      have hl' := rv'.length
      have kept : ∀ q ∈ nd, s5.heap.get? q.1 = some q.2 := fun q hq => I5.base.keep q.1 q.2 (P1 q hq).1 (P1 q hq).2.1 (np q hq) (fun z => npf q hq (by simpa using (show q.1 ∈ [it] from z)))
      obtain ⟨f0, f1, f2', f3', f4, f5⟩ := stat I5 n5 it (by simp)
      refine list_end_hot hot kept st5 pl'.isList (by simp; omega) fun h' eb => ?_
      have I6 : Inv (X.blk s3 H3 scope ce [it]) [] (wipe σ (own.map (·.2))) H5 { s5 with heap := h' } := I5.turned (t' := s5.toks) (fun b o hb e => eb b o hb e) f0 f1 f3' f4 f5
      have I7 : Inv X pins σ H5 { s5 with heap := h' } := I3.call' (ch := [it]) I6.os I6.base I6.hok I6.bare fun b hb => ⟨(f3 b hb).1.2.2.2.1, (f3 b hb).1.2.1, (f3 b hb).1.2.2.2.2.1, (f3 b hb).1.2.2.2.2.2⟩
      have nC : H5 s3.heap.objs.size = none := by
        have z : H5 ce.locals = none := I6.free
        rw [cL] at z
        exact z
      obtain ⟨m, hn, _⟩ := I6.loc
      have hn : h'.Ns ce.locals m := hn
      rw [cL] at hn
      refine ⟨m, hn, fun h'' sb => ?_⟩
      obtain ⟨g0, g1, g2, g3, g4, g5⟩ := I3.fpOk (H' := H5) (Nat.le_refl _) nC
      exact ⟨.ref D, H5, I7.turned (t' := s5.toks) (fun b o hb e => (sb.2 b hb).trans e) g0 g1 g3 g4 g5, rfl, qq⟩
    · obtain ⟨xs', x', hq', hx'⟩ := go
      obtain ⟨its', rv', pl', hz'⟩ := I5.list hq'
      obtain ⟨u, hu, ru⟩ := rv'.get hx'
      obtain ⟨f0, f1, f2', f3', f4, f5⟩ := stat I5 n5 it (by simp)
      refine wpAny_pyNext_list_item st5 pl'.isList (x := u) (by simpa using hu) fun h' st' sb => ?_
      have I6 : Inv (X.blk s3 H3 scope ce [it]) [] (wipe σ (own.map (·.2))) H5 { s5 with heap := h' } := I5.turned (t' := s5.toks) (fun b o hb e => (sb.2 b hb).trans e) f0 f1 f3' f4 f5
      obtain ⟨oi, ei, ci, di⟩ := id st'
      refine go_of (s := { s5 with heap := h' }) ei ci di (by decide) ?_
      have I7' := I6.pinned (stat I6 n5) (T.obj (i + 1) _ st')
      refine thnF (pg.run _ _ _ H5 x' u _ I7' ru (step x' H5 ⟨rfl, fun ys hy => by rw [I5.list_inj hy hq']; exact hx'⟩)) fun _ s8 ⟨σ8, H8, I8, hw8, q8⟩ => ?_
      refine thnF (pt.run _ s8 σ8 H8 _ I8 q8) fun b s9 ⟨H9, I9, q9⟩ => ?_
      have fin : ∀ {s' : Shared} {H' : Hp}, Inv (X.blk s3 H3 scope ce [it]) ([] ++ pinsAt [it] h') σ8 H' s' → Nx H' → ∃ m, m < n ∧ ∃ i H', Inv (X.blk s3 H3 scope ce [it]) [] (wipe σ (own.map (·.2))) H' s' ∧ s'.heap.IsListIter it a i ∧ (∀ b ∈ [it], H' b = none) ∧ W i m H' := fun {s' H'} I' nx => by
        obtain ⟨m', hm, w'⟩ := hNx H' nx
        have pin' : ∀ b ∈ [it], ∀ o, h'.get? b = some o → s'.heap.get? b = some o ∧ H' b = none := fun b hb o e =>
          let z := I'.pin (b, o) (List.mem_append_right _ (List.mem_append_right _ (mem_pinsAt hb e)))
          ⟨z.1, z.2.1⟩
        have hl : (wipe σ (own.map (·.2))).length = σ8.length := by rw [← hw8, wipe_length]
        refine ⟨m', hm, i + 1, H', (I'.unpinned (pins := [])).weak hl (fun j v e => ?_), T.keep _ _ _ st' fun b hb o e => (pin' b hb o e).1, fun b hb => ?_, w'⟩
        · rw [← hw8] at e
          exact (wipe_some e).1
        · obtain ⟨o, e, _⟩ := T.obj _ _ st' b hb
          exact (pin' b hb o e).2
      cases b with
      | false =>
        simp only [Bool.false_eq_true, if_false] at q9 ⊢
        exact fin I9 q9
      | true =>
        simp only [if_true] at q9 ⊢
        refine thnF (pe.run _ s9 σ8 H9 _ I9 q9) fun z s10 ⟨yv, H10, I10, r10, acc, hD10, hz10, nx⟩ => ?_
        exact app_ok (X := X.blk s3 H3 scope ce [it]) I10 hD10 hz10 r10 fun s11 I11 => fin I11 nx
  exact codeAny_compStart_list loop (T.self X.A 0 _ _ _ st4 loop)
end
end Pv
set_option Elab.async false
set_option linter.all false
set_option maxRecDepth 100000
set_option maxHeartbeats 2000000
namespace Pv
open PySem PySem.Spec PyProof.Rows L2 L2H HotX L2C
variable [TabCx]
section
variable {X : Cx} {W : WX}
theorem c_neH {k : Nat} (hr : RoomH k X.A) : CmpR X .NotEq pNe := ⟨_, op_neD (by have := hr.un; omega), ob_ne⟩
theorem v_sumH {e : Expr} {es : List Expr} {d : Fm → R (List PV)} {p pos : Pos} (hc : HotC2 X) (hm : X.mg "sum" = none) (ha : PA X (e :: es) (xRL X W d)) (hg : Gl X "sum" := by rfl) (he : starEach (e :: es) X.env = (false, eval e X.env) :: starEach es X.env := by rfl) (hpl : (backTo pos (starEach es X.env)).any (·.1) = false := by rfl) :
    PE X (.Call (.Name "sum" p) (e :: es) [] pos) (xV X W (dCall (fun ds => ofO (pSum ds)) d)) := pe_callBS (cr_sumH hc) (by
      intro F H xs ds v Q s r e g
      unfold pSum at e
      split at e
      · rename_i l
        cases q : intsOf l with
        | none => rw [q] at e; cases e
        | some ns =>
          rw [q] at e
          cases e
          obtain ⟨x, rfl, rx⟩ := r.one
          obtain ⟨a1, ys, rfl, q1, r1⟩ := rx.lst
          have e2 := intsOf_rep r1 q
          subst e2
          exact ⟨a1, ns, rfl, SqL.of q1, gv_here g s (by simp only [Rep])⟩
      · cases e) stGV hg hm (by decide +kernel) ha (by decide) (by decide) he hpl
theorem f_lcH {elt tg iter : Expr} {ifs : List Expr} {scope : Scope} {pos : Pos} {g : TG} {t : Tgt} {js vs : List Nat} {tt : Fm → R Bool} {te da : Fm → R PV} (own : List (Str × Nat)) (hvs : own.map (·.2) = vs) (hc : HotC2 X) (hN : X.N.Nodup) (hi : PE X iter (xR X W da)) (ok : BlkOk X.N X.env.scope scope own)
    (hg : ∀ (s : Shared) (H : Hp) (C : Addr) (cl : List (Str × Addr)) (fp : List Addr), PG (X.blk s H scope (compEnvC scope cl C X.env) fp) tg g) (tS : TgS X.K g t js) (hjs : ∀ j ∈ js, j ∈ vs)
    (ht : ∀ (s : Shared) (H : Hp) (C : Addr) (cl : List (Str × Addr)) (fp : List Addr), PTs (X.blk s H scope (compEnvC scope cl C X.env) fp) ifs (xT (X.blk s H scope (compEnvC scope cl C X.env) fp) WF tt))
    (he : ∀ (s : Shared) (H : Hp) (C : Addr) (cl : List (Str × Addr)) (fp : List Addr), PE (X.blk s H scope (compEnvC scope cl C X.env) fp) elt (xV (X.blk s H scope (compEnvC scope cl C X.env) fp) WF te)) (hs : ∀ x, foldedSetIterable iter X.env x = pure x := by intro _; rfl) :
    PE X (.ListComp elt [⟨tg, iter, ifs, 0⟩] scope pos) (xF X W (dLc vs t tt te (d1 lstIt da))) := by
  subst hvs
  refine PE.imp (pe_lcH (tt := tT X.K X.mg WF tt) (te := tV X.K X.mg WF te) hc hN hi ok hg ht he hs) fun σ H Q h => ?_
  have h2 : xIR X W (d1 lstIt da) σ H _ := lc_go tS hjs h
  refine seqI h2 fun F H x a l s ra e g => ?_
  cases a with
  | lst l' =>
    cases e
    obtain ⟨a1, xs, rfl, q1, r1⟩ := ra.lst
    exact ⟨a1, rfl, ⟨xs, SqL.of q1⟩, g _ F H (Step.refl s) (walksR_lst q1 r1)⟩
  | non => cases e
  | bl _ => cases e
  | int _ => cases e
  | str _ => cases e
  | tup _ => cases e
  | scr _ => cases e
  | dct _ _ => cases e
  | ins _ _ => cases e
structure HotE (X : Cx) (p : Addr × Obj) (C : Addr) (d : Option Addr) : Prop where
  mem : p ∈ X.pn
  z : Zc (.ref C) d p.2
  f : ∃ vs, p.2.data = .fields vs
structure ExcF (K : PySem.W.Frag) (C : Addr) : Prop where
  cl : (PySem.W.clsIn K C).isSome = true
  ga : PySem.W.findIn K (.ref C) "__getattribute__" = some (some (.builtin "BaseException.__getattribute__"))
  gt : PySem.W.findIn K (.ref C) "__getattr__" = some none
  sb : PySem.W.subIn K (.ref C) (.type "BaseException") = some true
  ca : PySem.W.findIn K (.ref C) "__class__" = some (some (.builtin "object.__class__"))
  cg : PySem.W.specialIn K (.builtin "object.__class__") "__get__" = some (some (.builtin "getset_descriptor.__get__"))
  ct : PySem.W.takesIn K (.builtin "object.__class__") = some true
  mo : PySem.W.mroIn K C (.type "object") = some true
def dIsE (i : Nat) (a : Addr) (d : Option Addr) (b : Bool) : Fm → R PV := fun env => match env[i]? with
  | some (.exn a' d' _) => if a' = a ∧ d' = d then .ok (.bl b) else .bad
  | _ => .bad
def rIsH (a : Addr) (d : Option Addr) (cv : Value) (b : Bool) : List V → Hp → VK → Prop := fun xs H Q => ∃ c : V, xs = [.ref a, c] ∧ (∀ u, RelV c u → u = cv) ∧ (∀ dd, d = some dd → ∃ fs, H dd = some (.xd fs)) ∧ Q (.bl b) H
theorem call_isH {p : Addr × Obj} {C : Addr} {d : Option Addr} {cv : Value} {b : Bool} (HE : HotE X p C d) (T : ExcF X.K C) (e : PySem.W.kitOne X.K (.ref C) cv = some b) : CallR X (.builtin "isinstance") (rIsH p.1 d cv b) := by
  intro pins s σ H xs us Q I r h
  obtain ⟨c, rfl, hcv, hd, q⟩ := h
  cases r with
  | cons rx rr =>
    cases rr with
    | cons rt rr =>
      cases rr
      cases rx
      have ec := hcv _ rt
      subst ec
      obtain ⟨hget, _⟩ := I.pin p (List.mem_append.mpr (.inl HE.mem))
      obtain ⟨vs, hv⟩ := HE.f
      have hz := HE.z
      cases d with
      | none =>
        have J : PySem.W.InstAt s.heap p.1 p.2 C none := by
          obtain ⟨a, oe⟩ := p
          obtain ⟨oc, od, oda, osl⟩ := oe
          obtain ⟨h1, h2⟩ := hz
          dsimp only at h1 h2 hv hget ⊢
          subst h1 h2 hv
          exact ⟨hget, rfl, rfl, trivial⟩
        exact PySem.W.kia_one (PySem.W.kitx_exc T.cl T.ga T.gt T.sb T.ca T.cg T.ct T.mo) I.kIn J e (fun z => nomatch z) fun tk => ⟨.bl b, H, I.kept (t' := tk) fun _ _ z => z, rfl, q⟩
      | some dd =>
        obtain ⟨fs, ea⟩ := hd dd rfl
        have hx : ObjOk X.prog X.w H s.heap dd (.xd fs) := I.hok dd _ ea
        obtain ⟨mA, hns, hr⟩ := hx
        obtain ⟨od, ho, hl⟩ := lookIn_ns hns
        have J : PySem.W.InstAt s.heap p.1 p.2 C (some od) := ⟨hget, hz.1, by unfold PySem.W.notCls; rw [hv] <;> rfl, by rw [hz.2]; exact ho⟩
        exact PySem.W.kia_one (PySem.W.kitx_exc T.cl T.ga T.gt T.sb T.ca T.cg T.ct T.mo) I.kIn J e (fun z => nomatch z) fun tk => ⟨.bl b, H, I.kept (t' := tk) fun _ _ z => z, rfl, q⟩
theorem v_isE {p : Addr × Obj} {C : Addr} {d : Option Addr} {cv : Value} {b : Bool} {i : Nat} {y x : Str} {c : V} {q p1 p2 pos : Pos} (HE : HotE X p C d) (T : ExcF X.K C) (e : PySem.W.kitOne X.K (.ref C) cv = some b) (hm : X.mg "isinstance" = none) (ha : PE X (.Name y p1) (tVar i)) (hb : PE X (.Name x p2) (tC c)) (hcv : ∀ u, RelV c u → u = cv) (hg : Gl X "isinstance" := by rfl)
    (hs : starEach [.Name y p1, .Name x p2] X.env = (false, eval (.Name y p1) X.env) :: starEach [.Name x p2] X.env := by rfl) (hs2 : starEach [.Name x p2] X.env = (false, eval (.Name x p2) X.env) :: starEach [] X.env := by rfl)
    (hpl : (backTo pos (starEach [.Name x p2] X.env)).any (·.1) = false := by rfl) :
    PE X (.Call (.Name "isinstance" q) [.Name y p1, .Name x p2] [] pos) (xV X W (dIsE i p.1 d b)) := by
  refine PE.imp (pe_callB (call_isH HE T e) hg hm (by decide +kernel) (pa_cons ha (pa_cons hb pa_nil hs2) hs) (by decide) (by decide) hs hpl) fun σ H Q h => ?_
  obtain ⟨F, env, ok, h⟩ := h
  unfold dIsE at h
  cases q1 : env[i]? with
  | none => rw [q1] at h; exact h.elim
  | some sl =>
    rw [q1] at h
    obtain ⟨fpx, at1⟩ := ok.at' i sl q1
    cases sl with
    | exn a' d' ex =>
      simp only at h
      split at h
      · rename_i cc
        obtain ⟨rfl, rfl⟩ := cc
        simp only [SlotOk] at at1
        obtain ⟨_, e1, e2, _⟩ := at1
        exact ⟨_, e1, c, rfl, hcv, fun dd z => let ⟨fs, h⟩ := e2 dd z; ⟨fs, ok.s0.up h⟩, gv_here h ok.s0 (by simp only [Rep])⟩
      · exact h.elim
    | un => exact h.elim
    | pv _ => exact h.elim
    | own _ => exact h.elim
    | byr _ => exact h.elim
    | lck _ _ => exact h.elim
    | dic _ _ => exact h.elim
    | obj _ _ => exact h.elim
def dXf (i : Nat) (a : Addr) (d : Option Addr) (w : Bool) : Fm → R PV := fun env => match env[i]? with
  | some (.exn a' d' (.trb w1 w2)) => if a' = a ∧ d' = d then .ok (if w = true then w1 else w2) else .bad
  | _ => .bad
theorem v_xf {p : Addr × Obj} {C : Addr} {d : Option Addr} {i : Nat} {y n : Str} {p1 pos : Pos} (w : Bool) (hn : n = if w = true then ("word" : Str) else "what") (HE : HotE X p C d) (T : XfC X.K C) (hno : PySem.W.findIn X.K (.ref C) n = some none) (ha : PE X (.Name y p1) (tVar i)) (hb : attributeBase (.Name y p1) n X.env (eval (.Name y p1) X.env) = eval (.Name y p1) X.env := by rfl) :
    PE X (.Attribute (.Name y p1) n pos) (xV X W (dXf i p.1 d w)) := by
  refine ⟨fun pins s σ H Q I h => ?_⟩
  obtain ⟨F, env, ok, h⟩ := h
  unfold dXf at h
  cases q1 : env[i]? with
  | none => rw [q1] at h; exact h.elim
  | some sl =>
    rw [q1] at h
    obtain ⟨fpx, at1⟩ := ok.at' i sl q1
    cases sl with
    | exn a' d' ex =>
      cases ex with
      | cls _ => exact h.elim
      | trb w1 w2 =>
        simp only at h
        split at h
        · rename_i cc
          obtain ⟨rfl, rfl⟩ := cc
          simp only [SlotOk] at at1
          obtain ⟨_, e1, _, e2⟩ := at1
          obtain ⟨dd, xw, yw, rfl, hF, r1, r2⟩ := e2 w1 w2 rfl
          refine attr_of hb (thn (ha.run pins s σ H (fun v H1 => v = .ref p.1 ∧ H1 = H) I ⟨_, e1, rfl, rfl⟩) fun u s1 hh => ?_)
          obtain ⟨x, H1, I1, rx, ex, eH⟩ := hh
          subst ex eH
          obtain rfl : u = Value.ref p.1 := rx
          obtain ⟨hget, _⟩ := I1.pin p (List.mem_append_left _ HE.mem)
          obtain ⟨vs, hd⟩ := HE.f
          have hz := HE.z
          have hx : ObjOk X.prog X.w H1 s1.heap dd (.xd [("what", yw), ("word", xw)]) := I1.hok dd _ (ok.s0.up hF)
          obtain ⟨mA, hns, hr⟩ := hx
          obtain ⟨od, ho, hl⟩ := lookIn_ns hns
          have lk : ([("what", yw), ("word", xw)] : List (Str × V)).lookup n = some (if w = true then xw else yw) := by
            subst hn
            cases w
            · rfl
            · rfl
          obtain ⟨u, hu, ru⟩ := RelO.some_of (v := if w = true then xw else yw) (o := mA n) (by rw [← lk]; exact hr n)
          have J : PySem.W.InstAt s1.heap p.1 p.2 C (some od) := ⟨hget, hz.1, by unfold PySem.W.notCls; rw [hd] <;> rfl, by rw [hz.2]; exact ho⟩
          refine HandSPX.exc_get I1.kIn J T.ga T.gg T.exC (PySem.W.findObj_own T.hdC hno rfl (by rw [hl, hu])) (handed_of ru) ⟨_, H1, I1.tok _, ru, ?_⟩
          cases w
          · exact gv_here h ok.s0 r2
          · exact gv_here h ok.s0 r1
        · exact h.elim
    | un => exact h.elim
    | pv _ => exact h.elim
    | own _ => exact h.elim
    | byr _ => exact h.elim
    | lck _ _ => exact h.elim
    | dic _ _ => exact h.elim
    | obj _ _ => exact h.elim
def idxGo (d : PyData) : Nat → List PyData → Option Nat
  | _, [] => none
  | n, z :: r => if PyData.eqv z d = true then some n else idxGo d (n + 1) r
theorem idxGo_ok {d : PyData} : ∀ {ds : List PyData} {n j : Nat}, idxGo d n ds = some j → ∃ k z, j = n + k ∧ ds[k]? = some z ∧ PyData.eqv z d = true ∧ ∀ (m : Nat) (z' : PyData), m < k → ds[m]? = some z' → PyData.eqv z' d = false
  | [], n, j, h => by cases h
  | z :: r, n, j, h => by
    unfold idxGo at h
    split at h
    · rename_i c
      cases h
      exact ⟨0, z, rfl, rfl, c, fun m z' hm => absurd hm (Nat.not_lt_zero m)⟩
    · rename_i c
      obtain ⟨k, z1, e1, e2, e3, e4⟩ := idxGo_ok h
      refine ⟨k + 1, z1, by omega, e2, e3, fun m z' hm e => ?_⟩
      cases m with
      | zero => cases e; exact Bool.eq_false_iff.mpr c
      | succ m => exact e4 m z' (by omega) e
def pIndex : PV → PV → Option PV
  | .lst l, x => if SeqAt.shaped (.list (toDs l)) = true ∧ SeqAt.shaped (toD x) = true then (idxGo (toD x) 0 (toDs l)).map fun j => .int (j : Nat) else none
  | _, _ => none
def dIndex (da db : Fm → R PV) : Fm → R PV := fun env => (da env).bind fun x => match x with
  | .lst l => (db env).bind fun y => ofO (pIndex (.lst l) y)
  | _ => .bad
theorem v_indexU {o e : Expr} {da db : Fm → R PV} {apos pos : Pos} (hu : X.A.units + 65 < cLine) (ho : PE X o (xR X W da)) (he : PE X e (xR X W db)) (hbase : attributeBase o "index" X.env (eval o X.env) = eval o X.env := by rfl)
    (hfew : ((backTo pos (starEach [e] X.env)).all (fun x => !x.1) && (backToKw pos (keywordEach [] X.env)).all (fun x => x.1.isSome) && decide ([e].length + ([] : List Keyword).length + (if ([] : List Keyword).isEmpty then 0 else 1) < 30)) = true := by rfl)
    (hline : (apos.endLine == pos.line) = true := by rfl) (hs : starEach [e] X.env = (false, eval e X.env) :: starEach [] X.env := by rfl) (hplain : (backTo pos (starEach [] X.env)).any (·.1) = false := by rfl) :
    PE X (.Call (.Attribute o "index" apos) [e] [] pos) (xV X W (dIndex da db)) :=
  PE.imp (pe_bm PySem.F.plainAttrs_list PySem.F.slot_list_index PySem.F.type_list_index (mt_indexD hu) ho (pa_cons he pa_nil hs) hbase hfew hline hs hplain) fun σ H Q ⟨F, env, ok, h⟩ => by
    refine ⟨F, env, ok, ?_⟩
    unfold dIndex at h
    cases q : da env with
    | bad => rw [q] at h; exact h
    | ex e => rw [q] at h; exact h
    | ok a =>
      rw [q] at h
      simp only [R.bind_ok] at h
      intro x F1 H1 st1 rx
      cases a with
      | lst l =>
        obtain ⟨a1, xs, rfl, h1, r1⟩ := rx.lst
        refine ⟨.inl ⟨rfl, _, SqL.of h1⟩, F1, env, ok.step st1, ?_⟩
        cases q1 : db env with
        | bad => rw [q1] at h; exact h
        | ex e => rw [q1] at h; exact GX.step h st1
        | ok b =>
          rw [q1] at h
          intro y F2 H2 st2 ry
          simp only [R.bind_ok, pIndex] at h
          split at h
          · rename_i c
            cases q2 : idxGo (toD b) 0 (toDs l) with
            | none => rw [q2] at h; exact h.elim
            | some j =>
              rw [q2] at h
              obtain ⟨k, z, e1, e2, e3, e4⟩ := idxGo_ok q2
              have ej : j = k := by omega
              subst ej
              have rl : RD X.K F2 H2 (.lst l) (.ref a1) := RD.step st2 (d := .lst l) ⟨a1, xs, rfl, h1, r1⟩
              have h2 := RD.dp st2.s2 (by simp only [toD]; exact c.1) rl
              simp only [toD] at h2
              exact ⟨a1, y, toD b, toDs l, j, z, rfl, rfl, h2, RD.dp st2.s2 c.2 ry, c.1, c.2, e2, e3, e4, gv_here (GV.step (GV.step h st1) st2) st2.s2 (by simp only [Rep])⟩
          · exact h.elim
      | non => exact h.elim
      | bl _ => exact h.elim
      | int _ => exact h.elim
      | str _ => exact h.elim
      | tup _ => exact h.elim
      | scr _ => exact h.elim
      | dct _ _ => exact h.elim
      | ins _ _ => exact h.elim
theorem v_indexH {o e : Expr} {da db : Fm → R PV} {apos pos : Pos} {k : Nat} (hr : RoomH k X.A) (ho : PE X o (xR X W da)) (he : PE X e (xR X W db)) (hbase : attributeBase o "index" X.env (eval o X.env) = eval o X.env := by rfl)
    (hfew : ((backTo pos (starEach [e] X.env)).all (fun x => !x.1) && (backToKw pos (keywordEach [] X.env)).all (fun x => x.1.isSome) && decide ([e].length + ([] : List Keyword).length + (if ([] : List Keyword).isEmpty then 0 else 1) < 30)) = true := by rfl)
    (hline : (apos.endLine == pos.line) = true := by rfl) (hs : starEach [e] X.env = (false, eval e X.env) :: starEach [] X.env := by rfl) (hplain : (backTo pos (starEach [] X.env)).any (·.1) = false := by rfl) :
    PE X (.Call (.Attribute o "index" apos) [e] [] pos) (xV X W (dIndex da db)) := v_indexU (by have := hr.un; omega) ho he hbase hfew hline hs hplain
end
abbrev isX (e : Ex) (n : Str) : Bool := match e with
  | .cls m => m == n
  | .trb _ _ => "Trouble" == n
def D_word (a : Addr) (d : Option Addr) (e : Ex) : Fm → RS :=
  (dSeq (dSet 1 (dL (dLst (dCons (dIsE 0 a d (isX e "BadValue")) (dCons (dIsE 0 a d (isX e "BadSteps")) (dCons (dIsE 0 a d (isX e "BadHouse")) (dCons (dIsE 0 a d (isX e "BadName")) dNil)))))))
  (dSeq (dSet 1 (dL (d2 fCat (dV 1) (dL (dLst (dCons (dIsE 0 a d (isX e "BadChoice")) (dCons (dIsE 0 a d (isX e "BadRecord")) (dCons (dIsE 0 a d (isX e "Trouble")) dNil))))))))
  (dSeq (dIfS (dOr (d2 pNe (dCall (fun ds => ofO (pSum ds)) (dCons (dL (dLc [3] (tgN 3) dYes (dCall (fun ds => ofO (pInt1 ds)) (dCons (dV 3) dNil)) (d1 lstIt (dV 1)))) dNil)) (dC (.int 1))) (dNot (dB (dIsE 0 a d true))))
    (dRet (dTup (dCons (dC (.str "refused")) (dCons (dC (.str "other")) dNil)))) dSkip)
  (dSeq (dIfS (dB (dIsE 0 a d (isX e "Trouble"))) (dRet (dTup (dCons (dC (.str "refused")) (dCons (dXf 0 a d true) (dCons (dXf 0 a d false) dNil))))) dSkip)
  (dSeq (dSet 2 (dL (dLst (dCons (dC (.str "BadValue")) (dCons (dC (.str "BadSteps")) (dCons (dC (.str "BadHouse")) (dCons (dC (.str "BadName")) (dCons (dC (.str "BadChoice")) (dCons (dC (.str "BadRecord")) dNil)))))))))
  (dRet (dTup (dCons (dC (.str "refused")) (dCons (d2 pIdx (dV 2) (dIndex (dV 1) (dC (.bl true)))) dNil)))))))))
end Pv
set_option Elab.async false
set_option linter.all false
set_option maxRecDepth 100000
set_option maxHeartbeats 4000000
namespace Pv
open PySem PySem.Spec PyProof.Rows L2 L2H HotX L2C
theorem dIsE_ap (a : Addr) (d : Option Addr) (e : Ex) (b : Bool) (r : Fm) : dIsE 0 a d b (.exn a d e :: r) = .ok (.bl b) := by
  unfold dIsE
  simp
theorem dXf_ap (a : Addr) (d : Option Addr) (x y : PV) (b : Bool) (r : Fm) : dXf 0 a d b (.exn a d (.trb x y) :: r) = .ok (if b = true then x else y) := by
  unfold dXf
  simp
def fl (d : PV) : PV := match d with
  | .bl k => .int (if k then 1 else 0)
  | _ => .non
theorem word_gen {a : Addr} {d : Option Addr} {e : Ex} {b1 b2 b3 b4 b5 b6 b7 : Bool} {j : Nat} {w : Str} (h1 : isX e "BadValue" = b1) (h2 : isX e "BadSteps" = b2) (h3 : isX e "BadHouse" = b3) (h4 : isX e "BadName" = b4) (h5 : isX e "BadChoice" = b5) (h6 : isX e "BadRecord" = b6) (h7 : isX e "Trouble" = b7)
    (hs : ([b1, b2, b3, b4, b5, b6, b7].map fun k => (if k then 1 else 0 : Int)).sum = 1) (h0 : b7 = false) (hj : pIndex (.lst [.bl b1, .bl b2, .bl b3, .bl b4, .bl b5, .bl b6, .bl b7]) (.bl true) = some (.int (j : Nat)))
    (hw : L2.atI [PV.str "BadValue", .str "BadSteps", .str "BadHouse", .str "BadName", .str "BadChoice", .str "BadRecord"] (j : Nat) = some (.str w)) :
    toV (D_word a d e [.exn a d e, .un, .un, .un]) = .ok (.tup [.str "refused", .str w]) := by
  have hl : dLc [3] (tgN 3) dYes (dCall (fun ds => ofO (pInt1 ds)) (dCons (dV 3) dNil)) (d1 lstIt (dV 1)) [.exn a d e, .pv (.lst [.bl b1, .bl b2, .bl b3, .bl b4, .bl b5, .bl b6, .bl b7]), .un, .un] = .ok ([b1, b2, b3, b4, b5, b6, b7].map fun k => PV.int (if k then 1 else 0)) := by
    rw [dLc_map fl (ds := [.bl b1, .bl b2, .bl b3, .bl b4, .bl b5, .bl b6, .bl b7]) rfl (sz (by show 7 ≤ 100000; decide)) (by show 3 < 4; decide)]
    · rfl
    · intro x hx
      simp only [List.mem_cons, List.not_mem_nil, or_false] at hx
      rcases hx with rfl | rfl | rfl | rfl | rfl | rfl | rfl <;> rfl
  have hsum : pSum [.lst ([b1, b2, b3, b4, b5, b6, b7].map fun k => PV.int (if k then 1 else 0))] = some (.int 1) := by
    have := pSum_f (fun k : Bool => (if k then 1 else 0 : Int)) [b1, b2, b3, b4, b5, b6, b7]
    rw [hs] at this
    exact this
  unfold D_word
  rw [h1, h2, h3, h4, h5, h6, h7]
  have s4 : (4 : Nat) ≤ sizeLine := sz (by decide)
  have s3 : (3 : Nat) ≤ sizeLine := sz (by decide)
  have s7 : (7 : Nat) ≤ sizeLine := sz (by decide)
  have s6 : (6 : Nat) ≤ sizeLine := sz (by decide)
  have s2 : (2 : Nat) ≤ sizeLine := sz (by decide)
  subst h0
  simp only [dSeq_ap, dSet_ap, dL_ap, dLst_ap, dCons_ap, dNil_ap, dIsE_ap, R.bind_ok, List.length_cons, List.length_nil, s4, s3, if_true, List.set, d2_ap, dV_ap, List.getElem?_cons_zero, List.getElem?_cons_succ, fCat_ll, ofO_some, List.cons_append, List.nil_append, Nat.reduceAdd, Nat.reduceLT, s7, s6, s2,
    dIfS_ap, dOr_ap, dCall_ap, hl, hsum, dC_ap, pNe_ii, dNot_ap, dB_ap, dSkip_ap, dRet_ap, dTup_ap, dIndex, pIdx_l, hj, hw, Bool.not_true, decide_true, Bool.false_eq_true, if_false]
  rfl
theorem word_trb {a : Addr} {d : Option Addr} {x y : PV} : toV (D_word a d (.trb x y) [.exn a d (.trb x y), .un, .un, .un]) = .ok (.tup [.str "refused", x, y]) := by
  have e1 : isX (.trb x y) "BadValue" = false := by show ((Str.ofString "Trouble") == (Str.ofString "BadValue")) = false; decide +kernel
  have e2 : isX (.trb x y) "BadSteps" = false := by show ((Str.ofString "Trouble") == (Str.ofString "BadSteps")) = false; decide +kernel
  have e3 : isX (.trb x y) "BadHouse" = false := by show ((Str.ofString "Trouble") == (Str.ofString "BadHouse")) = false; decide +kernel
  have e4 : isX (.trb x y) "BadName" = false := by show ((Str.ofString "Trouble") == (Str.ofString "BadName")) = false; decide +kernel
  have e5 : isX (.trb x y) "BadChoice" = false := by show ((Str.ofString "Trouble") == (Str.ofString "BadChoice")) = false; decide +kernel
  have e6 : isX (.trb x y) "BadRecord" = false := by show ((Str.ofString "Trouble") == (Str.ofString "BadRecord")) = false; decide +kernel
  have e7 : isX (.trb x y) "Trouble" = true := by show ((Str.ofString "Trouble") == (Str.ofString "Trouble")) = true; decide +kernel
  have hl : dLc [3] (tgN 3) dYes (dCall (fun ds => ofO (pInt1 ds)) (dCons (dV 3) dNil)) (d1 lstIt (dV 1)) [.exn a d (.trb x y), .pv (.lst [.bl false, .bl false, .bl false, .bl false, .bl false, .bl false, .bl true]), .un, .un] = .ok ([false, false, false, false, false, false, true].map fun k => PV.int (if k then 1 else 0)) := by
    rw [dLc_map fl (ds := [.bl false, .bl false, .bl false, .bl false, .bl false, .bl false, .bl true]) rfl (sz (by show 7 ≤ 100000; decide)) (by show 3 < 4; decide)]
    · rfl
    · intro x hx
      simp only [List.mem_cons, List.not_mem_nil, or_false] at hx
      rcases hx with rfl | rfl | rfl | rfl | rfl | rfl | rfl <;> rfl
  have hsum : pSum [.lst ([false, false, false, false, false, false, true].map fun k => PV.int (if k then 1 else 0))] = some (.int 1) := pSum_f (fun k : Bool => (if k then 1 else 0 : Int)) [false, false, false, false, false, false, true]
  unfold D_word
  rw [e1, e2, e3, e4, e5, e6, e7]
  have s4 : (4 : Nat) ≤ sizeLine := sz (by decide)
  have s3 : (3 : Nat) ≤ sizeLine := sz (by decide)
  have s7 : (7 : Nat) ≤ sizeLine := sz (by decide)
  simp only [dSeq_ap, dSet_ap, dL_ap, dLst_ap, dCons_ap, dNil_ap, dIsE_ap, dXf_ap, R.bind_ok, List.length_cons, List.length_nil, s4, s3, if_true, List.set, d2_ap, dV_ap, List.getElem?_cons_zero, List.getElem?_cons_succ, fCat_ll, ofO_some, List.cons_append, List.nil_append, Nat.reduceAdd, Nat.reduceLT, s7,
    dIfS_ap, dOr_ap, dCall_ap, hl, hsum, dC_ap, pNe_ii, dNot_ap, dB_ap, dSkip_ap, dRet_ap, dTup_ap, Bool.not_true, decide_true, Bool.false_eq_true, if_false]
  rfl
theorem word_pure {a : Addr} {d : Option Addr} {e : Ex} (h : goodEx e = true) : toV (D_word a d e [.exn a d e, .un, .un, .un]) = .ok (wordOf e) := by
  cases e with
  | trb x y => exact word_trb
  | cls n =>
    have hm := List.contains_iff_mem.mp h
    simp only [List.mem_cons, List.not_mem_nil, or_false] at hm
    rcases hm with rfl | rfl | rfl | rfl | rfl | rfl
    · exact word_gen (j := 0) rfl rfl rfl rfl rfl rfl rfl (by decide) rfl (by with_unfolding_all rfl) rfl
    · exact word_gen (j := 1) rfl rfl rfl rfl rfl rfl rfl (by decide) rfl (by with_unfolding_all rfl) rfl
    · exact word_gen (j := 2) rfl rfl rfl rfl rfl rfl rfl (by decide) rfl (by with_unfolding_all rfl) rfl
    · exact word_gen (j := 3) rfl rfl rfl rfl rfl rfl rfl (by decide) rfl (by with_unfolding_all rfl) rfl
    · exact word_gen (j := 4) rfl rfl rfl rfl rfl rfl rfl (by decide) rfl (by with_unfolding_all rfl) rfl
    · exact word_gen (j := 5) rfl rfl rfl rfl rfl rfl rfl (by decide) rfl (by with_unfolding_all rfl) rfl
variable [TabCx]
def exName : Ex → Str
  | .cls n => n
  | .trb _ _ => "Trouble"
abbrev cxP (CX : CXT) (P : Program) (w : World) (K : PySem.W.Frag) (mg : Str → Option Value) (base : Heap) (N : List Str) (qual : Str) (scope : Scope) (f : Addr) (cd : Value) (A : Around) (outer : List Env) (s : Shared) (H : Hp) (E : XK) (p : Addr × Obj) (pn : List (Addr × Obj)) : Cx :=
  (cxH CX P w K mg base N qual scope f cd A outer s H E p).tr (p :: pn) (cxH CX P w K mg base N qual scope f cd A outer s H E p).xe
theorem inv_startP {CX : CXT} {P : Program} {w : World} {K : PySem.W.Frag} {mg : Str → Option Value} {base : Heap} {N ps : List Str} {qual : Str} {scope : Scope} {f : Addr} {cd : Value} {A : Around} {outer : List Env} {s s1 : Shared} {H : Hp} {E : XK} {us : List Value} {vs : List V}
    (S : FnScope N ps scope) {p : Addr × Obj} {pn : List (Addr × Obj)} (hpin : ∀ q ∈ p :: pn, PinOk outer H s q) (e0 : Env0 P w K mg base A outer s H) (hl : vs.length = ps.length) (r : Vals vs us)
    (x : InCallC s s.heap.objs.size (bindL (envOfC qual scope s.heap.objs.size f cd).kindOf (ps.zip us) fun _ => none) (cellsFrom (s.heap.objs.size + 1) scope.names []) (bindC (envOfC qual scope s.heap.objs.size f cd).kindOf (ps.zip us) fun _ => none) s1) :
    Inv (cxP CX P w K mg base N qual scope f cd A outer s H E p pn) [] (L2.start N vs) H s1 := by
  have I := inv_startH (CX := CX) (E := E) S (hpin p List.mem_cons_self) e0 hl r x
  have I2 : Inv (cxH CX P w K mg base N qual scope f cd A outer s H E p) pn (L2.start N vs) H s1 := I.pins_of fun q hq => by
    have k := hpin q (List.mem_cons_of_mem _ hq)
    exact ⟨x.toInCall.keep _ _ k.get, k.free, Nat.ne_of_lt (Heap.lt_size k.get), k.nofs, k.nocell⟩
  exact I2.toTry _
structure Word (P : Program) (w : World) (K : PySem.W.Frag) (mg : Str → Option Value) (base : Heap) (j : Nat) (x : Str) : Prop where
  ex : ∃ f fd ps, mg x = some (.ref f) ∧ PySem.W.keepIn K (.ref f) = true ∧ L2.Binds K fd ps [] ∧ ps.length = 1 ∧
    ∀ (A : Around) (outer : List Env) (s : Shared) (H : Hp) (args : Args) (us : List Value) (Q : VK) (p : Addr × Obj) (pn : List (Addr × Obj)) (e : Ex) (cls : Value) (d : Option Addr) (F : Hp), RoomH j A → HotN A (p :: pn) → (∀ q ∈ p :: pn, PinOk outer H s q) → Zc cls d p.2 → (∃ vs, p.2.data = .fields vs) → Env0 P w K mg base A outer s H → BindsTo s fd args (ps.zip us) → Vals [V.ref p.1] us →
      Fz F H → RepX K mg F e cls d → goodEx e = true → GV K F H Q (wordOf e) → codeAny (model P w) A (.call (.ref f) args) (CR C8.CX0 outer P w H s Q C8.E0) s
section
variable {P : Program} {w : World} {K : PySem.W.Frag} {mg : Str → Option Value} {base : Heap}
theorem repX_cls {F : Hp} {e : Ex} {cls : Value} {d : Option Addr} (h : RepX K mg F e cls d) : ∃ C, mg (exName e) = some (.ref C) ∧ cls = .ref C := by
  cases e with
  | cls n => obtain ⟨C, h1, h2, _⟩ := h; exact ⟨C, h1, h2⟩
  | trb a b => obtain ⟨C, dd, x, y, h1, h2, _⟩ := h; exact ⟨C, h1, h2⟩
theorem fn_word {Dw : Addr → Option Addr → Ex → Fm → RS} (hDw : ∀ {a : Addr} {d : Option Addr} {e : Ex}, goodEx e = true → toV (Dw a d e [.exn a d e, .un, .un, .un]) = .ok (wordOf e)) {x qual y : Str} {st : Stmt} {f : Addr} {fd : FuncData} {N : List Str} {k : Nat} (Fn : Fun K x qual st f fd) (S : FnScope N [y] (defScope st)) (hN : N.length = 4) (hm : mg x = some (.ref f)) (hb : L2.Binds K fd [y] [])
    (body : ∀ (cdv : Value) (A : Around) (outer : List Env) (s : Shared) (H : Hp) (p : Addr × Obj) (pn : List (Addr × Obj)) (e : Ex) (C : Addr) (d : Option Addr), HotC2 (cxP C8.CX0 P w K mg base N qual (defScope st) f cdv A outer s H C8.E0 p pn) → HotE (cxP C8.CX0 P w K mg base N qual (defScope st) f cdv A outer s H C8.E0 p pn) p C d → mg (exName e) = some (.ref C) → goodEx e = true →
      RoomH k (A.deeper (envOfC qual (defScope st) s.heap.objs.size f cdv)) → PSs (cxP C8.CX0 P w K mg base N qual (defScope st) f cdv A outer s H C8.E0 p pn) (defBody st) (tS K mg (fun _ _ _ _ => False) (Dw p.1 d e))) : Word P w K mg base (k + 1) x := by
  refine ⟨f, fd, [y], hm, Fn.kp, hb, rfl, fun A outer s H args us Q p pn e cls d F hr hot hpin hz hfl e0 hbn r fz rx hge g => ?_⟩
  obtain ⟨oc, od, kV, doc, pm, an, cdv, ct, osl, rfl, lk, hcd⟩ := Fn.ex
  obtain ⟨C, hmC, rfl⟩ := repX_cls rx
  have KX : K.In s.heap := e0.mod.kin.keeps fun b o e => (e0.bs b o e).1
  have lim : s.heap.NoLimit := e0.mod.nolimit.keeps fun b o e => (e0.bs b o e).1
  have hkind : ∀ z ∈ [y].zip us, (defScope st).names.lookup z.1 = some .local ∨ ((defScope st).names.lookup z.1 = some .cell ∧ ((cellsFrom (s.heap.objs.size + 1) (defScope st).names []).lookup z.1).isSome = true) := fun ⟨n, v⟩ hy => by
    rcases S.par n (List.of_mem_zip hy).1 with q | q
    · exact .inl q
    · exact .inr ⟨q, PySem.W.cellsFrom_some _ _ _ (.inl q)⟩
  refine codeAny_call_function hr.depth (KX _ _ lk) rfl S.co S.gen rfl (PySem.W.codeRec_of KX hcd) (hbn _ _ _ _ ?_)
  refine wpAny_newFunctionEnv_cells S.kind hkind fun env he s1 x => ?_
  subst he
  refine ⟨lim.keeps x.toInCall.keep, codeAny_func ?_⟩
  have I : Inv (cxP C8.CX0 P w K mg base N qual (defScope st) f cdv A outer s H C8.E0 p pn) [] (L2.start N [V.ref p.1]) H s1 := inv_startP S hpin e0 rfl r x
  have ht := body cdv A outer s H p pn e C d ⟨p :: pn, hot, fun q hq => hq⟩ ⟨List.mem_cons_self, hz, hfl⟩ hmC hge (hr.deeper _)
  have e1 := hDw (a := p.1) (d := d) hge
  have en : L2.start N [V.ref p.1] = [some (V.ref p.1), none, none, none] := by
    unfold L2.start
    rw [show N.length - [V.ref p.1].length = 3 by rw [hN]; rfl]
    rfl
  have fs : FmSt K { Fb := F, F0 := F, H0 := H } F H (L2.start N [V.ref p.1]) [.exn p.1 d e, .un, .un, .un] := by
    rw [en]
    refine ⟨fun _ => [], ⟨fz, rfl, fun i s' q => ?_, fun _ _ => rfl, fun _ => List.nodup_nil, fun i j b h => (by cases h)⟩, (Step.refl fz).p, Same.refl _, fun i b h => (by cases h), fun a h => (by cases h)⟩
    match i, q with
    | 0, q =>
      cases q
      rw [SlotOk]
      refine ⟨rfl, rfl, fun dd z => ?_, fun w1 w2 z => ?_⟩
      · cases e with
        | cls n => obtain ⟨C', _, _, h3⟩ := rx; rw [z] at h3; cases h3
        | trb a b =>
          obtain ⟨C', d', x', y', _, _, h3, h4, _⟩ := rx
          rw [z] at h3; cases h3
          exact ⟨_, h4⟩
      · subst z
        obtain ⟨C', d', x', y', _, _, h3, h4, h5, h6⟩ := rx
        exact ⟨d', x', y', h3, h4, h5, h6⟩
    | 1, q => cases q; rw [SlotOk]
    | 2, q => cases q; rw [SlotOk]
    | 3, q => cases q; rw [SlotOk]
    | n + 4, q => cases q
  have hq : tS K mg (fun _ _ _ _ => False) (Dw p.1 d e) { nx := fun _ H' => Q .non H', rt := Q } (L2.start N [V.ref p.1]) H := by
    refine ⟨{ Fb := F, F0 := F, H0 := H }, F, _, fs, ?_⟩
    cases q : Dw p.1 d e [.exn p.1 d e, .un, .un, .un] with
    | rt v =>
      rw [q] at e1
      cases e1
      exact fun z F' H' st rz => g z F' H' st.un rz
    | rm v u =>
      rw [q] at e1
      cases e1
      exact fun z σ' F' H' fs rz => g z F' H' fs.st.un rz
    | nx v =>
      rw [q] at e1
      cases e <;> cases e1
    | rf v => rw [q] at e1; cases e1
    | bk v => rw [q] at e1; cases e1
    | ct v => rw [q] at e1; cases e1
    | ex v u => rw [q] at e1; cases e1
    | bad => rw [q] at e1; cases e1
  refine wpAny_mono (ht.run [] s1 _ H _ I hq) (fun fl s' hs => ?_) fun e s' hs => hs
  have fin : ∀ {σ' : L2.St} {H' : Hp} {v : V} {u : Value}, Inv (cxP C8.CX0 P w K mg base N qual (defScope st) f cdv A outer s H C8.E0 p pn) [] σ' H' s' → L2.RelV v u → Q v H' → CE outer P w H s Q u s' :=
    fun {σ' H' v u} J rv q => ⟨v, H', J.os, J.bare, J.base, J.hok, rv, q⟩
  cases fl with
  | ret u =>
    obtain ⟨v, σ', H', J, rv, q⟩ := hs
    exact fin J rv q
  | next =>
    obtain ⟨σ', H', J, q⟩ := hs
    exact fin (v := V.non) (u := Value.none) J rfl q
  | brk =>
    obtain ⟨_, _, _, q⟩ := hs
    exact False.elim q
  | cont =>
    obtain ⟨_, _, _, q⟩ := hs
    exact False.elim q
theorem pe_word {X : Cx} {a : Addr} {oe : Obj} {cls : Value} {d : Option Addr} {pn : List (Addr × Obj)} {i k j : Nat} {x y : Str} {q1 q2 q3 : Pos} (T : Word X.prog X.w X.K X.mg X.base k x) (hr : Room j X.A) (hk : k ≤ j) (hz : Zs pn cls d oe) (hf : ∃ vs, oe.data = .fields vs) (hi : i < X.N.length)
    (hg : Gl X x) (ha : PE (X.suite a ((a, oe) :: pn)) (.Name y q2) (tVar i)) (hdb : (x == ("__debug__" : Str)) = false := by decide)
    (he : starEach [.Name y q2] X.env = (false, eval (.Name y q2) X.env) :: starEach [] X.env := by rfl) (hpl : (backTo q3 (starEach [] X.env)).any (·.1) = false := by rfl) :
    PE (X.suite a ((a, oe) :: pn)) (.Call (.Name x q1) [.Name y q2] [] q3) (fun σ H Q => (i < σ.length → σ[i]? = some (some (.ref a))) ∧ ∃ F e, Fz F H ∧ RepX X.K X.mg F e cls d ∧ goodEx e = true ∧ GV X.K F H Q (wordOf e)) := by
  obtain ⟨f, fd, ps, hm, kp, hb, hl, run⟩ := T.ex
  refine ⟨fun pins s σ H Q I h => ?_⟩
  obtain ⟨hs, F, e, fz, rx, hge, g⟩ := h
  have hlen : σ.length = X.N.length := I.len
  have hs := hs (by omega)
  refine wpAny_Call_Name_kw (ld_glob I hg hm ?_ hdb)
  have hA : PA (X.suite a ((a, oe) :: pn)) [.Name y q2] (tCons (tVar i) tNil) := pa_cons ha pa_nil he
  refine PySem.W.callWith_K (h₀ := X.base) I.ok.mod.kin kp (thn (hA.run q3 pins s σ H (fun vs H1 => vs = [V.ref a] ∧ H1 = H) I ⟨_, hs, rfl, rfl⟩) fun us s1 ⟨vs, H1, I1, r, q⟩ => ⟨I1.kIn, ?_⟩) he hpl
  obtain ⟨rfl, rfl⟩ := q
  have b := hb s1 us I1.kIn (by rw [List.append_nil, hl, ← r.length]; rfl)
  rw [List.append_nil] at b
  have hpin : ∀ q ∈ (a, oe) :: pn, PinOk (X.suite a ((a, oe) :: pn)).stack H1 s1 q := fun q hq => by
    have P1 := I1.pin q (List.mem_append_left _ hq)
    exact ⟨P1.1, P1.2.1, fun hm => (List.mem_cons.mp (I1.stkSub q.1 hm)).elim P1.2.2.1 P1.2.2.2.1, P1.2.2.2.2⟩
  obtain ⟨vs0, hv0⟩ := hf
  obtain ⟨pn2, hn2, hp2⟩ : ∃ pn2, Nodes a ((a, oe) :: pn2) ∧ ∀ q ∈ (a, oe) :: pn2, q ∈ (a, oe) :: pn := by
    rcases hz.2 with z | ⟨q, hq, nx, lo⟩
    · exact ⟨[], .inl ⟨oe, rfl, vs0, hv0, z vs0 hv0⟩, fun q hq => by rw [List.mem_singleton.mp hq]; exact List.mem_cons_self⟩
    · refine ⟨[q], .inr ⟨oe, q, rfl, ⟨vs0, hv0, nx vs0 hv0⟩, lo⟩, fun p hp => ?_⟩
      rcases List.mem_cons.mp hp with rfl | hp
      · exact List.mem_cons_self
      · rw [List.mem_singleton.mp hp]
        exact List.mem_cons_of_mem _ hq
  refine wpAny_call (codeAny_mono (run _ _ s1 H1 ⟨us, []⟩ us Q (a, oe) pn2 e cls d F ((roomH_of (hr.mono hk)).mono (Nat.le_refl _) |> fun z => ⟨z.dp, z.un⟩) ⟨a, rfl, hn2⟩ (fun q hq => hpin q (hp2 q hq)) hz.1 ⟨vs0, hv0⟩ I1.env0 b r fz rx hge g) fun r' s' hq => ?_)
  cases r' with
  | error e => exact (show False from hq).elim
  | ok fl =>
    cases fl with
    | ret u => exact I1.after hq
    | next => exact False.elim hq
    | brk => exact False.elim hq
    | cont => exact False.elim hq
theorem told_gives {j : Nat} {tn x y n a : Str} {sg : Scope} {g CS : Addr} {cdg : Value} {p1 p2 p3 p4 p5 p6 p7 p8 q1 q2 : Pos} (T : Word P w K mg base j y) (nd : ([a, n] : List Str).Nodup) (hle : sg.names.lookup n = some .local) (hge : sg.names.lookup x = some .globalImplicit) (hgw : sg.names.lookup y = some .globalImplicit) (hme : mg x = some (.ref CS)) (hde : (x == ("__debug__" : Str)) = false)
    (hex : ∀ e C, goodEx e = true → mg (exName e) = some (.ref C) → PySem.W.exmOne K (.ref C) (.ref CS) = some true) (hdy : (y == ("__debug__" : Str)) = false) (hn1 : (n == ("__debug__" : Str)) = false) (hn2 : (n == ("__classdict__" : Str)) = false) :
    Gives P w K mg base j [a, n] tn sg g cdg [.Try [.Return (some (.Call (.Name a p1) [] [] p2)) p3] [.ExceptHandler (some (.Name x p4)) (some n) [.Return (some (.Call (.Name y q1) [.Name n q2] [] p5)) p6] p7] [] [] p8] a (TTold K mg) := by
  intro q A stack f c' s H Q tl hr act hc h
  have hgl : Gl (cxOf C8.CX0 P w K mg base [a, n] tn sg g cdg A stack s H C8.E0).nox x := hge
  have hgy : Gl (cxOf C8.CX0 P w K mg base [a, n] tn sg g cdg A stack s H C8.E0).nox y := hgw
  refine ⟨_, pss_one (L2C.ps_try_as (X := (cxOf C8.CX0 P w K mg base [a, n] tn sg g cdg A stack s H C8.E0).nox) (c := .ref CS) (i := 1) (Wout := fun _ _ _ _ => False)
      (tb := fun W D σ H => ∃ Ech : XK, (∀ cls d σ' H', Ech cls d H' → W cls d σ' H') ∧ σ[0]? = some (some (.ref f)) ∧ H c' = some (LamX.CodeO c' q) ∧ tl Ech H D.rt)
      (ts := fun a' cls d D σ H => (1 < σ.length → σ[1]? = some (some (.ref a'))) ∧ ∃ F e, Fz F H ∧ RepX K mg F e cls d ∧ goodEx e = true ∧ GV K F H D.rt (wordOf e))
      rfl rfl nd rfl hle ⟨hgl, hde, .inl hme⟩ takes0 (fun W pn xe tk _ => ?_) (fun a' oe cls d pn hz hf => ?_)), ?_⟩
  · refine ⟨fun pins s' σ H' D I h' => ?_⟩
    obtain ⟨Ech, hW, h1, h2, h3⟩ := h'
    have hp := act W pn xe Ech p1 p2 tk hW
    have hq := pss_one (ps_ret (pos := p3) hp)
    exact hq.run pins s' σ H' D I ⟨h1, h2, h3⟩
  · exact pss_one (ps_ret (pe_word (X := (cxOf C8.CX0 P w K mg base [a, n] tn sg g cdg A stack s H C8.E0).nox) (i := 1) T hr (Nat.le_refl _) hz hf (by show 1 < 2; omega) hgy (pe_var (i := 1) rfl (.inl hle) hn1 hn2) hdy))
  · refine ⟨fun cls dd H' => ∃ F' e, Fz F' H' ∧ RepX K mg F' e cls dd ∧ goodEx e = true ∧ GV K F' H' Q (wordOf e), fun cls d σ' H' ⟨F', e, fz, rx, hg2, g2⟩ => ?_, rfl, hc, h⟩
    obtain ⟨C, hC, rfl⟩ := repX_cls rx
    exact ⟨true, hex e C hg2 hC, fun _ a' _ => ⟨fun hl => by rw [List.length_set] at hl; exact List.getElem?_set_self hl, F', e, fz, rx, hg2, g2⟩, fun z => Bool.noConfusion z⟩
end
end Pv
set_option Elab.async false
set_option linter.all false
set_option maxRecDepth 100000
set_option maxHeartbeats 2000000
namespace Pv
open PySem PySem.Spec PyProof.Rows L2 L2H HotX
variable [TabCx]
section
variable {X : Cx} {W : WX}
theorem rep_flat {K : PySem.W.Frag} {F : Hp} {l : List PV} {xs : List V} (r : RepL K F l xs) : ∀ m : Nat, RepL K F (List.replicate m l).flatten (List.replicate m xs).flatten
  | 0 => .nil
  | m + 1 => by
    rw [List.replicate_succ, List.replicate_succ, List.flatten_cons, List.flatten_cons]
    exact r.app (rep_flat r m)
end
theorem excFB_ok {K : PySem.W.Frag} {C : Addr} (h : excFB K C = true) : ExcF K C := by
  obtain ⟨h1, h⟩ := He.ba h
  obtain ⟨h2, h⟩ := He.ba h
  obtain ⟨h3, h⟩ := He.ba h
  obtain ⟨h4, h⟩ := He.ba h
  obtain ⟨h5, h⟩ := He.ba h
  obtain ⟨h6, h⟩ := He.ba h
  obtain ⟨h7, h8⟩ := He.ba h
  exact ⟨h1, He.eqO_ok h2, He.eqO_ok h3, of_decide_eq_true h4, He.eqO_ok h5, He.eqO_ok h6, of_decide_eq_true h7, of_decide_eq_true h8⟩
structure WordF (K : PySem.W.Frag) (mg : Str → Option Value) : Prop where
  gl : ∀ n ∈ seven, mg n = some (.ref (He.ga K n))
  glT : mg "TryError" = some (.ref (He.ga K "TryError"))
  ok : wordB K = true
section
variable {K : PySem.W.Frag} {mg : Str → Option Value} (F : WordF K mg)
include F
theorem WordF.each {n : Str} (h : n ∈ seven) : ExcF K (He.ga K n) ∧ PySem.W.kitOne K (.ref (He.ga K n)) (.type "ValueError") = some true ∧ PySem.W.exmOne K (.ref (He.ga K n)) (.ref (He.ga K "TryError")) = some true ∧ ∀ m ∈ seven, PySem.W.kitOne K (.ref (He.ga K n)) (.ref (He.ga K m)) = some (n == m) := by
  have h2 := List.all_eq_true.mp F.ok n h
  obtain ⟨h3, h2⟩ := He.ba h2
  obtain ⟨h4, h2⟩ := He.ba h2
  obtain ⟨h5, h2⟩ := He.ba h2
  obtain ⟨h6, _⟩ := He.ba h2
  exact ⟨excFB_ok h3, of_decide_eq_true h4, of_decide_eq_true h5, fun m hm => of_decide_eq_true (List.all_eq_true.mp h6 m hm)⟩
theorem exName_in {e : Ex} (h : goodEx e = true) : exName e ∈ seven := by
  cases e with
  | trb _ _ => show ("Trouble" : Str) ∈ seven; decide +kernel
  | cls n =>
    have hm := List.contains_iff_mem.mp h
    simp only [List.mem_cons, List.not_mem_nil, or_false] at hm
    rcases hm with rfl | rfl | rfl | rfl | rfl | rfl <;> decide +kernel
theorem WordF.is {e : Ex} {C : Addr} (h : goodEx e = true) (hm : mg (exName e) = some (.ref C)) : C = He.ga K (exName e) := by
  have q := F.gl _ (exName_in F h)
  rw [hm] at q
  cases q
  rfl
theorem WordF.exF {e : Ex} {C : Addr} (h : goodEx e = true) (hm : mg (exName e) = some (.ref C)) : ExcF K C := by
  rw [F.is h hm]
  exact (F.each (exName_in F h)).1
theorem WordF.ve {e : Ex} {C : Addr} (h : goodEx e = true) (hm : mg (exName e) = some (.ref C)) : PySem.W.kitOne K (.ref C) (.type "ValueError") = some true := by
  rw [F.is h hm]
  exact (F.each (exName_in F h)).2.1
theorem WordF.exm {e : Ex} {C : Addr} (h : goodEx e = true) (hm : mg (exName e) = some (.ref C)) : PySem.W.exmOne K (.ref C) (.ref (He.ga K "TryError")) = some true := by
  rw [F.is h hm]
  exact (F.each (exName_in F h)).2.2.1
theorem WordF.kit {e : Ex} {C : Addr} {m : Str} (h : goodEx e = true) (hm : mg (exName e) = some (.ref C)) (hs : m ∈ seven) : PySem.W.kitOne K (.ref C) (.ref (He.ga K m)) = some (isX e m) := by
  rw [F.is h hm, (F.each (exName_in F h)).2.2.2 m hs]
  cases e <;> rfl
theorem WordF.xf {e : Ex} {C : Addr} (h : goodEx e = true) (hm : mg (exName e) = some (.ref C)) : XfC K C ∧ PySem.W.findIn K (.ref C) "word" = some none ∧ PySem.W.findIn K (.ref C) "what" = some none := by
  rw [F.is h hm]
  have h2 := List.all_eq_true.mp F.ok _ (exName_in F h)
  obtain ⟨_, h2⟩ := He.ba h2
  obtain ⟨_, h2⟩ := He.ba h2
  obtain ⟨_, h2⟩ := He.ba h2
  obtain ⟨_, h2⟩ := He.ba h2
  obtain ⟨h3, h4⟩ := He.ba h2
  obtain ⟨h5, h6⟩ := He.ba h4
  exact ⟨xfB_ok h3, He.eqO_ok h5, He.eqO_ok h6⟩
end
section
variable {X : Cx} {W : WX}
theorem v_isO {p : Addr × Obj} {C : Addr} {d : Option Addr} {e : Ex} {i : Nat} {y x : Str} {q p1 p2 pos : Pos} (F : WordF X.K X.mg) (hge : goodEx e = true) (hmC : X.mg (exName e) = some (.ref C)) (HE : HotE X p C d) (hm : X.mg "isinstance" = none) (ha : PE X (.Name y p1) (tVar i)) (hx : x ∈ seven) (hgx : Gl X x) (hg : Gl X "isinstance" := by rfl) (hdx : (x == ("__debug__" : Str)) = false := by decide)
    (hs : starEach [.Name y p1, .Name x p2] X.env = (false, eval (.Name y p1) X.env) :: starEach [.Name x p2] X.env := by rfl) (hs2 : starEach [.Name x p2] X.env = (false, eval (.Name x p2) X.env) :: starEach [] X.env := by rfl)
    (hpl : (backTo pos (starEach [.Name x p2] X.env)).any (·.1) = false := by rfl) :
    PE X (.Call (.Name "isinstance" q) [.Name y p1, .Name x p2] [] pos) (xV X W (dIsE i p.1 d (isX e x))) :=
  v_isE HE (F.exF hge hmC) (F.kit hge hmC hx) hm ha (pe_glob (v := .ref (He.ga X.K x)) hgx (F.gl x hx) rfl hdx) (fun u h => h) hg hs hs2 hpl
theorem v_isVE {p : Addr × Obj} {C : Addr} {d : Option Addr} {e : Ex} {i : Nat} {y : Str} {q p1 p2 pos : Pos} (F : WordF X.K X.mg) (hge : goodEx e = true) (hmC : X.mg (exName e) = some (.ref C)) (HE : HotE X p C d) (hm : X.mg "isinstance" = none) (hv : X.mg "ValueError" = none) (ha : PE X (.Name y p1) (tVar i)) (hgx : Gl X "ValueError" := by rfl) (hg : Gl X "isinstance" := by rfl)
    (hs : starEach [.Name y p1, .Name "ValueError" p2] X.env = (false, eval (.Name y p1) X.env) :: starEach [.Name "ValueError" p2] X.env := by rfl) (hs2 : starEach [.Name "ValueError" p2] X.env = (false, eval (.Name "ValueError" p2) X.env) :: starEach [] X.env := by rfl)
    (hpl : (backTo pos (starEach [.Name "ValueError" p2] X.env)).any (·.1) = false := by rfl) :
    PE X (.Call (.Name "isinstance" q) [.Name y p1, .Name "ValueError" p2] [] pos) (xV X W (dIsE i p.1 d true)) :=
  v_isE HE (F.exF hge hmC) (F.ve hge hmC) hm ha (pe_bltn (v := .ty "ValueError") hgx hv (by decide +kernel) rfl (by decide) (by decide)) (fun u h => h) hg hs hs2 hpl
theorem v_xfT {p : Addr × Obj} {C : Addr} {d : Option Addr} {e : Ex} {i : Nat} {y n : Str} {p1 pos : Pos} (w : Bool) (hn : n = if w = true then ("word" : Str) else "what") (F : WordF X.K X.mg) (hge : goodEx e = true) (hmC : X.mg (exName e) = some (.ref C)) (HE : HotE X p C d) (ha : PE X (.Name y p1) (tVar i)) (hb : attributeBase (.Name y p1) n X.env (eval (.Name y p1) X.env) = eval (.Name y p1) X.env := by rfl) :
    PE X (.Attribute (.Name y p1) n pos) (xV X W (dXf i p.1 d w)) := by
  obtain ⟨x1, x2, x3⟩ := F.xf hge hmC
  refine v_xf w hn HE x1 ?_ ha hb
  subst hn
  cases w
  · exact x3
  · exact x2
end
end Pv
set_option Elab.async false
set_option linter.all false
set_option maxRecDepth 100000
set_option maxHeartbeats 2000000
namespace Pv
open PySem PySem.Spec PyProof.Rows L2
def qn (x : Str) : Str := (envOfC x ⟨.function, [], false, false, []⟩ 0 0 .none).qual ++ "<lambda>"
def lamL (tf : List He.Defn) (K : PySem.W.Frag) : List (Addr × Str) := tf.map fun d => ((He.cT K d).2, qn d.1)
@[reducible] def tabK (tf : List He.Defn) (cl : List (Str × List Str)) (K : PySem.W.Frag) : TabCx := { T := lamL tf K, cls := He.ga K, fld := fun c => (cl.lookup c).getD [], long := fun v => v = .ref (He.ga K "BadHouse") }
theorem lamAt_of {tf : List He.Defn} {cl : List (Str × List Str)} {K : PySem.W.Frag} {base : Heap} {mg : Str → Option Value} {x : Str} {st : Stmt} {fd : FuncData} (hx : (x, none) ∈ tf) (Fn : Fun K x x st (He.fAd K (x, none)) fd) (TB : ∀ p ∈ tf.map (He.cT K), LamX.TabB base mg p.1 p.2) (hd : distB K tf = true) :
    @LamAt (tabK tf cl K) base mg fd.code (qn x) := by
  letI : TabCx := tabK tf cl K
  obtain ⟨oc, od, kV, doc, pm, an, cdv, ct, osl, e, lk, hcd⟩ := Fn.ex
  obtain ⟨c, hc⟩ := He.codeIn_ref hcd
  have e1 : fd.code = .ref c := by rw [e]; exact hc
  have e2 : He.codeOf K (x, none) = c := He.codeOf_eq lk e1
  have tb := TB (He.cT K (x, none)) (List.mem_map.mpr ⟨_, hx, rfl⟩)
  refine ⟨(He.cT K (x, none)).1, (He.cT K (x, none)).2, by rw [e1, ← e2]; rfl, tb, List.mem_map.mpr ⟨_, hx, rfl⟩, fun p hp ep => ?_⟩
  obtain ⟨d, hdm, rfl⟩ := List.mem_map.mp hp
  have h1 := List.all_eq_true.mp (List.all_eq_true.mp hd d hdm) _ hx
  rcases Bool.or_eq_true_iff.mp h1 with h2 | h2
  · rw [of_decide_eq_true h2]
  · have h3 : decide ((He.cT K d).2 = (He.cT K (x, none)).2) = true := decide_eq_true ep
    rw [h3] at h2
    cases h2
def CXq (P : Program) (w : World) : CXT := fun outer H s E u s' => ∃ i : TabCx, @L2C.CX i P w outer H s E u s'
theorem fnOk_q {i : TabCx} {P : Program} {w : World} {K : PySem.W.Frag} {mg : Str → Option Value} {base : Heap} {k : Nat} {f : Addr} {fd : FuncData} {ps : List Str} {sp : Sp} (F : FnOk P w K mg base (@L2C.CX i P w) k f fd ps sp) : FnOk P w K mg base (CXq P w) k f fd ps sp :=
  ⟨F.len, fun A outer s H args us vs Q E hr e0 b r h => codeAny_mono (F.run A outer s H args us vs Q E hr e0 b r h) fun rr s' q => by
    cases rr with
    | error e => exact ⟨i, q⟩
    | ok fl => cases fl <;> exact q⟩
theorem lawAt_of {cl : List (Str × List Str)} {l : PySem.W.OpenLaw} {w : World} {K : PySem.W.Frag} {k : Nat} {mg : Str → Option Value} {fa : Addr} {h : Heap} {fl : List He.Fa} {fn : List He.DefD} {ts : List He.Tab} {tf : List He.Defn} {ex : PySem.W.Frag → Bool} {fd : FuncData} (X : K.In h) (c : He.SaysX fl fn ts tf ex w h K) (hb : ∀ (s : Shared) (u : Value), BindsTo s fd ⟨[u], []⟩ [("script", u)])
    (F : ∀ base : Heap, K.In base → base.Ns mainGlobals mg → (∀ p ∈ tf.map (He.cT K), LamX.TabB base mg p.1 p.2) → FnOk l.prog w K mg base (@L2C.CX (tabK tf cl K) l.prog w) k fa fd ["script"] (@spLaw (tabK tf cl K) K)) : LamX.LawAtS l w K (CXq l.prog w) k 63 "script" mg fa h := by
  refine ⟨fd, tf.map (He.cT K), @spLaw (tabK tf cl K) K, fun p hp => ?_, fun p hp => ?_, fun p hp => ?_, hb, fun H a ns hl hbits hT hS => ⟨a, ns, rfl, hS, hl, hbits, fun p hp => ?_, fun _ => rfl⟩, fun base h1 h2 h3 => fnOk_q (F base h1 h2 h3)⟩
  · obtain ⟨d, hd, rfl⟩ := List.mem_map.mp hp
    exact c.empty d hd
  · obtain ⟨d, hd, rfl⟩ := List.mem_map.mp hp
    exact c.out d hd
  · obtain ⟨d, hd, rfl⟩ := List.mem_map.mp hp
    exact PySem.W.codeHd_of_K X (c.hd d hd)
  · obtain ⟨d, hd, rfl⟩ := List.mem_map.mp hp
    exact hT (He.cT K d) (List.mem_map.mpr ⟨d, hd, rfl⟩)
theorem exc1_of {K : PySem.W.Frag} {h : Heap} {mg : Str → Option Value} {n : Str} (X : K.In h) (G : h.Ns mainGlobals mg) (g : (He.Fa.glo n).ok K = true) (c : (He.Fa.exc n).ok K = true) : Exc1 K mg n := by
  obtain ⟨h1, h2, h3, h4⟩ := He.exc_ok c
  exact ⟨He.ga K n, He.glo_ok X G g, h1, h2, h3, h4⟩
theorem told_mk [TabCx] {P : Program} {w : World} {K : PySem.W.Frag} {mg : Str → Option Value} {base : Heap} {x a n : Str} {st : Stmt} {f : Addr} {fd : FuncData} {j : Nat} (Fn : Fun K x x st f fd) (hm : mg x = some (.ref f)) (hb : Binds K fd [a] []) (S : FnScope [a, n] [a] (defScope st)) (hv : Vis (defScope st) a)
    (h1 : (a == ("__debug__" : Str)) = false) (h2 : (a == ("__classdict__" : Str)) = false) (G : ∀ cdv, Gives P w K mg base j [a, n] x (defScope st) f cdv (defBody st) a (TTold K mg)) : Told P w K mg base j x := by
  obtain ⟨oc, od, kV, doc, pm, an, cdv, ct, osl, rfl, lk, hcd⟩ := Fn.ex
  exact ⟨f, _, _, _, _, kV, doc, pm, cdv, ct, oc, an, od, osl, [a, n], a, hm, Fn.kp, lk, hcd, hb, S, rfl, hv, h1, h2, G cdv⟩
theorem cxN_false {P : Program} {w : World} {outer : List Env} {H : Hp} {s : Shared} {e : Value} {s' : Shared} (h : CXq P w outer H s (fun _ _ _ => False) e s') : False := by
  obtain ⟨_, _, _, _, _, _, _, _, _, _, _, _, _, z⟩ := h
  exact z
end Pv
set_option Elab.async false
set_option linter.all false
set_option maxRecDepth 100000
set_option maxHeartbeats 2000000
namespace Pv
open PySem PySem.Spec PyProof.Rows L2
variable [TabCx]
def setAll : Fm → List Nat → List PV → Option Fm
  | env, [], [] => some env
  | env, j :: js, d :: ds => if j < env.length then setAll (env.set j (.pv d)) js ds else none
  | _, _, _ => none
def tgT (js : List Nat) : Tgt := fun d env => match d with
  | .tup ds => setAll env js ds
  | _ => none
def gNs : List Nat → TGs
  | [] => gNil
  | i :: r => gCons (gName i) (gNs r)
theorem setAll_len : ∀ {js : List Nat} {ds : List PV} {env env' : Fm}, setAll env js ds = some env' → ds.length = js.length
  | [], [], _, _, _ => rfl
  | [], _ :: _, _, _, h => by cases h
  | _ :: _, [], _, _, h => by cases h
  | j :: js, d :: ds, env, env', h => by
    unfold setAll at h
    split at h
    · simp only [List.length_cons, setAll_len h]
    · cases h
theorem fpClr_cons {fp : Fp} {j : Nat} {js : List Nat} : fpClr (fpSet fp j []) js = fpClr fp (j :: js) := by
  funext k
  unfold fpClr fpSet
  by_cases c : k ∈ js
  · rw [if_pos c, if_pos (List.mem_cons_of_mem _ c)]
  · rw [if_neg c]
    by_cases d : k = j
    · rw [if_pos d, if_pos (by rw [d]; exact List.mem_cons_self)]
    · rw [if_neg d, if_neg (fun z => (List.mem_cons.mp z).elim d c)]
theorem go_all {K : PySem.W.Frag} {F H : Hp} : ∀ {js : List Nat} {ds : List PV} {vs : List V} {σ : L2.St} {env env' : Fm} {fp : Fp} {Q : L2.St → Hp → Prop}, FmOkP K F H σ env fp → RepL K F ds vs → setAll env js ds = some env' →
    (∀ σ', FmOkP K F H σ' env' (fpClr fp js) → (∀ j, j ∉ js → σ'[j]? = σ[j]?) → (∀ j, j ∉ js → env'[j]? = env[j]?) → (∀ j s, j ∈ js → env'[j]? = some s → ∃ d, s = .pv d) → σ'.length = σ.length → Q σ' H) → gNs js vs σ H Q
  | [], [], vs, σ, env, env', fp, Q, ok, r, h, q => by
    cases h
    simp only [RepL] at r
    exact ⟨r, q σ ok (fun _ _ => rfl) (fun _ _ => rfl) (fun j s z _ => by cases z) rfl⟩
  | [], _ :: _, _, _, _, _, _, _, _, _, h, _ => by cases h
  | _ :: _, [], _, _, _, _, _, _, _, _, h, _ => by cases h
  | j :: js, d :: ds, vs, σ, env, env', fp, Q, ok, r, h, q => by
    unfold setAll at h
    split at h
    · rename_i hj
      simp only [RepL] at r
      obtain ⟨x, rest, e, rx, rr⟩ := r
      refine ⟨x, rest, e, go_all (ok.setPv hj rx) rr h fun σ' ok' h1 h2 h3 h4 => q σ' (fpClr_cons ▸ ok') (fun i hi => ?_) (fun i hi => ?_) (fun i s hi e => ?_) (by rw [h4, List.length_set])⟩
      · rw [h1 i (fun z => hi (List.mem_cons_of_mem _ z)), List.getElem?_set_ne (fun z => hi (by rw [z]; exact List.mem_cons_self))]
      · rw [h2 i (fun z => hi (List.mem_cons_of_mem _ z)), List.getElem?_set_ne (fun z => hi (by rw [z]; exact List.mem_cons_self))]
      · by_cases c : i ∈ js
        · exact h3 i s c e
        · rcases List.mem_cons.mp hi with z | z
          · subst z
            rw [h2 i c, List.getElem?_set_self hj] at e
            cases e
            exact ⟨d, rfl⟩
          · exact absurd z c
    · cases h
theorem tg_tup {K : PySem.W.Frag} (js : List Nat) : TgS K (gTup K js.length (gNs js)) (tgT js) js := by
  intro F H σ env fp x d env' Q ok r e q
  unfold tgT at e
  cases d with
  | tup ds =>
    simp only [Rep] at r
    obtain ⟨a, xs, rfl, hq, rl⟩ := r
    exact ⟨a, xs, rfl, sqT_mono ok.s0.same hq, by rw [rl.len]; exact setAll_len e, go_all ok rl e q⟩
  | non => cases e
  | bl _ => cases e
  | int _ => cases e
  | str _ => cases e
  | lst _ => cases e
  | scr _ => cases e
  | dct _ _ => cases e
  | ins _ _ => cases e
def dSetT (js : List Nat) (d : Fm → R PV) : Fm → RS := fun env => match d env with
  | .ok v => (match tgT js v env with
    | some e => .nx e
    | none => .bad)
  | .ex e => .ex e env
  | .bad => .bad
section
variable {X : Cx} {W : WX}
theorem s_setT {tg e : Expr} {d : Fm → R PV} {pos : Pos} (js : List Nat) (he : PE X e (xV X W d)) (hg : PG X tg (gTup X.K js.length (gNs js))) (hs : swapsWithSole [tg] e pos.line X.env = pure false := by rfl) (hw : swappedStores [tg] e X.env = pure none := by rfl)
    (h1 : (assignEach [tg] X.env).map (·.2) = [assign tg X.env] := by rfl) : PS X (.Assign [tg] e pos) (xS X W (dSetT js d)) := PS.imp (ps_asg he hg hs hw h1) fun D σ H ⟨B, F, env, fs, p⟩ => by
  refine ⟨F, env, fs.ok, ?_⟩
  unfold dSetT at p
  cases q : d env with
  | bad => rw [q] at p; exact p
  | ex e => rw [q] at p; exact GXs fs p
  | ok v =>
    rw [q] at p
    intro x F' H' st r
    simp only at p
    cases qt : tgT js v env with
    | none => rw [qt] at p; exact p.elim
    | some e' =>
      rw [qt] at p
      obtain ⟨fx, fy⟩ := fs.step st
      refine tg_tup js F' H' σ env _ x v e' _ fy.ok r qt fun σ' ok' h1 h2 h3 h4 => p σ' F' H' ⟨_, ok', fy.st, fy.sb, fun j b hb => fy.fr j b (fpClr_sub hb), fun a ha k s ej y => ?_⟩
      by_cases z : k ∈ js
      · obtain ⟨d0, z0⟩ := h3 k _ z ej; subst z0; rw [isP_pv] at y; cases y
      · rw [h2 k z] at ej; rw [h1 k z]; exact fy.pin a ha k s ej y
end
end Pv
set_option Elab.async false
set_option linter.all false
set_option maxRecDepth 100000
set_option maxHeartbeats 3200000
namespace Pv
open PySem PySem.Spec PyProof.Rows L2
section
variable {prog : Program} {w : World} {A : Around} {R : Result → Shared → Prop} {I : Addr} {fp wr : List Addr} {G : Array GenState → Array GenState → Prop} {n : Nat} {P : Nat → Value → Prop} {St : Nat → Shared → Prop}
end
section
variable {prog : Program} {w : World} {A : Around} {E : Value → Shared → Prop} {s : Shared}
structure Walked (prog : Program) (w : World) (s : Shared) (l : Addr) (T : String) (xs : List Str) : Prop where
  s1 : isSubtype (.type T) (.type "set") = pure false
  s2 : isSubtype (.type T) (.type "frozenset") = pure false
  ne : (Value.type T == Value.type "dict") = false
  it : ∀ (A : Around) (E : Value → Shared → Prop) (Q : Value → Shared → Prop) (s1 : Shared), A.handled = none → (∀ b o, s.heap.get? b = some o → s1.heap.get? b = some o) →
    (∀ (h' : Heap) (P : Nat → Value → Prop) (St : Nat → Heap → Prop), (∀ b o, s1.heap.get? b = some o → h'.get? b = some o) → PySem.Walks prog w A.in1 s1.heap.objs.size [s1.heap.objs.size, l] [s1.heap.objs.size] xs.length P St → (∀ i v, P i v → ∃ t, v = .str (xs.getD i Str.empty) t) → St 0 h' →
      Q (.ref s1.heap.objs.size) { s1 with heap := h' }) → wpAny (model prog w) A (pyIter (.ref l)) Q E s1
theorem sub_tuple_set : isSubtype (.type "tuple") (.type "set") = pure false := by rw [isSubtype_type]; kernel_rfl
theorem sub_tuple_frozenset : isSubtype (.type "tuple") (.type "frozenset") = pure false := by rw [isSubtype_type]; kernel_rfl
end
section
variable [TabCx]
variable {X : Cx} {W : WX}
end
end Pv
set_option Elab.async false
set_option linter.all false
set_option maxRecDepth 100000
set_option maxHeartbeats 2000000
namespace Pv
open PySem PySem.Spec PyProof.Rows L2
variable [TabCx]
section
variable {X : Cx} {W : WX}
theorem rep_strs {K : PySem.W.Frag} {F : Hp} : ∀ ys : List Str, RepL K F (ys.map .str) (ys.map V.str)
  | [] => .nil
  | y :: ys => .cons (by simp only [Rep]) (rep_strs ys)
def strTup (ys : List Str) : PV := .tup (ys.map .str)
structure GTup (K : PySem.W.Frag) (mg : Str → Option Value) (x : Str) (ys : List Str) : Prop where
  ex : ∃ a, mg x = some (.ref a) ∧ ∀ F, SqT K F a (ys.map V.str)
theorem kGlTup {x : Str} {pos : Pos} {ys : List Str} (T : GTup X.K X.mg x ys) (hg : Gl X x := by rfl) (hd : (x == ("__debug__" : Str)) = false := by decide) : PE X (.Name x pos) (xV X W (dC (strTup ys))) := by
  obtain ⟨a, h1, h2⟩ := T.ex
  exact kGlRef hg h1 (fun F => by simp only [strTup, Rep]; exact ⟨a, _, rfl, h2 F, rep_strs ys⟩) hd
end
theorem gtup_of {K : PySem.W.Frag} {h : Heap} {mg : Str → Option Value} {x : Str} {ys : List Str} (X : K.In h) (G : h.Ns mainGlobals mg) (g : (He.Fa.glo x).ok K = true) (c : He.tupB K x (ys.map He.Dv.str) = true) : GTup K mg x ys :=
  ⟨He.ga K x, He.glo_ok X G g, fun F => by
    have q := He.tupB_ok c F
    rw [List.map_map] at q
    exact q⟩
end Pv
set_option Elab.async false
set_option linter.all false
set_option maxRecDepth 100000
set_option maxHeartbeats 2000000
namespace Pv
open PySem PySem.Spec PyProof.Rows L2
variable [TabCx]
structure ClF (K : PySem.W.Frag) (c : Str) (ns : List Str) : Prop where
  cls : Cls K (TabCx.cls c)
  fld : TabCx.fld c = ns
  no : ∀ f ∈ ns, NoAttr K (TabCx.cls c) f
  nd : ns.Nodup
  few : ns.length < 100
section
variable {K : PySem.W.Frag} {F H : Hp}
theorem SlotsOk.at_ : ∀ {fs : List Slot} {vs : List V} {fq : List Addr} {j : Nat} {s : Slot}, SlotsOk K F H fs vs fq → fs[j]? = some s → s ≠ .un → ∃ x f1, vs[j]? = some x ∧ SlotOk K F H s (some (some x)) f1 ∧ ∀ b ∈ f1, b ∈ fq
  | [], _, _, j, s, _, e, _ => by cases e
  | s0 :: ss, vs, fq, j, s, h, e, hn => by
    simp only [SlotsOk] at h
    rcases h with ⟨e1, e2, h⟩ | ⟨x, r, f1, f2, e1, h1, h2, ef⟩
    · cases j with
      | zero => cases e; exact absurd e2 hn
      | succ j =>
        rw [List.getElem?_cons_succ] at e
        obtain ⟨x, f1, ex, _⟩ := SlotsOk.at_ h e hn
        simp at ex
    · subst ef e1
      cases j with
      | zero => cases e; exact ⟨x, f1, rfl, h1, fun b hb => List.mem_append_left _ hb⟩
      | succ j =>
        rw [List.getElem?_cons_succ] at e ⊢
        obtain ⟨y, f3, ey, hy, hs⟩ := SlotsOk.at_ h2 e hn
        exact ⟨y, f3, ey, hy, fun b hb => List.mem_append_right _ (hs b hb)⟩
end
section
variable {X : Cx} {W : WX}
end
section
variable {K : PySem.W.Frag} {F H : Hp}
theorem SlotsOk.nil_fp : ∀ {fs : List Slot} {fq : List Addr}, SlotsOk K F H fs [] fq → fq = []
  | [], fq, h => by simp only [SlotsOk] at h; exact h.2
  | s :: ss, fq, h => by
    simp only [SlotsOk] at h
    rcases h with ⟨_, _, h⟩ | ⟨x, r, f1, f2, e1, _⟩
    · exact SlotsOk.nil_fp h
    · cases e1
def putAt (vs : List V) (j : Nat) (y : V) : List V := if j < vs.length then vs.set j y else vs ++ [y]
theorem SlotsOk.put : ∀ {fs : List Slot} {vs : List V} {fq f' : List Addr} {j : Nat} {s' : Slot} {y : V}, SlotsOk K F H fs vs fq → fq.Nodup → j < fs.length → j ≤ vs.length → SlotOk K F H s' (some (some y)) f' → f'.Nodup → (∀ b ∈ f', b ∉ fq) →
    ∃ fq', SlotsOk K F H (fs.set j s') (putAt vs j y) fq' ∧ fq'.Nodup ∧ ∀ b ∈ fq', b ∈ fq ∨ b ∈ f'
  | [], _, _, _, j, _, _, _, _, hj, _, _, _, _ => absurd hj (Nat.not_lt_zero _)
  | s :: ss, vs, fq, f', 0, s', y, h, nd, _, hv, hs, nd', dj => by
    simp only [SlotsOk] at h
    rcases h with ⟨e1, e2, h⟩ | ⟨x, r, f1, f2, e1, h1, h2, ef⟩
    · subst e1
      refine ⟨f', ?_, nd', fun b hb => .inr hb⟩
      rw [List.set_cons_zero, SlotsOk]
      have z := h.nil_fp
      subst z
      exact .inr ⟨y, [], f', [], rfl, hs, h, (List.append_nil _).symm⟩
    · subst e1 ef
      refine ⟨f' ++ f2, ?_, ?_, ?_⟩
      · rw [List.set_cons_zero, SlotsOk]
        exact .inr ⟨y, r, f', f2, rfl, hs, h2, rfl⟩
      · rw [List.nodup_append] at nd ⊢
        exact ⟨nd', nd.2.1, fun a ha b hb z => dj a ha (by rw [z]; exact List.mem_append_right _ hb)⟩
      · intro b hb
        rcases List.mem_append.mp hb with z | z
        · exact .inr z
        · exact .inl (List.mem_append_right _ z)
  | s :: ss, vs, fq, f', j + 1, s', y, h, nd, hj, hv, hs, nd', dj => by
    simp only [SlotsOk] at h
    rcases h with ⟨e1, e2, h⟩ | ⟨x, r, f1, f2, e1, h1, h2, ef⟩
    · subst e1; exact absurd hv (Nat.not_succ_le_zero j)
    · subst e1 ef
      rw [List.nodup_append] at nd
      obtain ⟨fq', g1, g2, g3⟩ := SlotsOk.put (j := j) (s' := s') (y := y) h2 nd.2.1 (by simpa using hj) (by simpa using hv) hs nd' (fun b hb z => dj b hb (List.mem_append_right _ z))
      refine ⟨f1 ++ fq', ?_, ?_, ?_⟩
      · rw [List.set_cons_succ, SlotsOk]
        refine .inr ⟨x, putAt r j y, f1, fq', ?_, h1, g1, rfl⟩
        unfold putAt
        simp only [List.length_cons, Nat.add_lt_add_iff_right, List.set_cons_succ, List.cons_append]
        split <;> rfl
      · rw [List.nodup_append]
        refine ⟨nd.1, g2, fun a ha b hb z => ?_⟩
        subst z
        rcases g3 a hb with y1 | y1
        · exact nd.2.2 a ha a y1 rfl
        · exact dj a y1 (List.mem_append_left _ ha)
      · intro b hb
        rcases List.mem_append.mp hb with z | z
        · exact .inl (List.mem_append_left _ z)
        · rcases g3 b z with y1 | y1
          · exact .inl (List.mem_append_right _ y1)
          · exact .inr y1
theorem putF_at {f : Str} {y : V} : ∀ {nvs : List (Str × V)} {ns : List Str} {j : Nat}, ns.Nodup → nvs.map (·.1) = ns.take nvs.length → ns[j]? = some f → j ≤ nvs.length → (putF f y nvs).map (·.1) = ns.take (putF f y nvs).length ∧ (putF f y nvs).map (·.2) = putAt (nvs.map (·.2)) j y
  | [], ns, j, nd, hm, hj, hl => by
    have z : j = 0 := Nat.le_zero.mp hl
    subst z
    cases ns with
    | nil => cases hj
    | cons n ns =>
      rw [List.getElem?_cons_zero] at hj
      cases hj
      simp [putF, putAt]
  | (g, x) :: r, ns, j, nd, hm, hj, hl => by
    cases ns with
    | nil => simp at hm
    | cons n ns =>
      simp only [List.map_cons, List.length_cons, List.take_succ_cons, List.cons.injEq] at hm
      obtain ⟨rfl, hm⟩ := hm
      rw [List.nodup_cons] at nd
      cases j with
      | zero =>
        rw [List.getElem?_cons_zero] at hj
        cases hj
        refine ⟨?_, ?_⟩
        · simp only [putF, if_true, List.map_cons, List.length_cons, List.take_succ_cons, hm]
        · simp [putF, putAt]
      | succ j =>
        rw [List.getElem?_cons_succ] at hj
        have hne : ¬ g = f := fun z => nd.1 (by rw [z]; exact List.mem_of_getElem? hj)
        have ih := putF_at (f := f) (y := y) (j := j) nd.2 hm hj (by simpa using hl)
        have e : putF f y ((g, x) :: r) = (g, x) :: putF f y r := by simp only [putF, if_neg hne]
        rw [e]
        refine ⟨?_, ?_⟩
        · simp only [List.map_cons, List.length_cons, List.take_succ_cons, ih.1]
        · rw [List.map_cons, ih.2]
          unfold putAt
          simp only [List.map_cons, List.length_cons, Nat.add_lt_add_iff_right, List.set_cons_succ, List.cons_append]
          split <;> rfl
end
def notUn : Slot → Bool
  | .un => false
  | _ => true
section
variable {K : PySem.W.Frag} {F H : Hp}
theorem SlotsOk.full : ∀ {fs : List Slot} {vs : List V} {fq : List Addr} {j : Nat}, SlotsOk K F H fs vs fq → j ≤ fs.length → (fs.take j).all notUn = true → j ≤ vs.length
  | _, _, _, 0, _, _, _ => Nat.zero_le _
  | [], _, _, j + 1, _, hj, _ => absurd hj (Nat.not_succ_le_zero j)
  | s :: ss, vs, fq, j + 1, h, hj, hn => by
    simp only [List.take_succ_cons, List.all_cons, Bool.and_eq_true] at hn
    simp only [SlotsOk] at h
    rcases h with ⟨e1, e2, h⟩ | ⟨x, r, f1, f2, e1, h1, h2, ef⟩
    · subst e2; exact absurd hn.1 (by decide)
    · subst e1
      have := SlotsOk.full (j := j) h2 (by simpa using hj) hn.2
      simp only [List.length_cons]; omega
end
def setFld (i : Nat) (c : Str) (j : Nat) (s : Slot) (env : Fm) : Option Fm := match env[i]? with
  | some (.obj c' fs) => if c' = c ∧ j < fs.length ∧ (fs.take j).all notUn = true then some (env.set i (.obj c (fs.set j s))) else none
  | _ => none
section
variable {B : Bs}
theorem FmStP.setFld {K : PySem.W.Frag} {F H : Hp} {σ : L2.St} {env env' : Fm} {fp : Fp} {i j : Nat} {c f : Str} {ns : List Str} {s' : Slot} {y : V} {f' : List Addr} (h : FmStP K B F H σ env fp) (C : ClF K c ns) (hj : ns[j]? = some f) (e : Pv.setFld i c j s' env = some env')
    (hs : SlotOk K F H s' (some (some y)) f') (nd' : f'.Nodup) (dj : ∀ k b, b ∈ f' → b ∉ fp k) (fr : ∀ b ∈ f', (B.P b ∧ B.F0 b = none) ∨ Fresh B.H0 b) :
    ∃ a dx nvs, σ[i]? = some (some (.ref a)) ∧ H a = some (.ins (TabCx.cls c) dx nvs) ∧ nvs.length < 1000 ∧ FmSt K B F (upd H a (.ins (TabCx.cls c) dx (putF f y nvs))) σ env' := by
  unfold Pv.setFld at e
  split at e
  · rename_i c' fs e1
    split at e
    · rename_i z
      obtain ⟨z1, z2, z3⟩ := z
      subst z1
      cases e
      have q := h.ok.at' i _ e1
      simp only [SlotOk] at q
      obtain ⟨a, dx, nvs, fq, h1, h2, h3, h4, h5, hm, hl, hq, ef⟩ := q
      have hnd := h.ok.nd i
      rw [ef] at hnd
      have hnd2 := (List.nodup_cons.mp (List.nodup_cons.mp hnd).2)
      have ha : a ∉ fq := fun z => (List.nodup_cons.mp hnd).1 (List.mem_cons_of_mem _ z)
      have hda : a ≠ dx := fun z => (List.nodup_cons.mp hnd).1 (by rw [z]; exact List.mem_cons_self)
      have hle := hq.full (j := j) (by omega) z3
      rw [List.length_map] at hle
      have hsub : ∀ b ∈ f', b ∉ fp i := fun b hb => dj i b hb
      obtain ⟨fq', g1, g2, g3⟩ := hq.put (j := j) hnd2.2 z2 (by rw [List.length_map]; exact hle) hs nd' (fun b hb z => hsub b hb (by rw [ef]; exact List.mem_cons_of_mem _ (List.mem_cons_of_mem _ z)))
      rw [C.fld] at hm hl
      obtain ⟨p1, p2⟩ := putF_at (f := f) (y := y) C.nd hm hj hle
      have hnl : nvs.length < 1000 := by
        have e2 := congrArg List.length hm
        rw [List.length_map, List.length_take] at e2
        have := C.few
        omega
      have inF' : ∀ b ∈ fq', b ≠ a ∧ b ≠ dx := fun b hb => by
        rcases g3 b hb with y1 | y1
        · exact ⟨fun z => ha (by rw [← z]; exact y1), fun z => hnd2.1 (by rw [← z]; exact y1)⟩
        · exact ⟨fun z => hsub b y1 (by rw [ef, z]; exact List.mem_cons_self), fun z => hsub b y1 (by rw [ef, z]; exact List.mem_cons_of_mem _ List.mem_cons_self)⟩
      refine ⟨a, dx, nvs, h1, h2, hnl, _, h.mut (l := a :: dx :: fq') e1 (by rw [ef]; exact List.mem_cons_self) ?_ ?_ (fun b hb => ?_) (fun z => by rw [isP_obj_eq]; exact z)⟩
      · rw [SlotOk]
        refine ⟨a, dx, putF f y nvs, fq', h1, upd_same, h3, by rw [upd_ne fun z => hda z.symm]; exact h4, h5, by rw [C.fld]; exact p1, by rw [List.length_set, hl, C.fld], ?_, rfl⟩
        rw [p2]
        exact SlotsOk.keep (Same.refl _) _ _ _ g1 fun b hb o eb => ⟨by rw [upd_ne (inF' b hb).1]; exact eb, (SlotsOk.held _ _ _ g1 b hb).1⟩
      · rw [List.nodup_cons, List.nodup_cons]
        refine ⟨fun z => ?_, fun z => (inF' dx z).2 rfl, g2⟩
        rcases List.mem_cons.mp z with z | z
        · exact hda z
        · exact (inF' a z).1 rfl
      · rcases List.mem_cons.mp hb with z | z
        · exact .inl (by rw [ef, z]; exact List.mem_cons_self)
        · rcases List.mem_cons.mp z with z | z
          · exact .inl (by rw [ef, z]; exact List.mem_cons_of_mem _ List.mem_cons_self)
          · rcases g3 b z with y1 | y1
            · exact .inl (by rw [ef]; exact List.mem_cons_of_mem _ (List.mem_cons_of_mem _ y1))
            · exact .inr ⟨fun k => dj k b y1, fr b y1⟩
    · cases e
  · cases e
end
section
variable {X : Cx} {W : WX}
def ofF : Option Fm → RS
  | some e => .nx e
  | none => .bad
def dFSet (i : Nat) (c : Str) (j : Nat) (d : Fm → R PV) : Fm → RS := fun env => match d env with
  | .ok v => ofF (setFld i c j (.pv v) env)
  | .ex e => .ex e env
  | .bad => .bad
end
end Pv
set_option Elab.async false
set_option linter.all false
set_option maxRecDepth 100000
set_option maxHeartbeats 2000000
namespace Pv
open PySem PySem.Spec PyProof.Rows L2
variable [TabCx]
def allFp (fp : Fp) (n : Nat) : List Addr := (List.range n).flatMap fp
def frzF (F H : Hp) (l : List Addr) : Hp := fun b => if b ∈ l then H b else F b
def unF (F : Hp) (l : List Addr) : Hp := fun b => if b ∈ l then none else F b
theorem mem_allFp {fp : Fp} {n : Nat} {b : Addr} : b ∈ allFp fp n ↔ ∃ i, i < n ∧ b ∈ fp i := by
  unfold allFp
  rw [List.mem_flatMap]
  exact ⟨fun ⟨i, h1, h2⟩ => ⟨i, List.mem_range.mp h1, h2⟩, fun ⟨i, h1, h2⟩ => ⟨i, List.mem_range.mpr h1, h2⟩⟩
section
variable {K : PySem.W.Frag} {F H : Hp} {σ : L2.St} {env : Fm} {fp : Fp}
theorem FmOkP.all (ok : FmOkP K F H σ env fp) {b : Addr} (h : b ∈ allFp fp env.length) : F b = none ∧ ∃ o, H b = some o ∧ ownK o = true := by
  obtain ⟨i, hi, hb⟩ := mem_allFp.mp h
  exact SlotOk.held _ _ _ (ok.at' i _ (List.getElem?_eq_getElem hi)) b hb
theorem FmOkP.sameZ (ok : FmOkP K F H σ env fp) : Same F (frzF F H (allFp fp env.length)) := fun b o e => by
  unfold frzF
  rw [if_neg fun z => by rw [(ok.all z).1] at e; cases e]
  exact e
theorem FmOkP.fz (ok : FmOkP K F H σ env fp) : Fz (frzF F H (allFp fp env.length)) H := by
  refine ⟨fun b o e => ?_, ok.s0.tabs, fun b o e => ?_⟩
  · unfold frzF at e
    split at e
    · exact e
    · exact ok.s0.up e
  · unfold frzF at e
    split at e
    · rename_i z
      obtain ⟨_, o', e', k⟩ := ok.all z
      rw [e] at e'
      cases e'
      exact ownK_noTab k
    · exact ok.s0.noT b o e
theorem FmOkP.back {F' H' : Hp} (ok : FmOkP K F H σ env fp) (st : Step (frzF F H (allFp fp env.length)) H F' H') : Step F H (unF F' (allFp fp env.length)) H' := by
  have hl : ∀ b, b ∈ allFp fp env.length → ∀ o, H b = some o → H' b = some o := fun b hb o e => st.s2.up (st.s1 b o (by unfold frzF; rw [if_pos hb]; exact e))
  refine ⟨ok.s0, fun b o e => ?_, ⟨fun b o e => ?_, st.s2.tabs, fun b o e => ?_⟩, fun b o h n t => ?_⟩
  · unfold unF
    rw [if_neg fun z => by rw [(ok.all z).1] at e; cases e]
    exact st.s1 b o (ok.sameZ b o e)
  · unfold unF at e
    split at e
    · cases e
    · exact st.s2.up e
  · unfold unF at e
    split at e
    · cases e
    · exact st.s2.noT b o e
  · by_cases z : b ∈ allFp fp env.length
    · exact ⟨hl b z o h, by unfold unF; rw [if_pos z]⟩
    · obtain ⟨h1, h2⟩ := st.keep b o h (by unfold frzF; rw [if_neg z]; exact n) t
      exact ⟨h1, by unfold unF; rw [if_neg z]; exact h2⟩
end
mutual
/-- no lists, dicts, objects in it -/
def plainV : PV → Bool
  | .non => true
  | .bl _ => true
  | .int _ => true
  | .str _ => true
  | .tup xs => plainL xs
  | _ => false
def plainL : List PV → Bool
  | [] => true
  | x :: xs => plainV x && plainL xs
end
section
variable {K : PySem.W.Frag} {F : Hp} {l : List Addr}
mutual
theorem Rep.unF (hl : ∀ b ∈ l, ∀ o, F b = some o → ownK o = true) : ∀ (d : PV) (v : V), plainV d = true → Rep K F d v → Rep K (Pv.unF F l) d v
  | .non, _, _, h => by simp only [Rep] at h ⊢; exact h
  | .bl _, _, _, h => by simp only [Rep] at h ⊢; exact h
  | .int _, _, _, h => by simp only [Rep] at h ⊢; exact h
  | .str _, _, _, h => by simp only [Rep] at h ⊢; exact h
  | .tup ds, v, p, h => by
    simp only [Rep] at h ⊢
    simp only [plainV] at p
    obtain ⟨a, xs, e, q, r⟩ := h
    have out : ∀ o, F a = some o → ownK o = false → Pv.unF F l a = some o := fun o e k => by
      unfold Pv.unF
      rw [if_neg fun z => by rw [hl a z o e] at k; cases k]
      exact e
    refine ⟨a, xs, e, ?_, RepL.unF hl ds xs p r⟩
    rcases q with (q | ⟨o, q⟩) | q
    · exact .inl (.inl (out _ q rfl))
    · exact .inl (.inr ⟨o, out _ q rfl⟩)
    · exact .inr q
  | .lst _, _, p, _ => by simp only [plainV] at p; cases p
  | .scr _, _, p, _ => by simp only [plainV] at p; cases p
  | .dct _ _, _, p, _ => by simp only [plainV] at p; cases p
  | .ins _ _, _, p, _ => by simp only [plainV] at p; cases p
theorem RepL.unF (hl : ∀ b ∈ l, ∀ o, F b = some o → ownK o = true) : ∀ (ds : List PV) (vs : List V), plainL ds = true → RepL K F ds vs → RepL K (Pv.unF F l) ds vs
  | [], _, _, h => by simp only [RepL] at h ⊢; exact h
  | d :: ds, vs, p, h => by
    simp only [plainL, Bool.and_eq_true] at p
    simp only [RepL] at h ⊢
    obtain ⟨x, r, e, h1, h2⟩ := h
    exact ⟨x, r, e, Rep.unF hl d x p.1 h1, RepL.unF hl ds r p.2 h2⟩
end
end
def plainE : Ex → Bool
  | .cls _ => true
  | .trb a b => plainV a && plainV b
theorem RepX.unF {K : PySem.W.Frag} {mg : Str → Option Value} {F : Hp} {l : List Addr} (hl : ∀ b ∈ l, ∀ o, F b = some o → ownK o = true) {e : Ex} {c : Value} {d : Option Addr} (p : plainE e = true) (h : RepX K mg F e c d) : RepX K mg (Pv.unF F l) e c d := by
  cases e with
  | cls n => exact h
  | trb a b =>
    simp only [plainE, Bool.and_eq_true] at p
    obtain ⟨C, dd, x, y, h1, h2, h3, h4, h5, h6⟩ := h
    refine ⟨C, dd, x, y, h1, h2, h3, ?_, Rep.unF hl a x p.1 h5, Rep.unF hl b y p.2 h6⟩
    unfold Pv.unF
    rw [if_neg fun z => by have := hl dd z _ h4; cases this]
    exact h4
def plainR : R PV → R PV
  | .ok v => if plainV v = true then .ok v else .bad
  | .ex e => if plainE e = true then .ex e else .bad
  | .bad => .bad
@[simp] theorem plainR_bad : plainR .bad = .bad := rfl
section
variable {X : Cx} {W : WX}
end
mutual
/-- what a slot is when it is frozen -/
def frzV : Slot → Option PV
  | .pv d => some d
  | .own l => some (.lst l)
  | .byr l => some (.lst l)
  | .dic ks vs => some (.dct ks vs)
  | .lck ks vs => some (.dct ks vs)
  | .obj c fs => (frzVs fs).map (.ins c)
  | _ => none
def frzVs : List Slot → Option (List PV)
  | [] => some []
  | s :: ss => (frzV s).bind fun d => (frzVs ss).map (d :: ·)
end
section
variable {K : PySem.W.Frag} {F H : Hp} {l : List Addr}
mutual
theorem frzV_rep (sz : Same F (frzF F H l)) : ∀ (s : Slot) (x : V) (f1 : List Addr) (d : PV), SlotOk K F H s (some (some x)) f1 → (∀ b ∈ f1, b ∈ l) → frzV s = some d → Rep K (frzF F H l) d x
  | .un, _, _, _, _, _, e => by simp only [frzV] at e; cases e
  | .exn _ _ _, _, _, _, _, _, e => by simp only [frzV] at e; cases e
  | .pv d, x, f1, d', h, _, e => by
    simp only [frzV, Option.some.injEq] at e
    subst e
    simp only [SlotOk] at h
    obtain ⟨_, x', e1, r⟩ := h
    cases e1
    exact r.mono sz
  | .own m, x, f1, d', h, hl, e => by
    simp only [frzV, Option.some.injEq] at e
    subst e
    simp only [SlotOk] at h
    obtain ⟨a, xs, e1, h1, h2, r, ef⟩ := h
    cases e1
    rw [Rep]
    exact ⟨a, xs, rfl, by unfold frzF; rw [if_pos (hl a (by rw [ef]; exact List.mem_cons_self))]; exact h1, r.mono sz⟩
  | .byr m, x, f1, d', h, hl, e => by
    simp only [frzV, Option.some.injEq] at e
    subst e
    simp only [SlotOk] at h
    obtain ⟨a, xs, e1, h1, h2, r, ef⟩ := h
    cases e1
    rw [Rep]
    exact ⟨a, xs, rfl, by unfold frzF; rw [if_pos (hl a (by rw [ef]; exact List.mem_cons_self))]; exact h1, r.mono sz⟩
  | .dic ks vs, x, f1, d', h, hl, e => by
    simp only [frzV, Option.some.injEq] at e
    subst e
    simp only [SlotOk] at h
    obtain ⟨a, xs, e1, h1, h2, l1, r, ef⟩ := h
    cases e1
    rw [Rep]
    exact ⟨a, xs, rfl, .inl (by unfold frzF; rw [if_pos (hl a (by rw [ef]; exact List.mem_cons_self))]; exact h1), l1, r.mono sz⟩
  | .lck ks vs, x, f1, d', h, hl, e => by
    simp only [frzV, Option.some.injEq] at e
    subst e
    simp only [SlotOk] at h
    obtain ⟨a, xs, od, e1, h1, h2, l1, r, ef⟩ := h
    cases e1
    rw [Rep]
    exact ⟨a, xs, rfl, .inr ⟨od, by unfold frzF; rw [if_pos (hl a (by rw [ef]; exact List.mem_cons_self))]; exact h1⟩, l1, r.mono sz⟩
  | .obj c fs, x, f1, d', h, hl, e => by
    simp only [frzV] at e
    cases q : frzVs fs with
    | none => rw [q] at e; cases e
    | some ds =>
      rw [q] at e
      simp only [Option.map_some, Option.some.injEq] at e
      subst e
      simp only [SlotOk] at h
      obtain ⟨a, dx, nvs, fq, e1, h1, h2, h3, h4, hm, hn, hs, ef⟩ := h
      cases e1
      have ia : a ∈ l := hl a (by rw [ef]; exact List.mem_cons_self)
      have id : dx ∈ l := hl dx (by rw [ef]; exact List.mem_cons_of_mem _ List.mem_cons_self)
      obtain ⟨r, hlen⟩ := frzVs_rep sz fs (nvs.map (·.2)) fq ds hs (fun b hb => hl b (by rw [ef]; exact List.mem_cons_of_mem _ (List.mem_cons_of_mem _ hb))) q
      rw [List.length_map] at hlen
      rw [Rep]
      refine ⟨a, dx, nvs, rfl, by unfold frzF; rw [if_pos ia]; exact h1, by unfold frzF; rw [if_pos id]; exact h3, ?_, [], .inl rfl, by rw [List.append_nil]; exact r⟩
      rw [hm, hlen, hn, List.take_length]
theorem frzVs_rep (sz : Same F (frzF F H l)) : ∀ (ss : List Slot) (xs : List V) (f1 : List Addr) (ds : List PV), SlotsOk K F H ss xs f1 → (∀ b ∈ f1, b ∈ l) → frzVs ss = some ds → RepL K (frzF F H l) ds xs ∧ xs.length = ss.length
  | [], xs, f1, ds, h, _, e => by
    simp only [frzVs, Option.some.injEq] at e
    subst e
    simp only [SlotsOk] at h
    rw [h.1]
    exact ⟨.nil, rfl⟩
  | s :: ss, xs, f1, ds, h, hl, e => by
    simp only [frzVs] at e
    cases q : frzV s with
    | none => rw [q] at e; cases e
    | some d =>
      rw [q] at e
      simp only [Option.bind_some] at e
      cases q2 : frzVs ss with
      | none => rw [q2] at e; cases e
      | some r =>
        rw [q2] at e
        simp only [Option.map_some, Option.some.injEq] at e
        subst e
        simp only [SlotsOk] at h
        rcases h with ⟨e1, e2, h⟩ | ⟨x, rr, g1, g2, e1, h1, h2, ef⟩
        · subst e2; simp only [frzV] at q; cases q
        · subst e1 ef
          obtain ⟨i1, i2⟩ := frzVs_rep sz ss rr g2 r h2 (fun b hb => hl b (List.mem_append_right _ hb)) q2
          exact ⟨.cons (frzV_rep sz s x g1 d h1 (fun b hb => hl b (List.mem_append_left _ hb)) q) i1, by simp only [List.length_cons, i2]⟩
end
end
section
variable {X : Cx} {W : WX}
def dQ (i : Nat) : Fm → R PV := fun env => ofO (env[i]?.bind frzV)
def dCallQ (g : List PV → R PV) (d : Fm → R (List PV)) : Fm → R PV := fun env => (d env).bind fun ds => plainR (g ds)
variable {x : Str} {k j : Nat} {e : Expr} {es : List Expr} {d : Fm → R (List PV)} {p pos : Pos}
end
section
variable {X : Cx} {W : WX} {CX : CXT} {k : Nat} {f C : Addr} {fd : FuncData} {ps : List Str} {sp : Sp} {E : L2.St → XK} {m : Str} {pos apos : Pos} {e o : Expr} {es : List Expr} {ta : TE} {t : TA}
end
structure CaM (P : Program) (w : World) (K : PySem.W.Frag) (mg : Str → Option Value) (base : Heap) (k : Nat) (c m : Str) (g : List PV → R PV) : Prop where
  ex : ∃ f fd ps, FnOk P w K mg base (L2C.CX P w) k f fd ps (spV K mg g) ∧ Meth K (TabCx.cls c) m f ∧ Binds K fd ps []
section
variable {X : Cx} {W : WX} {k j i : Nat} {c m y : Str} {ns : List Str} {g : List PV → R PV} {pos apos p1 : Pos} {e o : Expr} {es : List Expr} {d : Fm → R (List PV)} {da : Fm → R PV}
def pAttr (c : Str) (j : Nat) : PV → Option PV
  | .ins c' fs => if c' = c then fs[j]? else none
  | _ => none
def dMV (c : Str) (g : List PV → R PV) (da : Fm → R PV) (d : Fm → R (List PV)) : Fm → R PV := fun env => (da env).bind fun x => match x with
  | .ins c' fs => if c' = c then (d env).bind fun es => g (.ins c fs :: es) else .bad
  | _ => .bad
end
end Pv
set_option Elab.async false
set_option linter.all false
set_option maxRecDepth 100000
set_option maxHeartbeats 2000000
namespace Pv
open PySem PySem.Spec PyProof.Rows L2
variable [TabCx]
inductive RM where
  | ok (v : PV) (fs : List Slot)
  | ex (e : Ex) (fs : List Slot)
  | bad
def MP (K : PySem.W.Frag) (mg : Str → Option Value) (c : Str) (F H : Hp) (Q : VK) (E : XK) (a : Addr) (fp : List Addr) : RM → Prop
  | .ok v fs' => ∀ x F' H' fp', StepP (· ∈ fp) F H F' H' → SlotOk K F' H' (.obj c fs') (some (some (.ref a))) fp' → fp'.Nodup → (∀ b ∈ fp', b ∈ fp ∨ Fresh H b) → Rep K F' v x → Q x H'
  | .ex e fs' => ∀ cls dd F' H' fp', StepP (· ∈ fp) F H F' H' → SlotOk K F' H' (.obj c fs') (some (some (.ref a))) fp' → fp'.Nodup → (∀ b ∈ fp', b ∈ fp ∨ Fresh H b) → RepX K mg F' e cls dd → E cls dd H'
  | .bad => False
def spM (K : PySem.W.Frag) (mg : Str → Option Value) (c : Str) (g : List Slot → List PV → RM) : Sp := fun vs H Q E => ∃ F fs ds a us fp, vs = .ref a :: us ∧ Fz F H ∧ SlotOk K F H (.obj c fs) (some (some (.ref a))) fp ∧ fp.Nodup ∧ RepL K F ds us ∧ MP K mg c F H Q E a fp (g fs ds)
def fmM (n : Nat) (c : Str) (fs : List Slot) (ds : List PV) : Fm := .obj c fs :: fm0 (n - 1) ds
def toM (c : Str) : RS → RM
  | .nx (.obj c' fs :: _) => if c' = c then .ok .non fs else .bad
  | .rm v (.obj c' fs :: _) => if c' = c then .ok v fs else .bad
  | .ex e (.obj c' fs :: _) => if c' = c then .ex e fs else .bad
  | _ => .bad
section
variable {P : Program} {w : World} {K : PySem.W.Frag} {mg : Str → Option Value} {base : Heap}
end
structure CaMM (P : Program) (w : World) (K : PySem.W.Frag) (mg : Str → Option Value) (base : Heap) (k : Nat) (c m : Str) (g : List Slot → List PV → RM) : Prop where
  ex : ∃ f fd ps, FnOk P w K mg base (L2C.CX P w) k f fd ps (spM K mg c g) ∧ Meth K (TabCx.cls c) m f ∧ Binds K fd ps []
inductive RE (α : Type) where
  | ok (a : α) (env : Fm)
  | ex (e : Ex) (env : Fm)
  | bad
def GM (K : PySem.W.Frag) (mg : Str → Option Value) (W : WX) (B : Bs) (σ : L2.St) (Q : VK) : RE PV → Prop
  | .ok v e' => ∀ x F' H', FmSt K B F' H' σ e' → Rep K F' v x → Q x H'
  | .ex e e' => ∀ c dd F' H', FmSt K B F' H' σ e' → RepX K mg F' e c dd → W c dd σ H'
  | .bad => False
section
variable {X : Cx} {W : WX}
variable {k j i : Nat} {c m y : Str} {ns : List Str} {g : List Slot → List PV → RM} {pos apos p1 : Pos} {e o : Expr} {es : List Expr} {d : Fm → RE (List PV)}
end
section
variable {X : Cx} {W : WX}
end
def uns (n : Nat) : List Slot := List.replicate n .un
structure CaMk (P : Program) (w : World) (K : PySem.W.Frag) (mg : Str → Option Value) (base : Heap) (k : Nat) (c : Str) (g : List Slot → List PV → RM) : Prop where
  ex : ∃ f fd ps, FnOk P w K mg base (L2C.CX P w) k f fd ps (spM K mg c g) ∧ Mk K (TabCx.cls c) f ∧ mg c = some (.ref (TabCx.cls c)) ∧ Binds K fd ps []
section
variable {X : Cx} {W : WX} {k j i : Nat} {c : Str} {ns : List Str} {g : List Slot → List PV → RM} {pos p : Pos} {e : Expr} {es : List Expr} {d : Fm → R (List PV)}
end
end Pv
set_option Elab.async false
set_option linter.all false
set_option maxRecDepth 100000
set_option maxHeartbeats 2000000
namespace Pv
open PySem PySem.Spec PyProof.Rows L2
variable [TabCx]
structure GDct (K : PySem.W.Frag) (w : World) (mg : Str → Option Value) (x : Str) (kvs : List (Str × Int)) : Prop where
  ex : ∃ a es n, mg x = some (.ref a) ∧ KDict K w a es n ∧ ∀ z, ∃ r, PySem.W.nsIn K a z = some r ∧ match kvs.lookup z with
    | some i => ∃ t, r = some (.int i t)
    | none => r = none
theorem find_dct (z : Str) : ∀ {l : List DictEntry} {kvs : List (Str × Int)}, l.map (fun e => (keyT e.key, valI e.val)) = kvs.map (fun q => (some q.1, some q.2)) → (l.any (·.refKey)) = false ∧ match kvs.lookup z with
    | some i => ∃ e t, l.find? (·.key.isStr z) = some e ∧ e.val = .int i t
    | none => l.find? (·.key.isStr z) = none
  | [], [], _ => ⟨rfl, rfl⟩
  | [], _ :: _, h => by cases h
  | _ :: _, [], h => by cases h
  | e :: l, (k, i) :: kvs, h => by
    simp only [List.map_cons, List.cons.injEq, Prod.mk.injEq] at h
    obtain ⟨⟨h1, h2⟩, h3⟩ := h
    obtain ⟨r1, r2⟩ := find_dct z h3
    obtain ⟨hash, key, val⟩ := e
    have ek : ∃ t, key = .str k t := by
      cases key with
      | str x t => simp only [keyT, Option.some.injEq] at h1; subst h1; exact ⟨t, rfl⟩
      | _ => cases h1
    have ev : ∃ t, val = .int i t := by
      cases val with
      | int x t => simp only [valI, Option.some.injEq] at h2; subst h2; exact ⟨t, rfl⟩
      | _ => cases h2
    obtain ⟨t, rfl⟩ := ek
    obtain ⟨t', rfl⟩ := ev
    refine ⟨by rw [List.any_cons, r1]; rfl, ?_⟩
    rw [List.lookup_cons, List.find?_cons]
    by_cases c : z = k
    · subst c
      have b : (z == z) = true := beq_self_eq_true z
      have b2 : (Value.str z t).isStr z = true := by simp [Value.isStr]
      simp only [b, b2]
      exact ⟨_, t', rfl, rfl⟩
    · have b : (z == k) = false := beq_eq_false_iff_ne.mpr c
      have b2 : (Value.str k t).isStr z = false := by simp [Value.isStr]; exact fun y => c y.symm
      simp only [b, b2]
      exact r2
theorem gdct_of {K : PySem.W.Frag} {w : World} {h : Heap} {mg : Str → Option Value} {x : Str} {kvs : List (Str × Int)} (X : K.In h) (G : h.Ns mainGlobals mg) (g : (He.Fa.glo x).ok K = true) (t : ∃ es n, KDict K w (He.ga K x) es n) (c : dctB K x kvs = true) : GDct K w mg x kvs := by
  obtain ⟨es, n, D⟩ := t
  refine ⟨He.ga K x, es, n, He.glo_ok X G g, D, fun z => ?_⟩
  unfold dctB at c
  rw [D.at_] at c
  have c2 := of_decide_eq_true c
  obtain ⟨r1, r2⟩ := find_dct z c2
  unfold PySem.W.nsIn
  rw [D.at_]
  simp only
  cases q : kvs.lookup z with
  | some i =>
    rw [q] at r2
    obtain ⟨e, t, e1, e2⟩ := r2
    rw [e1]
    exact ⟨_, rfl, t, by rw [e2]⟩
  | none =>
    rw [q] at r2
    simp only at r2
    rw [r2, r1]
    exact ⟨none, rfl, rfl⟩
def pDin (kvs : List (Str × Int)) : PV → Option Bool
  | .str z => some (kvs.lookup z).isSome
  | _ => none
def pDix (kvs : List (Str × Int)) : PV → Option PV
  | .str z => (kvs.lookup z).map .int
  | _ => none
section
variable {X : Cx} {W : WX} {x : Str} {kvs : List (Str × Int)} {a b : Expr} {da db : Fm → R PV} {p pos : Pos}
theorem v_dIn (T : GDct X.K X.w X.mg x kvs) (ha : PE X a (xR X W da)) (hg : Gl X x := by rfl) (hd : (x == ("__debug__" : Str)) = false := by decide) (hm : behindInMarks .In (.Name x p) = false := by rfl) : PE X (.Compare a [.In] [.Name x p] pos) (xV X W (dBv (d1 (pDin kvs) da))) := by
  obtain ⟨d, es, n, h1, D, h2⟩ := T.ex
  refine PE.imp (pe_cmpR (op_in_kd D) ha (pe_glob (v := .ref d) hg h1 rfl hd) hm) fun σ H Q ⟨F, env, ok, p⟩ => ?_
  have h : ∃ F env, FmOk X.K F H σ env ∧ RP ((da env).bind fun x => (ofO (pDin kvs x)).bind fun b => .ok (PV.bl b)) (GV X.K F H Q) (GX X.K X.mg F H σ W) := by
    refine ⟨F, env, ok, ?_⟩
    unfold dBv d1 at p
    cases q : da env with
    | ok v => rw [q] at p; exact p
    | ex e => rw [q] at p; exact p
    | bad => rw [q] at p; exact p
  refine seq1 (f := fun _ x => (ofO (pDin kvs x)).bind fun b => .ok (PV.bl b)) stGV h fun F H x a env ok ra p => ?_
  cases a with
  | str z =>
    cases ra.str
    obtain ⟨r, e1, e2⟩ := h2 z
    refine ⟨z, r, rfl, rfl, e1, ?_⟩
    simp only [pDin, ofO_some, R.bind_ok] at p
    cases q : kvs.lookup z with
    | some i => rw [q] at p e2; obtain ⟨t, rfl⟩ := e2; exact gv_here p ok.s0 (by simp only [Rep, Option.isSome_some])
    | none => rw [q] at p e2; simp only at e2; subst e2; exact gv_here p ok.s0 (by simp only [Rep, Option.isSome_none])
  | non => exact p.elim
  | bl _ => exact p.elim
  | int _ => exact p.elim
  | tup _ => exact p.elim
  | lst _ => exact p.elim
  | scr _ => exact p.elim
  | dct _ _ => exact p.elim
  | ins _ _ => exact p.elim
theorem v_dIx (T : GDct X.K X.w X.mg x kvs) (hb : PE X b (xR X W db)) (hg : Gl X x := by rfl) (hd : (x == ("__debug__" : Str)) = false := by decide) (hs : PlainIx b := by exact fun _ _ => rfl) : PE X (.Subscript (.Name x p) b pos) (xV X W (d1 (pDix kvs) db)) := by
  obtain ⟨d, es, n, h1, D, h2⟩ := T.ex
  refine PE.imp (pe_ix ix_kdict (pe_glob (v := .ref d) hg h1 rfl hd) hb hs) fun σ H Q h => ?_
  refine seq1 stGV h fun F H x a env ok ra p => ?_
  cases a with
  | str z =>
    cases ra.str
    obtain ⟨r, e1, e2⟩ := h2 z
    simp only [pDix] at p
    cases q : kvs.lookup z with
    | some i =>
      rw [q] at p e2
      obtain ⟨t, rfl⟩ := e2
      exact ⟨d, z, .int i, rfl, rfl, ⟨es, n, _, D.at_, D.lit, e1, ⟨t, rfl⟩⟩, gv_here p ok.s0 (by simp only [Rep])⟩
    | none => rw [q] at p; exact p.elim
  | non => exact p.elim
  | bl _ => exact p.elim
  | int _ => exact p.elim
  | tup _ => exact p.elim
  | lst _ => exact p.elim
  | scr _ => exact p.elim
  | dct _ _ => exact p.elim
  | ins _ _ => exact p.elim
end
section
variable {X : Cx} {W : WX} {a b : Expr} {da db : Fm → R PV} {p pos : Pos} {k : Nat}
end
end Pv
set_option Elab.async false
set_option linter.all false
set_option maxRecDepth 100000
set_option maxHeartbeats 2000000
namespace Pv
open PySem PySem.Spec PyProof.Rows L2
variable [TabCx]
section
variable {X : Cx} {W : WX}
end
section
variable {K : PySem.W.Frag} {F H : Hp}
theorem SlotsOk.wr {b : Addr} {o' : HO} : ∀ {fs : List Slot} {vs : List V} {fq : List Addr} {j : Nat} {s s' : Slot} {y : V}, SlotsOk K F H fs vs fq → fq.Nodup → fs[j]? = some s → s ≠ .un → vs[j]? = some y → SlotOk K F H s (some (some y)) [b] → SlotOk K F (upd H b o') s' (some (some y)) [b] →
    b ∈ fq → (∀ f1, SlotOk K F H s (some (some y)) f1 → f1 = [b]) → SlotsOk K F (upd H b o') (fs.set j s') vs fq
  | [], _, _, _, _, _, _, _, _, e, _, _, _, _, _, _ => by cases e
  | s0 :: ss, vs, fq, 0, s, s', y, h, nd, e, hn, ev, hs, hs', hb, un => by
    cases e
    simp only [SlotsOk] at h
    rcases h with ⟨e1, e2, h⟩ | ⟨x, r, f1, f2, e1, h1, h2, ef⟩
    · exact absurd e2 hn
    · subst e1 ef
      simp only [List.getElem?_cons_zero, Option.some.injEq] at ev
      subst ev
      have z := un f1 h1
      subst z
      rw [List.set_cons_zero, SlotsOk]
      rw [List.nodup_append] at nd
      refine .inr ⟨_, r, [b], f2, rfl, hs', SlotsOk.keep (Same.refl _) _ _ _ h2 fun c hc o eo => ?_, rfl⟩
      have hne : c ≠ b := fun z => nd.2.2 b (List.mem_singleton.mpr rfl) c hc z.symm
      exact ⟨by rw [upd_ne hne]; exact eo, (SlotsOk.held _ _ _ h2 c hc).1⟩
  | s0 :: ss, vs, fq, j + 1, s, s', y, h, nd, e, hn, ev, hs, hs', hb, un => by
    rw [List.getElem?_cons_succ] at e
    simp only [SlotsOk] at h
    rcases h with ⟨e1, e2, h⟩ | ⟨x, r, f1, f2, e1, h1, h2, ef⟩
    · subst e1; cases ev
    · subst e1 ef
      rw [List.getElem?_cons_succ] at ev
      obtain ⟨y', f3, ey, hy, hsub⟩ := h2.at_ e hn
      rw [ev] at ey
      cases ey
      have z := un f3 hy
      subst z
      have hb2 : b ∈ f2 := hsub b (List.mem_singleton.mpr rfl)
      rw [List.nodup_append] at nd
      rw [List.set_cons_succ, SlotsOk]
      refine .inr ⟨x, r, f1, f2, rfl, SlotOk.keep (Same.refl _) _ _ _ h1 fun c hc o eo => ?_, SlotsOk.wr h2 nd.2.1 e hn ev hs hs' hb2 un, rfl⟩
      have hne : c ≠ b := fun z => nd.2.2 c hc b hb2 z
      exact ⟨by rw [upd_ne hne]; exact eo, (SlotOk.held _ _ _ h1 c hc).1⟩
end
section
variable {X : Cx} {W : WX}
end
end Pv
set_option Elab.async false
set_option linter.all false
set_option maxRecDepth 100000
set_option maxHeartbeats 4000000
namespace Pv
open PySem PySem.Spec PyProof.Rows L2
variable [TabCx]
def spTrb (C : Addr) : Sp := fun vs H Q _ => ∃ (a : Addr) (x y : V), vs = [.ref a, x, y] ∧ H a = some (exo a C none) ∧ ∀ dx, H dx = none → dx ≠ a → Q .non (upd (upd (upd H dx (exd dx [("word", x)])) a (exo a C (some dx))) dx (exd dx [("what", y), ("word", x)]))
section
variable {P : Program} {w : World} {K : PySem.W.Frag} {mg : Str → Option Value} {base : Heap}
end
structure CaX (P : Program) (w : World) (K : PySem.W.Frag) (mg : Str → Option Value) (base : Heap) (x : Str) : Prop where
  ex : ∃ C fI fd ps k, k ≤ 1 ∧ OexC K C ∧ PySem.W.findIn K (.ref C) "__init__" = some (some (.ref fI)) ∧ PySem.W.typeIn K (.ref fI) = some (.type "function") ∧ FnOk P w K mg base (L2C.CX P w) k fI fd ps (spTrb C) ∧ Binds K fd ps [] ∧ mg x = some (.ref C)
section
variable {X : Cx} {W : WX} {e : Expr} {es : List Expr} {ta : TA} {p pos : Pos}
end
section
variable {X : Cx} {W : WX}
structure TrbF (K : PySem.W.Frag) (mg : Str → Option Value) : Prop where
  gl : mg "Trouble" = some (.ref (He.ga K "Trouble"))
  xf : XfC K (He.ga K "Trouble")
  n1 : PySem.W.findIn K (.ref (He.ga K "Trouble")) "word" = some none
  n2 : PySem.W.findIn K (.ref (He.ga K "Trouble")) "what" = some none
theorem WordF.trb {K : PySem.W.Frag} {mg : Str → Option Value} (F : WordF K mg) : TrbF K mg := by
  have h := F.gl "Trouble" (by decide +kernel)
  obtain ⟨x1, x2, x3⟩ := F.xf (e := .trb .non .non) rfl h
  exact ⟨h, x1, x2, x3⟩
end
end Pv
set_option Elab.async false
set_option linter.all false
set_option maxRecDepth 100000
set_option maxHeartbeats 4000000
namespace Pv
open PySem PySem.Spec PyProof.Rows L2
variable [TabCx]
section
variable {X : Cx} {W : WX} {B : Bs}
theorem FmStP.drop {K : PySem.W.Frag} {F H : Hp} {σ : L2.St} {env : Fm} {fp : Fp} {i : Nat} (h : FmStP K B F H σ env fp) : FmStP K B F H σ (env.set i .un) (fpSet fp i []) := by
  have sub : ∀ j b, b ∈ fpSet fp i [] j → b ∈ fp j := fun j b hb => by
    by_cases c : i = j
    · subst c; rw [fpSet_same] at hb; cases hb
    · rw [fpSet_ne c] at hb; exact hb
  refine ⟨⟨h.ok.s0, by rw [List.length_set]; exact h.ok.len, fun j s e => ?_, fun j hj => ?_, fun j => ?_, fun j k b hj hk => h.ok.dj j k b (sub j b hj) (sub k b hk)⟩, h.st, h.sb, fun j b hb => h.fr j b (sub j b hb), fun x hx k s2 e y => ?_⟩
  · by_cases c : i = j
    · subst c
      by_cases hi : i < env.length
      · rw [List.getElem?_set_self hi] at e; cases e; rw [fpSet_same, SlotOk]
      · rw [List.getElem?_eq_none (by rw [List.length_set]; omega)] at e; cases e
    · rw [List.getElem?_set_ne c] at e; rw [fpSet_ne c]; exact h.ok.at' j s e
  · by_cases c : i = j
    · subst c; rw [fpSet_same]
    · rw [fpSet_ne c]; exact h.ok.out j (by rw [List.length_set] at hj; exact hj)
  · by_cases c : i = j
    · subst c; rw [fpSet_same]; exact List.nodup_nil
    · rw [fpSet_ne c]; exact h.ok.nd j
  · by_cases z : i = k
    · subst z
      by_cases hi : i < env.length
      · rw [List.getElem?_set_self hi] at e; cases e; rw [isP_un] at y; cases y
      · rw [List.getElem?_eq_none (by rw [List.length_set]; omega)] at e; cases e
    · rw [List.getElem?_set_ne z] at e; exact h.pin x hx k s2 e y
end
section
end
end Pv
set_option Elab.async false
set_option linter.all false
set_option maxRecDepth 100000
namespace Pv
open PySem PySem.Spec
end Pv
set_option Elab.async false
set_option linter.all false
set_option maxRecDepth 100000
set_option maxHeartbeats 4000000
namespace Pv
open PySem PySem.Spec PyProof.Rows L2
variable [TabCx]
section
variable {X : Cx} {W : WX}
theorem tuple_mul1 (l : Addr) (items : Array Value) (n : Nat) (dd : Option Addr) (sl : Array (Option Value)) (u : Tok) :
    Meets (Builtin.«tuple.__mul__» ⟨[.ref l, .int 1 u], []⟩) (fun _ R s => s.heap.get? l = some { cls := .type "tuple", dict := dd, data := .seq items n, slots := sl } ∧ R (.ok (.ret (Value.ref l))) s) :=
  .of_wp fun prog w A R s h => by
    obtain ⟨hp, g, d, tk, os⟩ := s
    obtain ⟨hl, h⟩ := h
    have f1 := AutoSeq1.idx_int
    have c1 : (items.isEmpty || (1 : Int) == 1) = true := by rw [Bool.or_eq_true]; exact .inr rfl
    wp_walk using wpAny_loadPart' hl
    repeat (first
      | (refine wpAny_ite_false (decide_eq_false (by decide)) ?_; wp_walk using wpAny_loadPart' hl)
      | (refine wpAny_ite_true (decide_eq_true (by rw [c1])) ?_; wp_walk using wpAny_loadPart' hl))
    exact ⟨_, rfl, h⟩
def rRep1 (K : PySem.W.Frag) : R2 := fun x y H Q => ∃ l xs, x = .ref l ∧ y = .int 1 ∧ SqT K H l xs ∧ Q (.ref l) H
theorem op_rep1 : OpR X (binaryOp .Mult) (rRep1 X.K) := by
  intro pins s σ H x y v u Q I rx ry h
  obtain ⟨l, xs, rfl, rfl, hT, q⟩ := h
  cases rx
  obtain ⟨t, rfl⟩ := ry
  obtain ⟨its, r, ⟨⟨cls, dd, data, sl⟩, ho, hc, n, hd⟩, hs⟩ := I.tuple hT
  simp only at hc hd
  subst hc hd
  refine wpAny_binaryOp_repeat_ref (T := "tuple") (U := "int") (by decide) ⟨_, ho, rfl⟩ (fun s' => typeIs_int s' 1 t) noFill_tuple_mul F.fills_int_mul F.slot_int_rmul repeat_tuple F.slot_int_index.lookup
    (call_meets F.slot_int_rmul (typeIs_int s 1 t) F.entry_int_rmul (F.args_int_rmul_2 _ _) (int_rmul_tuple 1 t l its.toArray n dd sl)
      ⟨ho, rfl, ⟨_, ho, rfl⟩, call_meets F.slot_tuple_mul ⟨_, ho, rfl⟩ F.entry_tuple_mul (F.args_tuple_mul_2 _ _) (tuple_mul1 l its.toArray n dd sl t) ⟨ho, ?_⟩⟩)
  exact ⟨.ref l, H, I, rfl, q⟩
theorem op_or {o : Value → Value → PySem.Sem Value} {r r' : R2} (h : OpR X o r) (h' : OpR X o r') : OpR X o (rTwo r r') := fun pins s σ H x y v u Q I rx ry z => z.elim (fun z => h pins s σ H x y v u Q I rx ry z) (fun z => h' pins s σ H x y v u Q I rx ry z)
def pRepT : PV → PV → Option PV
  | .tup l, .int n => if n = 1 then some (.tup l) else if 2 ≤ n ∧ n ≤ 1000 ∧ l ≠ [] ∧ l.length ≤ 1000 then some (.tup (List.replicate n.toNat l).flatten) else none
  | _, _ => none
theorem v_repT {a b : Expr} {da db : Fm → R PV} {pos : Pos} (ha : PE X a (xR X W da)) (hb : PE X b (xR X W db)) : PE X (.BinOp a .Mult b pos) (xV X W (d2 pRepT da db)) := pe_bin (op_or op_rep1 op_repT) (by
  intro F H x y a b v Q s ra rb e g
  unfold pRepT at e
  split at e
  · split at e
    · rename_i c
      subst c
      cases e
      obtain ⟨a1, xs, rfl, q, r⟩ := ra.tup
      cases rb.int
      exact .inl ⟨_, xs, rfl, rfl, sqT_mono s.same q, gv_here g s (by simp only [Rep]; exact ⟨a1, xs, rfl, q, r⟩)⟩
    · split at e
      · rename_i c
        cases e
        obtain ⟨a1, xs, rfl, q, r⟩ := ra.tup
        cases rb.int
        have hl := r.len
        refine .inr ⟨_, _, xs, rfl, rfl, sqT_mono s.same q, fun z => ?_, c.1, c.2.1, by omega, fun p hp => g _ _ _ (Step.frz s hp) (repNew s hp (rep_flat r _))⟩
        rw [z] at hl
        exact c.2.2.1 (List.eq_nil_of_length_eq_zero hl.symm)
      · cases e
  · cases e) stGV ha hb
end
end Pv
set_option Elab.async false
set_option linter.all false
set_option maxRecDepth 100000
set_option maxHeartbeats 4000000
namespace Pv
open PySem PySem.Spec PyProof.Rows L2
variable [TabCx]
def enumFrom (n : Nat) : List PV → List PV
  | [] => []
  | d :: ds => .tup [.int (n : Nat), d] :: enumFrom (n + 1) ds
theorem enum_get : ∀ (l : List PV) (n i : Nat) (d : PV), (enumFrom n l)[i]? = some d → ∃ e, l[i]? = some e ∧ d = .tup [.int ((n + i : Nat) : Int), e]
  | [], n, i, d, h => by simp [enumFrom] at h
  | x :: l, n, 0, d, h => by simp [enumFrom] at h; exact ⟨x, rfl, h.symm⟩
  | x :: l, n, i + 1, d, h => by
    simp only [enumFrom, List.getElem?_cons_succ] at h
    obtain ⟨e, h1, h2⟩ := enum_get l (n + 1) i d h
    exact ⟨e, by simpa using h1, by rw [h2, show n + 1 + i = n + (i + 1) by omega]⟩
theorem enum_len : ∀ (l : List PV) (n : Nat), (enumFrom n l).length = l.length
  | [], n => rfl
  | x :: l, n => by simp [enumFrom, enum_len l]
theorem walks_enum {K : PySem.W.Frag} {F : Hp} {a : Addr} {xs : List V} {l : List PV} (h : F a = some (.lst xs)) (r : RepL K F l xs) : Walks K F (Ite K a) (enumFrom 0 l) := by
  intro F' H' s1 s2
  have h2 : SqL K H' a xs := SqL.of (s2.same _ _ (s1 _ _ h))
  refine ⟨fun i d e => ?_, xs, h2, by rw [enum_len, r.len]; exact Nat.le_refl _⟩
  obtain ⟨y, e0, rfl⟩ := enum_get l 0 i d e
  obtain ⟨x, e1, r1⟩ := r.get' e0
  refine ⟨⟨xs, x, h2, e1⟩, fun z H2 ⟨T, x', e2, hT, e3, e4⟩ => ?_⟩
  subst e2 e3
  have e5 := e4 xs h2
  rw [e1] at e5
  cases e5
  rw [Nat.zero_add]
  exact ⟨_, Step.frz s2 hT, repNew s2 hT (.cons (by simp only [Rep]) (.cons (r1.mono s1) .nil))⟩
section
variable {X : Cx} {W : WX}
def enIt : List PV → Option (List PV)
  | [.lst l] => some (enumFrom 0 l)
  | _ => none
theorem seqAV {K : PySem.W.Frag} {mg : Str → Option Value} {d : Fm → R (List PV)} {f : List PV → Option (List PV)} {σ : L2.St} {H : Hp} {Z : It → Hp → Prop} {r : List V → Hp → Prop}
    (h : tI K mg W (GI K) (dCall (fun ds => ofO (f ds)) d) σ H Z)
    (hr : ∀ F H xs ds l, Fz F H → RepL K F ds xs → f ds = some l → GI K F H Z l → r xs H) : tAG K mg W (GVL K) d σ H r := by
  obtain ⟨F, env, ok, p⟩ := h
  refine ⟨F, env, ok, ?_⟩
  unfold dCall at p
  cases q : d env with
  | ok v =>
    rw [q] at p
    simp only [R.bind_ok] at p
    intro x F1 H1 st rx
    cases q2 : f v with
    | none => rw [q2] at p; exact p.elim
    | some l => rw [q2] at p; exact hr F1 H1 x v l st.s2 rx q2 fun J F' H' st' w => p J F' H' (st.trans st') w
  | ex e => rw [q] at p; exact p
  | bad => rw [q] at p; exact p
theorem i_enum {e : Expr} {d : Fm → R (List PV)} {p pos tpos : Pos} {elts : List Expr} {kk : Nat} (hm : X.mg "enumerate" = none) (ha : PA X [e] (xVL X W d)) (hg : Gl X "enumerate" := by rfl) (hs : starEach [e] X.env = [(false, eval e X.env)] := by rfl) :
    PI X (.Tuple elts kk tpos) (.Call (.Name "enumerate" p) [e] [] pos) (xI X W (dCall (fun ds => ofO (enIt ds)) d)) := PI.imp (pi_enum hg hm ha hs) fun σ H Z h => by
  refine seqAV h fun F H xs ds l s r e g => ?_
  unfold enIt at e
  split at e
  · cases e
    simp only [RepL] at r
    obtain ⟨x, xs', rfl, rx, rfl⟩ := r
    simp only [Rep] at rx
    obtain ⟨a1, ys, rfl, q1, r1⟩ := rx
    exact ⟨a1, ys, rfl, SqL.of (s.same _ _ q1), g _ F H (Step.refl s) (walks_enum q1 r1)⟩
  · cases e
end
end Pv
set_option Elab.async false
set_option linter.all false
set_option maxRecDepth 100000
set_option maxHeartbeats 4000000
namespace Pv
open PySem PySem.Spec PyProof.Rows L2
section
variable {M : Model} {A : Around} {E₁ : Value → Shared → Prop} {st : Shared} {Z : Obj → Prop} {Bh : Heap} {en : Env} {ou : List Env} {L C e : Addr}
end
variable [TabCx]
section
variable {X : Cx} {pins : List (Addr × Obj)} {σ : L2.St} {H3 : Hp} {s3 : Shared} {E : XK} {scope : Scope} {fp : List Addr} {ce : PySem.Env} {xe : Value → Shared → Prop}
end
section
variable {X : Cx} {E : XK}
end
end Pv
set_option Elab.async false
set_option linter.all false
set_option maxRecDepth 100000
set_option maxHeartbeats 4000000
namespace Pv
open PySem PySem.Spec PyProof.Rows L2
variable [TabCx]
section
variable {X : Cx} {W : WX}
def kPairs : List Str → List V → List (V × V)
  | k :: ks, x :: xs => (.str k, x) :: kPairs ks xs
  | _, _ => []
structure PDs (X : Cx) (W : WX) (pos : Pos) (keys : List (Option Expr)) (values : List Expr) (ks : List Str) (d : Fm → R (List PV)) : Prop where
  ex : ∃ trs, PPs X pos keys values trs ∧ ∀ σ H F env (Q : List (V × V) → Hp → Prop), FmOk X.K F H σ env → RP (d env) (fun vs => ∀ xs F' H', Step F H F' H' → RepL X.K F' vs xs → xs.length = ks.length → Q (kPairs ks xs) H') (GX X.K X.mg F H σ W) → tPairs trs σ H Q
end
end Pv
set_option Elab.async false
set_option linter.all false
set_option maxRecDepth 100000
set_option maxHeartbeats 4000000
namespace Pv
open PySem PySem.Spec PyProof.Rows L2
variable [TabCx]
section
variable {X : Cx} {W : WX}
end
end Pv
set_option Elab.async false
set_option linter.all false
set_option maxRecDepth 100000
set_option maxHeartbeats 4000000
namespace Pv
open PySem PySem.Spec PyProof.Rows L2
variable [TabCx]
section
variable {X : Cx} {W : WX}
abbrev PTk (X : Cx) (e : Expr) (t : TE) : Prop := PET X e t
theorem PTk.imp {e : Expr} {t t' : TE} (h : PTk X e t) (i : ∀ σ H Q, t' σ H Q → t σ H Q) : PTk X e t' := fun pins s σ H Q h0 I q => h pins s σ H Q h0 I (i σ H Q q)
end
end Pv
set_option Elab.async false
set_option linter.all false
set_option maxRecDepth 100000
set_option maxHeartbeats 4000000
namespace SetX
open PySem PySem.Spec PyProof.Rows L2 PySem.Froz
def keyS (e : Int × Value) : Str := match e.2 with
  | .str k _ => k
  | _ => Str.empty
structure At (P : Program) (w : World) (h : Heap) (a : Addr) (l : List Str) : Prop where
  ex : ∃ D : SD, h.get? a = some (sObj "set" D) ∧ TxOk P w D l ∧ (D.1.toList.map keyS).Perm l ∧ Ris D.2.2.place.toList ∧ (w.params.followText "set-order" = true ∨ D.2.2.led = true)
  nd : l.Nodup
  sm : l.length < scanBound
section
variable {P : Program} {w : World} {A : Around} {E : Value → Shared → Prop} {s : Shared} {a : Addr} {l : List Str}
theorem At.at {h h' : Heap} (R : At P w h a l) (k : ∀ o, h.get? a = some o → h'.get? a = some o) : At P w h' a l :=
  let ⟨D, ho, r⟩ := R.ex
  ⟨⟨D, k _ ho, r⟩, R.nd, R.sm⟩
theorem tail_perm {ep : Nat} {es1 : Array (Int × Value)} {t2 : SetTable} {wd : Bool} : (tailTx ep es1 t2 wd).1.toList.Perm es1.toList := by
  unfold tailTx
  split
  · exact relayAll_perm t2 es1 _
  · exact List.Perm.refl _
theorem tail_ris {ep : Nat} {es1 : Array (Int × Value)} {t2 : SetTable} {wd : Bool} (r : Ris t2.place.toList) : Ris (tailTx ep es1 t2 wd).2.2.place.toList := by
  unfold tailTx
  split
  · exact relayAll_ris t2 es1 _
  · exact r
theorem tail_led {ep : Nat} {es1 : Array (Int × Value)} {t2 : SetTable} {wd : Bool} : (tailTx ep es1 t2 wd).2.2.led = t2.led := by
  unfold tailTx
  split
  · exact relayAll_led t2 es1 _
  · rfl
theorem add_perm {k : Str} {u : Tok} {D : SD} (h : Int) : (addTx h (.str k u) D).1.toList.Perm ((h, Value.str k u) :: D.1.toList) := by
  unfold addTx
  refine tail_perm.trans ?_
  have p := layNew_perm D.2.2 D.1 h (.str k u)
  rw [Array.toList_push] at p
  exact p.trans (List.perm_append_singleton _ _)
theorem add_ris {k : Str} {u : Tok} {D : SD} (h : Int) (r : Ris D.2.2.place.toList) : Ris (addTx h (.str k u) D).2.2.place.toList := by
  unfold addTx
  refine tail_ris ?_
  have r1 := layNew_ris D.2.2 D.1 h (.str k u) r
  split
  · exact r1
  · exact r1
theorem add_led {k : Str} {u : Tok} {D : SD} (h : Int) : (addTx h (.str k u) D).2.2.led = D.2.2.led := by
  unfold addTx
  rw [tail_led]
  have l1 := layNew_led D.2.2 D.1 h (.str k u)
  split
  · exact l1
  · exact l1
theorem add_new {k : Str} {u : Tok} {Q : Bool → Shared → Prop} (R : At P w s.heap a l) (hk : k ∉ l) (room : l.length + 1 < scanBound)
    (hQ : ∀ h', Heap.SameBut a s.heap h' → At P w h' a (k :: l) → Q true { s with heap := h' }) : wpAny (model P w) A (setAddHashed a (.str k u) (hashStr w k)) Q E s := by
  obtain ⟨D, ho, F, pm, r, ld⟩ := R.ex
  refine add_x ho F hk room (hQ _ (Heap.SameBut.update _ a _) ⟨⟨_, get_upd _ ho rfl, add_ok u F, ?_, add_ris _ r, ?_⟩, List.nodup_cons.mpr ⟨hk, R.nd⟩, by simpa using room⟩)
  · have p := (add_perm (k := k) (u := u) (D := D) (hashStr w k)).map keyS
    rw [List.map_cons] at p
    exact p.trans (pm.cons k)
  · rw [add_led]; exact ld
theorem add_old {k : Str} {u : Tok} {Q : Bool → Shared → Prop} (R : At P w s.heap a l) (hk : k ∈ l) (hQ : Q false s) : wpAny (model P w) A (setAddHashed a (.str k u) (hashStr w k)) Q E s := by
  obtain ⟨D, ho, F, pm, r, ld⟩ := R.ex
  obtain ⟨es, ep, t⟩ := D
  have hd : (sObj "set" (es, ep, t)).data = .set es ep t := rfl
  have hf : t.fits es.size = true := F.fit
  have hel : ElemsOf (PySem.strKind P w) es.toList := F.el
  have hsz : es.size = l.length := F.sz
  have hb0 : es.size < scanBound := by have := R.sm; omega
  have hkey : (PySem.strKind P w).is k (.str k u) = true := is_str k u
  unfold setAddHashed setAddHashedIn
  refine wpAny_holding (wpAny_bind (wpAny_setState_of ho hd hf ?_))
  dsimp only
  rw [byScan_of rfl hb0 hel]
  simp only [↓reduceIte]
  unfold setAddByScan
  refine wpAny_bind ?_
  refine wpAny_bind (wpAny_rule ?_)
  refine wpAny_bind (wpAny_setScan_of (knd := PySem.strKind P w) (k := k) hkey ho hd hf hel ?_)
  cases hr : List.findIdx? (fun e => (PySem.strKind P w).is k e.2) es.toList with
  | none =>
    obtain ⟨e, he, q⟩ := (F.mem k).mp hk
    have c := List.findIdx?_eq_none_iff.mp hr e he
    rw [q] at c
    cases c
  | some j =>
    dsimp only
    exact wpAny_pure (wpAny_pure hQ)
theorem add_any {k : Str} {u : Tok} {Q : Bool → Shared → Prop} (R : At P w s.heap a l) (room : l.length + 1 < scanBound)
    (hQ : ∀ b h' l', Heap.SameBut a s.heap h' → At P w h' a l' → (∀ x, x ∈ l' ↔ x = k ∨ x ∈ l) → l'.length ≤ l.length + 1 → Q b { s with heap := h' }) : wpAny (model P w) A (setAddHashed a (.str k u) (hashStr w k)) Q E s := by
  by_cases hk : k ∈ l
  · refine add_old R hk ?_
    exact hQ false s.heap l (Heap.SameBut.refl a s.heap) R (fun x => ⟨.inr, fun z => z.elim (fun e => e ▸ hk) id⟩) (by omega)
  · exact add_new R hk room fun h' sb r => hQ true h' (k :: l) sb r (fun x => List.mem_cons) (by simp)
theorem new_at {h : Heap} {a : Addr} (ho : h.get? a = some { cls := .type "set", dict := none, data := .set #[] 0 (.fresh 0 0 (!w.params.followText "set-order")) }) : At P w h a [] :=
  ⟨⟨(#[], 0, .fresh 0 0 (!w.params.followText "set-order")), ho, TxOk.nil (by rfl), List.Perm.refl _, List.Pairwise.nil, by
    show _ ∨ (!w.params.followText "set-order") = true
    cases w.params.followText "set-order"
    · exact .inr rfl
    · exact .inl rfl⟩, List.nodup_nil, by decide⟩
theorem update_txts {I : Addr} {fp wr : List Addr} {G : Array GenState → Array GenState → Prop} {n : Nat} {Pv : Nat → Value → Prop} {St : Nat → Shared → Prop} {R : Result → Shared → Prop}
    (W : WalksS P w A.in1 I fp wr G n Pv St) (S : Addr) (hSf : S ∉ fp) (xs : List Str) (hn : n = xs.length) (hb : xs.length + 1 < scanBound) (hval : ∀ i v, Pv i v → ∃ k t, xs[i]? = some k ∧ v = .str k t) :
    ∀ (k i : Nat) (s : Shared), n - i = k → i ≤ n → St i s → (∃ l, l.length ≤ i ∧ At P w s.heap S l ∧ ∀ x, x ∈ l ↔ x ∈ xs.take i) →
      (∀ s' l, Moved (S :: wr) G s s' → At P w s'.heap S l → (∀ x, x ∈ l ↔ x ∈ xs) → R (.ok (.ret .none)) s') →
      codeAny (model P w) A (.builtin "set.update.loop" ⟨[.ref S, .ref I], []⟩) R s := by
  have hSw : S ∉ wr := fun h => hSf (W.sub _ h)
  have hsub : ∀ b ∈ wr, b ∈ S :: wr := fun b hb => List.mem_cons_of_mem _ hb
  intro k
  induction k with
  | zero =>
    intro i s hk' hi hst ⟨l, hc, hS, hm0⟩ hR
    have hin : i = n := by omega
    subst hin
    refine codeAny_builtin F.entry_set_update_loop ?_
    rw [Around.under_plainId F.plain_set_update_loop _]
    show wpAny _ A.in1 (pyNext (.ref I) >>= _) _ _ s
    refine wpAny_bind (W.done s _ _ hst fun s' hm => ?_)
    show wpAny _ A.in1 (ret Value.none) _ _ s'
    have e : xs.take i = xs := List.take_of_length_le (by omega)
    rw [e] at hm0
    exact wpAny_pure (hR s' l (hm.mono hsub) (hS.at fun o e => hm.heap S o hSw e) hm0)
  | succ k ih =>
    intro i s hk' hi hst ⟨l, hc, hS, hm0⟩ hR
    have hlt : i < n := by omega
    refine codeAny_builtin F.entry_set_update_loop ?_
    rw [Around.under_plainId F.plain_set_update_loop _]
    show wpAny _ A.in1 (pyNext (.ref I) >>= _) _ _ s
    refine wpAny_bind (W.item i s _ _ hlt hst fun v s' hP hst' hm => ?_)
    obtain ⟨z, t, hz, rfl⟩ := hval i v hP
    have hS' : At P w s'.heap S l := hS.at fun o e => hm.heap S o hSw e
    show wpAny _ A.in1 (holding [Value.str z t] (setAdd S (.str z t)) >>= _) _ _ s'
    refine wpAny_bind (wpAny_holding ?_)
    unfold setAdd
    refine wpAny_holding ?_
    refine wpAny_bind ((PySem.strKind P w).pyHash (k := z) (is_str z t) ?_)
    refine add_any (s := { s' with toks := s'.toks + 1 }) hS' (by omega) fun b h' l' hsb hS2 hm2 hl2 => ?_
    refine wpAny_pure ⟨plainId_quiet F.plain_set_update_loop _, ih (i + 1) _ (by omega) hlt (W.frame _ s' _ _ hst' (Nat.le_succ _) fun b hb o e => ?_) ⟨l', by omega, hS2, fun x => ?_⟩ fun s'' l2 hm'' hS'' hx'' => ?_⟩
    · rw [hsb.2 b (fun h : b = S => hSf (by rw [← h]; exact hb))]; exact e
    · rw [hm2 x, hm0 x, List.take_add_one, hz]
      simp [List.mem_append, or_comm]
    · refine hR s'' l2 (Moved.trans W.gtrans ((hm.mono hsub).then_heap (Nat.le_succ _) fun b o hb e => ?_) hm'') hS'' hx''
      rw [hsb.2 b (fun h : b = S => hb (by rw [h]; exact List.mem_cons_self))]; exact e
end
end SetX
set_option Elab.async false
set_option linter.all false
set_option maxRecDepth 100000
set_option maxHeartbeats 4000000
namespace SetX
open PySem PySem.Spec PyProof.Rows L2 PySem.Froz
section
variable {P : Program} {w : World} {A : Around} {E : Value → Shared → Prop} {s : Shared}
def nw (w : World) : Obj := { cls := .type "set", dict := none, data := .set #[] 0 (.fresh 0 0 (!w.params.followText "set-order")) }
theorem call_set_list {l : Addr} {items : Array Value} (xs : List Str) {Q : Value → Shared → Prop} (hh : A.handled = none) (hl : s.heap.IsList l items) (hit : ∀ (i : Nat) (v : Value), items[i]? = some v → ∃ k t, xs[i]? = some k ∧ v = Value.str k t) (hisz : items.size = xs.length) (hb : xs.length + 1 < scanBound)
    (h : ∀ (h' : Heap) (tk : Nat) (l' : List Str), At P w h' s.heap.objs.size l' → (∀ x, x ∈ l' ↔ x ∈ xs) → (∀ b o, s.heap.get? b = some o → h'.get? b = some o) → Q (.ref s.heap.objs.size) { s with heap := h', toks := tk }) :
    wpAny (model P w) A (call (.type "set") [.ref l]) Q E s := by
  obtain ⟨c, tl, hmro⟩ := PySem.F.called_set.mro
  have hmade := PySem.F.called_set.made
  have hsub := PySem.F.called_set.sub
  refine wpAny_call (codeAny_of_tree ?_)
  show wpAny _ _ (callAny (.type "set") _) _ _ _
  refine wpAny_pure ⟨Code.quiet_builtin _ (by decide +kernel), codeAny_builtin PySem.F.entry_type_call ?_⟩
  rw [Around.under_plain (weight_type_call_type "set" [.ref l] []) rfl]
  have h1 := PySem.F.called_set.notType
  have h2 := PySem.F.called_set.canCreate
  have hct := PySem.F.typeCall_set_1 (.ref l)
  repeat (any_goals (first | assumption | wp_step))
  refine codeAny_mono (code_set_led1 (.ref l) (E := E) (Q₁ := fun obj s₁ => obj = .ref s.heap.objs.size ∧ s₁ = { s with heap := s.heap.push (nw w) }) ⟨rfl, rfl⟩) fun r s₁ hr => ?_
  cases r with
  | error e => exact hr
  | ok fl =>
    cases fl with
    | ret obj =>
      obtain ⟨rfl, rfl⟩ := hr
      have hS : (s.heap.push (nw w)).get? s.heap.objs.size = some (nw w) := Heap.get?_push_size _ rfl
      have hT : Shared.TypeIs { s with heap := s.heap.push (nw w) } (.ref s.heap.objs.size) "set" := ⟨_, hS, rfl⟩
      have hli := PySem.F.called_set.init.lookup
      have hbi := PySem.F.called_set.init.bind (.ref s.heap.objs.size)
      repeat (any_goals (first | assumption | wp_step))
      refine codeAny_mono (codeAny_call_builtin (R := wants (fun r s₂ => r = .none ∧ ∃ h' tk l', s₂ = { s with heap := h', toks := tk } ∧ At P w h' s.heap.objs.size l' ∧ (∀ x, x ∈ l' ↔ x ∈ xs) ∧
          (∀ b o, s.heap.get? b = some o → h'.get? b = some o)) E) PySem.F.called_set.init.plain PySem.F.entry_set_init (check_set_init_1 hT ?_)) fun r₂ s₂ hr₂ => ?_
      · obtain ⟨ol, hol, hcl, nl, hdl⟩ := hl
        obtain ⟨ocls, odict, odata, oslots⟩ := ol
        simp only at hcl hdl
        subst hcl; subst hdl
        have hol' : (s.heap.push (nw w)).get? l = some { cls := .type "list", dict := odict, data := .seq items nl, slots := oslots } := Heap.get?_push_of_some _ hol
        have hsls := PySem.F.sub_list_set
        have hslf := PySem.F.sub_list_frozenset
        have hne : (Value.type "list" == Value.type "dict") = false := by decide
        have hl1 : (s.heap.push (nw w)).IsList l items := ⟨_, hol', rfl, nl, rfl⟩
        unfold Builtin.«set.__init__» noKeywords Builtin.Frozenset.updateFrom
        generalize hPI : pyIter = PI
        wp_walk
        subst hPI
        refine wpAny_pyIter_list hl1 ?_
        refine wpAny_bind (wpAny_runValue ?_)
        have hlS : l < s.heap.objs.size := Heap.lt_size hol
        have hh3 : A.in1.in1.in1.handled = none := by simp [hh]
        have hneI : l ≠ (s.heap.push (nw w)).objs.size := by
          rw [Heap.size_push]; exact Nat.ne_of_lt (Nat.lt_succ_of_lt hlS)
        have hSf : s.heap.objs.size ∉ [(s.heap.push (nw w)).objs.size, l] := by
          rw [Heap.size_push]; simp only [List.mem_cons, List.mem_singleton, List.not_mem_nil, or_false, not_or]
          exact ⟨Nat.ne_of_lt (Nat.lt_succ_self _), Nat.ne_of_gt hlS⟩
        refine update_txts ((Walks.list hh3 _ l hneI items).toS) s.heap.objs.size
          hSf xs hisz hb hit (items.size - 0) 0 _ (by omega) (Nat.zero_le _)
          ⟨⟨_, Heap.get?_push_size _ rfl, rfl, rfl⟩, (hl1.push _)⟩ ?hS0 ?hR
        case hS0 =>
          have hget : ((s.heap.push (nw w)).push { cls := .type "list_iterator", data := .fields #[.ref l, .int 0 0] }).get? s.heap.objs.size = some (nw w) := Heap.get?_push_of_some _ hS
          exact ⟨[], Nat.le_refl 0, new_at hget, fun x => by simp⟩
        case hR =>
          intro s' l' hm hS' hx'
          obtain ⟨h', g2, d', tk', os'⟩ := s'
          have eg : g2 = s.gens := hm.gens
          have ed : d' = s.drawn := hm.drawn
          have eo : os' = s.os := hm.os
          subst eg; subst ed; subst eo
          show wpAny _ _ _ _ _ _
          refine wpAny_pure ?_
          show wpAny _ _ (ret Value.none) _ _ _
          refine wpAny_pure ⟨rfl, h', tk', l', rfl, hS', hx', fun b o e => ?_⟩
          have hb0 : b < s.heap.objs.size := Heap.lt_size e
          have hb1 : b ≠ s.heap.objs.size := Nat.ne_of_lt hb0
          have hb2 : b ≠ (s.heap.push (nw w)).objs.size := by
            rw [Heap.size_push]; exact Nat.ne_of_lt (Nat.lt_succ_of_lt hb0)
          exact hm.heap b o (by simp only [List.mem_cons, List.mem_singleton, List.not_mem_nil, or_false, not_or]; exact ⟨hb1, hb2⟩) (Heap.get?_push_of_some _ (Heap.get?_push_of_some _ e))
      · cases r₂ with
        | error e => exact hr₂
        | ok fl₂ =>
          cases fl₂ with
          | ret r =>
            obtain ⟨rfl, h', tk, l', rfl, hS', hx', hk'⟩ := hr₂
            repeat (any_goals (first | assumption | wp_step))
            exact h _ _ _ hS' hx' hk'
          | _ => exact hr₂.elim
    | _ => exact hr.elim
theorem call_set_tuple {l : Addr} {items : Array Value} (xs : List Str) {Q : Value → Shared → Prop} (hh : A.handled = none) (hl : s.heap.IsTuple l items) (hit : ∀ (i : Nat) (v : Value), items[i]? = some v → ∃ k t, xs[i]? = some k ∧ v = Value.str k t) (hisz : items.size = xs.length) (hb : xs.length + 1 < scanBound)
    (h : ∀ (h' : Heap) (tk : Nat) (l' : List Str), At P w h' s.heap.objs.size l' → (∀ x, x ∈ l' ↔ x ∈ xs) → (∀ b o, s.heap.get? b = some o → h'.get? b = some o) → Q (.ref s.heap.objs.size) { s with heap := h', toks := tk }) :
    wpAny (model P w) A (call (.type "set") [.ref l]) Q E s := by
  obtain ⟨c, tl, hmro⟩ := PySem.F.called_set.mro
  have hmade := PySem.F.called_set.made
  have hsub := PySem.F.called_set.sub
  refine wpAny_call (codeAny_of_tree ?_)
  show wpAny _ _ (callAny (.type "set") _) _ _ _
  refine wpAny_pure ⟨Code.quiet_builtin _ (by decide +kernel), codeAny_builtin PySem.F.entry_type_call ?_⟩
  rw [Around.under_plain (weight_type_call_type "set" [.ref l] []) rfl]
  have h1 := PySem.F.called_set.notType
  have h2 := PySem.F.called_set.canCreate
  have hct := PySem.F.typeCall_set_1 (.ref l)
  repeat (any_goals (first | assumption | wp_step))
  refine codeAny_mono (code_set_led1 (.ref l) (E := E) (Q₁ := fun obj s₁ => obj = .ref s.heap.objs.size ∧ s₁ = { s with heap := s.heap.push (nw w) }) ⟨rfl, rfl⟩) fun r s₁ hr => ?_
  cases r with
  | error e => exact hr
  | ok fl =>
    cases fl with
    | ret obj =>
      obtain ⟨rfl, rfl⟩ := hr
      have hS : (s.heap.push (nw w)).get? s.heap.objs.size = some (nw w) := Heap.get?_push_size _ rfl
      have hT : Shared.TypeIs { s with heap := s.heap.push (nw w) } (.ref s.heap.objs.size) "set" := ⟨_, hS, rfl⟩
      have hli := PySem.F.called_set.init.lookup
      have hbi := PySem.F.called_set.init.bind (.ref s.heap.objs.size)
      repeat (any_goals (first | assumption | wp_step))
      refine codeAny_mono (codeAny_call_builtin (R := wants (fun r s₂ => r = .none ∧ ∃ h' tk l', s₂ = { s with heap := h', toks := tk } ∧ At P w h' s.heap.objs.size l' ∧ (∀ x, x ∈ l' ↔ x ∈ xs) ∧
          (∀ b o, s.heap.get? b = some o → h'.get? b = some o)) E) PySem.F.called_set.init.plain PySem.F.entry_set_init (check_set_init_1 hT ?_)) fun r₂ s₂ hr₂ => ?_
      · obtain ⟨ol, hol, hcl, nl, hdl⟩ := hl
        obtain ⟨ocls, odict, odata, oslots⟩ := ol
        simp only at hcl hdl
        subst hcl; subst hdl
        have hol' : (s.heap.push (nw w)).get? l = some { cls := .type "tuple", dict := odict, data := .seq items nl, slots := oslots } := Heap.get?_push_of_some _ hol
        have hsls := PySem.F.sub_tuple_set
        have hslf := PySem.F.sub_tuple_frozenset
        have hne : (Value.type "tuple" == Value.type "dict") = false := by decide
        have hl1 : (s.heap.push (nw w)).IsTuple l items := ⟨_, hol', rfl, nl, rfl⟩
        unfold Builtin.«set.__init__» noKeywords Builtin.Frozenset.updateFrom
        generalize hPI : pyIter = PI
        wp_walk
        subst hPI
        refine wpAny_pyIter_tuple hl1 ?_
        refine wpAny_bind (wpAny_runValue ?_)
        have hlS : l < s.heap.objs.size := Heap.lt_size hol
        have hh3 : A.in1.in1.in1.handled = none := by simp [hh]
        have hneI : l ≠ (s.heap.push (nw w)).objs.size := by
          rw [Heap.size_push]; exact Nat.ne_of_lt (Nat.lt_succ_of_lt hlS)
        have hSf : s.heap.objs.size ∉ [(s.heap.push (nw w)).objs.size, l] := by
          rw [Heap.size_push]; simp only [List.mem_cons, List.mem_singleton, List.not_mem_nil, or_false, not_or]
          exact ⟨Nat.ne_of_lt (Nat.lt_succ_self _), Nat.ne_of_gt hlS⟩
        refine update_txts ((Walks.tuple hh3 _ l hneI items).toS) s.heap.objs.size
          hSf xs hisz hb hit (items.size - 0) 0 _ (by omega) (Nat.zero_le _)
          ⟨⟨_, Heap.get?_push_size _ rfl, rfl, rfl⟩, (hl1.push _)⟩ ?hS0 ?hR
        case hS0 =>
          have hget : ((s.heap.push (nw w)).push { cls := .type "tuple_iterator", data := .fields #[.ref l, .int 0 0] }).get? s.heap.objs.size = some (nw w) := Heap.get?_push_of_some _ hS
          exact ⟨[], Nat.le_refl 0, new_at hget, fun x => by simp⟩
        case hR =>
          intro s' l' hm hS' hx'
          obtain ⟨h', g2, d', tk', os'⟩ := s'
          have eg : g2 = s.gens := hm.gens
          have ed : d' = s.drawn := hm.drawn
          have eo : os' = s.os := hm.os
          subst eg; subst ed; subst eo
          show wpAny _ _ _ _ _ _
          refine wpAny_pure ?_
          show wpAny _ _ (ret Value.none) _ _ _
          refine wpAny_pure ⟨rfl, h', tk', l', rfl, hS', hx', fun b o e => ?_⟩
          have hb0 : b < s.heap.objs.size := Heap.lt_size e
          have hb1 : b ≠ s.heap.objs.size := Nat.ne_of_lt hb0
          have hb2 : b ≠ (s.heap.push (nw w)).objs.size := by
            rw [Heap.size_push]; exact Nat.ne_of_lt (Nat.lt_succ_of_lt hb0)
          exact hm.heap b o (by simp only [List.mem_cons, List.mem_singleton, List.not_mem_nil, or_false, not_or]; exact ⟨hb1, hb2⟩) (Heap.get?_push_of_some _ (Heap.get?_push_of_some _ e))
      · cases r₂ with
        | error e => exact hr₂
        | ok fl₂ =>
          cases fl₂ with
          | ret r =>
            obtain ⟨rfl, h', tk, l', rfl, hS', hx', hk'⟩ := hr₂
            repeat (any_goals (first | assumption | wp_step))
            exact h _ _ _ hS' hx' hk'
          | _ => exact hr₂.elim
    | _ => exact hr.elim
end
end SetX
set_option Elab.async false
set_option linter.all false
set_option maxRecDepth 100000
set_option maxHeartbeats 4000000
namespace SetX
open PySem PySem.Spec PyProof.Rows L2 PySem.Froz
def le (a b : Str) : Bool := decide (a.cps.toList ≤ b.cps.toList)
def insU (x : Str) : List Str → List Str
  | [] => [x]
  | y :: l => if x = y then y :: l else if le x y = true then x :: y :: l else y :: insU x l
def sortU (xs : List Str) : List Str := xs.foldr insU []
theorem str_eq {a b : Str} (h : a.cps.toList = b.cps.toList) : a = b := by
  obtain ⟨a⟩ := a
  obtain ⟨b⟩ := b
  have : a = b := Array.toList_inj.mp h
  rw [this]
theorem le_trans {a b c : Str} (h1 : le a b = true) (h2 : le b c = true) : le a c = true := by
  simp only [le, decide_eq_true_eq] at *
  exact List.le_trans h1 h2
theorem le_total (a b : Str) : le a b = true ∨ le b a = true := by
  simp only [le, decide_eq_true_eq]
  exact List.le_total _ _
theorem le_anti {a b : Str} (h1 : le a b = true) (h2 : le b a = true) : a = b := by
  simp only [le, decide_eq_true_eq] at *
  exact str_eq (List.le_antisymm h1 h2)
theorem le_refl (a : Str) : le a a = true := by
  rcases le_total a a with h | h <;> exact h
theorem insU_mem (x : Str) : ∀ (l : List Str) (z : Str), z ∈ insU x l ↔ z = x ∨ z ∈ l
  | [], z => by simp [insU]
  | y :: l, z => by
    unfold insU
    by_cases h : x = y
    · rw [if_pos h]
      subst h
      simp
    · rw [if_neg h]
      by_cases c : le x y = true
      · rw [if_pos c]; simp
      · rw [if_neg c, List.mem_cons, insU_mem x l z, List.mem_cons]
        constructor
        · rintro (h | h | h) <;> simp [h]
        · rintro (h | h | h) <;> simp [h]
def Up (l : List Str) : Prop := l.Pairwise fun a b => le a b = true ∧ a ≠ b
theorem insU_up (x : Str) : ∀ l : List Str, Up l → Up (insU x l)
  | [], _ => by unfold insU Up; simp
  | y :: l, h => by
    unfold insU
    have h0 := List.pairwise_cons.mp h
    by_cases e : x = y
    · rw [if_pos e]; exact h
    · rw [if_neg e]
      by_cases c : le x y = true
      · rw [if_pos c]
        refine List.pairwise_cons.mpr ⟨fun z hz => ?_, h⟩
        rcases List.mem_cons.mp hz with q | q
        · subst q; exact ⟨c, e⟩
        · have := h0.1 z q
          refine ⟨le_trans c this.1, fun q2 => ?_⟩
          subst q2
          exact e (le_anti c this.1)
      · rw [if_neg c]
        refine List.pairwise_cons.mpr ⟨fun z hz => ?_, insU_up x l h0.2⟩
        rcases (insU_mem x l z).mp hz with q | q
        · subst q
          exact ⟨(le_total z y).resolve_left c, fun q2 => e q2.symm⟩
        · exact h0.1 z q
theorem sortU_mem (xs : List Str) (z : Str) : z ∈ sortU xs ↔ z ∈ xs := by
  unfold sortU
  induction xs with
  | nil => simp
  | cons x xs ih => rw [List.foldr_cons, insU_mem, ih, List.mem_cons]
theorem sortU_up (xs : List Str) : Up (sortU xs) := by
  unfold sortU
  induction xs with
  | nil => exact List.Pairwise.nil
  | cons x xs ih => exact insU_up x _ ih
theorem up_eq : ∀ {l m : List Str}, Up l → Up m → (∀ x, x ∈ l ↔ x ∈ m) → l = m
  | [], [], _, _, _ => rfl
  | [], y :: m, _, _, h => absurd ((h y).mpr List.mem_cons_self) (by simp)
  | x :: l, [], _, _, h => absurd ((h x).mp List.mem_cons_self) (by simp)
  | x :: l, y :: m, hl, hm, h => by
    have l0 := List.pairwise_cons.mp hl
    have m0 := List.pairwise_cons.mp hm
    have e : x = y := by
      rcases List.mem_cons.mp ((h x).mp List.mem_cons_self) with q | q
      · exact q
      · rcases List.mem_cons.mp ((h y).mpr List.mem_cons_self) with q2 | q2
        · exact q2.symm
        · exact le_anti (l0.1 y q2).1 (m0.1 x q).1
    subst e
    congr 1
    refine up_eq l0.2 m0.2 fun z => ?_
    have hz := h z
    rw [List.mem_cons, List.mem_cons] at hz
    constructor
    · intro q
      rcases hz.mp (.inr q) with z1 | z1
      · exact absurd z1.symm (l0.1 z q).2
      · exact z1
    · intro q
      rcases hz.mpr (.inr q) with z1 | z1
      · exact absurd z1.symm (m0.1 z q).2
      · exact z1
theorem sortU_eq {l xs : List Str} (h : Up l) (hm : ∀ x, x ∈ l ↔ x ∈ xs) : l = sortU xs := up_eq h (sortU_up xs) fun x => (hm x).trans (sortU_mem xs x).symm
theorem srt_pw (l : List Str) : (l.mergeSort le).Pairwise fun a b => le a b = true :=
  List.pairwise_mergeSort (le := le) (fun a b c h1 h2 => le_trans h1 h2) (fun a b => by rcases le_total a b with h | h <;> simp [h]) l
theorem sortU_len {l xs : List Str} (nd : l.Nodup) (hm : ∀ x, x ∈ l ↔ x ∈ xs) : l.length = (sortU xs).length := by
  have p : l.Perm (l.mergeSort le) := (List.mergeSort_perm l le).symm
  have hp : (l.mergeSort le).Pairwise fun a b => le a b = true := srt_pw l
  have nd2 : (l.mergeSort le).Nodup := p.nodup_iff.mp nd
  have up : Up (l.mergeSort le) := hp.imp₂ (fun a b h1 h2 => ⟨h1, h2⟩) nd2
  rw [p.length_eq, sortU_eq up fun x => (p.mem_iff (a := x)).symm.trans (hm x)]
section
variable {P : Program} {w : World} {A : Around} {E : Value → Shared → Prop} {s : Shared} {a : Addr} {l : List Str}
end
end SetX
set_option Elab.async false
set_option linter.all false
set_option maxRecDepth 100000
set_option maxHeartbeats 4000000
namespace Pv
open PySem PySem.Spec PyProof.Rows L2 SetX
variable [TabCx]
def SetTx (P : Program) (w : World) (a : Addr) (l : List Str) : HO := .ext fun h => SetX.At P w h a l
theorem setTx_new {P : Program} {w : World} {H : Hp} {h : Heap} {a : Addr} {l : List Str} (R : SetX.At P w h a l) : ObjOk P w H h a (SetTx P w a l) := by
  have ⟨⟨D, ho, _⟩, _, _⟩ := R
  exact ⟨R, ⟨_, ho⟩, fun h1 h2 p k => p.at k⟩
def few (xs : List Str) : Option (List Str) := if xs.length ≤ 4000 then some xs else none
def txts : List PV → Option (List Str)
  | [.lst l] => (strsOf l).bind few
  | [.tup l] => (strsOf l).bind few
  | _ => none
def GS (P : Program) (w : World) (F H : Hp) (Q : VK) (xs : List Str) : Prop := ∀ a l F' H', Step F H F' H' → H' a = some (SetTx P w a l) → l.Nodup → (∀ x, x ∈ l ↔ x ∈ xs) → Q (.ref a) H'
theorem stGS {P : Program} {w : World} : Stays (GS P w) := ⟨fun _ _ _ _ _ _ g s a l F' H' st => g a l F' H' (s.trans st)⟩
section
variable {X : Cx} {W : WX}
def rSetT (X : Cx) : List V → Hp → VK → Prop := fun vs H Q => ∃ (a : Addr) (xs : List Str), vs = [V.ref a] ∧ (SqL X.K H a (xs.map V.str) ∨ SqT X.K H a (xs.map V.str)) ∧ xs.length ≤ 4000 ∧
  ∀ p l, H p = none → l.Nodup → (∀ x, x ∈ l ↔ x ∈ xs) → Q (.ref p) (upd H p (SetTx X.prog X.w p l))
theorem str_at {xs : List Str} {us : List Value} (h : Vals (xs.map V.str) us) (i : Nat) (v : Value) (hv : us.toArray[i]? = some v) : ∃ k t, xs[i]? = some k ∧ v = Value.str k t := by
  have hv' : us[i]? = some v := by simpa using hv
  induction xs generalizing us i with
  | nil =>
    rw [List.map_nil] at h
    cases h
    simp at hv'
  | cons x xs ih =>
    rw [List.map_cons] at h
    cases h with
    | cons r t =>
      cases i with
      | zero =>
        simp at hv'
        subst hv'
        obtain ⟨tk, e⟩ := r
        exact ⟨x, tk, rfl, e⟩
      | succ i =>
        simp at hv'
        exact ih t i (by simpa using hv') hv'
theorem cr_setT (hc : X.calm = true) : CallR X (.type "set") (rSetT X) := by
  intro pins s σ H vs us Q I r h
  obtain ⟨a, xs, rfl, hs, hz, q⟩ := h
  rw [Vals.ref1 r]
  have hb : xs.length + 1 < scanBound := by unfold scanBound; omega
  have fin : ∀ (h' : Heap) (tk : Nat) (l' : List Str), SetX.At X.prog X.w h' s.heap.objs.size l' → (∀ x, x ∈ l' ↔ x ∈ xs) → (∀ b o, s.heap.get? b = some o → h'.get? b = some o) → EP X pins σ Q (.ref s.heap.objs.size) { s with heap := h', toks := tk } := fun h' tk l' R hm hk =>
    ⟨.ref _, upd H s.heap.objs.size (SetTx X.prog X.w s.heap.objs.size l'), I.laid hk (Nat.le_refl _) (setTx_new R), rfl, q _ _ (I.hok.fresh (Nat.le_refl _)) R.nd hm⟩
  rcases hs with hs | hs
  · obtain ⟨its, rv, hl, _⟩ := I.list hs
    have hlen := rv.length
    exact call_set_list xs (I.ok.hd hc) hl.isList (fun i v hv => str_at rv i v hv) (by simpa using hlen.symm) hb fin
  · obtain ⟨its, rv, hl, _⟩ := I.tuple hs
    have hlen := rv.length
    exact call_set_tuple xs (I.ok.hd hc) hl (fun i v hv => str_at rv i v hv) (by simpa using hlen.symm) hb fin
theorem cs_setT : CaS X.K (rSetT X) txts (GS X.prog X.w) := by
  intro F H xs ds v Q s r e g
  unfold txts at e
  split at e
  · rename_i l
    cases q : strsOf l with
    | none => rw [q] at e; cases e
    | some ss =>
      rw [q] at e
      have e' : few ss = some v := e
      unfold few at e'
      split at e'
      · rename_i hz
        cases e'
        obtain ⟨x, rfl, rx⟩ := r.one
        obtain ⟨a1, ys, rfl, q1, r1⟩ := rx.lst
        have ey := strsOf_rep r1 q
        subst ey
        exact ⟨a1, _, rfl, .inl (SqL.of q1), hz, fun p l hp nd hm => g p l F _ (Step.new s hp) upd_same nd hm⟩
      · cases e'
  · rename_i l
    cases q : strsOf l with
    | none => rw [q] at e; cases e
    | some ss =>
      rw [q] at e
      have e' : few ss = some v := e
      unfold few at e'
      split at e'
      · rename_i hz
        cases e'
        obtain ⟨x, rfl, rx⟩ := r.one
        obtain ⟨a1, ys, rfl, q1, r1⟩ := rx.tup
        have ey := strsOf_rep r1 q
        subst ey
        exact ⟨a1, _, rfl, .inr (sqT_mono s.same q1), hz, fun p l hp nd hm => g p l F _ (Step.new s hp) upd_same nd hm⟩
      · cases e'
  · cases e
theorem e_set {e : Expr} {es : List Expr} {d : Fm → R (List PV)} {p pos : Pos} (hc : X.calm = true) (hm : X.mg "set" = none) (ha : PA X (e :: es) (xRL X W d)) (hg : Gl X "set" := by rfl)
    (he : starEach (e :: es) X.env = (false, eval e X.env) :: starEach es X.env := by rfl) (hpl : (backTo pos (starEach es X.env)).any (·.1) = false := by rfl) :
    PE X (.Call (.Name "set" p) (e :: es) [] pos) (tG X.K X.mg W (GS X.prog X.w) (dCall (fun ds => ofO (txts ds)) d)) := pe_callTS (cr_setT hc) cs_setT stGS hg hm (by decide +kernel) ha (by decide) (by decide) he hpl
def rLenT (X : Cx) : List V → Hp → VK → Prop := fun vs H Q => ∃ (a : Addr) (l : List Str), vs = [V.ref a] ∧ H a = some (SetTx X.prog X.w a l) ∧ Q (.int l.length) H
theorem cr_lenT : CallR X (.builtin "len") (rLenT X) := by
  intro pins s σ H vs us Q I r h
  obtain ⟨a, l, rfl, ha, q⟩ := h
  rw [Vals.ref1 r]
  have R : SetX.At X.prog X.w s.heap a l := (I.hok a _ ha).1
  obtain ⟨D, ho, F, _⟩ := R.ex
  have hz : D.1.size = l.length := F.sz
  have hb := R.sm
  unfold scanBound at hb
  exact call_len_set ho ⟨rfl, rfl, rfl⟩ rfl F.fit (by omega) ⟨.int l.length, H, I.tok _, ⟨_, by rw [hz]⟩, q⟩
def dSetLen (d : Fm → R (List Str)) : Fm → R PV := fun env => (d env).bind fun xs => .ok (.int (sortU xs).length)
theorem v_lenSet {e : Expr} {d : Fm → R (List Str)} {p pos : Pos} (hm : X.mg "len" = none) (h : PE X e (tG X.K X.mg W (GS X.prog X.w) d)) (hg : Gl X "len" := by rfl) (he : starEach [e] X.env = (false, eval e X.env) :: starEach [] X.env := by rfl) :
    PE X (.Call (.Name "len" p) [e] [] pos) (xV X W (dSetLen d)) := PE.imp (pe_callB cr_lenT hg hm PySem.boot_len (pa_cons h pa_nil he) (by decide) (by decide) he rfl) fun σ H Q ⟨F, env, ok, p⟩ => by
  refine ⟨F, env, ok, ?_⟩
  unfold dSetLen at p
  cases q : d env with
  | bad => rw [q] at p; exact p
  | ex e => rw [q] at p; exact p
  | ok xs =>
    rw [q] at p
    intro a l F' H' st ha nd hx
    refine ⟨a, l, rfl, ha, p _ F' H' st ?_⟩
    rw [sortU_len nd hx]
    simp only [Rep]
end
end Pv
set_option Elab.async false
set_option linter.all false
set_option maxRecDepth 100000
set_option maxHeartbeats 4000000
namespace Pv
open PySem PySem.Spec PyProof.Rows L2
variable [TabCx]
end Pv
set_option Elab.async false
set_option linter.all false
set_option maxRecDepth 100000
set_option maxHeartbeats 4000000
namespace SortK
open PySem PySem.Calls PyProof.Rows PySem.W
section
variable {prog : Program} {w : World} {A : Around} {E : Value → Shared → Prop} {s : Shared} {a kS : Addr} {vs : List Value} {keys : Array Value} {e e1 : Nat} {P : PySem.Fin → Shared → Prop}
def fin (h : Heap) (kS a : Addr) (out : List Value) : Heap := (h.update kS (Obj.mapSeq fun _ => (#[] : Array Value))).update a (Obj.mapSeq fun _ => out.toArray)
end
end SortK
set_option Elab.async false
set_option linter.all false
set_option maxRecDepth 100000
set_option maxHeartbeats 4000000
namespace Pv
open PySem PySem.Spec PyProof.Rows L2
variable [TabCx]
def kf (d : Fm → R PV) (r : PV) : PV := match d [.pv r] with
  | .ok v => v
  | _ => .non
def isOkR {α : Type} : R α → Bool
  | .ok _ => true
  | _ => false
def alikeL (ds : List PyData) : Bool := ds.all fun d => ds.all fun e => PySem.W.alike d e
def tup1 : PyData → Bool
  | .tuple (_ :: _) => true
  | _ => false
def plainK : PyData → Bool
  | .none => false
  | .tuple _ => false
  | _ => true
def sortB (ds : List PyData) : Bool := alikeL ds && ((ds.all tup1 || ds.all plainK) && ds.all fun d => SeqAt.shaped d)
theorem Step.put {F H F' H' : Hp} (st : Step F H F' H') {p : Addr} {xs : List V} {o : HO} (hp : H p = none) (h' : H' p = some (.lst xs)) (hn : F' p = none) : Step F H F' (upd H' p o) where
  s0 := st.s0
  s1 := st.s1
  s2 := ⟨fun b u e => by rw [upd_ne (ne_of_none e hn)]; exact st.s2.up e, tabs_lst st.s2.tabs h', st.s2.noT⟩
  keep := fun b u e n t => by
    obtain ⟨h1, h2⟩ := st.keep b u e n t
    exact ⟨by rw [upd_ne (ne_of_none e hp)]; exact h1, h2⟩
theorem repL_snoc {K : PySem.W.Frag} {F : Hp} : ∀ {ds : List PV} {xs : List V} {d : PV} {x : V}, RepL K F ds xs → Rep K F d x → RepL K F (ds ++ [d]) (xs ++ [x])
  | [], xs, d, x, h, hx => by cases h; exact ⟨x, [], rfl, hx, rfl⟩
  | e :: ds, xs, d, x, h, hx => by
    obtain ⟨y, ys, rfl, h1, h2⟩ := h
    exact ⟨y, ys ++ [x], rfl, h1, repL_snoc h2 hx⟩
end Pv
set_option Elab.async false
set_option linter.all false
set_option maxRecDepth 100000
set_option maxHeartbeats 4000000
namespace Pv
open PySem PySem.Spec PyProof.Rows L2
variable [TabCx]
section
variable {X : Cx} {pins : List (Addr × Obj)} {σ : L2.St} {H F : Hp} {s : Shared} {k : Nat} {a q : Str} {body : Expr} {scope : Scope} {d : Fm → R PV}
end
end Pv
set_option Elab.async false
set_option linter.all false
set_option maxRecDepth 100000
set_option maxHeartbeats 4000000
namespace Pv
open PySem PySem.Spec PyProof.Rows L2
variable [TabCx]
def fSortD : List PV → Option (List PV)
  | [.lst l] => if (decide (l.length ≤ sizeLine) && sortB (l.map toD)) = true then some (l.mergeSort (PySem.W.dataLe false toD)) else none
  | _ => none
section
variable {X : Cx} {W : WX}
end
end Pv
set_option Elab.async false
set_option linter.all false
set_option maxRecDepth 100000
set_option maxHeartbeats 4000000
namespace Pv
open PySem PySem.Spec PyProof.Rows L2
variable [TabCx]
def fRev : PV → Option (List PV)
  | .lst l => some l.reverse
  | _ => none
def dRev (d : Fm → R PV) : Fm → R (List PV) := fun env => (d env).bind fun v => ofO (fRev v)
theorem repL_rev {K : PySem.W.Frag} {F : Hp} : ∀ {l : List PV} {xs : List V}, RepL K F l xs → RepL K F l.reverse xs.reverse
  | [], xs, h => by cases h; rfl
  | d :: l, xs, h => by
    obtain ⟨x, r, rfl, h1, h2⟩ := h
    rw [List.reverse_cons, List.reverse_cons]
    exact repL_snoc (repL_rev h2) h1
section
variable {X : Cx} {W : WX}
theorem f_rev {e : Expr} {da : Fm → R PV} {k : Nat} {p1 p2 p3 pos : Pos} (ha : PE X e (xR X W da)) : PE X (.Subscript e (.Slice none none (some (.UnaryOp .USub (.Constant (.int 1) k p1) p2)) p3) pos) (xF X W (dRev da)) :=
  PE.imp (pe_revL ha) fun σ H Q ⟨F, env, ok, p⟩ => by
    refine ⟨F, env, ok, ?_⟩
    unfold dRev at p
    cases q : da env with
    | bad => rw [q] at p; exact p
    | ex e => rw [q] at p; exact p
    | ok v =>
      rw [q] at p
      simp only [R.bind_ok] at p
      intro x F' H' st r
      cases v with
      | lst l =>
        obtain ⟨a1, xs, rfl, q1, r1⟩ := r.lst
        refine ⟨a1, xs, rfl, SqL.of q1, fun p' hp => ?_⟩
        have p2 : GF X.K F H Q l.reverse := p
        exact p2 p' _ F' _ (st.trans (Step.new st.s2 hp)) (st.back (.of hp)) (st.s2.free hp) upd_same (repL_rev r1)
      | _ => exact p.elim
end
end Pv
set_option Elab.async false
set_option linter.all false
set_option maxRecDepth 100000
set_option maxHeartbeats 4000000
namespace Pv
open PySem PySem.Spec PyProof.Rows L2
variable [TabCx]
def dMake (n : Nat) (c : Str) (g : List Slot → List PV → RM) (d : Fm → R (List PV)) : Fm → R PV := fun env => (d env).bind fun ds => match g (uns n) ds with
  | .ok .non fs => ofO (frzV (.obj c fs))
  | .ex e _ => .ex e
  | _ => .bad
section
variable {X : Cx} {W : WX} {k j : Nat} {c : Str} {ns : List Str} {g : List Slot → List PV → RM} {pos p : Pos} {e : Expr} {es : List Expr} {d : Fm → R (List PV)}
end
end Pv
set_option Elab.async false
set_option linter.all false
set_option maxRecDepth 100000
set_option maxHeartbeats 2000000
namespace Pv
open PySem PySem.Spec PyProof.Rows L2
variable [TabCx]
inductive RA where
  | ok (v : PV) (l : List PV)
  | ex (e : Ex) (l : List PV)
  | bad
def AP (K : PySem.W.Frag) (mg : Str → Option Value) (F H : Hp) (Q : VK) (E : XK) (a : Addr) : RA → Prop
  | .ok v l => ∀ x F' H' xs, StepP (· = a) F H F' H' → H' a = some (.lst xs) → F' a = none → RepL K F' l xs → Rep K F' v x → Q x H'
  | .ex e l => ∀ cls dd F' H' xs, StepP (· = a) F H F' H' → H' a = some (.lst xs) → F' a = none → RepL K F' l xs → RepX K mg F' e cls dd → E cls dd H'
  | .bad => False
def spA (K : PySem.W.Frag) (mg : Str → Option Value) (g : List PV → List PV → RA) : Sp := fun vs H Q E => ∃ F ds l a us xs, vs = us ++ [.ref a] ∧ Fz F H ∧ RepL K F ds us ∧ H a = some (.lst xs) ∧ F a = none ∧ RepL K F l xs ∧ AP K mg F H Q E a (g ds l)
def fmA (n : Nat) (ds l : List PV) : Fm := ds.map .pv ++ .byr l :: List.replicate (n - ds.length - 1) .un
def toA (i : Nat) : RS → RA
  | .nx env => (match env[i]? with
    | some (.byr l) => .ok .non l
    | _ => .bad)
  | .rm v env => (match env[i]? with
    | some (.byr l) => .ok v l
    | _ => .bad)
  | .ex e env => (match env[i]? with
    | some (.byr l) => .ex e l
    | _ => .bad)
  | _ => .bad
theorem slot_byr {K : PySem.W.Frag} {F H : Hp} {a : Addr} {xs : List V} {l : List PV} (h : H a = some (.lst xs)) (f : F a = none) (r : RepL K F l xs) : SlotOk K F H (.byr l) (some (some (.ref a))) [a] := by
  rw [SlotOk]
  exact ⟨a, xs, rfl, h, f, r, rfl⟩
section
variable {P : Program} {w : World} {K : PySem.W.Frag} {mg : Str → Option Value} {base : Heap}
end
structure CaA (P : Program) (w : World) (K : PySem.W.Frag) (mg : Str → Option Value) (base : Heap) (k : Nat) (x : Str) (g : List PV → List PV → RA) : Prop where
  ex : ∃ f fd ps, FnOk P w K mg base (L2C.CX P w) k f fd ps (spA K mg g) ∧ mg x = some (.ref f) ∧ PySem.W.keepIn K (.ref f) = true ∧ Binds K fd ps []
def lstS : Option Slot → Option (List PV × (List PV → Slot))
  | some (.own l) => some (l, .own)
  | some (.byr l) => some (l, .byr)
  | _ => none
def sCallA (j : Nat) (g : List PV → List PV → RA) (d : Fm → R (List PV)) : Fm → RS := fun env => match lstS env[j]? with
  | some (l, w) => (match d env with
    | .ok ds => (match g ds l with
      | .ok _ l' => .nx (env.set j (w l'))
      | .ex e l' => .ex e (env.set j (w l'))
      | .bad => .bad)
    | .ex e => .ex e env
    | .bad => .bad)
  | none => .bad
def dAppB (i : Nat) (d : Fm → R PV) : Fm → RS := fun env => match env[i]? with
  | some (.byr l) => (match d env with
    | .ok v => if l.length < sizeLine then .nx (env.set i (.byr (l ++ [v]))) else .bad
    | .ex e => .ex e env
    | .bad => .bad)
  | _ => .bad
section
variable {X : Cx} {W : WX} {B : Bs}
theorem slotW {K : PySem.W.Frag} {F H : Hp} {w : List PV → Slot} {l : List PV} {v : Option (Option V)} {fp : List Addr} (hw : w = .own ∨ w = .byr) (h : SlotOk K F H (w l) v fp) : ∃ a xs, v = some (some (.ref a)) ∧ H a = some (.lst xs) ∧ F a = none ∧ RepL K F l xs ∧ fp = [a] := by
  rcases hw with rfl | rfl
  · simpa only [SlotOk] using h
  · simpa only [SlotOk] using h
theorem slotW' {K : PySem.W.Frag} {F H : Hp} {w : List PV → Slot} {l : List PV} {a : Addr} {xs : List V} (hw : w = .own ∨ w = .byr) (h : H a = some (.lst xs)) (f : F a = none) (r : RepL K F l xs) : SlotOk K F H (w l) (some (some (.ref a))) [a] := by
  rcases hw with rfl | rfl
  · exact slot_own h f r
  · exact slot_byr h f r
theorem isPW {w : List PV → Slot} (hw : w = .own ∨ w = .byr) (k : Nat) (l m : List PV) : isP k (w l) = isP k (w m) := by
  rcases hw with rfl | rfl
  · rw [isP_own, isP_own]
  · rw [isP_byr, isP_byr]
theorem FmStP.lst {K : PySem.W.Frag} {F H F' H' : Hp} {σ : L2.St} {env : Fm} {fp : Fp} {i : Nat} {w : List PV → Slot} {l l' : List PV} {a : Addr} {xs : List V} (hw : w = .own ∨ w = .byr) (h : FmStP K B F H σ env fp) (e : env[i]? = some (w l)) (ea : σ[i]? = some (some (.ref a))) (st : StepP (· = a) F H F' H') (h1 : H' a = some (.lst xs)) (h2 : F' a = none) (r : RepL K F' l' xs) :
    FmStP K B F' H' σ (env.set i (w l')) fp := by
  have hil : i < env.length := (List.getElem?_eq_some_iff.mp e).1
  have at0 := h.ok.at' i _ e
  obtain ⟨a0, xs0, e0, _, _, _, ef⟩ := slotW hw at0
  rw [ea] at e0
  cases e0
  have ia : a ∈ fp i := by rw [ef]; exact List.mem_singleton.mpr rfl
  have stB : StepP B.P B.F0 B.H0 F' H' := by
    refine ⟨h.st.s0, h.st.s1.trans st.s1, st.s2, fun b o hb n t z => ?_⟩
    obtain ⟨k1, k2⟩ := h.st.keep b o hb n t z
    exact st.keep b o k1 k2 t fun y => by
      subst y
      rcases h.fr i b ia with w | w
      · exact z w.1
      · exact w o hb t
  refine ⟨⟨st.s2, by rw [List.length_set]; exact h.ok.len, fun j t et => ?_, fun j hj => ?_, h.ok.nd, h.ok.dj⟩, stB, h.sb.trans st.s1, h.fr, fun x hx k s2 e2 y => ?_⟩
  · by_cases cj : i = j
    · subst cj
      rw [List.getElem?_set_self hil] at et
      cases et
      rw [ea, ef]
      exact slotW' hw h1 h2 r
    · rw [List.getElem?_set_ne cj] at et
      refine SlotOk.keep st.s1 _ _ _ (h.ok.at' j t et) fun b hb u eb => ?_
      obtain ⟨fb, o', eb', kb⟩ := SlotOk.held _ _ _ (h.ok.at' j t et) b hb
      exact st.keep b u eb fb (by rw [eb] at eb'; cases eb'; exact ownK_noTab kb) fun z => by
        subst z
        exact cj (h.ok.dj i j b ia hb)
  · rw [List.length_set] at hj
    exact h.ok.out j hj
  · by_cases z : i = k
    · subst z
      rw [List.getElem?_set_self hil] at e2
      cases e2
      exact h.pin x hx _ _ e (by rw [isPW hw _ l l']; exact y)
    · rw [List.getElem?_set_ne z] at e2
      exact h.pin x hx _ _ e2 y
end
end Pv
set_option Elab.async false
set_option linter.all false
set_option maxRecDepth 100000
set_option maxHeartbeats 2000000
namespace Pv
open PySem PySem.Spec PyProof.Rows L2
variable [TabCx]
section
variable {X : Cx} {W : WX}
end
section
variable {X : Cx} {W : WX}
def idxS (z : Str) : Nat → List Str → Option Nat
  | _, [] => none
  | n, y :: r => if y = z then some n else idxS z (n + 1) r
structure GTupI (K : PySem.W.Frag) (mg : Str → Option Value) (x : Str) (ys : List Str) : Prop where
  ex : ∃ a o, mg x = some (.ref a) ∧ K.lookup a = some o ∧ o.cls = .type "tuple" ∧ o.dict = none ∧ ∀ F, SqT K F a (ys.map V.str)
def pTIdx (ys : List Str) : PV → Option PV
  | .str z => (idxS z 0 ys).map fun j => .int (j : Nat)
  | _ => none
structure NoEq (K : PySem.W.Frag) (c : Str) : Prop where
  mro : PySem.W.mroIn K (TabCx.cls c) (.type "object") = some true
  eq : PySem.W.findIn K (.ref (TabCx.cls c)) "__eq__" = some (some (.builtin "object.__eq__"))
def noneOr (cs : List Str) : PV → Bool
  | .non => true
  | .ins c _ => cs.contains c
  | _ => false
def pNoneIn (cs : List Str) : PV → PV → Option Bool
  | .non, .lst l => if l.all (noneOr cs) = true then some (l.any Pv.isNon) else none
  | _, _ => none
def dPop (i j : Nat) : Fm → RS := fun env => match env[j]? with
  | some (.own l) => (match l.getLast? with
    | some v => if i < env.length then .nx ((env.set j (.own l.dropLast)).set i (.pv v)) else .bad
    | none => .bad)
  | _ => .bad
theorem RepL.dropLast {K : PySem.W.Frag} {F : Hp} {l : List PV} {xs : List V} (r : RepL K F l xs) : RepL K F l.dropLast xs.dropLast := by
  rw [List.dropLast_eq_take, List.dropLast_eq_take, r.len]
  exact r.take _
end
structure CaMF (P : Program) (w : World) (K : PySem.W.Frag) (mg : Str → Option Value) (base : Heap) (k : Nat) (c m : Str) (g : List PV → R (List PV)) : Prop where
  ex : ∃ f fd ps, FnOk P w K mg base (L2C.CX P w) k f fd ps (spF K mg g) ∧ Meth K (TabCx.cls c) m f ∧ Binds K fd ps []
section
variable {X : Cx} {W : WX} {k j i : Nat} {c m : Str} {ns : List Str} {g : List PV → R (List PV)} {pos apos : Pos} {e o : Expr} {es : List Expr} {d : Fm → R (List PV)} {da : Fm → R PV}
def dMF (c : Str) (g : List PV → R (List PV)) (da : Fm → R PV) (d : Fm → R (List PV)) : Fm → R (List PV) := fun env => (da env).bind fun x => match x with
  | .ins c' fs => if c' = c then (d env).bind fun es => g (.ins c fs :: es) else .bad
  | _ => .bad
end
end Pv
set_option Elab.async false
set_option linter.all false
set_option maxRecDepth 100000
set_option maxHeartbeats 2000000
namespace Pv
open PySem PySem.Spec PyProof.Rows L2
variable [TabCx]
section
variable {X : Cx} {W : WX}
def rEqN (K : PySem.W.Frag) (neg : Bool) : R2 := fun x y H Q => ∃ a b xs, x = .ref a ∧ y = .ref b ∧ SqL K H a xs ∧ SqL K H b [] ∧ Q (.bl (if neg then !xs.isEmpty else xs.isEmpty)) H
theorem vals_nil {us : List Value} (h : Vals [] us) : us = [] := by cases h; rfl
theorem vals_empty {xs : List V} {us : List Value} (h : Vals xs us) : xs.isEmpty = us.isEmpty := by cases h <;> rfl
theorem op_neNil (hu : X.A.units < cLine) : OpR X (compareOp .NotEq) (rEqN X.K true) := by
  intro pins s σ H x y v u Q I rx ry h
  obtain ⟨a, b, xs, rfl, rfl, h1, h2, q⟩ := h
  cases rx
  cases ry
  obtain ⟨its, rv, hl, _⟩ := I.list h1
  obtain ⟨its2, rv2, hl2, _⟩ := I.list h2
  have e2 := vals_nil rv2
  subst e2
  simp only [if_true] at q
  cases its with
  | nil =>
    rw [vals_empty rv] at q
    exact SeqAt.RcNeAt.lists (e := fun _ => true) hl.isList hl2.isList rfl hu (fun j h1 _ => absurd h1 (Nat.not_lt_zero j)) X.prog X.w _ _ ⟨.bl false, H, I, rfl, q⟩
  | cons z r =>
    rw [vals_empty rv] at q
    exact SeqAt.RcNeAt.lists_lengths hl.isList hl2.isList (by simp) hu X.prog X.w _ _ ⟨.bl true, H, I, rfl, q⟩
def pNeNil : PV → PV → Option Bool
  | .lst l, .lst [] => some (!l.isEmpty)
  | _, _ => none
@[simp] theorem pNeNil_l (l : List PV) : pNeNil (.lst l) (.lst []) = some (!l.isEmpty) := rfl
theorem repL_empty {K : PySem.W.Frag} {F : Hp} {l : List PV} {xs : List V} (r : RepL K F l xs) : xs.isEmpty = l.isEmpty := by
  have := r.len
  cases xs <;> cases l <;> first | rfl | simp at this
theorem c_neNil {k : Nat} (hr : Room k X.A) : CmpR X .NotEq pNeNil := ⟨_, op_neNil (by have := hr.un; omega), by
  intro F H x y a b v Q s ra rb e q
  unfold pNeNil at e
  split at e
  · cases e
    obtain ⟨p, xs, rfl, h1, r⟩ := ra.lst
    obtain ⟨p2, xs2, rfl, h2, r2⟩ := rb.lst
    simp only [RepL] at r2
    subst r2
    refine ⟨p, p2, xs, rfl, rfl, SqL.of h1, SqL.of h2, ?_⟩
    simp only [if_true, repL_empty r]
    exact q
  · cases e⟩
def fList : List PV → Option (List PV)
  | [.lst l] => some l
  | [.tup l] => some l
  | _ => none
@[simp] theorem fList_l (l : List PV) : fList [.lst l] = some l := rfl
@[simp] theorem fList_t (l : List PV) : fList [.tup l] = some l := rfl
theorem f_list {e : Expr} {es : List Expr} {d : Fm → R (List PV)} {p pos : Pos} (hm : X.mg "list" = none) (ha : PA X (e :: es) (xRL X W d)) (hg : Gl X "list" := by rfl) (he : starEach (e :: es) X.env = (false, eval e X.env) :: starEach es X.env := by rfl) (hpl : (backTo pos (starEach es X.env)).any (·.1) = false := by rfl) :
    PE X (.Call (.Name "list" p) (e :: es) [] pos) (xF X W (dCall (fun ds => ofO (fList ds)) d)) := pe_callTS call_list_of (by
      intro F H xs ds v Q s r e g
      unfold fList at e
      split at e
      · cases e
        obtain ⟨x, rfl, rx⟩ := r.one
        obtain ⟨a1, ys, rfl, q1, r1⟩ := rx.lst
        exact ⟨a1, ys, rfl, .inl (SqL.of q1), fun p hp => g p _ F _ (Step.new s hp) (.of hp) (s.free hp) upd_same r1⟩
      · cases e
        obtain ⟨x, rfl, rx⟩ := r.one
        obtain ⟨a1, ys, rfl, q1, r1⟩ := rx.tup
        exact ⟨a1, ys, rfl, .inr (sqT_mono s.same q1), fun p hp => g p _ F _ (Step.new s hp) (.of hp) (s.free hp) upd_same r1⟩
      · cases e) stGF hg hm (by decide +kernel) ha (by decide) (by decide) he hpl
end
end Pv
set_option Elab.async false
set_option linter.all false
set_option maxRecDepth 100000
set_option maxHeartbeats 2000000
namespace Pv
open PySem PySem.Spec PyProof.Rows L2
end Pv
set_option Elab.async false
set_option linter.all false
set_option maxRecDepth 100000
set_option maxHeartbeats 2000000
namespace ZM
open PySem
open PySem.Sem (wp)
section
variable {prog : Program} {w : World} {E : Value → Shared → Prop} {A : Around} {s : Shared}
end
section
variable {s : Shared} {prog : Program} {w : World} {A : Around} {E : Value → Shared → Prop}
end
end ZM
set_option Elab.async false
set_option linter.all false
set_option maxRecDepth 100000
set_option maxHeartbeats 400000
namespace Pv
open PySem PySem.Spec PyProof.Rows L2
variable [TabCx]
end Pv
set_option Elab.async false
set_option linter.all false
set_option maxRecDepth 100000
set_option maxHeartbeats 1000000
namespace Pv
open PySem PySem.Spec PyProof.Rows L2
open AutoSeq1 in
variable [TabCx]
def dExtT (i : Nat) (d : Fm → R PV) : Fm → RS := fun env => match env[i]? with
  | some (.own l) => (match d env with
    | .ok (.tup m) => if l.length + m.length ≤ sizeLine then .nx (env.set i (.own (l ++ m))) else .bad
    | .ok _ => .bad
    | .ex e => .ex e env
    | .bad => .bad)
  | _ => .bad
end Pv
set_option Elab.async false
set_option linter.all false
set_option maxRecDepth 100000
set_option maxHeartbeats 2000000
namespace Pv
open PySem PySem.Spec PyProof.Rows L2
variable [TabCx]
section
variable {X : Cx} {W : WX}
end
end Pv
set_option Elab.async false
set_option linter.all false
set_option maxRecDepth 100000
set_option maxHeartbeats 2000000
namespace Pv
open PySem PySem.Spec PyProof.Rows L2
variable [TabCx]
section
variable {X : Cx} {C : Addr} {bmB : List Value} {B newId initId : String}
theorem pmk_own5 {x m : Str} {j : Nat} {p p2 pos : Pos} (F : ExcBaseFacts B newId initId bmB) (q : PySem.W.excIn X.K C bmB newId = true) (gC : X.mg x = some (.ref C)) (kC : PySem.W.keepIn X.K (.ref C) = true) (r : Raises X (.ref C)) (hg : Gl X x)
    (hdb : (x == ("__debug__" : Str)) = false := by decide) : L2H.PMk5 X (.Call (.Name x p) [.Constant (.str m) j p2] [] pos) (fun _ H Q => Q (.ref C) none H) := by
  intro pins s σ H Q I h
  have ha : PA X [.Constant (.str m) j p2] (tCons (tC (.str m)) tNil) := pa_cons pe_str pa_nil
  refine wpAny_Call_Name_kw (ld_glob I hg gC (PySem.W.callWith_K (h₀ := X.base) I.ok.mod.kin kC (thn (ha.run pos pins s σ H (fun vs H1 => vs = [V.str m] ∧ H = H1) I ⟨rfl, rfl⟩) fun us s1 hh => ?_)) hdb)
  obtain ⟨vs, H1, I1, r1, rfl, rfl⟩ := hh
  refine ⟨I1.kIn, ?_⟩
  cases r1 with
  | cons ru rn =>
    rename_i u us'
    cases rn
    show wpAny _ _ (call (.ref C) [u]) _ _ _
    obtain ⟨bm, N, nm, qn, bs, hdct, sn, sub, ab, col, dd, k0, k1, k2, k3, k5, mN, hC, hN, hni, T⟩ := exc_obj I1.kIn q
    refine wpAny_call_exc_subT F T hC hN hni (fun h' e hm => L2H.mk_of5 I1 hm r h (I1.hok.gone hm.new)) ?_
    show 1 ≤ sizeLine
    rw [sizeLine_eq]
    omega
end
def dTryX (x y : Str) (db : Fm → RS) : Fm → RS := fun env => match db env with
  | .ex (.cls n) e' => if n = x then .ex (.cls y) e' else .bad
  | .ex (.trb _ _) _ => .bad
  | r => r
theorem s_tryX {X : Cx} {W : WX} {body : List Stmt} {db : Fm → RS} {x y m : Str} {j j2 : Nat} {np pos pos' p p2 p3 p4 cpos : Pos} (T : Exc1 X.K X.mg y) (gx : X.mg x = some (.ref (He.ga X.K x))) (hxx : PySem.W.exmOne X.K (.ref (He.ga X.K x)) (.ref (He.ga X.K x)) = some true)
    (hl : ∀ cls, TabCx.long cls → PySem.W.exmOne X.K cls (.ref (He.ga X.K x)) ≠ some true) (hly : ∀ C, X.mg y = some (.ref C) → TabCx.long (.ref C)) (tk : L2C.Takes X W)
    (hb : ∀ (W' : WX) (pn : List (Addr × Obj)) (xe : Value → Shared → Prop), L2C.Takes (X.tr pn xe) W' → PassesOwn (model X.prog X.w) X.A X.env xe → PSs (X.tr pn xe) body (xS X W' db))
    (hpa : ∀ hd : Option Value, PassesOwnAt (model X.prog X.w) (X.A.mark hd) X.A X.env X.xe := by exact fun hd => L2H.passesAt_of rfl hd)
    (hs : X.stack = X.env :: X.outer := by rfl) (hf : X.env.frame = some X.env.locals := by rfl) (hg : Gl X x := by rfl) (hgy : Gl X y := by rfl) (hdx : (x == ("__debug__" : Str)) = false := by decide) (hdy : (y == ("__debug__" : Str)) = false := by decide) :
    PS X (.Try body [.ExceptHandler (some (.Name x np)) none [.Raise (some (.Call (.Name y p) [.Constant (.str m) j p2] [] p3)) (some (.Constant .none j2 cpos)) p4] pos'] [] [] pos) (xS X W (dTryX x y db)) := by
  obtain ⟨C, gC, q, kC, s1, t1⟩ := T.ex
  refine PS.imp (L2C.ps_try_raise (X := X) (c := .ref (He.ga X.K x)) (Wout := W) (tb := fun W' => xS X W' db) (ts := fun a cls d D σ H => TabCx.long (.ref C) ∧ W (.ref C) none σ H)
    hs hf ⟨hg, hdx, .inl gx⟩ hpa tk hl hb (fun ea oe cls d pn hfl tkS hot => ?_)) fun D σ H h => ?_
  · refine pss_one (PS.imp (L2C.ps_raiseN hot tkS (pmk_own5 PySem.F.excBase_ValueError q gC kC (raises_own s1 t1) hgy hdy)) fun D σ H h => h)
  · obtain ⟨B, F, env, fs, p⟩ := h
    refine ⟨B, F, env, fs, ?_⟩
    unfold dTryX at p
    cases z : db env with
    | nx e => rw [z] at p; exact p
    | rt v => rw [z] at p; exact p
    | rm v e => rw [z] at p; exact p
    | rf v => rw [z] at p; exact p
    | bk v => rw [z] at p; exact p
    | ct v => rw [z] at p; exact p
    | bad => rw [z] at p; exact p
    | ex x' e' =>
      rw [z] at p
      cases x' with
      | trb _ _ => exact p.elim
      | cls n =>
        simp only at p
        by_cases hn : n = x
        case neg => rw [if_neg hn] at p; exact p.elim
        rw [if_pos hn] at p
        subst hn
        intro c dd σ' F' H' fs' rx
        obtain ⟨C', g', rfl, rfl⟩ := rx
        rw [gx] at g'
        cases g'
        exact ⟨true, hxx, fun _ a _ => ⟨hly C gC, p (.ref C) none σ' F' H' fs' ⟨C, gC, rfl, rfl⟩⟩, fun z => Bool.noConfusion z⟩
structure TryF (K : PySem.W.Frag) (mg : Str → Option Value) (x y : Str) : Prop where
  gx : mg x = some (.ref (He.ga K x))
  xx : PySem.W.exmOne K (.ref (He.ga K x)) (.ref (He.ga K x)) = some true
  hl : ∀ cls, TabCx.long cls → PySem.W.exmOne K cls (.ref (He.ga K x)) ≠ some true
  hly : ∀ C, mg y = some (.ref C) → TabCx.long (.ref C)
theorem tryF_of {K : PySem.W.Frag} {h : Heap} {mg : Str → Option Value} {x y : Str} (X : K.In h) (G : h.Ns mainGlobals mg) (hl : (TabCx.long : Value → Prop) = fun v => v = .ref (He.ga K y)) (gx : (He.Fa.glo x).ok K = true) (gy : (He.Fa.glo y).ok K = true) (e1 : (He.Fa.exm x x true).ok K = true) (e2 : (He.Fa.exm y x false).ok K = true) : TryF K mg x y := by
  refine ⟨He.glo_ok X G gx, He.exm_ok e1, fun cls z => ?_, fun C z => ?_⟩
  · rw [hl] at z
    rw [show cls = .ref (He.ga K y) from z, He.exm_ok e2]
    decide
  · have g := He.glo_ok X G gy
    rw [z] at g
    rw [hl, Option.some.inj g]
theorem s_tryF {X : Cx} {W : WX} {body : List Stmt} {db : Fm → RS} {x y m : Str} {j j2 : Nat} {np pos pos' p p2 p3 p4 cpos : Pos} (T : Exc1 X.K X.mg y) (Y : TryF X.K X.mg x y) (tk : L2C.Takes X W)
    (hb : ∀ (W' : WX) (pn : List (Addr × Obj)) (xe : Value → Shared → Prop), L2C.Takes (X.tr pn xe) W' → PassesOwn (model X.prog X.w) X.A X.env xe → PSs (X.tr pn xe) body (xS X W' db))
    (hpa : ∀ hd : Option Value, PassesOwnAt (model X.prog X.w) (X.A.mark hd) X.A X.env X.xe := by exact fun hd => L2H.passesAt_of rfl hd)
    (hs : X.stack = X.env :: X.outer := by rfl) (hf : X.env.frame = some X.env.locals := by rfl) (hg : Gl X x := by rfl) (hgy : Gl X y := by rfl) (hdx : (x == ("__debug__" : Str)) = false := by decide) (hdy : (y == ("__debug__" : Str)) = false := by decide) :
    PS X (.Try body [.ExceptHandler (some (.Name x np)) none [.Raise (some (.Call (.Name y p) [.Constant (.str m) j p2] [] p3)) (some (.Constant .none j2 cpos)) p4] pos'] [] [] pos) (xS X W (dTryX x y db)) :=
  s_tryX T Y.gx Y.xx Y.hl Y.hly tk hb hpa hs hf hg hgy hdx hdy
end Pv
set_option Elab.async false
set_option linter.all false
set_option maxRecDepth 100000
set_option maxHeartbeats 2000000
namespace Pv
open PySem PySem.Spec PyProof.Rows L2
variable [TabCx]
section
variable {X : Cx} {W : WX}
theorem s_par3 {i j l : Nat} {x y z : Str} {a b c : Expr} {d : Fm → R (List PV)} {px py pz pt pos : Pos} {kt k2 pt2} (hc : X.calm = true) (hN : X.N.Nodup) (hi : X.N[i]? = some x) (hj : X.N[j]? = some y) (hl : X.N[l]? = some z) (hij : i ≠ j) (hil : i ≠ l) (hjl : j ≠ l)
    (hx : X.env.scope.names.lookup x = some .local) (hy : X.env.scope.names.lookup y = some .local) (hz : X.env.scope.names.lookup z = some .local) (ha : PA X [a, b, c] (xVL X W d))
    (hw : swappedStores [.Tuple [.Name x px, .Name y py, .Name z pz] kt pt] (.Tuple [a, b, c] k2 pt2) X.env = pure (some [x, y, z]))
    (hs : swapsWithSole [.Tuple [.Name x px, .Name y py, .Name z pz] kt pt] (.Tuple [a, b, c] k2 pt2) pos.line X.env = pure false := by rfl) :
    PS X (.Assign [.Tuple [.Name x px, .Name y py, .Name z pz] kt pt] (.Tuple [a, b, c] k2 pt2) pos) (xS X W (dSetT [i, j, l] (dTup d))) := PS.imp (ps_par3 hc hN hi hj hl hij hil hjl hx hy hz ha hw hs) fun D σ H ⟨B, F, env, fs, p⟩ => by
  refine ⟨F, env, fs.ok, ?_⟩
  unfold dSetT dTup at p
  cases q : d env with
  | bad => rw [q] at p; exact p
  | ex e => rw [q] at p; exact GXs fs p
  | ok v =>
    rw [q] at p
    simp only [R.bind_ok] at p
    intro xs F' H' st r
    split at p
    · rename_i v0 q0
      split at q0
      · cases q0
        simp only [tgT] at p
        match v, p, r with
        | [], p, r => exact p.elim
        | [_], p, r => simp only [setAll] at p; split at p <;> first | exact p.elim | (rename_i e0 h0; split at h0 <;> cases h0)
        | [_, _], p, r => simp only [setAll] at p; split at p <;> first | exact p.elim | (rename_i e0 h0; split at h0 <;> first | cases h0 | (split at h0 <;> cases h0))
        | _ :: _ :: _ :: _ :: _, p, r => simp only [setAll] at p; split at p <;> first | exact p.elim | (rename_i e0 h0; split at h0 <;> first | cases h0 | (split at h0 <;> first | cases h0 | (split at h0 <;> cases h0)))
        | [u1, u2, u3], p, r =>
          simp only [RepL] at r
          obtain ⟨v1, r1, rfl, h1, v2, r2, rfl, h2, v3, r3, rfl, h3, rfl⟩ := r
          refine ⟨v1, v2, v3, rfl, ?_⟩
          simp only [setAll] at p
          split at p
          · rename_i e0 h0
            split at h0
            · rename_i c1
              split at h0
              · rename_i c2
                split at h0
                · rename_i c3
                  cases h0
                  exact p _ F' H' ((((fs.step st).setPv c1 h1).setPv c2 h2).setPv c3 h3)
                · cases h0
              · cases h0
            · cases h0
          · exact p.elim
      · cases q0
    · rename_i e0 q0; split at q0 <;> cases q0
    · exact p.elim
end
end Pv
set_option Elab.async false
set_option linter.all false
set_option maxRecDepth 100000
set_option maxHeartbeats 4000000
namespace Tw
open PySem PySem.Spec PyProof.Rows L2 Pv
def D_is_number : Fm → RS :=
  (dRet (dAndV (d1 (pIsi "int") (dV 0)) (dNotV (d1 (pIsi "bool") (dV 0)))))
def C_are_signs_1 : Fm → R (List PV) :=
  (dLc [1] (tgN 1) dYes (dAndV (dBv (dChain pLe pLe (dC (.str (Str.ofString " "))) (dV 1) (dC (.str (Str.ofString "~"))))) (dBv (d2 pNe (dCall (fun ds => ofO (pOrd ds)) (dCons (dV 1) dNil)) (dC (.int 37))))) (d1 strIt (dV 0)))
def D_are_signs : Fm → RS :=
  (dRet (dCall (fun ds => ofO (pAll ds)) (dCons (dL C_are_signs_1) dNil)))
def C_is_value_1 (g_is_value : List PV → R PV) : Fm → R (List PV) :=
  (dLc [2] (tgN 2) dYes (dCall g_is_value (dCons (dV 2) (dCons (d2 pAdd (dV 1) (dC (.int 1))) dNil))) (d1 tupIt (dV 0)))
def D_is_value (g_are_signs : List PV → R PV) (g_is_value : List PV → R PV) (g_is_number : List PV → R PV) : Fm → RS :=
  (dSeq (dIfS (dB (d1 (pIsi "str") (dV 0))) (dRet (dAndV (dBv (d2 pLe (dCall (fun ds => ofO (pLen ds)) (dCons (dV 0) dNil)) (dC (.int 20)))) (dCall g_are_signs (dCons (dV 0) dNil)))) dSkip) (dSeq (dIfS (dB (d1 (pIsi "tuple") (dV 0))) (dRet (dAndV (dBv (d2 pLt (dV 1) (dC (.int 3)))) (dAndV (dBv (d2 pLe (dCall (fun ds => ofO (pLen ds)) (dCons (dV 0) dNil)) (dC (.int 6)))) (dCall (fun ds => ofO (pAll ds)) (dCons (dL (C_is_value_1 g_is_value)) dNil))))) dSkip) (dRet (dAndV (dCall g_is_number (dCons (dV 0) dNil)) (dBv (d2 pLe (dCall (fun ds => ofO (pAbs ds)) (dCons (dV 0) dNil)) (dC (.int 999999))))))))
def D_need_terms : Fm → RS :=
  (dIfS (dNot (dB (dV 0))) (dRaise (.cls (Str.ofString "BadSteps"))) dSkip)
def C_is_name_1 : Fm → R (List PV) :=
  (dLc [1] (tgN 1) dYes (dBv (d2 pIn (dV 1) (dC (.str (Str.ofString "abcdefghijklmnopqrstuvwxyz"))))) (d1 strIt (dV 0)))
def D_is_name : Fm → RS :=
  (dSeq (dIfS (dOr (dNot (dB (d1 (pIsi "str") (dV 0)))) (d2 pIn (dV 0) (dC (strTup [(Str.ofString "and"), (Str.ofString "or"), (Str.ofString "not"), (Str.ofString "row")])))) (dRet (dC (.bl false))) dSkip) (dRet (dAndV (dBv (dChain pLe pLe (dC (.int 1)) (dCall (fun ds => ofO (pLen ds)) (dCons (dV 0) dNil)) (dC (.int 10)))) (dCall (fun ds => ofO (pAll ds)) (dCons (dL C_is_name_1) dNil)))))
def B_need_deep_1 (g_need_deep : List PV → R PV) : Fm → RS :=
  (dExpr (dCall g_need_deep (dCons (dV 3) (dCons (d2 pAdd (dV 1) (dC (.int 1))) dNil))))
def L_need_deep_1 (g_need_deep : List PV → R PV) : Fm → RS :=
  (dFor (d1 tupIt (d2 pIdx (dV 0) (dC (.int 1)))) (tgN 3) (B_need_deep_1 g_need_deep) [3])
def B_need_deep_2 (g_need_deep : List PV → R PV) : Fm → RS :=
  (dExpr (dCall g_need_deep (dCons (dV 3) (dCons (d2 pAdd (dV 1) (dC (.int 1))) dNil))))
def L_need_deep_2 (g_need_deep : List PV → R PV) : Fm → RS :=
  (dFor (d1 tupIt (dSl pSl (dV 0) (dSo (dC (.int 1))) dNo)) (tgN 3) (B_need_deep_2 g_need_deep) [3])
def D_need_deep (g_need_terms : List PV → R PV) (g_is_value : List PV → R PV) (g_is_name : List PV → R PV) (g_need_deep : List PV → R PV) : Fm → RS :=
  (dSeq (dExpr (dCall g_need_terms (dCons (dAndV (d1 (pIsi "tuple") (dV 0)) (dAndV (dBv (d2 pGt (dCall (fun ds => ofO (pLen ds)) (dCons (dV 0) dNil)) (dC (.int 1)))) (dAndV (d1 (pIsi "str") (d2 pIdx (dV 0) (dC (.int 0)))) (dBv (d2 pLt (dV 1) (dC (.int 8))))))) dNil))) (dSeq (dSet 2 (d2 pIdx (dV 0) (dC (.int 0)))) (dIfS (d2 pEq (dV 2) (dC (.str (Str.ofString "own")))) (dExpr (dCall g_need_terms (dCons (dAndV (dBv (d2 pEq (dCall (fun ds => ofO (pLen ds)) (dCons (dV 0) dNil)) (dC (.int 2)))) (dCall g_is_value (dCons (d2 pIdx (dV 0) (dC (.int 1))) (dCons (dC (.int 0)) dNil)))) dNil))) (dIfS (d2 pEq (dV 2) (dC (.str (Str.ofString "name")))) (dExpr (dCall g_need_terms (dCons (dAndV (dBv (d2 pEq (dCall (fun ds => ofO (pLen ds)) (dCons (dV 0) dNil)) (dC (.int 2)))) (dOrV (dCall g_is_name (dCons (d2 pIdx (dV 0) (dC (.int 1))) dNil)) (dBv (d2 pEq (d2 pIdx (dV 0) (dC (.int 1))) (dC (.str (Str.ofString "row"))))))) dNil))) (dIfS (d2 pEq (dV 2) (dC (.str (Str.ofString "made")))) (dSeq (dExpr (dCall g_need_terms (dCons (dAndV (dBv (d2 pEq (dCall (fun ds => ofO (pLen ds)) (dCons (dV 0) dNil)) (dC (.int 2)))) (dAndV (d1 (pIsi "tuple") (d2 pIdx (dV 0) (dC (.int 1)))) (dBv (d2 pLe (dCall (fun ds => ofO (pLen ds)) (dCons (d2 pIdx (dV 0) (dC (.int 1))) dNil)) (dC (.int 6)))))) dNil))) (L_need_deep_1 g_need_deep)) (dSeq (dExpr (dCall g_need_terms (dCons (dOrV (dAndV (dBv (d2 pIn (dV 2) (dC (strTup [(Str.ofString "plus"), (Str.ofString "less"), (Str.ofString "times"), (Str.ofString "join"), (Str.ofString "same"), (Str.ofString "below"), (Str.ofString "part")])))) (dBv (d2 pEq (dCall (fun ds => ofO (pLen ds)) (dCons (dV 0) dNil)) (dC (.int 3))))) (dAndV (dBv (d2 pIn (dV 2) (dC (strTup [(Str.ofString "not"), (Str.ofString "many")])))) (dBv (d2 pEq (dCall (fun ds => ofO (pLen ds)) (dCons (dV 0) dNil)) (dC (.int 2)))))) dNil))) (L_need_deep_2 g_need_deep)))))))
def D_need_term (g_need_deep : List PV → R PV) : Fm → RS :=
  (dExpr (dCall g_need_deep (dCons (dV 0) (dCons (dC (.int 0)) dNil))))
def D_need_step (g_need_terms : List PV → R PV) (g_is_name : List PV → R PV) (g_need_term : List PV → R PV) (g_need_deep_body : List PV → R PV) : Fm → RS :=
  (dSeq (dExpr (dCall g_need_terms (dCons (dAndV (d1 (pIsi "tuple") (dV 0)) (dAndV (dBv (d2 pGt (dCall (fun ds => ofO (pLen ds)) (dCons (dV 0) dNil)) (dC (.int 0)))) (dAndV (d1 (pIsi "str") (d2 pIdx (dV 0) (dC (.int 0)))) (dBv (d1 (pDin [((Str.ofString "let"), (3 : Int)), ((Str.ofString "note"), (2 : Int)), ((Str.ofString "check"), (2 : Int)), ((Str.ofString "alike"), (3 : Int)), ((Str.ofString "fail"), (2 : Int)), ((Str.ofString "skip"), (2 : Int)), ((Str.ofString "when"), (4 : Int)), ((Str.ofString "each"), (4 : Int))]) (d2 pIdx (dV 0) (dC (.int 0)))))))) dNil))) (dSeq (dSet 2 (d2 pIdx (dV 0) (dC (.int 0)))) (dSeq (dExpr (dCall g_need_terms (dCons (dBv (d2 pEq (dCall (fun ds => ofO (pLen ds)) (dCons (dV 0) dNil)) (d1 (pDix [((Str.ofString "let"), (3 : Int)), ((Str.ofString "note"), (2 : Int)), ((Str.ofString "check"), (2 : Int)), ((Str.ofString "alike"), (3 : Int)), ((Str.ofString "fail"), (2 : Int)), ((Str.ofString "skip"), (2 : Int)), ((Str.ofString "when"), (4 : Int)), ((Str.ofString "each"), (4 : Int))]) (dV 2)))) dNil))) (dSeq (dIfS (d2 pIn (dV 2) (dTup (dCons (dC (.str (Str.ofString "let"))) (dCons (dC (.str (Str.ofString "each"))) dNil)))) (dSeq (dExpr (dCall g_need_terms (dCons (dCall g_is_name (dCons (d2 pIdx (dV 0) (dC (.int 1))) dNil)) dNil))) (dExpr (dCall g_need_term (dCons (d2 pIdx (dV 0) (dC (.int 2))) dNil)))) (dExpr (dCall g_need_term (dCons (d2 pIdx (dV 0) (dC (.int 1))) dNil)))) (dSeq (dIfS (d2 pEq (dV 2) (dC (.str (Str.ofString "alike")))) (dExpr (dCall g_need_term (dCons (d2 pIdx (dV 0) (dC (.int 2))) dNil))) dSkip) (dSeq (dIfS (d2 pEq (dV 2) (dC (.str (Str.ofString "when")))) (dExpr (dCall g_need_deep_body (dCons (d2 pIdx (dV 0) (dC (.int 2))) (dCons (d2 pAdd (dV 1) (dC (.int 1))) dNil)))) dSkip) (dIfS (d2 pIn (dV 2) (dTup (dCons (dC (.str (Str.ofString "when"))) (dCons (dC (.str (Str.ofString "each"))) dNil)))) (dExpr (dCall g_need_deep_body (dCons (d2 pIdx (dV 0) (dC (.int 3))) (dCons (d2 pAdd (dV 1) (dC (.int 1))) dNil)))) dSkip)))))))
def B_need_deep_body_1 (g_need_step : List PV → R PV) : Fm → RS :=
  (dExpr (dCall g_need_step (dCons (dV 2) (dCons (dV 1) dNil))))
def L_need_deep_body_1 (g_need_step : List PV → R PV) : Fm → RS :=
  (dFor (d1 tupIt (dV 0)) (tgN 2) (B_need_deep_body_1 g_need_step) [2])
def D_need_deep_body (g_need_terms : List PV → R PV) (g_need_step : List PV → R PV) : Fm → RS :=
  (dSeq (dExpr (dCall g_need_terms (dCons (dAndV (d1 (pIsi "tuple") (dV 0)) (dAndV (dBv (d2 pLe (dCall (fun ds => ofO (pLen ds)) (dCons (dV 0) dNil)) (dC (.int 10)))) (dBv (d2 pLt (dV 1) (dC (.int 3)))))) dNil))) (L_need_deep_body_1 g_need_step))
def D_need_body (g_need_deep_body : List PV → R PV) : Fm → RS :=
  (dExpr (dCall g_need_deep_body (dCons (dV 0) (dCons (dC (.int 0)) dNil))))
def D_need_houses : Fm → RS :=
  (dIfS (dNot (dB (dV 0))) (dRaise (.cls (Str.ofString "BadHouse"))) dSkip)
def D_is_text : Fm → RS :=
  (dRet (d1 (pIsi "str") (dV 0)))
def D_need_steps (g_need_body : List PV → R PV) : Fm → RS :=
  (dTryX (Str.ofString "BadSteps") (Str.ofString "BadHouse") (dExpr (dCall g_need_body (dCons (dV 0) dNil))))
def D_need_worth (g_need_term : List PV → R PV) : Fm → RS :=
  (dTryX (Str.ofString "BadSteps") (Str.ofString "BadHouse") (dExpr (dCall g_need_term (dCons (dV 0) dNil))))
def C_need_names_1 (g_is_name : List PV → R PV) : Fm → R (List PV) :=
  (dLc [3] (tgN 3) dYes (dCall g_is_name (dCons (dV 3) dNil)) (d1 tupIt (dV 0)))
def D_need_names (g_need_houses : List PV → R PV) (g_is_name : List PV → R PV) : Fm → RS :=
  (dExpr (dCall g_need_houses (dCons (dAndV (d1 (pIsi "tuple") (dV 0)) (dAndV (dBv (dChain pLe pLe (dV 1) (dCall (fun ds => ofO (pLen ds)) (dCons (dV 0) dNil)) (dV 2))) (dCall (fun ds => ofO (pAll ds)) (dCons (dL (C_need_names_1 g_is_name)) dNil)))) dNil)))
def D_need_once (g_need_names : List PV → R PV) (g_need_houses : List PV → R PV) : Fm → RS :=
  (dSeq (dExpr (dCall g_need_names (dCons (dV 0) (dCons (dC (.int 0)) (dCons (dV 1) dNil))))) (dExpr (dCall g_need_houses (dCons (dBv (d2 pEq (dSetLen (dCall (fun ds => ofO (txts ds)) (dCons (dV 0) dNil))) (dCall (fun ds => ofO (pLen ds)) (dCons (dV 0) dNil)))) dNil))))
def C_need_values_1 (g_is_value : List PV → R PV) : Fm → R (List PV) :=
  (dLc [3] (tgN 3) dYes (dCall g_is_value (dCons (dV 3) (dCons (dC (.int 0)) dNil))) (d1 tupIt (dV 0)))
def D_need_values (g_need_houses : List PV → R PV) (g_is_value : List PV → R PV) : Fm → RS :=
  (dExpr (dCall g_need_houses (dCons (dAndV (d1 (pIsi "tuple") (dV 0)) (dAndV (dBv (dChain pLe pLe (dV 1) (dCall (fun ds => ofO (pLen ds)) (dCons (dV 0) dNil)) (dV 2))) (dCall (fun ds => ofO (pAll ds)) (dCons (dL (C_need_values_1 g_is_value)) dNil)))) dNil)))
def D_need_maker (g_need_houses : List PV → R PV) (g_is_text : List PV → R PV) (g_is_name : List PV → R PV) (g_need_once : List PV → R PV) (g_need_values : List PV → R PV) (g_need_steps : List PV → R PV) (g_need_worth : List PV → R PV) : Fm → RS :=
  (dSeq (dExpr (dCall g_need_houses (dCons (dAndV (d1 (pIsi "tuple") (dV 0)) (dAndV (dBv (d2 pEq (dCall (fun ds => ofO (pLen ds)) (dCons (dV 0) dNil)) (dC (.int 8)))) (dAndV (dCall g_is_text (dCons (d2 pIdx (dV 0) (dC (.int 0))) dNil)) (dBv (d2 pEq (d2 pIdx (dV 0) (dC (.int 0))) (dC (.str (Str.ofString "maker")))))))) dNil))) (dSeq (dExpr (dCall g_need_houses (dCons (dAndV (dCall g_is_name (dCons (d2 pIdx (dV 0) (dC (.int 1))) dNil)) (dAndV (dCall g_is_text (dCons (d2 pIdx (dV 0) (dC (.int 2))) dNil)) (dBv (d2 pIn (d2 pIdx (dV 0) (dC (.int 2))) (dC (strTup [(Str.ofString "run"), (Str.ofString "group"), (Str.ofString "try")])))))) dNil))) (dSeq (dExpr (dCall g_need_once (dCons (d2 pIdx (dV 0) (dC (.int 3))) (dCons (dC (.int 4)) dNil)))) (dSeq (dExpr (dCall g_need_values (dCons (d2 pIdx (dV 0) (dC (.int 4))) (dCons (dC (.int 1)) (dCons (dC (.int 4)) dNil))))) (dSeq (dExpr (dCall g_need_steps (dCons (d2 pIdx (dV 0) (dC (.int 5))) dNil))) (dSeq (dExpr (dCall g_need_worth (dCons (d2 pIdx (dV 0) (dC (.int 6))) dNil))) (dExpr (dCall g_need_steps (dCons (d2 pIdx (dV 0) (dC (.int 7))) dNil)))))))))
def B_need_table_1 (g_need_values : List PV → R PV) : Fm → RS :=
  (dExpr (dCall g_need_values (dCons (dV 1) (dCons (dCall (fun ds => ofO (pLen ds)) (dCons (d2 pIdx (dV 0) (dC (.int 0))) dNil)) (dCons (dCall (fun ds => ofO (pLen ds)) (dCons (d2 pIdx (dV 0) (dC (.int 0))) dNil)) dNil)))))
def L_need_table_1 (g_need_values : List PV → R PV) : Fm → RS :=
  (dFor (d1 tupIt (d2 pIdx (dV 0) (dC (.int 1)))) (tgN 1) (B_need_table_1 g_need_values) [1])
def D_need_table (g_need_houses : List PV → R PV) (g_need_names : List PV → R PV) (g_need_values : List PV → R PV) : Fm → RS :=
  (dSeq (dExpr (dCall g_need_houses (dCons (dAndV (d1 (pIsi "tuple") (dV 0)) (dBv (d2 pEq (dCall (fun ds => ofO (pLen ds)) (dCons (dV 0) dNil)) (dC (.int 2))))) dNil))) (dSeq (dExpr (dCall g_need_names (dCons (d2 pIdx (dV 0) (dC (.int 0))) (dCons (dC (.int 1)) (dCons (dC (.int 3)) dNil))))) (dSeq (dExpr (dCall g_need_houses (dCons (dAndV (d1 (pIsi "tuple") (d2 pIdx (dV 0) (dC (.int 1)))) (dBv (dChain pLe pLe (dC (.int 1)) (dCall (fun ds => ofO (pLen ds)) (dCons (d2 pIdx (dV 0) (dC (.int 1))) dNil)) (dC (.int 4))))) dNil))) (L_need_table_1 g_need_values))))
def B_need_try_1 (g_need_table : List PV → R PV) : Fm → RS :=
  (dExpr (dCall g_need_table (dCons (dV 1) dNil)))
def L_need_try_1 (g_need_table : List PV → R PV) : Fm → RS :=
  (dFor (d1 tupIt (d2 pIdx (dV 0) (dC (.int 3)))) (tgN 1) (B_need_try_1 g_need_table) [1])
def D_need_try (g_need_houses : List PV → R PV) (g_is_name : List PV → R PV) (g_need_once : List PV → R PV) (g_need_table : List PV → R PV) (g_need_steps : List PV → R PV) : Fm → RS :=
  (dSeq (dExpr (dCall g_need_houses (dCons (dAndV (dBv (d2 pEq (dCall (fun ds => ofO (pLen ds)) (dCons (dV 0) dNil)) (dC (.int 6)))) (dCall g_is_name (dCons (d2 pIdx (dV 0) (dC (.int 1))) dNil))) dNil))) (dSeq (dExpr (dCall g_need_once (dCons (d2 pIdx (dV 0) (dC (.int 2))) (dCons (dC (.int 4)) dNil)))) (dSeq (dExpr (dCall g_need_houses (dCons (dAndV (d1 (pIsi "tuple") (d2 pIdx (dV 0) (dC (.int 3)))) (dBv (d2 pLe (dCall (fun ds => ofO (pLen ds)) (dCons (d2 pIdx (dV 0) (dC (.int 3))) dNil)) (dC (.int 2))))) dNil))) (dSeq (L_need_try_1 g_need_table) (dSeq (dExpr (dCall g_need_once (dCons (d2 pIdx (dV 0) (dC (.int 4))) (dCons (dC (.int 4)) dNil)))) (dExpr (dCall g_need_steps (dCons (d2 pIdx (dV 0) (dC (.int 5))) dNil))))))))
def B_need_group_1 (g_need_maker : List PV → R PV) : Fm → RS :=
  (dExpr (dCall g_need_maker (dCons (dV 2) dNil)))
def L_need_group_1 (g_need_maker : List PV → R PV) : Fm → RS :=
  (dFor (d1 tupIt (d2 pIdx (dV 0) (dC (.int 3)))) (tgN 2) (B_need_group_1 g_need_maker) [2])
def C_need_group_1 : Fm → R (List PV) :=
  (dLc [2] (tgN 2) dYes (d2 pIdx (dV 2) (dC (.int 1))) (d1 tupIt (d2 pIdx (dV 0) (dC (.int 3)))))
def B_need_group_2 (g_need_member : List PV → R PV) : Fm → RS :=
  (dExpr (dCall g_need_member (dCons (dV 3) (dCons (d2 pAdd (dV 1) (dC (.int 1))) dNil))))
def L_need_group_2 (g_need_member : List PV → R PV) : Fm → RS :=
  (dFor (d1 tupIt (d2 pIdx (dV 0) (dC (.int 4)))) (tgN 3) (B_need_group_2 g_need_member) [3])
def C_need_group_2 : Fm → R (List PV) :=
  (dLc [3] (tgN 3) dYes (d2 pIdx (dV 3) (dC (.int 1))) (d1 tupIt (d2 pIdx (dV 0) (dC (.int 4)))))
def D_need_group (g_need_houses : List PV → R PV) (g_is_name : List PV → R PV) (g_need_once : List PV → R PV) (g_need_maker : List PV → R PV) (g_need_member : List PV → R PV) : Fm → RS :=
  (dSeq (dExpr (dCall g_need_houses (dCons (dAndV (dBv (d2 pEq (dCall (fun ds => ofO (pLen ds)) (dCons (dV 0) dNil)) (dC (.int 5)))) (dAndV (dCall g_is_name (dCons (d2 pIdx (dV 0) (dC (.int 1))) dNil)) (dBv (d2 pLt (dV 1) (dC (.int 4)))))) dNil))) (dSeq (dExpr (dCall g_need_once (dCons (d2 pIdx (dV 0) (dC (.int 2))) (dCons (dC (.int 4)) dNil)))) (dSeq (dExpr (dCall g_need_houses (dCons (dAndV (d1 (pIsi "tuple") (d2 pIdx (dV 0) (dC (.int 3)))) (dBv (d2 pLe (dCall (fun ds => ofO (pLen ds)) (dCons (d2 pIdx (dV 0) (dC (.int 3))) dNil)) (dC (.int 6))))) dNil))) (dSeq (L_need_group_1 g_need_maker) (dSeq (dExpr (dCall g_need_houses (dCons (dBv (d2 pEq (dSetLen (dCall (fun ds => ofO (txts ds)) (dCons (dL C_need_group_1) dNil))) (dCall (fun ds => ofO (pLen ds)) (dCons (d2 pIdx (dV 0) (dC (.int 3))) dNil)))) dNil))) (dSeq (dExpr (dCall g_need_houses (dCons (dAndV (d1 (pIsi "tuple") (d2 pIdx (dV 0) (dC (.int 4)))) (dBv (d2 pLe (dCall (fun ds => ofO (pLen ds)) (dCons (d2 pIdx (dV 0) (dC (.int 4))) dNil)) (dC (.int 8))))) dNil))) (dSeq (L_need_group_2 g_need_member) (dExpr (dCall g_need_houses (dCons (dBv (d2 pEq (dSetLen (dCall (fun ds => ofO (txts ds)) (dCons (dL C_need_group_2) dNil))) (dCall (fun ds => ofO (pLen ds)) (dCons (d2 pIdx (dV 0) (dC (.int 4))) dNil)))) dNil))))))))))
def D_need_member (g_need_houses : List PV → R PV) (g_is_text : List PV → R PV) (g_need_group : List PV → R PV) (g_need_try : List PV → R PV) : Fm → RS :=
  (dSeq (dExpr (dCall g_need_houses (dCons (dAndV (d1 (pIsi "tuple") (dV 0)) (dAndV (dBv (d2 pGt (dCall (fun ds => ofO (pLen ds)) (dCons (dV 0) dNil)) (dC (.int 0)))) (dAndV (dCall g_is_text (dCons (d2 pIdx (dV 0) (dC (.int 0))) dNil)) (dBv (d2 pIn (d2 pIdx (dV 0) (dC (.int 0))) (dTup (dCons (dC (.str (Str.ofString "group"))) (dCons (dC (.str (Str.ofString "try"))) dNil)))))))) dNil))) (dIfS (d2 pEq (d2 pIdx (dV 0) (dC (.int 0))) (dC (.str (Str.ofString "group")))) (dExpr (dCall g_need_group (dCons (dV 0) (dCons (dV 1) dNil)))) (dExpr (dCall g_need_try (dCons (dV 0) dNil)))))
def D_need_house (g_need_houses : List PV → R PV) (g_is_text : List PV → R PV) (g_need_group : List PV → R PV) : Fm → RS :=
  (dSeq (dExpr (dCall g_need_houses (dCons (dAndV (d1 (pIsi "tuple") (dV 0)) (dAndV (dBv (d2 pEq (dCall (fun ds => ofO (pLen ds)) (dCons (dV 0) dNil)) (dC (.int 5)))) (dAndV (dCall g_is_text (dCons (d2 pIdx (dV 0) (dC (.int 0))) dNil)) (dBv (d2 pEq (d2 pIdx (dV 0) (dC (.int 0))) (dC (.str (Str.ofString "group")))))))) dNil))) (dExpr (dCall g_need_group (dCons (dV 0) (dCons (dC (.int 0)) dNil)))))
def D_wrong (g_need_house : List PV → R PV) : Fm → RS :=
  (dSeq (dExpr (dCall g_need_house (dCons (dV 0) dNil))) (dSeq (fun _ => .bad) (dSeq (fun _ => .bad) (fun _ => .bad))))
def D__law_cell : Fm → RS :=
  (dSeq (dIfS (d2 pEq (dV 0) (dL (dLst dNil))) (dRet (d2 pMul (dV 1) (dC (.int 7919)))) dSkip) (dRet (d2 pAdd (d2 pIdx (dV 0) (d2 pMod (dV 1) (dCall (fun ds => ofO (pLen ds)) (dCons (dV 0) dNil)))) (d2 pMul (d2 pDiv (dV 1) (dCall (fun ds => ofO (pLen ds)) (dCons (dV 0) dNil))) (dC (.int 104729))))))
def D__law_drawn : Fm → RS :=
  (dSeq (dSet 2 (d2 pMod (d2 pAdd (d2 pMul (dV 0) (dC (.int 6364136223846793005))) (d2 pMul (d2 pAdd (dV 1) (dC (.int 1))) (dC (.int 1442695040888963407)))) (dC (.int 340282366920938463463374607431768211507)))) (dSeq (dSet 2 (d2 pMod (d2 pMul (dV 2) (dV 2)) (dC (.int 340282366920938463463374607431768211297)))) (dSeq (dSet 2 (d2 pMul (d2 pMul (d2 pAdd (d2 pMod (dV 2) (dC (.int 18446744073709551557))) (dC (.int 1))) (d2 pAdd (d2 pDiv (dV 2) (dC (.int 18446744073709551557))) (dC (.int 1)))) (dV 2))) (dRet (d2 pMod (dV 2) (dC (.int 340282366920938463463374607431768211507)))))))
def D__law_names : Fm → RS :=
  (dRetF (dLst (dCons (dC (.str (Str.ofString "aa"))) (dCons (dC (.str (Str.ofString "b"))) (dCons (dC (.str (Str.ofString "cq"))) (dCons (dC (.str (Str.ofString "d"))) dNil))))))
def B__law_up_1 : Fm → RS :=
  (dSet 5 (dTup (dCons (dC (.str (Str.ofString "plus"))) (dCons (dV 5) (dCons (dTup (dCons (dC (.str (Str.ofString "name"))) (dCons (dV 6) dNil))) dNil)))))
def L__law_up_1 : Fm → RS :=
  (dFor (d1 tupIt (dV 1)) (tgN 6) B__law_up_1 [6])
def D__law_up : Fm → RS :=
  (dSeq (dSet 2 (dL (dLst (dCons (dTup dNil) (dCons (dTup (dCons (dTup (dCons (dC (.str (Str.ofString "note"))) (dCons (dTup (dCons (dC (.str (Str.ofString "own"))) (dCons (dC (.str (Str.ofString "u"))) dNil))) dNil))) dNil)) (dCons (dTup (dCons (dTup (dCons (dC (.str (Str.ofString "let"))) (dCons (dC (.str (Str.ofString "k"))) (dCons (dTup (dCons (dC (.str (Str.ofString "own"))) (dCons (d2 pMod (dV 0) (dC (.int 9))) dNil))) dNil)))) dNil)) (dCons (dTup (dCons (dTup (dCons (dC (.str (Str.ofString "note"))) (dCons (dTup (dCons (dC (.str (Str.ofString "name"))) (dCons (dC (.str (Str.ofString "row"))) dNil))) dNil))) dNil)) dNil))))))) (dSeq (dSet 3 (d2 pIdx (dV 2) (d2 pMod (d2 pDiv (dV 0) (dC (.int 16))) (dC (.int 4))))) (dSeq (dIfS (d2 pEq (d2 pMod (d2 pDiv (dV 0) (dC (.int 64))) (dC (.int 12))) (dC (.int 0))) (dSeq (dSet 4 (dTup (dCons (dC (.str (Str.ofString "below"))) (dCons (dTup (dCons (dC (.str (Str.ofString "name"))) (dCons (dC (.str (Str.ofString "row"))) dNil))) (dCons (dTup (dCons (dC (.str (Str.ofString "own"))) (dCons (d2 pMod (d2 pDiv (dV 0) (dC (.int 1024))) (dC (.int 9))) dNil))) dNil))))) (dSet 3 (d2 pAdd (dV 3) (dTup (dCons (dTup (dCons (dC (.str (Str.ofString "when"))) (dCons (dV 4) (dCons (dTup (dCons (dTup (dCons (dC (.str (Str.ofString "fail"))) (dCons (dTup (dCons (dC (.str (Str.ofString "own"))) (dCons (dC (.str (Str.ofString "f"))) dNil))) dNil))) dNil)) (dCons (dTup dNil) dNil))))) dNil))))) dSkip) (dSeq (dIfS (d2 pEq (d2 pMod (d2 pDiv (dV 0) (dC (.int 64))) (dC (.int 31))) (dC (.int 1))) (dSet 3 (d2 pAdd (dV 3) (dTup (dCons (dTup (dCons (dC (.str (Str.ofString "skip"))) (dCons (dTup (dCons (dC (.str (Str.ofString "own"))) (dCons (dC (.str (Str.ofString "s"))) dNil))) dNil))) dNil)))) dSkip) (dSeq (dSet 5 (dTup (dCons (dC (.str (Str.ofString "plus"))) (dCons (dTup (dCons (dC (.str (Str.ofString "own"))) (dCons (d2 pMod (d2 pDiv (dV 0) (d2 pPow (dC (.int 2)) (dC (.int 20)))) (dC (.int 50))) dNil))) (dCons (dTup (dCons (dC (.str (Str.ofString "name"))) (dCons (dC (.str (Str.ofString "row"))) dNil))) dNil))))) (dSeq L__law_up_1 (dRet (dTup (dCons (dV 3) (dCons (dV 5) dNil))))))))))
def C__law_maker_1 (g__law_drawn : List PV → R PV) : Fm → R (List PV) :=
  (dLc [8] (tgN 8) dYes (d2 pMod (dCall g__law_drawn (dCons (dV 0) (dCons (dV 8) dNil))) (dC (.int 9))) (dCall (fun ds => ofO (rgIt1 ds)) (dCons (d2 pIdx (dL (dLst (dCons (dC (.int 1)) (dCons (dC (.int 1)) (dCons (dC (.int 1)) (dCons (dC (.int 2)) (dCons (dC (.int 3)) dNil))))))) (d2 pMod (dV 0) (dC (.int 5)))) dNil)))
def D__law_maker (g__law_drawn : List PV → R PV) (g__law_up : List PV → R PV) : Fm → RS :=
  (dSeq (dSet 4 (dCall (fun ds => ofO (pTuple ds)) (dCons (dL (C__law_maker_1 g__law_drawn)) dNil))) (dSeq (dSetT [5, 6] (dCall g__law_up (dCons (dCall g__law_drawn (dCons (dV 0) (dCons (dC (.int 9)) dNil))) (dCons (dV 3) dNil)))) (dSeq (dSet 7 (d2 pIdx (dL (dLst (dCons (dTup dNil) (dCons (dTup (dCons (dTup (dCons (dC (.str (Str.ofString "note"))) (dCons (dTup (dCons (dC (.str (Str.ofString "name"))) (dCons (dV 1) dNil))) dNil))) dNil)) (dCons (dTup (dCons (dTup (dCons (dC (.str (Str.ofString "note"))) (dCons (dTup (dCons (dC (.str (Str.ofString "own"))) (dCons (dC (.str (Str.ofString "d"))) dNil))) dNil))) dNil)) dNil))))) (d2 pMod (d2 pDiv (dV 0) (dC (.int 8))) (dC (.int 3))))) (dSeq (dIfS (d2 pEq (d2 pMod (d2 pDiv (dV 0) (dC (.int 64))) (dC (.int 9))) (dC (.int 0))) (dSet 7 (d2 pAdd (dV 7) (dTup (dCons (dTup (dCons (dC (.str (Str.ofString "check"))) (dCons (dTup (dCons (dC (.str (Str.ofString "below"))) (dCons (dTup (dCons (dC (.str (Str.ofString "own"))) (dCons (dC (.int 3)) dNil))) (dCons (dTup (dCons (dC (.str (Str.ofString "name"))) (dCons (dC (.str (Str.ofString "row"))) dNil))) dNil)))) dNil))) dNil)))) dSkip) (dRet (dTup (dCons (dC (.str (Str.ofString "maker"))) (dCons (dV 1) (dCons (d2 pIdx (dL (dLst (dCons (dC (.str (Str.ofString "run"))) (dCons (dC (.str (Str.ofString "group"))) (dCons (dC (.str (Str.ofString "try"))) dNil))))) (dV 2)) (dCons (dV 3) (dCons (dV 4) (dCons (dV 5) (dCons (dV 6) (dCons (dV 7) dNil))))))))))))))
def C__law_makers_1 : Fm → R (List PV) :=
  (dLc [14, 13] (tgT [14, 13]) dYes (dV 14) (d1 lstIt (dR 2)))
def B__law_makers_1 (g__law_drawn : List PV → R PV) (g__law_names : List PV → R (List PV)) : Fm → RS :=
  (dSeq (dSet 4 (d2 pIdx (dL (dCall g__law_names dNil)) (d2 pMod (dCall g__law_drawn (dCons (dV 0) (dCons (dV 3) dNil))) (dC (.int 4))))) (dIfS (d2 pNotIn (dV 4) (dL C__law_makers_1)) (dApp 2 (dTup (dCons (dV 4) (dCons (d2 pMod (dCall g__law_drawn (dCons (dV 0) (dCons (d2 pAdd (dC (.int 10)) (dV 3)) dNil))) (dC (.int 3))) dNil)))) dSkip))
def L__law_makers_1 (g__law_drawn : List PV → R PV) (g__law_names : List PV → R (List PV)) : Fm → RS :=
  (dFor (dCall (fun ds => ofO (rgIt1 ds)) (dCons (d2 pMod (dV 0) (dC (.int 4))) dNil)) (tgN 3) (B__law_makers_1 g__law_drawn g__law_names) [3, 4])
def C__law_makers_2 : Fm → R (List PV) :=
  (dLc [14, 15] (tgT [14, 15]) dYes (dV 14) (d1 lstIt (dR 2)))
def C__law_makers_3 : Fm → R (List PV) :=
  (dLc [4, 13] (tgT [4, 13]) (d2 pNotIn (dV 4) (dL C__law_makers_2)) (dTup (dCons (dV 4) (dCons (dV 13) dNil))) (d1 lstIt (dV 1)))
def C__law_makers_4 : Fm → R (List PV) :=
  (dLc [14] (tgN 14) (d2 pEq (d2 pIdx (dV 14) (dC (.int 0))) (d2 pIdx (dV 7) (dC (.int 0)))) (dV 14) (d1 lstIt (dV 1)))
def C__law_makers_5 : Fm → R (List PV) :=
  (dLc [4, 13] (tgT [4, 13]) (d2 pLe (dV 13) (d2 pIdx (dV 7) (dC (.int 1)))) (dV 4) (d1 lstIt (dV 9)))
def B__law_makers_2 (g__law_drawn : List PV → R PV) : Fm → RS :=
  (dIfS (dAnd (d2 pNeNil (dV 10) (dL (dLst dNil))) (d2 pNotIn (d2 pIdx (dV 10) (d2 pMod (dCall g__law_drawn (dCons (dV 8) (dCons (d2 pAdd (dC (.int 30)) (dV 12)) dNil))) (dCall (fun ds => ofO (pLen ds)) (dCons (dV 10) dNil)))) (dR 11))) (dApp 11 (d2 pIdx (dV 10) (d2 pMod (dCall g__law_drawn (dCons (dV 8) (dCons (d2 pAdd (dC (.int 30)) (dV 12)) dNil))) (dCall (fun ds => ofO (pLen ds)) (dCons (dV 10) dNil))))) dSkip)
def L__law_makers_2 (g__law_drawn : List PV → R PV) : Fm → RS :=
  (dFor (dCall (fun ds => ofO (rgIt1 ds)) (dCons (d2 pMod (dV 8) (dC (.int 3))) dNil)) (tgN 12) (B__law_makers_2 g__law_drawn) [12])
def B__law_makers_3 (g__law_drawn : List PV → R PV) (g__law_maker : List PV → R PV) : Fm → RS :=
  (dSeq (dSet 8 (dCall g__law_drawn (dCons (dV 0) (dCons (d2 pAdd (dC (.int 20)) (dV 3)) dNil)))) (dSeq (dSet 9 (dL (d2 fCat (dL (d2 fCat (dV 5) (dL (dSl fSl (dV 2) dNo (dSo (dV 3)))))) (dL C__law_makers_4)))) (dSeq (dSetF 10 C__law_makers_5) (dFrz 10 (dSeq (dSetF 11 (dLst dNil)) (dSeq (L__law_makers_2 g__law_drawn) (dApp 6 (dCall g__law_maker (dCons (dCall g__law_drawn (dCons (dV 8) (dCons (dC (.int 1)) dNil))) (dCons (d2 pIdx (dV 7) (dC (.int 0))) (dCons (d2 pIdx (dV 7) (dC (.int 1))) (dCons (dCall (fun ds => ofO (pTuple ds)) (dCons (dR 11) dNil)) dNil))))))))))))
def L__law_makers_3 (g__law_drawn : List PV → R PV) (g__law_maker : List PV → R PV) : Fm → RS :=
  (dFor (dCall (fun ds => ofO (enIt ds)) (dCons (dV 2) dNil)) (tgT [3, 7]) (B__law_makers_3 g__law_drawn g__law_maker) [3, 7, 8, 9, 10, 11, 12])
def D__law_makers (g__law_names : List PV → R (List PV)) (g__law_drawn : List PV → R PV) (g__law_maker : List PV → R PV) : Fm → RS :=
  (dSeq (dSetF 2 (dLst dNil)) (dSeq (L__law_makers_1 g__law_drawn g__law_names) (dSeq (dSetF 5 C__law_makers_3) (dFrz 5 (dSeq (dSetF 6 (dLst dNil)) (dFrz 2 (dSeq (L__law_makers_3 g__law_drawn g__law_maker) (dRet (dTup (dCons (dCall (fun ds => ofO (pTuple ds)) (dCons (dR 6) dNil)) (dCons (dL (d2 fCat (dV 5) (dV 2))) dNil)))))))))))
def C__law_table_1 (g__law_drawn : List PV → R PV) : Fm → R (List PV) :=
  (dLc [4] (tgN 4) dYes (d2 pMod (dCall g__law_drawn (dCons (dV 0) (dCons (d2 pAdd (d2 pMul (dC (.int 8)) (dV 3)) (dV 4)) dNil))) (dC (.int 60))) (dCall (fun ds => ofO (rgIt1 ds)) (dCons (dCall (fun ds => ofO (pLen ds)) (dCons (dV 1) dNil)) dNil)))
def B__law_table_1 (g__law_drawn : List PV → R PV) : Fm → RS :=
  (dApp 2 (dCall (fun ds => ofO (pTuple ds)) (dCons (dL (C__law_table_1 g__law_drawn)) dNil)))
def L__law_table_1 (g__law_drawn : List PV → R PV) : Fm → RS :=
  (dFor (dCall (fun ds => ofO (rgIt1 ds)) (dCons (d2 pAdd (dC (.int 1)) (d2 pMod (dV 0) (dC (.int 3)))) dNil)) (tgN 3) (B__law_table_1 g__law_drawn) [3])
def D__law_table (g__law_drawn : List PV → R PV) : Fm → RS :=
  (dSeq (dSetF 2 (dLst dNil)) (dSeq (L__law_table_1 g__law_drawn) (dRet (dTup (dCons (dV 1) (dCons (dCall (fun ds => ofO (pTuple ds)) (dCons (dR 2) dNil)) dNil))))))
def B__law_try_1 (g__law_drawn : List PV → R PV) (g__law_table : List PV → R PV) : Fm → RS :=
  (dApp 3 (dCall g__law_table (dCons (dCall g__law_drawn (dCons (dV 0) (dCons (dCall (fun ds => ofO (pLen ds)) (dCons (dV 4) dNil)) dNil))) (dCons (dV 4) dNil))))
def L__law_try_1 (g__law_drawn : List PV → R PV) (g__law_table : List PV → R PV) : Fm → RS :=
  (dFor (d1 lstIt (dL (dSl fSl (dL (dLst (dCons (dSl pSl (dTup (dCons (dC (.str (Str.ofString "p"))) (dCons (dC (.str (Str.ofString "zz"))) dNil))) dNo (dSo (d2 pAdd (dC (.int 1)) (d2 pMod (d2 pDiv (dV 0) (dC (.int 4))) (dC (.int 2)))))) (dCons (dTup (dCons (dC (.str (Str.ofString "q"))) dNil)) dNil)))) dNo (dSo (d2 pIdx (dL (dLst (dCons (dC (.int 0)) (dCons (dC (.int 0)) (dCons (dC (.int 1)) (dCons (dC (.int 2)) dNil)))))) (d2 pMod (dV 0) (dC (.int 4)))))))) (tgN 4) (B__law_try_1 g__law_drawn g__law_table) [4])
def B__law_try_2 (g__law_drawn : List PV → R PV) : Fm → RS :=
  (dSeq (dSet 7 (dCall g__law_drawn (dCons (dV 0) (dCons (d2 pAdd (dC (.int 20)) (dV 6)) dNil)))) (dIfS (dAnd (d2 pNeNil (dV 2) (dL (dLst dNil))) (d2 pNotIn (d2 pIdx (d2 pIdx (dV 2) (d2 pMod (dV 7) (dCall (fun ds => ofO (pLen ds)) (dCons (dV 2) dNil)))) (dC (.int 0))) (dR 5))) (dApp 5 (d2 pIdx (d2 pIdx (dV 2) (d2 pMod (dV 7) (dCall (fun ds => ofO (pLen ds)) (dCons (dV 2) dNil)))) (dC (.int 0)))) dSkip))
def L__law_try_2 (g__law_drawn : List PV → R PV) : Fm → RS :=
  (dFor (dCall (fun ds => ofO (rgIt1 ds)) (dCons (d2 pMod (d2 pDiv (dV 0) (dC (.int 16))) (dC (.int 4))) dNil)) (tgN 6) (B__law_try_2 g__law_drawn) [6, 7])
def B__law_try_3 : Fm → RS :=
  (dSet 8 (dL (d2 fCat (dV 8) (dL (dCall (fun ds => ofO (fList ds)) (dCons (d2 pIdx (dV 9) (dC (.int 0))) dNil))))))
def L__law_try_3 : Fm → RS :=
  (dFor (d1 lstIt (dV 3)) (tgN 9) B__law_try_3 [9])
def C__law_try_1 : Fm → R (List PV) :=
  (dLc [12] (tgN 12) dYes (dTup (dCons (dC (.str (Str.ofString "note"))) (dCons (dTup (dCons (dC (.str (Str.ofString "name"))) (dCons (dV 12) dNil))) dNil))) (d1 lstIt (dV 8)))
def B__law_try_4 : Fm → RS :=
  (dApp 10 (dTup (dCons (dC (.str (Str.ofString "check"))) (dCons (dTup (dCons (dC (.str (Str.ofString "below"))) (dCons (dTup (dCons (dC (.str (Str.ofString "name"))) (dCons (dV 12) dNil))) (dCons (dTup (dCons (dC (.str (Str.ofString "own"))) (dCons (d2 pIdx (dL (dLst (dCons (dC (.int 200)) (dCons (dC (.int 200)) (dCons (dC (.int 55)) dNil))))) (d2 pMod (d2 pDiv (dV 0) (d2 pAdd (dC (.int 64)) (dV 11))) (dC (.int 3)))) dNil))) dNil)))) dNil))))
def L__law_try_4 : Fm → RS :=
  (dFor (dCall (fun ds => ofO (enIt ds)) (dCons (dL (dSl fSl (dL (dRev (dV 8))) dNo (dSo (dC (.int 3))))) dNil)) (tgT [11, 12]) B__law_try_4 [11, 12])
def B__law_try_5 (g__law_drawn : List PV → R PV) : Fm → RS :=
  (dIfS (d2 pEq (d2 pMod (dCall g__law_drawn (dCons (dV 0) (dCons (d2 pAdd (dC (.int 40)) (dV 11)) dNil))) (d2 pIdx (dL (dLst (dCons (dC (.int 9)) (dCons (dC (.int 6)) (dCons (dC (.int 8)) (dCons (dC (.int 3)) dNil)))))) (dV 11))) (dC (.int 0))) (dApp 14 (dV 15)) dSkip)
def L__law_try_5 (g__law_drawn : List PV → R PV) : Fm → RS :=
  (dFor (dCall (fun ds => ofO (enIt ds)) (dCons (dL (dLst (dCons (dC (.str (Str.ofString "skip"))) (dCons (dC (.str (Str.ofString "fails"))) (dCons (dC (.str (Str.ofString "strict"))) (dCons (dC (.str (Str.ofString "slow"))) dNil)))))) dNil)) (tgT [11, 15]) (B__law_try_5 g__law_drawn) [11, 15])
def D__law_try (g__law_table : List PV → R PV) (g__law_drawn : List PV → R PV) : Fm → RS :=
  (dSeq (dSetF 3 (dLst dNil)) (dSeq (L__law_try_1 g__law_drawn g__law_table) (dSeq (dSetF 5 (dLst dNil)) (dSeq (L__law_try_2 g__law_drawn) (dSeq (dSet 8 (dL (dCall (fun ds => ofO (fList ds)) (dCons (dR 5) dNil)))) (dFrz 3 (dSeq L__law_try_3 (dSeq (dSetF 10 C__law_try_1) (dSeq L__law_try_4 (dSeq (dSet 13 (dL (dLst (dCons (dTup dNil) (dCons (dTup dNil) (dCons (dTup (dCons (dTup (dCons (dC (.str (Str.ofString "alike"))) (dCons (dTup (dCons (dC (.str (Str.ofString "own"))) (dCons (dTup (dCons (dC (.int 1)) (dCons (dC (.str (Str.ofString "a"))) dNil))) dNil))) (dCons (dTup (dCons (dC (.str (Str.ofString "own"))) (dCons (dTup (dCons (dC (.int 1)) (dCons (dC (.str (Str.ofString "b"))) dNil))) dNil))) dNil)))) dNil)) (dCons (dTup (dCons (dTup (dCons (dC (.str (Str.ofString "skip"))) (dCons (dTup (dCons (dC (.str (Str.ofString "own"))) (dCons (dC (.int 0)) dNil))) dNil))) dNil)) dNil))))))) (dSeq (dSet 10 (d2 pAdd (dCall (fun ds => ofO (pTuple ds)) (dCons (dR 10) dNil)) (d2 pIdx (dV 13) (d2 pDiv (d2 pMod (d2 pDiv (dV 0) (dC (.int 256))) (dC (.int 8))) (dC (.int 2)))))) (dSeq (dSetF 14 (dLst dNil)) (dSeq (L__law_try_5 g__law_drawn) (dRet (dTup (dCons (dC (.str (Str.ofString "try"))) (dCons (dV 1) (dCons (dCall (fun ds => ofO (pTuple ds)) (dCons (dR 14) dNil)) (dCons (dCall (fun ds => ofO (pTuple ds)) (dCons (dV 3) dNil)) (dCons (dCall (fun ds => ofO (pTuple ds)) (dCons (dR 5) dNil)) (dCons (dV 10) dNil)))))))))))))))))))))
def B__law_group_1 (g__law_drawn : List PV → R PV) (g__law_try : List PV → R PV) (g__law_group : List PV → R PV) : Fm → RS :=
  (dSeq (dSet 7 (dCall g__law_drawn (dCons (dV 0) (dCons (d2 pAdd (dC (.int 10)) (dV 6)) dNil)))) (dSeq (dSet 8 (d2 pAdd (d2 pIdx (d2 pIdx (dL (dLst (dCons (dL (dLst (dCons (dC (.str (Str.ofString "m"))) (dCons (dC (.str (Str.ofString "n"))) (dCons (dC (.str (Str.ofString "oo"))) dNil))))) (dCons (dL (dLst (dCons (dC (.str (Str.ofString "t"))) (dCons (dC (.str (Str.ofString "oo"))) (dCons (dC (.str (Str.ofString "a"))) dNil))))) dNil)))) (d2 pMod (d2 pDiv (dV 0) (dC (.int 32))) (dC (.int 2)))) (dV 6)) (d2 pIdx (dL (dLst (dCons (dC (.str (Str.ofString ""))) (dCons (dC (.str (Str.ofString "x"))) dNil)))) (d2 pMod (dV 7) (dC (.int 2)))))) (dIfS (dAnd (d2 pGt (dV 2) (dC (.int 0))) (d2 pEq (d2 pMod (d2 pDiv (dV 7) (dC (.int 2))) (dC (.int 3))) (dC (.int 0)))) (dApp 5 (dCall g__law_group (dCons (dCall g__law_drawn (dCons (dV 7) (dCons (dC (.int 1)) dNil))) (dCons (dV 8) (dCons (d2 pSub (dV 2) (dC (.int 1))) (dCons (dV 3) dNil)))))) (dApp 5 (dCall g__law_try (dCons (dCall g__law_drawn (dCons (dV 7) (dCons (dC (.int 1)) dNil))) (dCons (dV 8) (dCons (dV 3) dNil))))))))
def L__law_group_1 (g__law_drawn : List PV → R PV) (g__law_try : List PV → R PV) (g__law_group : List PV → R PV) : Fm → RS :=
  (dFor (dCall (fun ds => ofO (rgIt1 ds)) (dCons (d2 pAdd (dC (.int 1)) (d2 pMod (dV 0) (dC (.int 3)))) dNil)) (tgN 6) (B__law_group_1 g__law_drawn g__law_try g__law_group) [6, 7, 8])
def D__law_group (g__law_makers : List PV → R PV) (g__law_drawn : List PV → R PV) (g__law_group : List PV → R PV) (g__law_try : List PV → R PV) : Fm → RS :=
  (dSeq (dSetT [4, 3] (dCall g__law_makers (dCons (dCall g__law_drawn (dCons (dV 0) (dCons (dC (.int 1)) dNil))) (dCons (dV 3) dNil)))) (dSeq (dSetF 5 (dLst dNil)) (dSeq (L__law_group_1 g__law_drawn g__law_try g__law_group) (dSeq (dSet 9 (d2 pIdx (dL (dLst (dCons (dTup dNil) (dCons (dTup dNil) (dCons (dTup (dCons (dC (.str (Str.ofString "net"))) dNil)) (dCons (dTup (dCons (dC (.str (Str.ofString "slow"))) (dCons (dC (.str (Str.ofString "net"))) dNil))) dNil)))))) (d2 pMod (d2 pDiv (dV 0) (dC (.int 4))) (dC (.int 4))))) (dRet (dTup (dCons (dC (.str (Str.ofString "group"))) (dCons (dV 1) (dCons (dV 9) (dCons (dV 4) (dCons (dCall (fun ds => ofO (pTuple ds)) (dCons (dR 5) dNil)) dNil)))))))))))
def B__law_bad_makers_1 : Fm → RS :=
  (dApp 2 (dCall (fun ds => ofO (pTuple ds)) (dCons (dL (d2 fCat (dL (d2 fCat (dL (dSl fSl (dV 1) dNo (dSo (dV 4)))) (dL (dLst (dCons (dV 5) dNil))))) (dL (dSl fSl (dV 1) (dSo (d2 pAdd (dV 4) (dC (.int 1)))) dNo)))) dNil)))
def L__law_bad_makers_1 : Fm → RS :=
  (dFor (d1 lstIt (dV 3)) (tgT [4, 5]) B__law_bad_makers_1 [4, 5])
def B__law_bad_makers_2 : Fm → RS :=
  (dApp 2 (dCall (fun ds => ofO (pTuple ds)) (dCons (dL (d2 fCat (dL (d2 fCat (dL (dSl fSl (dV 1) dNo (dSo (dV 4)))) (dL (dLst (dCons (dV 5) dNil))))) (dL (dSl fSl (dV 1) (dSo (d2 pAdd (dV 4) (dC (.int 1)))) dNo)))) dNil)))
def L__law_bad_makers_2 : Fm → RS :=
  (dFor (d1 lstIt (dV 3)) (tgT [4, 5]) B__law_bad_makers_2 [4, 5])
def B__law_bad_makers_3 : Fm → RS :=
  (dApp 2 (dCall (fun ds => ofO (pTuple ds)) (dCons (dL (d2 fCat (dL (d2 fCat (dL (dSl fSl (dV 1) dNo (dSo (dV 4)))) (dL (dLst (dCons (dV 5) dNil))))) (dL (dSl fSl (dV 1) (dSo (d2 pAdd (dV 4) (dC (.int 1)))) dNo)))) dNil)))
def L__law_bad_makers_3 : Fm → RS :=
  (dFor (d1 lstIt (dV 3)) (tgT [4, 5]) B__law_bad_makers_3 [4, 5])
def D__law_bad_makers : Fm → RS :=
  (dSeq (dSet 0 (dTup (dCons (dC (.str (Str.ofString "own"))) (dCons (dC (.int 1)) dNil)))) (dSeq (dSet 1 (dL (dLst (dCons (dC (.str (Str.ofString "maker"))) (dCons (dC (.str (Str.ofString "a"))) (dCons (dC (.str (Str.ofString "run"))) (dCons (dTup dNil) (dCons (dTup (dCons (dC (.int 1)) dNil)) (dCons (dTup dNil) (dCons (dV 0) (dCons (dTup dNil) dNil))))))))))) (dSeq (dSetF 2 (dLst (dCons (dC .non) (dCons (dTup dNil) (dCons (dCall (fun ds => ofO (pTuple ds)) (dCons (dL (dSl fSl (dV 1) dNo (dSo (dC (.int 7))))) dNil)) (dCons (dCall (fun ds => ofO (pTuple ds)) (dCons (dL (d2 fCat (dV 1) (dL (dLst (dCons (dC (.int 1)) dNil))))) dNil)) (dCons (dL (dCall (fun ds => ofO (fList ds)) (dCons (dV 1) dNil))) dNil))))))) (dSeq (dSet 3 (dL (dLst (dCons (dTup (dCons (dC (.int 0)) (dCons (dC (.str (Str.ofString "make"))) dNil))) (dCons (dTup (dCons (dC (.int 0)) (dCons (dC (.int 5)) dNil))) (dCons (dTup (dCons (dC (.int 1)) (dCons (dC (.str (Str.ofString "or"))) dNil))) (dCons (dTup (dCons (dC (.int 1)) (dCons (dC (.str (Str.ofString "A"))) dNil))) (dCons (dTup (dCons (dC (.int 1)) (dCons (dC .non) dNil))) (dCons (dTup (dCons (dC (.int 2)) (dCons (dC (.str (Str.ofString "all"))) dNil))) (dCons (dTup (dCons (dC (.int 2)) (dCons (dC (.int 5)) dNil))) dNil)))))))))) (dSeq (dSet 3 (dL (d2 fCat (dV 3) (dL (dLst (dCons (dTup (dCons (dC (.int 3)) (dCons (dL (dLst (dCons (dC (.str (Str.ofString "b"))) dNil))) dNil))) (dCons (dTup (dCons (dC (.int 3)) (dCons (dTup (dCons (dC (.str (Str.ofString "b"))) (dCons (dC (.str (Str.ofString "b"))) dNil))) dNil))) dNil))))))) (dSeq L__law_bad_makers_1 (dSeq (dSet 3 (dL (dLst (dCons (dTup (dCons (dC (.int 3)) (dCons (dTup (dCons (dC (.str (Str.ofString "b"))) (dCons (dC (.str (Str.ofString "c"))) (dCons (dC (.str (Str.ofString "d"))) (dCons (dC (.str (Str.ofString "e"))) (dCons (dC (.str (Str.ofString "f"))) dNil)))))) dNil))) (dCons (dTup (dCons (dC (.int 3)) (dCons (dTup (dCons (dC (.str (Str.ofString "row"))) dNil)) dNil))) (dCons (dTup (dCons (dC (.int 4)) (dCons (dTup dNil) dNil))) (dCons (dTup (dCons (dC (.int 4)) (dCons (d2 pRepT (dTup (dCons (dC (.int 1)) dNil)) (dC (.int 5))) dNil))) (dCons (dTup (dCons (dC (.int 4)) (dCons (dL (dLst (dCons (dC (.int 1)) dNil))) dNil))) dNil)))))))) (dSeq (dSet 3 (dL (d2 fCat (dV 3) (dL (dLst (dCons (dTup (dCons (dC (.int 4)) (dCons (dTup (dCons (dC .non) dNil)) dNil))) (dCons (dTup (dCons (dC (.int 4)) (dCons (dC (.int 1)) dNil))) dNil))))))) (dSeq L__law_bad_makers_2 (dSeq (dSet 3 (dL (dLst (dCons (dTup (dCons (dC (.int 5)) (dCons (dC .non) dNil))) (dCons (dTup (dCons (dC (.int 5)) (dCons (dTup (dCons (dTup (dCons (dC (.str (Str.ofString "note"))) dNil)) dNil)) dNil))) (dCons (dTup (dCons (dC (.int 6)) (dCons (dTup (dCons (dC (.str (Str.ofString "own"))) dNil)) dNil))) (dCons (dTup (dCons (dC (.int 6)) (dCons (dTup dNil) dNil))) (dCons (dTup (dCons (dC (.int 7)) (dCons (dL (dLst (dCons (dTup (dCons (dC (.str (Str.ofString "note"))) (dCons (dV 0) dNil))) dNil))) dNil))) dNil)))))))) (dSeq (dSet 3 (dL (d2 fCat (dV 3) (dL (dLst (dCons (dTup (dCons (dC (.int 7)) (dCons (dTup (dCons (dTup (dCons (dC (.str (Str.ofString "let"))) (dCons (dC (.str (Str.ofString "x"))) dNil))) dNil)) dNil))) dNil)))))) (dSeq L__law_bad_makers_3 (dRetO 2)))))))))))))
def B__law_bad_tries_1 : Fm → RS :=
  (dApp 1 (dCall (fun ds => ofO (pTuple ds)) (dCons (dL (d2 fCat (dL (d2 fCat (dL (dSl fSl (dV 0) dNo (dSo (dV 3)))) (dL (dLst (dCons (dV 4) dNil))))) (dL (dSl fSl (dV 0) (dSo (d2 pAdd (dV 3) (dC (.int 1)))) dNo)))) dNil)))
def L__law_bad_tries_1 : Fm → RS :=
  (dFor (d1 lstIt (dV 2)) (tgT [3, 4]) B__law_bad_tries_1 [3, 4])
def B__law_bad_tries_2 : Fm → RS :=
  (dApp 1 (dCall (fun ds => ofO (pTuple ds)) (dCons (dL (d2 fCat (dL (d2 fCat (dL (dSl fSl (dV 0) dNo (dSo (dC (.int 3))))) (dL (dLst (dCons (dV 4) dNil))))) (dL (dSl fSl (dV 0) (dSo (dC (.int 4))) dNo)))) dNil)))
def L__law_bad_tries_2 : Fm → RS :=
  (dFor (d1 lstIt (dV 2)) (tgN 4) B__law_bad_tries_2 [4])
def B__law_bad_tries_3 : Fm → RS :=
  (dApp 1 (dCall (fun ds => ofO (pTuple ds)) (dCons (dL (d2 fCat (dL (d2 fCat (dL (dSl fSl (dV 0) dNo (dSo (dC (.int 3))))) (dL (dLst (dCons (dV 4) dNil))))) (dL (dSl fSl (dV 0) (dSo (dC (.int 4))) dNo)))) dNil)))
def L__law_bad_tries_3 : Fm → RS :=
  (dFor (d1 lstIt (dV 2)) (tgN 4) B__law_bad_tries_3 [4])
def B__law_bad_tries_4 : Fm → RS :=
  (dApp 1 (dCall (fun ds => ofO (pTuple ds)) (dCons (dL (d2 fCat (dL (d2 fCat (dL (dSl fSl (dV 0) dNo (dSo (dC (.int 3))))) (dL (dLst (dCons (dV 4) dNil))))) (dL (dSl fSl (dV 0) (dSo (dC (.int 4))) dNo)))) dNil)))
def L__law_bad_tries_4 : Fm → RS :=
  (dFor (d1 lstIt (dV 2)) (tgN 4) B__law_bad_tries_4 [4])
def D__law_bad_tries : Fm → RS :=
  (dSeq (dSet 0 (dL (dLst (dCons (dC (.str (Str.ofString "try"))) (dCons (dC (.str (Str.ofString "a"))) (dCons (dTup dNil) (dCons (dTup dNil) (dCons (dTup dNil) (dCons (dTup dNil) dNil))))))))) (dSeq (dSetF 1 (dLst (dCons (dC .non) (dCons (dTup dNil) (dCons (dCall (fun ds => ofO (pTuple ds)) (dCons (dL (dSl fSl (dV 0) dNo (dSo (dC (.int 5))))) dNil)) (dCons (dCall (fun ds => ofO (pTuple ds)) (dCons (dL (d2 fCat (dV 0) (dL (dLst (dCons (dTup dNil) dNil))))) dNil)) (dCons (dL (dCall (fun ds => ofO (fList ds)) (dCons (dV 0) dNil))) dNil))))))) (dSeq (dSet 2 (dL (dLst (dCons (dTup (dCons (dC (.int 0)) (dCons (dC (.str (Str.ofString "tri"))) dNil))) (dCons (dTup (dCons (dC (.int 0)) (dCons (dC .non) dNil))) (dCons (dTup (dCons (dC (.int 1)) (dCons (dC (.str (Str.ofString "not"))) dNil))) (dCons (dTup (dCons (dC (.int 1)) (dCons (dC (.int 3)) dNil))) (dCons (dTup (dCons (dC (.int 2)) (dCons (dL (dLst (dCons (dC (.str (Str.ofString "m"))) dNil))) dNil))) (dCons (dTup (dCons (dC (.int 2)) (dCons (dTup (dCons (dC (.str (Str.ofString "m"))) (dCons (dC (.str (Str.ofString "m"))) dNil))) dNil))) dNil))))))))) (dSeq (dSet 2 (dL (d2 fCat (dV 2) (dL (dLst (dCons (dTup (dCons (dC (.int 2)) (dCons (dTup (dCons (dC (.str (Str.ofString "a"))) (dCons (dC (.str (Str.ofString "b"))) (dCons (dC (.str (Str.ofString "c"))) (dCons (dC (.str (Str.ofString "d"))) (dCons (dC (.str (Str.ofString "e"))) dNil)))))) dNil))) dNil)))))) (dSeq L__law_bad_tries_1 (dSeq (dSet 5 (dTup (dCons (dTup (dCons (dC (.str (Str.ofString "p"))) dNil)) (dCons (dTup (dCons (dTup (dCons (dC (.int 1)) dNil)) dNil)) dNil)))) (dSeq (dSet 2 (dL (dLst (dCons (dC .non) (dCons (dTup (dCons (dC .non) dNil)) (dCons (d2 pRepT (dTup (dCons (dV 5) dNil)) (dC (.int 3))) (dCons (dTup (dCons (dTup (dCons (dTup (dCons (dC (.str (Str.ofString "p"))) dNil)) dNil)) dNil)) (dCons (dTup (dCons (dTup (dCons (dTup dNil) (dCons (dTup (dCons (dTup dNil) dNil)) dNil))) dNil)) (dCons (dTup (dCons (dTup (dCons (dTup (dCons (dC (.str (Str.ofString "p"))) dNil)) (dCons (dTup dNil) dNil))) dNil)) dNil))))))))) (dSeq (dSet 2 (dL (d2 fCat (dV 2) (dL (dLst (dCons (dTup (dCons (dTup (dCons (dTup (dCons (dC (.str (Str.ofString "p"))) dNil)) (dCons (d2 pRepT (dTup (dCons (dTup (dCons (dC (.int 1)) dNil)) dNil)) (dC (.int 5))) dNil))) dNil)) dNil)))))) (dSeq L__law_bad_tries_2 (dSeq (dSet 2 (dL (dLst (dCons (dTup (dCons (dTup (dCons (dTup (dCons (dC (.str (Str.ofString "p"))) dNil)) (dCons (dTup (dCons (dTup (dCons (dC (.int 1)) (dCons (dC (.int 2)) dNil))) dNil)) dNil))) dNil)) (dCons (dTup (dCons (dTup (dCons (dTup (dCons (dC (.str (Str.ofString "p"))) (dCons (dC (.str (Str.ofString "q"))) dNil))) (dCons (dTup (dCons (dTup (dCons (dC (.int 1)) dNil)) dNil)) dNil))) dNil)) (dCons (dTup (dCons (dTup (dCons (dTup (dCons (dC (.str (Str.ofString "p"))) dNil)) (dCons (dL (dLst (dCons (dTup (dCons (dC (.int 1)) dNil)) dNil))) dNil))) dNil)) dNil)))))) (dSeq (dSet 2 (dL (d2 fCat (dV 2) (dL (dLst (dCons (dTup (dCons (dTup (dCons (dTup (dCons (dC (.str (Str.ofString "p"))) dNil)) (dCons (dTup (dCons (dL (dLst (dCons (dC (.int 1)) dNil))) dNil)) dNil))) dNil)) (dCons (dTup (dCons (dTup (dCons (dL (dLst (dCons (dC (.str (Str.ofString "p"))) dNil))) (dCons (dTup (dCons (dTup (dCons (dC (.int 1)) dNil)) dNil)) dNil))) dNil)) dNil))))))) (dSeq L__law_bad_tries_3 (dSeq (dSet 2 (dL (dLst (dCons (dTup (dCons (dTup (dCons (dTup (dCons (dC (.str (Str.ofString "p"))) dNil)) (dCons (dTup (dCons (dTup (dCons (dC .non) dNil)) dNil)) dNil))) dNil)) (dCons (dTup (dCons (dTup (dCons (dTup (dCons (dC (.str (Str.ofString "P"))) dNil)) (dCons (dTup (dCons (dTup (dCons (dC (.int 1)) dNil)) dNil)) dNil))) dNil)) dNil))))) (dSeq (dSet 2 (dL (d2 fCat (dV 2) (dL (dLst (dCons (dTup (dCons (dTup (dCons (dTup (dCons (dC (.str (Str.ofString "p"))) (dCons (dC (.str (Str.ofString "q"))) (dCons (dC (.str (Str.ofString "r"))) (dCons (dC (.str (Str.ofString "s"))) dNil))))) (dCons (dTup (dCons (dTup (dCons (dC (.int 1)) (dCons (dC (.int 1)) (dCons (dC (.int 1)) (dCons (dC (.int 1)) dNil))))) dNil)) dNil))) dNil)) dNil)))))) (dSeq L__law_bad_tries_4 (dSeq (dSetF 1 (d2 fCat (dR 1) (dL (dLst (dCons (dTup (dCons (dC (.str (Str.ofString "try"))) (dCons (dC (.str (Str.ofString "a"))) (dCons (dTup dNil) (dCons (dTup dNil) (dCons (dTup (dCons (dC (.str (Str.ofString "b"))) (dCons (dC (.str (Str.ofString "b"))) dNil))) (dCons (dTup dNil) dNil))))))) (dCons (dTup (dCons (dC (.str (Str.ofString "try"))) (dCons (dC (.str (Str.ofString "a"))) (dCons (dTup dNil) (dCons (dTup dNil) (dCons (dTup dNil) (dCons (dC .non) dNil))))))) dNil)))))) (dRet (dL (d2 fCat (dR 1) (dL (dLst (dCons (dTup (dCons (dC (.str (Str.ofString "try"))) (dCons (dC (.str (Str.ofString "a"))) (dCons (dTup dNil) (dCons (dTup dNil) (dCons (dTup dNil) (dCons (dTup (dCons (dC (.int 5)) dNil)) dNil))))))) dNil))))))))))))))))))))))
def B__law_nest_1 : Fm → RS :=
  (dSet 1 (dTup (dCons (dC (.str (Str.ofString "group"))) (dCons (dC (.str (Str.ofString "g"))) (dCons (dTup dNil) (dCons (dTup dNil) (dCons (dTup (dCons (dV 1) dNil)) dNil)))))))
def L__law_nest_1 : Fm → RS :=
  (dFor (dCall (fun ds => ofO (rgIt1 ds)) (dCons (dV 0) dNil)) (tgN 2) B__law_nest_1 [2])
def D__law_nest : Fm → RS :=
  (dSeq (dSet 1 (dTup (dCons (dC (.str (Str.ofString "group"))) (dCons (dC (.str (Str.ofString "g"))) (dCons (dTup dNil) (dCons (dTup dNil) (dCons (dTup dNil) dNil))))))) (dSeq L__law_nest_1 (dRet (dV 1))))
def C__law_bad_groups_1 : Fm → R (List PV) :=
  (dLc [5] (tgN 5) dYes (dTup (dCons (dC (.str (Str.ofString "maker"))) (dCons (dV 5) (dCons (dC (.str (Str.ofString "run"))) (dCons (dTup dNil) (dCons (dTup (dCons (dC (.int 1)) dNil)) (dCons (dTup dNil) (dCons (dTup (dCons (dC (.str (Str.ofString "own"))) (dCons (dC (.int 1)) dNil))) (dCons (dTup dNil) dNil))))))))) (d1 strIt (dC (.str (Str.ofString "abcdefg")))))
def C__law_bad_groups_2 : Fm → R (List PV) :=
  (dLc [5] (tgN 5) dYes (dTup (dCons (dC (.str (Str.ofString "try"))) (dCons (dV 5) (dCons (dTup dNil) (dCons (dTup dNil) (dCons (dTup dNil) (dCons (dTup dNil) dNil))))))) (d1 strIt (dC (.str (Str.ofString "abcdefghi")))))
def D__law_bad_groups (g__law_nest : List PV → R PV) : Fm → RS :=
  (dSeq (dSet 0 (dTup (dCons (dC (.str (Str.ofString "try"))) (dCons (dC (.str (Str.ofString "a"))) (dCons (dTup dNil) (dCons (dTup dNil) (dCons (dTup dNil) (dCons (dTup dNil) dNil)))))))) (dSeq (dSet 1 (dTup (dCons (dC (.str (Str.ofString "maker"))) (dCons (dC (.str (Str.ofString "a"))) (dCons (dC (.str (Str.ofString "run"))) (dCons (dTup dNil) (dCons (dTup (dCons (dC (.int 1)) dNil)) (dCons (dTup dNil) (dCons (dTup (dCons (dC (.str (Str.ofString "own"))) (dCons (dC (.int 1)) dNil))) (dCons (dTup dNil) dNil)))))))))) (dSeq (dSet 2 (dL (dLst (dCons (dC .non) (dCons (dTup dNil) (dCons (dTup (dCons (dC (.str (Str.ofString "group"))) dNil)) (dCons (dTup (dCons (dC (.str (Str.ofString "group"))) (dCons (dC (.str (Str.ofString "g"))) (dCons (dTup dNil) (dCons (dTup dNil) (dCons (dTup dNil) (dCons (dTup dNil) dNil))))))) dNil))))))) (dSeq (dSet 2 (dL (d2 fCat (dV 2) (dL (dLst (dCons (dL (dLst (dCons (dC (.str (Str.ofString "group"))) (dCons (dC (.str (Str.ofString "g"))) (dCons (dTup dNil) (dCons (dTup dNil) (dCons (dTup dNil) dNil))))))) (dCons (dTup (dCons (dC (.str (Str.ofString "grou"))) (dCons (dC (.str (Str.ofString "g"))) (dCons (dTup dNil) (dCons (dTup dNil) (dCons (dTup dNil) dNil)))))) dNil))))))) (dSeq (dSet 2 (dL (d2 fCat (dV 2) (dL (dLst (dCons (dTup (dCons (dC (.str (Str.ofString "group"))) (dCons (dC (.str (Str.ofString "and"))) (dCons (dTup dNil) (dCons (dTup dNil) (dCons (dTup dNil) dNil)))))) (dCons (dTup (dCons (dC (.str (Str.ofString "group"))) (dCons (dC (.str (Str.ofString "g"))) (dCons (dC .non) (dCons (dTup dNil) (dCons (dTup dNil) dNil)))))) dNil))))))) (dSeq (dSet 2 (dL (d2 fCat (dV 2) (dL (dLst (dCons (dTup (dCons (dC (.str (Str.ofString "group"))) (dCons (dC (.str (Str.ofString "g"))) (dCons (dTup (dCons (dC (.str (Str.ofString "x"))) (dCons (dC (.str (Str.ofString "x"))) dNil))) (dCons (dTup dNil) (dCons (dTup dNil) dNil)))))) dNil)))))) (dSeq (dSet 2 (dL (d2 fCat (dV 2) (dL (dLst (dCons (dTup (dCons (dC (.str (Str.ofString "group"))) (dCons (dC (.str (Str.ofString "g"))) (dCons (dTup dNil) (dCons (dC .non) (dCons (dTup dNil) dNil)))))) (dCons (dTup (dCons (dC (.str (Str.ofString "group"))) (dCons (dC (.str (Str.ofString "g"))) (dCons (dTup dNil) (dCons (dTup (dCons (dV 1) (dCons (dV 1) dNil))) (dCons (dTup dNil) dNil)))))) dNil))))))) (dSeq (dSet 2 (dL (d2 fCat (dV 2) (dL (dLst (dCons (dTup (dCons (dC (.str (Str.ofString "group"))) (dCons (dC (.str (Str.ofString "g"))) (dCons (dTup dNil) (dCons (dTup dNil) (dCons (dC .non) dNil)))))) dNil)))))) (dSeq (dSet 2 (dL (d2 fCat (dV 2) (dL (dLst (dCons (dTup (dCons (dC (.str (Str.ofString "group"))) (dCons (dC (.str (Str.ofString "g"))) (dCons (dTup dNil) (dCons (dTup dNil) (dCons (dTup (dCons (dV 0) (dCons (dV 0) dNil))) dNil)))))) (dCons (dTup (dCons (dC (.str (Str.ofString "group"))) (dCons (dC (.str (Str.ofString "g"))) (dCons (dTup dNil) (dCons (dTup dNil) (dCons (dTup (dCons (dV 1) dNil)) dNil)))))) dNil))))))) (dSeq (dSet 2 (dL (d2 fCat (dV 2) (dL (dLst (dCons (dTup (dCons (dC (.str (Str.ofString "group"))) (dCons (dC (.str (Str.ofString "g"))) (dCons (dTup dNil) (dCons (dTup (dCons (dV 0) dNil)) (dCons (dTup dNil) dNil)))))) dNil)))))) (dSeq (dSet 2 (dL (d2 fCat (dV 2) (dL (dLst (dCons (dTup (dCons (dC (.str (Str.ofString "group"))) (dCons (dC (.str (Str.ofString "g"))) (dCons (dTup dNil) (dCons (dTup dNil) (dCons (dTup (dCons (dV 0) (dCons (dTup (dCons (dC (.str (Str.ofString "group"))) (dCons (dC (.str (Str.ofString "a"))) (dCons (dTup dNil) (dCons (dTup dNil) (dCons (dTup dNil) dNil)))))) dNil))) dNil)))))) (dCons (dCall g__law_nest (dCons (dC (.int 4)) dNil)) dNil))))))) (dSeq (dSet 3 (dCall (fun ds => ofO (pTuple ds)) (dCons (dL C__law_bad_groups_1) dNil))) (dSeq (dSet 4 (dCall (fun ds => ofO (pTuple ds)) (dCons (dL C__law_bad_groups_2) dNil))) (dRet (dL (d2 fCat (dV 2) (dL (dLst (dCons (dTup (dCons (dC (.str (Str.ofString "group"))) (dCons (dC (.str (Str.ofString "g"))) (dCons (dTup dNil) (dCons (dV 3) (dCons (dTup dNil) dNil)))))) (dCons (dTup (dCons (dC (.str (Str.ofString "group"))) (dCons (dC (.str (Str.ofString "g"))) (dCons (dTup dNil) (dCons (dTup dNil) (dCons (dV 4) dNil)))))) dNil))))))))))))))))))))
def D__law_with (g__law_bad_groups : List PV → R PV) (g__law_bad_tries : List PV → R PV) (g__law_bad_makers : List PV → R (List PV)) : Fm → RS :=
  (dSeq (dSetT [2, 3, 4] (dTup (dCons (dL (dCall g__law_bad_makers dNil)) (dCons (dCall g__law_bad_tries dNil) (dCons (dCall g__law_bad_groups dNil) dNil))))) (dSeq (dSet 5 (d2 pMod (dV 1) (dC (.int 3)))) (dSeq (dSetT [6, 7, 8, 9, 10] (dV 0)) (dSeq (dSet 11 (d2 pDiv (dV 1) (dC (.int 4)))) (dSeq (dIfS (d2 pEq (dV 5) (dC (.int 0))) (dRet (dTup (dCons (dV 6) (dCons (dV 7) (dCons (dV 8) (dCons (d2 pAdd (dV 9) (dTup (dCons (d2 pIdx (dV 2) (d2 pMod (dV 11) (dCall (fun ds => ofO (pLen ds)) (dCons (dV 2) dNil)))) dNil))) (dCons (dV 10) dNil))))))) dSkip) (dSeq (dSet 12 (dIf (d2 pEq (dV 5) (dC (.int 1))) (d2 pIdx (dV 3) (d2 pMod (dV 11) (dCall (fun ds => ofO (pLen ds)) (dCons (dV 3) dNil)))) (d2 pIdx (dV 4) (d2 pMod (dV 11) (dCall (fun ds => ofO (pLen ds)) (dCons (dV 4) dNil)))))) (dSeq (dIfS (d2 pEq (d2 pMod (d2 pDiv (dV 11) (dC (.int 64))) (dC (.int 2))) (dC (.int 0))) (dRet (dTup (dCons (dV 6) (dCons (dV 7) (dCons (dV 8) (dCons (dV 9) (dCons (d2 pAdd (dTup (dCons (dV 12) dNil)) (dV 10)) dNil))))))) dSkip) (dRet (dTup (dCons (dV 6) (dCons (dV 7) (dCons (dV 8) (dCons (dV 9) (dCons (d2 pAdd (dTup (dCons (dTup (dCons (dC (.str (Str.ofString "group"))) (dCons (dC (.str (Str.ofString "w"))) (dCons (dTup dNil) (dCons (dTup dNil) (dCons (dTup (dCons (dV 12) dNil)) dNil)))))) dNil)) (dSl pSl (dV 10) dNo (dSo (dC (.int 2))))) dNil))))))))))))))
def B_law_1 (g_need_house : List PV → R PV) (g_wrong : List PV → R PV) (g__law_drawn : List PV → R PV) (g__law_with : List PV → R PV) : Fm → RS :=
  (dSeq (dSet 5 (dCall g__law_with (dCons (dV 3) (dCons (dCall g__law_drawn (dCons (dV 2) (dCons (d2 pAdd (dC (.int 10)) (dV 4)) dNil))) dNil)))) (dSeq (dIfS (d2 pNe (dTold (dCall g_need_house (dCons (dV 5) dNil))) (dTup (dCons (dC (.str (Str.ofString "refused"))) (dCons (dC (.str (Str.ofString "BadHouse"))) dNil)))) (dRet (dC (.bl false))) dSkip) (dIfS (d2 pNe (dTold (dCall g_wrong (dCons (dV 5) dNil))) (dTup (dCons (dC (.str (Str.ofString "refused"))) (dCons (dC (.str (Str.ofString "BadHouse"))) dNil)))) (dRet (dC (.bl false))) dSkip)))
def L_law_1 (g_need_house : List PV → R PV) (g_wrong : List PV → R PV) (g__law_drawn : List PV → R PV) (g__law_with : List PV → R PV) : Fm → RS :=
  (dFor (dCall (fun ds => ofO (rgIt1 ds)) (dCons (dC (.int 6)) dNil)) (tgN 4) (B_law_1 g_need_house g_wrong g__law_drawn g__law_with) [4, 5])
def B_law_2 (g_need_house : List PV → R PV) (g_wrong : List PV → R PV) (g__law_cell : List PV → R PV) (g__law_drawn : List PV → R PV) (g__law_group : List PV → R PV) (g__law_bad_groups : List PV → R PV) (g__law_nest : List PV → R PV) (g__law_with : List PV → R PV) : Fm → RS :=
  (dSeq (dSet 2 (dCall g__law_drawn (dCons (dCall g__law_cell (dCons (dV 0) (dCons (dV 1) dNil))) (dCons (dV 1) dNil)))) (dSeq (dSet 3 (dCall g__law_group (dCons (dCall g__law_drawn (dCons (dV 2) (dCons (dC (.int 1)) dNil))) (dCons (dC (.str (Str.ofString "root"))) (dCons (dC (.int 2)) (dCons (dL (dLst dNil)) dNil)))))) (dSeq (dIfS (dOr (d1 pNotN (dTold (dCall g_need_house (dCons (dV 3) dNil)))) (d1 pNotN (dCall g_need_house (dCons (dCall g__law_nest (dCons (dC (.int 3)) dNil)) dNil)))) (dRet (dC (.bl false))) dSkip) (dSeq (L_law_1 g_need_house g_wrong g__law_drawn g__law_with) (dSeq (dSet 6 (dCall g__law_bad_groups dNil)) (dSeq (dSet 5 (d2 pIdx (dV 6) (d2 pMod (d2 pDiv (dV 2) (dC (.int 8))) (dCall (fun ds => ofO (pLen ds)) (dCons (dV 6) dNil))))) (dSeq (dIfS (d2 pNe (dTold (dCall g_need_house (dCons (dV 5) dNil))) (dTup (dCons (dC (.str (Str.ofString "refused"))) (dCons (dC (.str (Str.ofString "BadHouse"))) dNil)))) (dRet (dC (.bl false))) dSkip) (dIfS (d2 pNe (dTold (dCall g_need_house (dCons (dTup (dCons (dC (.str (Str.ofString "try"))) (dCons (dC (.str (Str.ofString "a"))) (dCons (dTup dNil) (dCons (dTup dNil) (dCons (dTup dNil) (dCons (dTup dNil) dNil))))))) dNil))) (dTup (dCons (dC (.str (Str.ofString "refused"))) (dCons (dC (.str (Str.ofString "BadHouse"))) dNil)))) (dRet (dC (.bl false))) dSkip))))))))
def L_law_2 (g_need_house : List PV → R PV) (g_wrong : List PV → R PV) (g__law_cell : List PV → R PV) (g__law_drawn : List PV → R PV) (g__law_group : List PV → R PV) (g__law_bad_groups : List PV → R PV) (g__law_nest : List PV → R PV) (g__law_with : List PV → R PV) : Fm → RS :=
  (dFor (dCall (fun ds => ofO (rgIt1 ds)) (dCons (dCall (fun ds => ofO (pMax2 ds)) (dCons (dC (.int 1)) (dCons (dCall (fun ds => ofO (pMin2 ds)) (dCons (dC (.int 3)) (dCons (dCall (fun ds => ofO (pLen ds)) (dCons (dV 0) dNil)) dNil))) dNil))) dNil)) (tgN 1) (B_law_2 g_need_house g_wrong g__law_cell g__law_drawn g__law_group g__law_bad_groups g__law_nest g__law_with) [1, 2, 3, 4, 5, 6])
def D_law (g__law_drawn : List PV → R PV) (g__law_cell : List PV → R PV) (g__law_group : List PV → R PV) (g_need_house : List PV → R PV) (g__law_nest : List PV → R PV) (g__law_with : List PV → R PV) (g_wrong : List PV → R PV) (g__law_bad_groups : List PV → R PV) : Fm → RS :=
  (dSeq (L_law_2 g_need_house g_wrong g__law_cell g__law_drawn g__law_group g__law_bad_groups g__law_nest g__law_with) (dRet (dC (.bl true))))
def G_is_number (ds : List PV) : R PV := if ds.length = 1 then toV ((D_is_number) (fm0 1 ds)) else .bad
def G_are_signs (ds : List PV) : R PV := if ds.length = 1 then toV ((D_are_signs) (fm0 2 ds)) else .bad
def G_is_value : Nat → List PV → R PV
  | 0, _ => .bad
  | n + 1, ds => if ds.length = 2 then toV ((D_is_value G_are_signs (G_is_value n) G_is_number) (fm0 3 ds)) else .bad
def G_need_terms (ds : List PV) : R PV := if ds.length = 1 then toV ((D_need_terms) (fm0 1 ds)) else .bad
def G_is_name (ds : List PV) : R PV := if ds.length = 1 then toV ((D_is_name) (fm0 2 ds)) else .bad
def G_need_deep : Nat → List PV → R PV
  | 0, _ => .bad
  | n + 1, ds => if ds.length = 2 then toV ((D_need_deep G_need_terms (G_is_value 6) G_is_name (G_need_deep n)) (fm0 4 ds)) else .bad
def G_need_term (ds : List PV) : R PV := if ds.length = 1 then toV ((D_need_term (G_need_deep 12)) (fm0 1 ds)) else .bad
mutual
def G_need_step : Nat → List PV → R PV
  | 0, _ => .bad
  | n + 1, ds => if ds.length = 2 then toV ((D_need_step G_need_terms G_is_name G_need_term (G_need_deep_body n)) (fm0 3 ds)) else .bad
def G_need_deep_body : Nat → List PV → R PV
  | 0, _ => .bad
  | n + 1, ds => if ds.length = 2 then toV ((D_need_deep_body G_need_terms (G_need_step n)) (fm0 3 ds)) else .bad
end
def G_need_body (ds : List PV) : R PV := if ds.length = 1 then toV ((D_need_body (G_need_deep_body 12)) (fm0 1 ds)) else .bad
def G_need_houses (ds : List PV) : R PV := if ds.length = 1 then toV ((D_need_houses) (fm0 1 ds)) else .bad
def G_is_text (ds : List PV) : R PV := if ds.length = 1 then toV ((D_is_text) (fm0 1 ds)) else .bad
def G_need_steps (ds : List PV) : R PV := if ds.length = 1 then toV ((D_need_steps G_need_body) (fm0 1 ds)) else .bad
def G_need_worth (ds : List PV) : R PV := if ds.length = 1 then toV ((D_need_worth G_need_term) (fm0 1 ds)) else .bad
def G_need_names (ds : List PV) : R PV := if ds.length = 3 then toV ((D_need_names G_need_houses G_is_name) (fm0 4 ds)) else .bad
def G_need_once (ds : List PV) : R PV := if ds.length = 2 then toV ((D_need_once G_need_names G_need_houses) (fm0 2 ds)) else .bad
def G_need_values (ds : List PV) : R PV := if ds.length = 3 then toV ((D_need_values G_need_houses (G_is_value 6)) (fm0 4 ds)) else .bad
def G_need_maker (ds : List PV) : R PV := if ds.length = 1 then toV ((D_need_maker G_need_houses G_is_text G_is_name G_need_once G_need_values G_need_steps G_need_worth) (fm0 1 ds)) else .bad
def G_need_table (ds : List PV) : R PV := if ds.length = 1 then toV ((D_need_table G_need_houses G_need_names G_need_values) (fm0 2 ds)) else .bad
def G_need_try (ds : List PV) : R PV := if ds.length = 1 then toV ((D_need_try G_need_houses G_is_name G_need_once G_need_table G_need_steps) (fm0 2 ds)) else .bad
mutual
def G_need_group : Nat → List PV → R PV
  | 0, _ => .bad
  | n + 1, ds => if ds.length = 2 then toV ((D_need_group G_need_houses G_is_name G_need_once G_need_maker (G_need_member n)) (fm0 4 ds)) else .bad
def G_need_member : Nat → List PV → R PV
  | 0, _ => .bad
  | n + 1, ds => if ds.length = 2 then toV ((D_need_member G_need_houses G_is_text (G_need_group n) G_need_try) (fm0 2 ds)) else .bad
end
def G_need_house (ds : List PV) : R PV := if ds.length = 1 then toV ((D_need_house G_need_houses G_is_text (G_need_group 12)) (fm0 1 ds)) else .bad
def G_wrong (ds : List PV) : R PV := if ds.length = 1 then toV ((D_wrong G_need_house) (fm0 6 ds)) else .bad
def G__law_cell (ds : List PV) : R PV := if ds.length = 2 then toV ((D__law_cell) (fm0 2 ds)) else .bad
def G__law_drawn (ds : List PV) : R PV := if ds.length = 2 then toV ((D__law_drawn) (fm0 3 ds)) else .bad
def G__law_names (ds : List PV) : R (List PV) := if ds.length = 0 then toF ((D__law_names) (fm0 0 ds)) else .bad
def G__law_up (ds : List PV) : R PV := if ds.length = 2 then toV ((D__law_up) (fm0 7 ds)) else .bad
def G__law_maker (ds : List PV) : R PV := if ds.length = 4 then toV ((D__law_maker G__law_drawn G__law_up) (fm0 9 ds)) else .bad
def G__law_makers (ds : List PV) : R PV := if ds.length = 2 then toV ((D__law_makers G__law_names G__law_drawn G__law_maker) (fm0 16 ds)) else .bad
def G__law_table (ds : List PV) : R PV := if ds.length = 2 then toV ((D__law_table G__law_drawn) (fm0 5 ds)) else .bad
def G__law_try (ds : List PV) : R PV := if ds.length = 3 then toV ((D__law_try G__law_table G__law_drawn) (fm0 16 ds)) else .bad
def G__law_group : Nat → List PV → R PV
  | 0, _ => .bad
  | n + 1, ds => if ds.length = 4 then toV ((D__law_group G__law_makers G__law_drawn (G__law_group n) G__law_try) (fm0 10 ds)) else .bad
def G__law_bad_makers (ds : List PV) : R (List PV) := if ds.length = 0 then toF ((D__law_bad_makers) (fm0 6 ds)) else .bad
def G__law_bad_tries (ds : List PV) : R PV := if ds.length = 0 then toV ((D__law_bad_tries) (fm0 6 ds)) else .bad
def G__law_nest (ds : List PV) : R PV := if ds.length = 1 then toV ((D__law_nest) (fm0 3 ds)) else .bad
def G__law_bad_groups (ds : List PV) : R PV := if ds.length = 0 then toV ((D__law_bad_groups G__law_nest) (fm0 6 ds)) else .bad
def G__law_with (ds : List PV) : R PV := if ds.length = 2 then toV ((D__law_with G__law_bad_groups G__law_bad_tries G__law_bad_makers) (fm0 13 ds)) else .bad
def G_law (ds : List PV) : R PV := if ds.length = 1 then toV ((D_law G__law_drawn G__law_cell (G__law_group 4) G_need_house G__law_nest G__law_with G_wrong G__law_bad_groups) (fm0 7 ds)) else .bad
end Tw
set_option Elab.async false
set_option linter.all false
set_option maxRecDepth 100000
set_option maxHeartbeats 4000000
namespace Tw
open PySem PySem.Spec PyProof.Rows L2 Pv
def D_Spot_init : Fm → RS :=
  (dSeq (dFSet 0 (Str.ofString "Spot") 0 (dV 1)) (dSeq (dFSet 0 (Str.ofString "Spot") 1 (dV 2)) (dFSet 0 (Str.ofString "Spot") 2 (dIf (d1 pIsN (dV 2)) (d2 pIdx (dV 1) (dC (.int 1))) (d2 pAdd (d2 pAdd (d1 (pAttr (Str.ofString "Spot") 2) (dV 2)) (dC (.str (Str.ofString "/")))) (d2 pIdx (dV 1) (dC (.int 1))))))))
def C_Spot_inner_1 (g_Spot_init : List Slot → List PV → RM) : Fm → R (List PV) :=
  (dLc [1] (tgN 1) dYes (dMake 3 (Str.ofString "Spot") g_Spot_init (dCons (dV 1) (dCons (dV 0) dNil))) (d1 tupIt (d2 pIdx (d1 (pAttr (Str.ofString "Spot") 0) (dV 0)) (dC (.int 4)))))
def D_Spot_inner (g_Spot_init : List Slot → List PV → RM) : Fm → RS :=
  (dRetF (dIf (d2 pEq (d2 pIdx (d1 (pAttr (Str.ofString "Spot") 0) (dV 0)) (dC (.int 0))) (dC (.str (Str.ofString "group")))) (C_Spot_inner_1 g_Spot_init) (dLst dNil)))
def B_Spot_groups_1 : Fm → RS :=
  (dApp 1 (d1 (pAttr (Str.ofString "Spot") 1) (d2 pIdx (dR 1) (d1 pNeg (dC (.int 1))))))
def L_Spot_groups_1 : Fm → RS :=
  (dWhile (fun _ => 64) (d1 pNotN (d1 (pAttr (Str.ofString "Spot") 1) (d2 pIdx (dR 1) (d1 pNeg (dC (.int 1)))))) B_Spot_groups_1 [])
def D_Spot_groups : Fm → RS :=
  (dSeq (dSetF 1 (dLst (dCons (dV 0) dNil))) (dSeq L_Spot_groups_1 (dRetO 1)))
def B_all_spots_1 (g_all_spots : List PV → R PV) : Fm → RS :=
  (dSet 1 (dL (d2 fCat (dV 1) (dCall g_all_spots (dCons (dV 2) dNil)))))
def L_all_spots_1 (g_Spot_inner : List PV → R (List PV)) (g_all_spots : List PV → R PV) : Fm → RS :=
  (dFor (d1 lstIt (dL (dMF (Str.ofString "Spot") g_Spot_inner (dV 0) dNil))) (tgN 2) (B_all_spots_1 g_all_spots) [2])
def D_all_spots (g_Spot_inner : List PV → R (List PV)) (g_all_spots : List PV → R PV) : Fm → RS :=
  (dSeq (dSet 1 (dL (dLst (dCons (dV 0) dNil)))) (dSeq (L_all_spots_1 g_Spot_inner g_all_spots) (dRet (dV 1))))
def D_spots_of (g_all_spots : List PV → R PV) (g_Spot_init : List Slot → List PV → RM) : Fm → RS :=
  (dRet (dCall g_all_spots (dCons (dMake 3 (Str.ofString "Spot") g_Spot_init (dCons (dV 0) (dCons (dC .non) dNil))) dNil)))
def D_Made_init : Fm → RS :=
  (dSeq (dFSet 0 (Str.ofString "Made") 0 (dV 1)) (dSeq (dFSet 0 (Str.ofString "Made") 1 (dV 2)) (dFSet 0 (Str.ofString "Made") 2 (d2 pAdd (d2 pAdd (d1 (pAttr (Str.ofString "Spot") 2) (dV 2)) (dC (.str (Str.ofString ":")))) (d2 pIdx (dV 1) (dC (.int 1)))))))
def D_Made_width : Fm → RS :=
  (dRet (d1 (pTIdx [(Str.ofString "run"), (Str.ofString "group"), (Str.ofString "try")]) (d2 pIdx (d1 (pAttr (Str.ofString "Made") 0) (dV 0)) (dC (.int 2)))))
def B_met_1 (g_Made_init : List Slot → List PV → RM) : Fm → RS :=
  (dIfS (d2 pEq (d2 pIdx (dV 3) (dC (.int 1))) (dV 0)) (dRet (dMake 3 (Str.ofString "Made") g_Made_init (dCons (dV 3) (dCons (dV 2) dNil)))) dSkip)
def L_met_1 (g_Made_init : List Slot → List PV → RM) : Fm → RS :=
  (dFor (d1 tupIt (d2 pIdx (d1 (pAttr (Str.ofString "Spot") 0) (dV 2)) (dC (.int 3)))) (tgN 3) (B_met_1 g_Made_init) [3])
def B_met_2 (g_Made_init : List Slot → List PV → RM) : Fm → RS :=
  (L_met_1 g_Made_init)
def L_met_2 (g_Made_init : List Slot → List PV → RM) : Fm → RS :=
  (dFor (d1 lstIt (dV 1)) (tgN 2) (B_met_2 g_Made_init) [2, 3])
def D_met (g_Made_init : List Slot → List PV → RM) : Fm → RS :=
  (dSeq (L_met_2 g_Made_init) (dRet (dC .non)))
def D_Made_meeting (g_Spot_groups : List PV → R (List PV)) (g_met : List PV → R PV) : Fm → RS :=
  (dSeq (dSet 2 (dL (dMF (Str.ofString "Spot") g_Spot_groups (d1 (pAttr (Str.ofString "Made") 1) (dV 0)) dNil))) (dRet (dCall g_met (dCons (dV 1) (dCons (dIf (d2 pEq (dV 1) (d2 pIdx (d1 (pAttr (Str.ofString "Made") 0) (dV 0)) (dC (.int 1)))) (dL (dSl fSl (dV 2) (dSo (dC (.int 1))) dNo)) (dV 2)) dNil)))))
def C_Made_wanted_makers_1 (g_Made_meeting : List PV → R PV) : Fm → R (List PV) :=
  (dLc [2] (tgN 2) dYes (dMV (Str.ofString "Made") g_Made_meeting (dV 0) (dCons (dV 2) dNil)) (d1 tupIt (d2 pIdx (d1 (pAttr (Str.ofString "Made") 0) (dV 0)) (dC (.int 3)))))
def C_Made_wanted_makers_2 : Fm → R (List PV) :=
  (dLc [3] (tgN 3) (d1 pNotN (dV 3)) (dV 3) (d1 lstIt (dV 1)))
def D_Made_wanted_makers (g_Made_meeting : List PV → R PV) : Fm → RS :=
  (dSeq (dSetF 1 (C_Made_wanted_makers_1 g_Made_meeting)) (dFrz 1 (dRetF C_Made_wanted_makers_2)))
def C_add_made_1 : Fm → R (List PV) :=
  (dLc [2] (tgN 2) dYes (d1 (pAttr (Str.ofString "Made") 2) (dV 2)) (d1 lstIt (dR 1)))
def B_add_made_1 (g_add_made : List PV → List PV → RA) : Fm → RS :=
  (sCallA 1 g_add_made (dCons (dV 2) dNil))
def L_add_made_1 (g_Made_wanted_makers : List PV → R (List PV)) (g_add_made : List PV → List PV → RA) : Fm → RS :=
  (dFor (d1 lstIt (dL (dMF (Str.ofString "Made") g_Made_wanted_makers (dV 0) dNil))) (tgN 2) (B_add_made_1 g_add_made) [2])
def D_add_made (g_Made_wanted_makers : List PV → R (List PV)) (g_add_made : List PV → List PV → RA) : Fm → RS :=
  (dIfS (d2 pNotIn (d1 (pAttr (Str.ofString "Made") 2) (dV 0)) (dL C_add_made_1)) (dSeq (L_add_made_1 g_Made_wanted_makers g_add_made) (dAppB 1 (dV 0))) dSkip)
def B_names_in_1 (g_names_in : List PV → R PV) : Fm → RS :=
  (dSet 1 (dL (d2 fCat (dV 1) (dCall g_names_in (dCons (dV 2) dNil)))))
def L_names_in_1 (g_names_in : List PV → R PV) : Fm → RS :=
  (dFor (d1 tupIt (dIf (d2 pEq (d2 pIdx (dV 0) (dC (.int 0))) (dC (.str (Str.ofString "made")))) (d2 pIdx (dV 0) (dC (.int 1))) (dSl pSl (dV 0) (dSo (dC (.int 1))) dNo))) (tgN 2) (B_names_in_1 g_names_in) [2])
def D_names_in (g_names_in : List PV → R PV) : Fm → RS :=
  (dSeq (dIfS (d2 pEq (d2 pIdx (dV 0) (dC (.int 0))) (dC (.str (Str.ofString "name")))) (dRet (dL (dLst (dCons (d2 pIdx (dV 0) (dC (.int 1))) dNil)))) dSkip) (dSeq (dIfS (d2 pEq (d2 pIdx (dV 0) (dC (.int 0))) (dC (.str (Str.ofString "own")))) (dRet (dL (dLst dNil))) dSkip) (dSeq (dSet 1 (dL (dLst dNil))) (dSeq (L_names_in_1 g_names_in) (dRet (dV 1))))))
def D_terms_of : Fm → RS :=
  (dSeq (dIfS (d2 pIn (d2 pIdx (dV 0) (dC (.int 0))) (dTup (dCons (dC (.str (Str.ofString "let"))) (dCons (dC (.str (Str.ofString "each"))) dNil)))) (dRet (dL (dLst (dCons (d2 pIdx (dV 0) (dC (.int 2))) dNil)))) dSkip) (dRet (dL (dIf (d2 pEq (d2 pIdx (dV 0) (dC (.int 0))) (dC (.str (Str.ofString "alike")))) (dLst (dCons (d2 pIdx (dV 0) (dC (.int 1))) (dCons (d2 pIdx (dV 0) (dC (.int 2))) dNil))) (dLst (dCons (d2 pIdx (dV 0) (dC (.int 1))) dNil))))))
def C_lacks_1 (g_names_in : List PV → R PV) : Fm → R (List PV) :=
  (dLc [5] (tgN 5) dYes (dBv (d2 pIn (dV 5) (dR 2))) (d1 lstIt (dCall g_names_in (dCons (dV 4) dNil))))
def B_lacks_1 (g_names_in : List PV → R PV) : Fm → RS :=
  (dIfS (dNot (dB (dCall (fun ds => ofO (pAll ds)) (dCons (dL (C_lacks_1 g_names_in)) dNil)))) (dRet (dC (.bl true))) dSkip)
def L_lacks_1 (g_names_in : List PV → R PV) (g_terms_of : List PV → R PV) : Fm → RS :=
  (dFor (d1 lstIt (dCall g_terms_of (dCons (dV 3) dNil))) (tgN 4) (B_lacks_1 g_names_in) [4])
def B_lacks_2 (g_names_in : List PV → R PV) (g_terms_of : List PV → R PV) (g_lacks : List PV → R PV) : Fm → RS :=
  (dSeq (L_lacks_1 g_names_in g_terms_of) (dSeq (dIfS (dAnd (d2 pEq (d2 pIdx (dV 3) (dC (.int 0))) (dC (.str (Str.ofString "when")))) (dOr (dB (dCallQ g_lacks (dCons (d2 pIdx (dV 3) (dC (.int 2))) (dCons (dQ 2) dNil)))) (dB (dCallQ g_lacks (dCons (d2 pIdx (dV 3) (dC (.int 3))) (dCons (dQ 2) dNil)))))) (dRet (dC (.bl true))) dSkip) (dSeq (dIfS (dAnd (d2 pEq (d2 pIdx (dV 3) (dC (.int 0))) (dC (.str (Str.ofString "each")))) (dB (dCall g_lacks (dCons (d2 pIdx (dV 3) (dC (.int 3))) (dCons (dL (d2 fCat (dR 2) (dL (dLst (dCons (d2 pIdx (dV 3) (dC (.int 1))) dNil))))) dNil))))) (dRet (dC (.bl true))) dSkip) (dIfS (d2 pEq (d2 pIdx (dV 3) (dC (.int 0))) (dC (.str (Str.ofString "let")))) (dApp 2 (d2 pIdx (dV 3) (dC (.int 1)))) dSkip))))
def L_lacks_2 (g_names_in : List PV → R PV) (g_terms_of : List PV → R PV) (g_lacks : List PV → R PV) : Fm → RS :=
  (dFor (d1 tupIt (dV 0)) (tgN 3) (B_lacks_2 g_names_in g_terms_of g_lacks) [3, 4])
def D_lacks (g_terms_of : List PV → R PV) (g_names_in : List PV → R PV) (g_lacks : List PV → R PV) : Fm → RS :=
  (dSeq (dSetF 2 (dCall (fun ds => ofO (fList ds)) (dCons (dV 1) dNil))) (dSeq (L_lacks_2 g_names_in g_terms_of g_lacks) (dRet (dC (.bl false)))))
def C_given_by_1 : Fm → R (List PV) :=
  (dLc [1] (tgN 1) (d2 pEq (d2 pIdx (dV 1) (dC (.int 0))) (dC (.str (Str.ofString "let")))) (d2 pIdx (dV 1) (dC (.int 1))) (d1 tupIt (dV 0)))
def D_given_by : Fm → RS :=
  (dRetF C_given_by_1)
def C_maker_lacks_1 (g_names_in : List PV → R PV) : Fm → R (List PV) :=
  (dLc [3] (tgN 3) dYes (dBv (d2 pIn (dV 3) (dV 2))) (d1 lstIt (dCall g_names_in (dCons (d2 pIdx (dV 0) (dC (.int 6))) dNil))))
def D_maker_lacks (g_given_by : List PV → R (List PV)) (g_lacks : List PV → R PV) (g_names_in : List PV → R PV) : Fm → RS :=
  (dSeq (dSet 1 (dL (d2 fCat (dL (dCall (fun ds => ofO (fList ds)) (dCons (d2 pIdx (dV 0) (dC (.int 3))) dNil))) (dL (dLst (dCons (dC (.str (Str.ofString "row"))) dNil)))))) (dSeq (dSet 2 (dL (d2 fCat (dV 1) (dL (dCall g_given_by (dCons (d2 pIdx (dV 0) (dC (.int 5))) dNil)))))) (dSeq (dIfS (dOr (dB (dCall g_lacks (dCons (d2 pIdx (dV 0) (dC (.int 5))) (dCons (dV 1) dNil)))) (dNot (dB (dCall (fun ds => ofO (pAll ds)) (dCons (dL (C_maker_lacks_1 g_names_in)) dNil))))) (dRet (dC (.bl true))) dSkip) (dRet (dCall g_lacks (dCons (d2 pIdx (dV 0) (dC (.int 7))) (dCons (dL (d2 fCat (dV 2) (dL (dLst (dCons (d2 pIdx (dV 0) (dC (.int 1))) dNil))))) dNil)))))))
def B_is_ring_1 (g_Made_wanted_makers : List PV → R (List PV)) : Fm → RS :=
  (dSeq (dPop 3 2) (dSeq (dIfS (d2 pEq (d1 (pAttr (Str.ofString "Made") 2) (dV 3)) (d1 (pAttr (Str.ofString "Made") 2) (dV 0))) (dRet (dC (.bl true))) dSkip) (dIfS (d2 pNotIn (d1 (pAttr (Str.ofString "Made") 2) (dV 3)) (dR 1)) (dSeq (dApp 1 (d1 (pAttr (Str.ofString "Made") 2) (dV 3))) (dExt 2 (dL (dMF (Str.ofString "Made") g_Made_wanted_makers (dV 3) dNil)))) dSkip)))
def L_is_ring_1 (g_Made_wanted_makers : List PV → R (List PV)) : Fm → RS :=
  (dWhile (fun _ => 10000) (d2 pNeNil (dR 2) (dL (dLst dNil))) (B_is_ring_1 g_Made_wanted_makers) [3])
def D_is_ring (g_Made_wanted_makers : List PV → R (List PV)) : Fm → RS :=
  (dSeq (dSetF 1 (dLst dNil)) (dSeq (dSetF 2 (dMF (Str.ofString "Made") g_Made_wanted_makers (dV 0) dNil)) (dSeq (L_is_ring_1 g_Made_wanted_makers) (dRet (dC (.bl false))))))
def C_wrong_maker_1 (g_Made_meeting : List PV → R PV) : Fm → R (List PV) :=
  (dLc [2] (tgN 2) dYes (dMV (Str.ofString "Made") g_Made_meeting (dV 0) (dCons (dV 2) dNil)) (d1 tupIt (d2 pIdx (d1 (pAttr (Str.ofString "Made") 0) (dV 0)) (dC (.int 3)))))
def C_wrong_maker_2 (g_Made_width : List PV → R PV) (g_Made_wanted_makers : List PV → R (List PV)) : Fm → R (List PV) :=
  (dLc [3] (tgN 3) dYes (dBv (d2 pGt (dMV (Str.ofString "Made") g_Made_width (dV 3) dNil) (dMV (Str.ofString "Made") g_Made_width (dV 0) dNil))) (d1 lstIt (dL (dMF (Str.ofString "Made") g_Made_wanted_makers (dV 0) dNil))))
def D_wrong_maker (g_Made_meeting : List PV → R PV) (g_is_ring : List PV → R PV) (g_Made_wanted_makers : List PV → R (List PV)) (g_Made_width : List PV → R PV) (g_maker_lacks : List PV → R PV) : Fm → RS :=
  (dSeq (dSetF 1 (dLst dNil)) (dSeq (dIfS (d2 (pNoneIn [(Str.ofString "Made")]) (dC .non) (dL (C_wrong_maker_1 g_Made_meeting))) (dApp 1 (dC (.str (Str.ofString "want")))) dSkip) (dSeq (dIfS (dB (dCall g_is_ring (dCons (dV 0) dNil))) (dApp 1 (dC (.str (Str.ofString "ring")))) dSkip) (dSeq (dIfS (dB (dCall (fun ds => ofO (pAny ds)) (dCons (dL (C_wrong_maker_2 g_Made_width g_Made_wanted_makers)) dNil))) (dApp 1 (dC (.str (Str.ofString "scope")))) dSkip) (dSeq (dIfS (dB (dCall g_maker_lacks (dCons (d1 (pAttr (Str.ofString "Made") 0) (dV 0)) dNil))) (dApp 1 (dC (.str (Str.ofString "name")))) dSkip) (dRetO 1))))))
def B_columns_in_1 : Fm → RS :=
  (dExtT 1 (d2 pIdx (dV 2) (dC (.int 0))))
def L_columns_in_1 : Fm → RS :=
  (dFor (d1 tupIt (d2 pIdx (dV 0) (dC (.int 3)))) (tgN 2) B_columns_in_1 [2])
def D_columns_in : Fm → RS :=
  (dSeq (dSetF 1 (dLst dNil)) (dSeq L_columns_in_1 (dRetO 1)))
def C_wrong_try_1 (g_Spot_groups : List PV → R (List PV)) (g_met : List PV → R PV) : Fm → R (List PV) :=
  (dLc [4] (tgN 4) dYes (dCall g_met (dCons (dV 4) (dCons (dL (dMF (Str.ofString "Spot") g_Spot_groups (d1 (pAttr (Str.ofString "Spot") 1) (dV 0)) dNil)) dNil))) (d1 lstIt (dV 3)))
def D_wrong_try (g_columns_in : List PV → R (List PV)) (g_met : List PV → R PV) (g_Spot_groups : List PV → R (List PV)) (g_lacks : List PV → R PV) : Fm → RS :=
  (dSeq (dSetF 1 (dLst dNil)) (dSeq (dSet 2 (dL (dCall g_columns_in (dCons (d1 (pAttr (Str.ofString "Spot") 0) (dV 0)) dNil)))) (dSeq (dSet 3 (dL (dCall (fun ds => ofO (fList ds)) (dCons (d2 pIdx (d1 (pAttr (Str.ofString "Spot") 0) (dV 0)) (dC (.int 4))) dNil)))) (dSeq (dIfS (d2 pNe (dSetLen (dCall (fun ds => ofO (txts ds)) (dCons (dL (d2 fCat (dV 2) (dV 3))) dNil))) (d2 pAdd (dCall (fun ds => ofO (pLen ds)) (dCons (dV 2) dNil)) (dCall (fun ds => ofO (pLen ds)) (dCons (dV 3) dNil)))) (dApp 1 (dC (.str (Str.ofString "column")))) dSkip) (dSeq (dIfS (d2 (pNoneIn [(Str.ofString "Made")]) (dC .non) (dL (C_wrong_try_1 g_Spot_groups g_met))) (dApp 1 (dC (.str (Str.ofString "want")))) dSkip) (dSeq (dIfS (dB (dCall g_lacks (dCons (d2 pIdx (d1 (pAttr (Str.ofString "Spot") 0) (dV 0)) (dC (.int 5))) (dCons (dL (d2 fCat (dV 2) (dV 3))) dNil)))) (dApp 1 (dC (.str (Str.ofString "name")))) dSkip) (dRetO 1)))))))
def C_wrong_1 (g_wrong_try : List PV → R (List PV)) : Fm → R (List PV) :=
  (dLc [5] (tgN 5) dYes (dTup (dCons (d1 (pAttr (Str.ofString "Spot") 2) (dV 2)) (dCons (dV 5) dNil))) (d1 lstIt (dL (dCall g_wrong_try (dCons (dV 2) dNil)))))
def C_wrong_2 (g_wrong_maker : List PV → R (List PV)) : Fm → R (List PV) :=
  (dLc [5] (tgN 5) dYes (dTup (dCons (d1 (pAttr (Str.ofString "Made") 2) (dV 4)) (dCons (dV 5) dNil))) (d1 lstIt (dL (dCall g_wrong_maker (dCons (dV 4) dNil)))))
def B_wrong_1 (g_Made_init : List Slot → List PV → RM) (g_wrong_maker : List PV → R (List PV)) : Fm → RS :=
  (dSeq (dSet 4 (dMake 3 (Str.ofString "Made") g_Made_init (dCons (dV 3) (dCons (dV 2) dNil)))) (dExt 1 (dL (C_wrong_2 g_wrong_maker))))
def L_wrong_1 (g_Made_init : List Slot → List PV → RM) (g_wrong_maker : List PV → R (List PV)) : Fm → RS :=
  (dFor (d1 tupIt (d2 pIdx (d1 (pAttr (Str.ofString "Spot") 0) (dV 2)) (dC (.int 3)))) (tgN 3) (B_wrong_1 g_Made_init g_wrong_maker) [3, 4])
def B_wrong_2 (g_Made_init : List Slot → List PV → RM) (g_wrong_maker : List PV → R (List PV)) (g_wrong_try : List PV → R (List PV)) : Fm → RS :=
  (dIfS (d2 pEq (d2 pIdx (d1 (pAttr (Str.ofString "Spot") 0) (dV 2)) (dC (.int 0))) (dC (.str (Str.ofString "try")))) (dExt 1 (dL (C_wrong_1 g_wrong_try))) (L_wrong_1 g_Made_init g_wrong_maker))
def L_wrong_2 (g_spots_of : List PV → R PV) (g_Made_init : List Slot → List PV → RM) (g_wrong_maker : List PV → R (List PV)) (g_wrong_try : List PV → R (List PV)) : Fm → RS :=
  (dFor (d1 lstIt (dCall g_spots_of (dCons (dV 0) dNil))) (tgN 2) (B_wrong_2 g_Made_init g_wrong_maker g_wrong_try) [2, 3, 4])
def D_wrongX (g_need_house : List PV → R PV) (g_spots_of : List PV → R PV) (g_wrong_try : List PV → R (List PV)) (g_Made_init : List Slot → List PV → RM) (g_wrong_maker : List PV → R (List PV)) : Fm → RS :=
  (dSeq (dExpr (dCall g_need_house (dCons (dV 0) dNil))) (dSeq (dSetF 1 (dLst dNil)) (dSeq (L_wrong_2 g_spots_of g_Made_init g_wrong_maker g_wrong_try) (dRetF (dCall (fun ds => ofO (fSortD ds)) (dCons (dR 1) dNil))))))
def G_Spot_init (fs : List Slot) (ds : List PV) : RM := if ds.length = 2 then toM "Spot" ((D_Spot_init) (fmM 3 "Spot" fs ds)) else .bad
def G_Spot_inner (ds : List PV) : R (List PV) := if ds.length = 1 then toF ((D_Spot_inner G_Spot_init) (fm0 2 ds)) else .bad
def G_Spot_groups (ds : List PV) : R (List PV) := if ds.length = 1 then toF ((D_Spot_groups) (fm0 2 ds)) else .bad
def G_all_spots : Nat → List PV → R PV
  | 0, _ => .bad
  | n + 1, ds => if ds.length = 1 then toV ((D_all_spots G_Spot_inner (G_all_spots n)) (fm0 3 ds)) else .bad
def G_spots_of (ds : List PV) : R PV := if ds.length = 1 then toV ((D_spots_of (G_all_spots 6) G_Spot_init) (fm0 1 ds)) else .bad
def G_Made_init (fs : List Slot) (ds : List PV) : RM := if ds.length = 2 then toM "Made" ((D_Made_init) (fmM 3 "Made" fs ds)) else .bad
def G_Made_width (ds : List PV) : R PV := if ds.length = 1 then toV ((D_Made_width) (fm0 1 ds)) else .bad
def G_met (ds : List PV) : R PV := if ds.length = 2 then toV ((D_met G_Made_init) (fm0 4 ds)) else .bad
def G_Made_meeting (ds : List PV) : R PV := if ds.length = 2 then toV ((D_Made_meeting G_Spot_groups G_met) (fm0 3 ds)) else .bad
def G_Made_wanted_makers (ds : List PV) : R (List PV) := if ds.length = 1 then toF ((D_Made_wanted_makers G_Made_meeting) (fm0 4 ds)) else .bad
def G_add_made : Nat → List PV → List PV → RA
  | 0, _, _ => .bad
  | n + 1, ds, l => if ds.length = 1 then toA 1 ((D_add_made G_Made_wanted_makers (G_add_made n)) (fmA 3 ds l)) else .bad
def G_names_in : Nat → List PV → R PV
  | 0, _ => .bad
  | n + 1, ds => if ds.length = 1 then toV ((D_names_in (G_names_in n)) (fm0 3 ds)) else .bad
def G_terms_of (ds : List PV) : R PV := if ds.length = 1 then toV ((D_terms_of) (fm0 1 ds)) else .bad
def G_lacks : Nat → List PV → R PV
  | 0, _ => .bad
  | n + 1, ds => if ds.length = 2 then toV ((D_lacks G_terms_of (G_names_in 12) (G_lacks n)) (fm0 6 ds)) else .bad
def G_given_by (ds : List PV) : R (List PV) := if ds.length = 1 then toF ((D_given_by) (fm0 2 ds)) else .bad
def G_maker_lacks (ds : List PV) : R PV := if ds.length = 1 then toV ((D_maker_lacks G_given_by (G_lacks 6) (G_names_in 12)) (fm0 4 ds)) else .bad
def G_is_ring (ds : List PV) : R PV := if ds.length = 1 then toV ((D_is_ring G_Made_wanted_makers) (fm0 4 ds)) else .bad
def G_wrong_maker (ds : List PV) : R (List PV) := if ds.length = 1 then toF ((D_wrong_maker G_Made_meeting G_is_ring G_Made_wanted_makers G_Made_width G_maker_lacks) (fm0 4 ds)) else .bad
def G_columns_in (ds : List PV) : R (List PV) := if ds.length = 1 then toF ((D_columns_in) (fm0 3 ds)) else .bad
def G_wrong_try (ds : List PV) : R (List PV) := if ds.length = 1 then toF ((D_wrong_try G_columns_in G_met G_Spot_groups (G_lacks 6)) (fm0 5 ds)) else .bad
def G_wrongX (ds : List PV) : R (List PV) := if ds.length = 1 then toF ((D_wrongX G_need_house G_spots_of G_wrong_try G_Made_init G_wrong_maker) (fm0 6 ds)) else .bad
end Tw
set_option Elab.async false
set_option linter.all false
set_option maxRecDepth 100000
set_option maxHeartbeats 4000000
namespace Tw
open PySem PySem.Spec PyProof.Rows L2 Pv
local instance : TabCx := TabCx.nil
@[simp] theorem zk1 : (1 : Nat) ≤ sizeLine := sz (by omega)
@[simp] theorem zk2 : (2 : Nat) ≤ sizeLine := sz (by omega)
@[simp] theorem zk3 : (3 : Nat) ≤ sizeLine := sz (by omega)
@[simp] theorem zk4 : (4 : Nat) ≤ sizeLine := sz (by omega)
@[simp] theorem zk5 : (5 : Nat) ≤ sizeLine := sz (by omega)
@[simp] theorem zk6 : (6 : Nat) ≤ sizeLine := sz (by omega)
@[simp] theorem zk7 : (7 : Nat) ≤ sizeLine := sz (by omega)
@[simp] theorem zk8 : (8 : Nat) ≤ sizeLine := sz (by omega)
@[simp] theorem zk9 : (9 : Nat) ≤ sizeLine := sz (by omega)
@[simp] theorem zk10 : (10 : Nat) ≤ sizeLine := sz (by omega)
@[simp] theorem zk11 : (11 : Nat) ≤ sizeLine := sz (by omega)
@[simp] theorem zk12 : (12 : Nat) ≤ sizeLine := sz (by omega)
@[simp] theorem zk13 : (13 : Nat) ≤ sizeLine := sz (by omega)
@[simp] theorem zk14 : (14 : Nat) ≤ sizeLine := sz (by omega)
@[simp] theorem zk15 : (15 : Nat) ≤ sizeLine := sz (by omega)
@[simp] theorem zk16 : (16 : Nat) ≤ sizeLine := sz (by omega)
@[simp] theorem zk17 : (17 : Nat) ≤ sizeLine := sz (by omega)
@[simp] theorem zk18 : (18 : Nat) ≤ sizeLine := sz (by omega)
@[simp] theorem zk19 : (19 : Nat) ≤ sizeLine := sz (by omega)
@[simp] theorem zk20 : (20 : Nat) ≤ sizeLine := sz (by omega)
@[simp] theorem zk21 : (21 : Nat) ≤ sizeLine := sz (by omega)
@[simp] theorem zk22 : (22 : Nat) ≤ sizeLine := sz (by omega)
@[simp] theorem zk23 : (23 : Nat) ≤ sizeLine := sz (by omega)
@[simp] theorem zk24 : (24 : Nat) ≤ sizeLine := sz (by omega)
@[simp] theorem zk25 : (25 : Nat) ≤ sizeLine := sz (by omega)
@[simp] theorem zk26 : (26 : Nat) ≤ sizeLine := sz (by omega)
@[simp] theorem zk27 : (27 : Nat) ≤ sizeLine := sz (by omega)
@[simp] theorem zk28 : (28 : Nat) ≤ sizeLine := sz (by omega)
@[simp] theorem zk29 : (29 : Nat) ≤ sizeLine := sz (by omega)
@[simp] theorem zk30 : (30 : Nat) ≤ sizeLine := sz (by omega)
@[simp] theorem zk31 : (31 : Nat) ≤ sizeLine := sz (by omega)
@[simp] theorem zk32 : (32 : Nat) ≤ sizeLine := sz (by omega)
@[simp] theorem zk33 : (33 : Nat) ≤ sizeLine := sz (by omega)
@[simp] theorem zk34 : (34 : Nat) ≤ sizeLine := sz (by omega)
@[simp] theorem zk35 : (35 : Nat) ≤ sizeLine := sz (by omega)
@[simp] theorem zk36 : (36 : Nat) ≤ sizeLine := sz (by omega)
@[simp] theorem zk37 : (37 : Nat) ≤ sizeLine := sz (by omega)
@[simp] theorem zk38 : (38 : Nat) ≤ sizeLine := sz (by omega)
@[simp] theorem zk39 : (39 : Nat) ≤ sizeLine := sz (by omega)
@[simp] theorem zk40 : (40 : Nat) ≤ sizeLine := sz (by omega)
theorem bits_le {a : Int} {n : Nat} (h : a.natAbs < 2 ^ n) (hn : 0 < n) : Builtin.Int.intBits a ≤ n := by
  unfold Builtin.Int.intBits
  split
  · omega
  · have := PySem.Flt.log2_lt_of hn h
    omega
theorem mulB_r {a b : Int} (h : b.natAbs < 2 ^ 64) : mulB a b = true := mulB_of (IntMulOk.of_right (bits_le h (by decide)))
theorem mulB_l {a b : Int} (h : a.natAbs < 2 ^ 64) : mulB a b = true := mulB_of (IntMulOk.of_left (bits_le h (by decide)))
theorem mulB_w {a b : Int} {m n : Nat} (ha : a.natAbs < 2 ^ m) (hb : b.natAbs < 2 ^ n) (hm : 0 < m) (hn : 0 < n) (h : m + n ≤ 1000000) : mulB a b = true := mulB_of (CMulW.ok (wide_mul ha hb hm hn h))
abbrev M1 : Int := 340282366920938463463374607431768211507
abbrev M2 : Int := 340282366920938463463374607431768211297
abbrev A1 : Int := 18446744073709551557
@[irreducible] def drawn (c k : Int) : Int :=
  let a := (c * 6364136223846793005 + (k + 1) * 1442695040888963407) % M1
  let b := a * a % M2
  ((b % A1 + 1) * (b / A1 + 1) * b) % M1
theorem abs_lt {a m : Int} {n : Nat} (h0 : 0 ≤ a) (h : a < m) (hm : m ≤ ((2 ^ n : Nat) : Int)) : a.natAbs < 2 ^ n := by
  have h1 : ((a.natAbs : Nat) : Int) = a := Int.natAbs_of_nonneg h0
  have h2 : a < ((2 ^ n : Nat) : Int) := Int.lt_of_lt_of_le h hm
  rw [← h1] at h2
  exact Int.ofNat_lt.mp h2
theorem emod_abs {x m : Int} {n : Nat} (hm : 0 < m) (h : m ≤ ((2 ^ n : Nat) : Int)) : (x % m).natAbs < 2 ^ n := abs_lt (Int.emod_nonneg _ (by omega)) (Int.emod_lt_of_pos _ hm) h
theorem emod_abs1 {x m : Int} {n : Nat} (hm : 0 < m) (h : m + 1 ≤ ((2 ^ n : Nat) : Int)) : (x % m + 1).natAbs < 2 ^ n := by
  have h1 := Int.emod_nonneg x (show m ≠ 0 by omega)
  have h2 := Int.emod_lt_of_pos x hm
  exact abs_lt (m := m + 1) (by omega) (by omega) h
theorem ediv_abs1 {x m d : Int} {n : Nat} (hm : 0 < m) (hd : 0 < d) (h : m + 1 ≤ ((2 ^ n : Nat) : Int)) : (x % m / d + 1).natAbs < 2 ^ n := by
  have h1 := Int.emod_nonneg x (show m ≠ 0 by omega)
  have h2 := Int.emod_lt_of_pos x hm
  have h3 : 0 ≤ x % m / d := Int.ediv_nonneg h1 (by omega)
  have h4 : x % m / d ≤ x % m := Int.ediv_le_self _ h1
  exact abs_lt (m := m + 1) (by omega) (by omega) h
theorem lg1 : Nat.log2 18446744073709551557 < 9000 := by decide +kernel
theorem G_drawn (c k : Int) : G__law_drawn [.int c, .int k] = .ok (.int (drawn c k)) := by
  have h1 : mulB c 6364136223846793005 = true := mulB_r (by decide)
  have h2 : mulB (k + 1) 1442695040888963407 = true := mulB_r (by decide)
  have b1 : ∀ x : Int, (x % 340282366920938463463374607431768211507).natAbs < 2 ^ 130 := fun x => emod_abs (by decide) (by decide)
  have b2 : ∀ x : Int, (x % 340282366920938463463374607431768211297).natAbs < 2 ^ 130 := fun x => emod_abs (by decide) (by decide)
  have b3 : ∀ x : Int, (x % 18446744073709551557 + 1).natAbs < 2 ^ 65 := fun x => emod_abs1 (by decide) (by decide)
  have b4 : ∀ x : Int, (x % 340282366920938463463374607431768211297 / 18446744073709551557 + 1).natAbs < 2 ^ 130 := fun x => ediv_abs1 (by decide) (by decide) (by decide)
  have h3 : ∀ x : Int, mulB (x % 340282366920938463463374607431768211507) (x % 340282366920938463463374607431768211507) = true := fun x => mulB_w (b1 x) (b1 x) (by decide) (by decide) (by decide)
  have h4 : ∀ x : Int, mulB (x % 340282366920938463463374607431768211297 % 18446744073709551557 + 1) (x % 340282366920938463463374607431768211297 / 18446744073709551557 + 1) = true := fun x => mulB_w (b3 _) (b4 x) (by decide) (by decide) (by decide)
  have h5 : ∀ x : Int, mulB ((x % 340282366920938463463374607431768211297 % 18446744073709551557 + 1) * (x % 340282366920938463463374607431768211297 / 18446744073709551557 + 1)) (x % 340282366920938463463374607431768211297) = true := fun x => mulB_w (wide_lt (b3 _) (b4 x)) (b2 x) (by decide) (by decide) (by decide)
  simp [G__law_drawn, D__law_drawn, fm0, h1, h2, h3, h4, h5, drawn, pDiv_ii, lg1]
theorem canInts : ∀ ns : List Int, PyData.canLayAll0 (ns.map PyData.int) = true
  | [] => rfl
  | n :: ns => by simp only [List.map_cons, PyData.canLayAll0, PyData.canLay0, canInts ns, Bool.and_self]
theorem depInts : ∀ ns : List Int, PyData.depthAll (ns.map PyData.int) = 0
  | [] => rfl
  | n :: ns => by simp only [List.map_cons, PyData.depthAll, PyData.depth, depInts ns]; rfl
theorem G_cell {ns : List Int} (k : Nat) (hl : ns.length ≤ 63) : ∃ c, G__law_cell [.scr ns, .int (k : Int)] = .ok (.int c) := by
  have e : pEq (.scr ns) (.lst []) = some (decide (ns = [])) := by
    unfold pEq
    have s1 : SeqAt.shaped (toD (.scr ns)) = true := by
      simp only [toD]
      exact shaped_of (by simp only [PyData.canLay0, canInts]) (by simp only [PyData.depth, depInts]; omega)
    have s2 : SeqAt.shaped (toD (.lst [])) = true := by decide
    rw [if_pos ⟨s1, s2⟩]
    congr 1
    cases ns with
    | nil => rfl
    | cons n ns => simp [toD, toDs, PyData.eqv, PyData.eqvAll]
  by_cases z : ns = []
  · refine ⟨(k : Int) * 7919, ?_⟩
    have h1 : mulB (k : Int) 7919 = true := mulB_r (by decide)
    rw [decide_eq_true z] at e
    simp [G__law_cell, D__law_cell, fm0, e, h1]
  · have hp : 0 < ns.length := List.length_pos_iff.mpr z
    have hn : (0 : Int) < (ns.length : Int) := by omega
    have hm : (k : Int) % (ns.length : Int) = ((k % ns.length : Nat) : Int) := by omega
    have hlt : k % ns.length < ns.length := Nat.mod_lt _ hp
    have h1 : mulB ((k : Int) / (ns.length : Int)) 104729 = true := mulB_r (by decide)
    have a1 : L2.atI ns ((k : Int) % (ns.length : Int)) = some ns[k % ns.length] := by rw [hm]; exact atI_in hlt
    have d1 : pDiv (.int (k : Int)) (.int (ns.length : Int)) = some (.int ((k : Int) / (ns.length : Int))) := pDiv_small hn (by omega)
    refine ⟨ns[k % ns.length] + (k : Int) / (ns.length : Int) * 104729, ?_⟩
    rw [decide_eq_false z] at e
    simp [G__law_cell, D__law_cell, fm0, e, hp, a1, d1, h1]
end Tw
set_option Elab.async false
set_option linter.all false
set_option maxRecDepth 100000
set_option maxHeartbeats 4000000
namespace Tw
open PySem PySem.Spec PyProof.Rows L2 Pv
local instance : TabCx := TabCx.nil
def okc (c : Nat) : Bool := decide (32 ≤ c) && decide (c ≤ 126) && decide (c ≠ 37)
theorem okc_lt {c : Nat} (h : okc c = true) : c < 1114112 := by
  simp only [okc, Bool.and_eq_true, decide_eq_true_eq] at h
  omega
theorem okcs_lt {s : List Nat} (h : s.all okc = true) : ∀ c ∈ s, c < 1114112 := fun c hc => okc_lt (List.all_eq_true.mp h c hc)
end Tw
set_option Elab.async false
set_option linter.all false
set_option maxRecDepth 100000
set_option maxHeartbeats 4000000
namespace Tw
open PySem PySem.Spec PyProof.Rows L2 Pv
local instance : TabCx := TabCx.nil
inductive Val where
  | num (i : Int)
  | txt (s : List Nat)
  | pack (xs : List Val)
mutual
def emb : Val → PV
  | .num i => .int i
  | .txt s => .str (mk s)
  | .pack xs => .tup (embs xs)
def embs : List Val → List PV
  | [] => []
  | x :: xs => emb x :: embs xs
end
mutual
/-- a value, so many packs around it -/
def vd : Nat → Val → Bool
  | _, .num i => decide (i.natAbs ≤ 999999)
  | _, .txt s => decide (s.length ≤ 20) && s.all okc
  | d, .pack xs => decide (d < 3) && (decide (xs.length ≤ 6) && vds (d + 1) xs)
def vds : Nat → List Val → Bool
  | _, [] => true
  | d, x :: xs => vd d x && vds d xs
end
mutual
theorem vd_mono {d e : Nat} (h : e ≤ d) : ∀ v : Val, vd d v = true → vd e v = true
  | .num _, q => by simp only [vd] at q ⊢; exact q
  | .txt _, q => by simp only [vd] at q ⊢; exact q
  | .pack xs, q => by
    simp only [vd, Bool.and_eq_true, decide_eq_true_eq] at q ⊢
    exact ⟨by omega, q.2.1, vds_mono (by omega) xs q.2.2⟩
theorem vds_mono {d e : Nat} (h : e ≤ d) : ∀ v : List Val, vds d v = true → vds e v = true
  | [], _ => by simp only [vds]
  | x :: xs, q => by
    simp only [vds, Bool.and_eq_true] at q ⊢
    exact ⟨vd_mono h x q.1, vds_mono h xs q.2⟩
end
mutual
theorem lay_emb {d : Nat} : ∀ v : Val, vd d v = true → (toD (emb v)).canLay0 = true
  | .num _, _ => by simp only [emb, toD, PyData.canLay0]
  | .txt s, q => by
    simp only [vd, Bool.and_eq_true] at q
    simp only [emb, toD, PyData.canLay0]
    exact strOk_mk (okcs_lt q.2)
  | .pack xs, q => by
    simp only [vd, Bool.and_eq_true] at q
    simp only [emb, toD, PyData.canLay0]
    exact lay_embs xs q.2.2
theorem lay_embs {d : Nat} : ∀ v : List Val, vds d v = true → PyData.canLayAll0 (toDs (embs v)) = true
  | [], _ => by simp only [embs, toDs, PyData.canLayAll0]
  | x :: xs, q => by
    simp only [vds, Bool.and_eq_true] at q
    simp only [embs, toDs, PyData.canLayAll0, lay_emb x q.1, lay_embs xs q.2, Bool.and_self]
end
mutual
theorem dep_emb {d : Nat} : ∀ v : Val, vd d v = true → d ≤ 3 → (toD (emb v)).depth ≤ 3 - d
  | .num _, _, _ => by simp only [emb, toD, PyData.depth]; omega
  | .txt s, _, _ => by simp only [emb, toD, PyData.depth]; omega
  | .pack xs, q, h => by
    simp only [vd, Bool.and_eq_true, decide_eq_true_eq] at q
    have := dep_embs xs q.2.2 (by omega)
    simp only [emb, toD, PyData.depth]
    omega
theorem dep_embs {d : Nat} : ∀ v : List Val, vds d v = true → d ≤ 3 → PyData.depthAll (toDs (embs v)) ≤ 3 - d
  | [], _, _ => by simp only [embs, toDs, PyData.depthAll]; omega
  | x :: xs, q, h => by
    simp only [vds, Bool.and_eq_true] at q
    have h1 := dep_emb x q.1 h
    have h2 := dep_embs xs q.2 h
    simp only [embs, toDs, PyData.depthAll]
    omega
end
mutual
def dp : Val → Nat
  | .num _ => 0
  | .txt _ => 0
  | .pack xs => dps xs + 1
def dps : List Val → Nat
  | [] => 0
  | x :: xs => max (dp x) (dps xs)
end
mutual
theorem dp_vd {d : Nat} : ∀ v : Val, vd d v = true → d ≤ 3 → dp v ≤ 3 - d
  | .num _, _, _ => by simp only [dp]; omega
  | .txt _, _, _ => by simp only [dp]; omega
  | .pack xs, q, h => by
    simp only [vd, Bool.and_eq_true, decide_eq_true_eq] at q
    have := dps_vd xs q.2.2 (by omega)
    simp only [dp]; omega
theorem dps_vd {d : Nat} : ∀ v : List Val, vds d v = true → d ≤ 3 → dps v ≤ 3 - d
  | [], _, _ => by simp only [dps]; omega
  | x :: xs, q, h => by
    simp only [vds, Bool.and_eq_true] at q
    have h1 := dp_vd x q.1 h
    have h2 := dps_vd xs q.2 h
    simp only [dps]; omega
end
mutual
def unE : PV → Val
  | .int i => .num i
  | .str x => .txt x.cps.toList
  | .tup xs => .pack (unEs xs)
  | _ => .num 0
def unEs : List PV → List Val
  | [] => []
  | x :: xs => unE x :: unEs xs
end
mutual
theorem unE_emb : ∀ v : Val, unE (emb v) = v
  | .num _ => by simp only [emb, unE]
  | .txt s => by simp only [emb, unE, mk_cps]
  | .pack xs => by simp only [emb, unE, unEs_embs xs]
theorem unEs_embs : ∀ v : List Val, unEs (embs v) = v
  | [] => by simp only [embs, unEs]
  | x :: xs => by simp only [embs, unEs, unE_emb x, unEs_embs xs]
end
mutual
def short : Val → Prop
  | .num _ => True
  | .txt s => s.length ≤ 1000
  | .pack xs => xs.length ≤ 1000 ∧ shorts xs
def shorts : List Val → Prop
  | [] => True
  | x :: xs => short x ∧ shorts xs
end
mutual
theorem short_vd {d : Nat} : ∀ v : Val, vd d v = true → short v
  | .num _, _ => by simp only [short]
  | .txt s, q => by
    simp only [vd, Bool.and_eq_true, decide_eq_true_eq] at q
    simp only [short]; omega
  | .pack xs, q => by
    simp only [vd, Bool.and_eq_true, decide_eq_true_eq] at q
    simp only [short]
    exact ⟨by omega, shorts_vd xs q.2.2⟩
theorem shorts_vd {d : Nat} : ∀ v : List Val, vds d v = true → shorts v
  | [], _ => by simp only [shorts]
  | x :: xs, q => by
    simp only [vds, Bool.and_eq_true] at q
    simp only [shorts]
    exact ⟨short_vd x q.1, shorts_vd xs q.2⟩
end
end Tw
set_option Elab.async false
set_option linter.all false
set_option maxRecDepth 100000
set_option maxHeartbeats 4000000
namespace Tw
open PySem PySem.Spec PyProof.Rows L2 Pv
local instance : TabCx := TabCx.nil
theorem z0 : (0 : Nat) ≤ sizeLine := Nat.zero_le _
theorem z1 : (1 : Nat) ≤ sizeLine := sz (by omega)
theorem z2 : (2 : Nat) ≤ sizeLine := sz (by omega)
theorem z3 : (3 : Nat) ≤ sizeLine := sz (by omega)
theorem slT_to (l : List PV) (k : Nat) : pSl (.tup l) none (some (k : Int)) = some (.tup (l.take k)) := by
  show some (PV.tup (cutP l none (some (k : Int)))) = _
  rw [cutP_to]
theorem slT_fr (l : List PV) (k : Nat) : pSl (.tup l) (some ((k : Int) + 1)) none = some (.tup (l.drop (k + 1))) := by
  show some (PV.tup (cutP l (some ((k : Int) + 1)) none)) = _
  rw [cutP_from1]
theorem rngI {n k : Nat} {d : PV} (h : ((List.range n).map fun (k : Nat) => PV.int (k : Int))[k]? = some d) : k < n ∧ d = .int (k : Int) := by
  rw [List.getElem?_map] at h
  by_cases c : k < n
  · rw [List.getElem?_range c] at h
    cases h
    exact ⟨c, rfl⟩
  · rw [List.getElem?_eq_none (by rw [List.length_range]; omega)] at h
    cases h
mutual
theorem eqb_iff : ∀ u v : Val, PyData.eqv (toD (emb u)) (toD (emb v)) = true ↔ u = v
  | .num i, .num j => by simp [emb, toD, PyData.eqv]
  | .txt i, .txt j => by simp [emb, toD, PyData.eqv]
  | .pack i, .pack j => by
    simp only [emb, toD, PyData.eqv, Val.pack.injEq]
    exact eqbs_iff i j
  | .num i, .txt j => by simp [emb, toD, PyData.eqv]
  | .num i, .pack j => by simp [emb, toD, PyData.eqv]
  | .txt i, .num j => by simp [emb, toD, PyData.eqv]
  | .txt i, .pack j => by simp [emb, toD, PyData.eqv]
  | .pack i, .num j => by simp [emb, toD, PyData.eqv]
  | .pack i, .txt j => by simp [emb, toD, PyData.eqv]
theorem eqbs_iff : ∀ u v : List Val, PyData.eqvAll (toDs (embs u)) (toDs (embs v)) = true ↔ u = v
  | [], [] => by simp [embs, toDs, PyData.eqvAll]
  | [], y :: ys => by simp [embs, toDs, PyData.eqvAll]
  | x :: xs, [] => by simp [embs, toDs, PyData.eqvAll]
  | x :: xs, y :: ys => by
    simp only [embs, toDs, PyData.eqvAll, Bool.and_eq_true, List.cons.injEq]
    rw [eqb_iff x y, eqbs_iff xs ys]
end
end Tw
set_option Elab.async false
set_option linter.all false
set_option maxRecDepth 100000
set_option maxHeartbeats 4000000
namespace Tw
open PySem PySem.Spec PyProof.Rows L2 Pv
local instance : TabCx := TabCx.nil
theorem lc_gen {α : Type} {t : Tgt} {tt : Fm → R Bool} {te : Fm → R PV} {env : Fm} (em f : α → PV) (b : α → Bool) : ∀ as : List α, (∀ a ∈ as, ∃ e1, t (em a) env = some e1 ∧ tt e1 = .ok (b a) ∧ (b a = true → te e1 = .ok (f a))) → lcGo t tt te env (as.map em) = .ok ((as.filter b).map f)
  | [], _ => rfl
  | a :: as, h => by
    obtain ⟨e1, h1, h2, h3⟩ := h a List.mem_cons_self
    have ih := lc_gen em f b as fun x hx => h x (List.mem_cons_of_mem _ hx)
    rw [List.map_cons, lcGo, h1]
    simp only [h2, R.bind_ok]
    cases q : b a with
    | true =>
      rw [List.filter_cons_of_pos q]
      simp only [h3 q, ih, R.bind_ok, List.map_cons]
    | false =>
      rw [List.filter_cons_of_neg (by rw [q]; decide)]
      simp only [ih]
theorem dLc_gen {α : Type} {vs : List Nat} {t : Tgt} {tt : Fm → R Bool} {te : Fm → R PV} {src : Fm → R (List PV)} {env : Fm} (as : List α) (em f : α → PV) (b : α → Bool) (hs : src env = .ok (as.map em)) (hz : as.length ≤ 100000)
    (h : ∀ a ∈ as, ∃ e1, t (em a) (clr env vs) = some e1 ∧ tt e1 = .ok (b a) ∧ (b a = true → te e1 = .ok (f a))) : dLc vs t tt te src env = .ok ((as.filter b).map f) := by
  unfold dLc
  rw [hs]
  simp only [R.bind_ok, List.length_map]
  rw [if_pos (sz hz), lc_gen em f b as h]
  rfl
theorem dLc_all {α : Type} {vs : List Nat} {t : Tgt} {te : Fm → R PV} {src : Fm → R (List PV)} {env : Fm} (as : List α) (em f : α → PV) (hs : src env = .ok (as.map em)) (hz : as.length ≤ 100000)
    (h : ∀ a ∈ as, ∃ e1, t (em a) (clr env vs) = some e1 ∧ te e1 = .ok (f a)) : dLc vs t dYes te src env = .ok (as.map f) := by
  have := dLc_gen (vs := vs) (tt := dYes) as em f (fun _ => true) hs hz fun a ha => by
    obtain ⟨e1, h1, h2⟩ := h a ha
    exact ⟨e1, h1, rfl, fun _ => h2⟩
  rw [List.filter_eq_self.mpr (fun _ _ => rfl)] at this
  exact this
theorem joinL_in {S : List Nat} {c : Nat} : ∀ {ps : List (List Nat)}, c ∈ TL.joinL S ps → c ∈ S ∨ ∃ p ∈ ps, c ∈ p
  | [], h => by simp [TL.joinL] at h
  | [p], h => .inr ⟨p, List.mem_singleton.mpr rfl, h⟩
  | p :: q :: r, h => by
    rw [TL.joinL] at h
    rcases List.mem_append.mp h with h | h
    · exact .inr ⟨p, List.mem_cons_self, h⟩
    · rcases List.mem_append.mp h with h | h
      · exact .inl h
      · rcases joinL_in h with h | ⟨z, hz, h⟩
        · exact .inl h
        · exact .inr ⟨z, List.mem_cons_of_mem _ hz, h⟩
theorem modN {m : Int} {n : Nat} (h : 0 < n) : ∃ k : Nat, k < n ∧ m % (n : Int) = (k : Int) := by
  have l0 := Int.emod_nonneg m (show (n : Int) ≠ 0 by omega)
  have l1 := Int.emod_lt_of_pos m (show (0 : Int) < (n : Int) by omega)
  exact ⟨(m % (n : Int)).toNat, by omega, by omega⟩
@[simp] theorem dRaise_ap (x : Ex) (env : Fm) : dRaise x env = .ex x env := rfl
@[simp] theorem dTold_ap (d : Fm → R PV) (env : Fm) : dTold d env = match d env with | .ok v => .ok v | .ex e => if goodEx e = true then .ok (wordOf e) else .bad | .bad => .bad := rfl
@[simp] theorem tgT_tup (js : List Nat) (ds : List PV) (env : Fm) : tgT js (.tup ds) env = setAll env js ds := rfl
@[simp] theorem setAll_nil (env : Fm) : setAll env [] [] = some env := rfl
@[simp] theorem setAll_cons (env : Fm) (j : Nat) (js : List Nat) (d : PV) (ds : List PV) : setAll env (j :: js) (d :: ds) = if j < env.length then setAll (env.set j (.pv d)) js ds else none := rfl
end Tw
set_option Elab.async false
set_option linter.all false
set_option maxRecDepth 100000
set_option maxHeartbeats 4000000
namespace Tw
open PySem PySem.Spec PyProof.Rows L2 Pv
local instance : TabCx := TabCx.nil
mutual
/-- data are equal to themselves -/
theorem eqv_self : ∀ d : PyData, d.canLay0 = true → PyData.eqv d d = true
  | .none, _ => by simp [PyData.eqv]
  | .bool b, _ => by simp [PyData.eqv]
  | .int i, _ => by simp [PyData.eqv]
  | .str x, _ => by simp [PyData.eqv]
  | .list ds, h => by simp only [PyData.canLay0] at h; simp only [PyData.eqv]; exact eqvs_self ds h
  | .tuple ds, h => by simp only [PyData.canLay0] at h; simp only [PyData.eqv]; exact eqvs_self ds h
  | .dict _, h => by simp [PyData.canLay0] at h
theorem eqvs_self : ∀ ds : List PyData, PyData.canLayAll0 ds = true → PyData.eqvAll ds ds = true
  | [], _ => by simp [PyData.eqvAll]
  | d :: ds, h => by
    simp only [PyData.canLayAll0, Bool.and_eq_true] at h
    simp only [PyData.eqvAll, eqv_self d h.1, eqvs_self ds h.2, Bool.and_self]
end
theorem ne_self {p : PV} (h : SeqAt.shaped (toD p) = true) : pNe p p = some false := by
  unfold pNe
  rw [if_pos ⟨h, h⟩, eqv_self _ (SeqAt.canLay_of_shaped h)]
  rfl
def isBl (b : Bool) : R PV → Bool
  | .ok (.bl c) => c == b
  | _ => false
theorem isBl_ok {b : Bool} {r : R PV} (h : isBl b r = true) : r = .ok (.bl b) := by
  cases r with
  | ok v => cases v <;> first | (have h2 : _ = b := eq_of_beq h; rw [h2]) | cases h
  | ex _ => cases h
  | bad => cases h
end Tw
set_option Elab.async false
set_option linter.all false
set_option maxRecDepth 100000
set_option maxHeartbeats 4000000
namespace Tw
open PySem PySem.Spec PyProof.Rows L2 Pv
local instance : TabCx := TabCx.nil
abbrev S (x : String) : PV := .str (Str.ofString x)
abbrev T (x : List Nat) : PV := .str (mk x)
def sc (s : String) : List Nat := s.toList.map Char.toNat
theorem ofS (s : String) : Str.ofString s = mk (sc s) := Str.ofString_eq_toList s
theorem sc_lt (s : String) : ∀ c ∈ sc s, c < 1114112 := by
  intro c hc
  unfold sc at hc
  obtain ⟨x, _, rfl⟩ := List.mem_map.mp hc
  have := x.valid
  show x.val.toNat < 1114112
  rcases this with h | h
  · exact Nat.lt_trans h (by decide)
  · exact h.2
theorem sc_inj {a b : String} (h : sc a = sc b) : a = b := by
  unfold sc at h
  have : a.toList = b.toList := by
    refine List.map_inj_right (f := Char.toNat) ?_ |>.mp h
    intro x y hxy
    exact Char.ext (UInt32.toNat_inj.mp hxy)
  exact String.toList_inj.mp this
@[simp] theorem pEq_S (a b : String) : pEq (.str (Str.ofString a)) (.str (Str.ofString b)) = some (decide (a = b)) := by
  rw [ofS, ofS, pEq_ss (sc_lt a) (sc_lt b)]
  congr 1
  exact decide_eq_decide.mpr ⟨sc_inj, fun h => by rw [h]⟩
@[simp] theorem pNe_S (a b : String) : pNe (.str (Str.ofString a)) (.str (Str.ofString b)) = some (!decide (a = b)) := by
  rw [ofS, ofS, pNe_ss (sc_lt a) (sc_lt b)]
  congr 2
  exact decide_eq_decide.mpr ⟨sc_inj, fun h => by rw [h]⟩
theorem eqv_ss (a b : List Nat) : PyData.eqv (.str (mk a)) (.str (mk b)) = decide (a = b) := by
  simp [PyData.eqv]
theorem inL_T {x : List Nat} : ∀ (l : List (List Nat)), inL (T x) (l.map T) = decide (x ∈ l)
  | [] => rfl
  | y :: r => by
    have ih := inL_T (x := x) r
    have e : inL (T x) ((y :: r).map T) = (PyData.eqv (toD (T y)) (toD (T x)) || inL (T x) (r.map T)) := rfl
    rw [e, ih]
    simp only [toD, eqv_ss]
    by_cases h : y = x
    · simp [h]
    · have h2 : ¬ x = y := fun z => h z.symm
      simp [h, h2]
theorem lay_T {l : List (List Nat)} (h : ∀ x ∈ l, ∀ c ∈ x, c < 1114112) : PyData.canLayAll0 (toDs (l.map T)) = true := by
  induction l with
  | nil => rfl
  | cons x r ih =>
    simp only [List.map_cons, toDs, toD, PyData.canLayAll0, PyData.canLay0, Bool.and_eq_true]
    exact ⟨strOk_mk (h x List.mem_cons_self), ih fun y hy => h y (List.mem_cons_of_mem _ hy)⟩
theorem dep_T : ∀ l : List (List Nat), PyData.depthAll (toDs (l.map T)) = 0
  | [] => rfl
  | x :: r => by simp only [List.map_cons, toDs, toD, PyData.depthAll, PyData.depth, dep_T r]; rfl
theorem sh_T {x : List Nat} (h : ∀ c ∈ x, c < 1114112) : SeqAt.shaped (toD (T x)) = true := by simp only [toD]; exact sh_str h
theorem sh_TL {l : List (List Nat)} (h : ∀ x ∈ l, ∀ c ∈ x, c < 1114112) : SeqAt.shaped (toD (.lst (l.map T))) = true := by
  simp only [toD]
  exact shaped_of (by simp only [PyData.canLay0]; exact lay_T h) (by simp only [PyData.depth, dep_T]; omega)
theorem sh_TT {l : List (List Nat)} (h : ∀ x ∈ l, ∀ c ∈ x, c < 1114112) : SeqAt.shaped (toD (.tup (l.map T))) = true := by
  simp only [toD]
  exact shaped_of (by simp only [PyData.canLay0]; exact lay_T h) (by simp only [PyData.depth, dep_T]; omega)
theorem pIn_TL {x : List Nat} {l : List (List Nat)} (hx : ∀ c ∈ x, c < 1114112) (h : ∀ y ∈ l, ∀ c ∈ y, c < 1114112) : pIn (T x) (.lst (l.map T)) = some (decide (x ∈ l)) := by
  simp only [pIn]
  rw [if_pos ⟨sh_T hx, sh_TL h⟩, inL_T]
theorem pIn_TT {x : List Nat} {l : List (List Nat)} (hx : ∀ c ∈ x, c < 1114112) (h : ∀ y ∈ l, ∀ c ∈ y, c < 1114112) : pIn (T x) (.tup (l.map T)) = some (decide (x ∈ l)) := by
  simp only [pIn]
  rw [if_pos ⟨sh_T hx, sh_TT h⟩, inL_T]
theorem pNotIn_TL {x : List Nat} {l : List (List Nat)} (hx : ∀ c ∈ x, c < 1114112) (h : ∀ y ∈ l, ∀ c ∈ y, c < 1114112) : pNotIn (T x) (.lst (l.map T)) = some (!decide (x ∈ l)) := by
  unfold pNotIn
  rw [pIn_TL hx h]
  rfl
@[simp] theorem pIn_ST (a : String) (l : List String) : pIn (.str (Str.ofString a)) (.tup (l.map fun b => .str (Str.ofString b))) = some (decide (a ∈ l)) := by
  have e : (l.map fun b => PV.str (Str.ofString b)) = (l.map sc).map T := by
    rw [List.map_map]
    exact List.map_congr_left fun b _ => by simp only [Function.comp, ofS]
  rw [e, ofS, pIn_TT (sc_lt a) (fun y hy => by obtain ⟨b, _, rfl⟩ := List.mem_map.mp hy; exact sc_lt b)]
  congr 1
  refine decide_eq_decide.mpr ⟨fun h => ?_, fun h => List.mem_map.mpr ⟨a, h, rfl⟩⟩
  obtain ⟨b, hb, e⟩ := List.mem_map.mp h
  rw [← sc_inj e]
  exact hb
theorem for_fold {α σ : Type} {t : Tgt} {body : Fm → RS} {wp : List Nat} (em : α → PV) (P : σ → Fm) (step : σ → α → σ) : ∀ (as : List α) (Q : σ → List α → Prop) (s : σ), Q s as →
    (∀ s a r, Q s (a :: r) → ∃ e1 e2, t (em a) (P s) = some e1 ∧ (body e1 = .nx e2 ∨ body e1 = .ct e2) ∧ clr e2 wp = P (step s a) ∧ Q (step s a) r) →
    forGo t body wp (as.map em) (P s) = .nx (P (as.foldl step s)) ∧ Q (as.foldl step s) []
  | [], Q, s, q, _ => ⟨rfl, q⟩
  | a :: r, Q, s, q, h => by
    obtain ⟨e1, e2, h1, h2, h3, h4⟩ := h s a r q
    obtain ⟨i1, i2⟩ := for_fold (t := t) (body := body) (wp := wp) em P step r Q (step s a) h4 h
    refine ⟨?_, i2⟩
    rw [List.map_cons, forGo, h1]
    rcases h2 with h2 | h2 <;> simp only [h2, h3, i1, List.foldl_cons]
def retO {α : Type} (P : Fm) (v : α → PV) : Option α → RS
  | some a => .rt (v a)
  | none => .nx P
theorem for_ret {α : Type} {t : Tgt} {body : Fm → RS} {wp : List Nat} {P : Fm} (em : α → PV) (p : α → Bool) (v : α → PV) : ∀ (as : List α),
    (∀ a ∈ as, p a = false → ∃ e1 e2, t (em a) P = some e1 ∧ (body e1 = .nx e2 ∨ body e1 = .ct e2) ∧ clr e2 wp = P) → (∀ a ∈ as, p a = true → ∃ e1, t (em a) P = some e1 ∧ body e1 = .rt (v a)) →
    forGo t body wp (as.map em) P = retO P v (as.find? p)
  | [], _, _ => rfl
  | a :: r, h1, h2 => by
    rw [List.map_cons, forGo, List.find?_cons]
    cases q : p a with
    | true =>
      obtain ⟨e1, k1, k2⟩ := h2 a List.mem_cons_self q
      simp only [k1, k2, retO]
    | false =>
      obtain ⟨e1, e2, k1, k2, k3⟩ := h1 a List.mem_cons_self q
      have ih := for_ret (t := t) (body := body) (wp := wp) (P := P) em p v r (fun x hx => h1 x (List.mem_cons_of_mem _ hx)) (fun x hx => h2 x (List.mem_cons_of_mem _ hx))
      rcases k2 with k2 | k2 <;> simp only [k1, k2, k3, ih]
theorem for_look {α : Type} {t : Tgt} {body : Fm → RS} {wp : List Nat} {P : Fm} (em : α → PV) (as : List α) (h : ∀ a ∈ as, ∃ e1 e2, t (em a) P = some e1 ∧ (body e1 = .nx e2 ∨ body e1 = .ct e2) ∧ clr e2 wp = P) : forGo t body wp (as.map em) P = .nx P := by
  have := for_ret (t := t) (body := body) (wp := wp) (P := P) em (fun _ => false) (fun _ => .non) as (fun a ha _ => h a ha) (fun a _ q => by cases q)
  rw [this]
  have e : as.find? (fun _ => false) = none := by simp
  rw [e]
  rfl
end Tw
set_option Elab.async false
set_option linter.all false
set_option maxRecDepth 100000
set_option maxHeartbeats 4000000
namespace Tw
open PySem PySem.Spec PyProof.Rows L2 Pv
local instance : TabCx := TabCx.nil
structure Mkr where
  nm : List Nat
  sc : Nat
  ws : List (List Nat)
  rs : List Int
  up : PV
  tm : PV
  dn : PV
structure Tb where
  cs : List (List Nat)
  rw : List (List Int)
inductive Hs where
  | tr (nm : List Nat) (mk : List (List Nat)) (ts : List Tb) (ws : List (List Nat)) (bd : PV)
  | gr (nm : List Nat) (mk : List (List Nat)) (ms : List Mkr) (hs : List Hs)
def scw : Nat → PV
  | 0 => S "run"
  | 1 => S "group"
  | _ => S "try"
def embM (m : Mkr) : PV := .tup [S "maker", T m.nm, scw m.sc, .tup (m.ws.map T), .tup (m.rs.map .int), m.up, m.tm, m.dn]
def embB (t : Tb) : PV := .tup [.tup (t.cs.map T), .tup (t.rw.map fun r => .tup (r.map .int))]
mutual
def embH : Hs → PV
  | .tr n k ts ws b => .tup [S "try", T n, .tup (k.map T), .tup (ts.map embB), .tup (ws.map T), b]
  | .gr n k ms hs => .tup [S "group", T n, .tup (k.map T), .tup (ms.map embM), .tup (embHs hs)]
def embHs : List Hs → List PV
  | [] => []
  | h :: hs => embH h :: embHs hs
end
theorem embHs_map : ∀ hs : List Hs, embHs hs = hs.map embH
  | [] => by simp only [embHs, List.map_nil]
  | h :: hs => by simp only [embHs, List.map_cons, embHs_map hs]
theorem embH_tr (n : List Nat) (k : List (List Nat)) (ts : List Tb) (ws : List (List Nat)) (b : PV) : embH (.tr n k ts ws b) = .tup [S "try", T n, .tup (k.map T), .tup (ts.map embB), .tup (ws.map T), b] := by rw [embH]
theorem embH_gr (n : List Nat) (k : List (List Nat)) (ms : List Mkr) (hs : List Hs) : embH (.gr n k ms hs) = .tup [S "group", T n, .tup (k.map T), .tup (ms.map embM), .tup (hs.map embH)] := by rw [embH, embHs_map]
def Hs.nm : Hs → List Nat
  | .tr n _ _ _ _ => n
  | .gr n _ _ _ => n
def Hs.marks : Hs → List (List Nat)
  | .tr _ k _ _ _ => k
  | .gr _ k _ _ => k
def Hs.ms : Hs → List Mkr
  | .tr _ _ _ _ _ => []
  | .gr _ _ m _ => m
def Hs.isG : Hs → Bool
  | .tr _ _ _ _ _ => false
  | .gr _ _ _ _ => true
def Hs.hs : Hs → List Hs
  | .tr _ _ _ _ _ => []
  | .gr _ _ _ h => h
@[simp] theorem idx1 (h : Hs) : pIdx (embH h) (.int 1) = some (T h.nm) := by
  cases h with
  | tr => rw [embH_tr]; rfl
  | gr => rw [embH_gr]; rfl
@[simp] theorem idx2 (h : Hs) : pIdx (embH h) (.int 2) = some (.tup (h.marks.map T)) := by
  cases h with
  | tr => rw [embH_tr]; rfl
  | gr => rw [embH_gr]; rfl
@[simp] theorem idx0 (h : Hs) : pIdx (embH h) (.int 0) = some (S (if h.isG = true then "group" else "try")) := by
  cases h with
  | tr => rw [embH_tr]; rfl
  | gr => rw [embH_gr]; rfl
theorem idx3 {h : Hs} (g : h.isG = true) : pIdx (embH h) (.int 3) = some (.tup (h.ms.map embM)) := by
  cases h with
  | tr => cases g
  | gr => rw [embH_gr]; rfl
theorem idx4 {h : Hs} (g : h.isG = true) : pIdx (embH h) (.int 4) = some (.tup (h.hs.map embH)) := by
  cases h with
  | tr => cases g
  | gr => rw [embH_gr]; rfl
abbrev Ch := List Hs
def place : Ch → List Nat
  | [] => []
  | h :: r => match r with
    | [] => h.nm
    | _ :: _ => place r ++ [47] ++ h.nm
def spotV : Ch → PV
  | [] => .non
  | h :: r => .ins (Str.ofString "Spot") [embH h, spotV r, T (place (h :: r))]
abbrev MC := Mkr × Ch
def mpl (q : MC) : List Nat := place q.2 ++ [58] ++ q.1.nm
def madeV (q : MC) : PV := .ins (Str.ofString "Made") [embM q.1, spotV q.2, T (mpl q)]
def okW (x : List Nat) : Prop := x ≠ [] ∧ x.length ≤ 10 ∧ ∀ c ∈ x, 97 ≤ c ∧ c ≤ 122
theorem okW.lt {x : List Nat} (h : okW x) : ∀ c ∈ x, c < 1114112 := fun c hc => by have := (h.2.2 c hc).2; omega
def okC (c : Ch) : Prop := c.length ≤ 8 ∧ ∀ h ∈ c, okW h.nm
theorem okC.tail {h : Hs} {r : Ch} (o : okC (h :: r)) : okC r := ⟨by have := o.1; simp only [List.length_cons] at this; omega, fun x hx => o.2 x (List.mem_cons_of_mem _ hx)⟩
theorem okC.head {h : Hs} {r : Ch} (o : okC (h :: r)) : okW h.nm := o.2 h List.mem_cons_self
theorem place_one (h : Hs) : place [h] = h.nm := rfl
theorem place_two (h g : Hs) (r : Ch) : place (h :: g :: r) = place (g :: r) ++ [47] ++ h.nm := rfl
theorem place_len : ∀ {c : Ch}, (∀ h ∈ c, okW h.nm) → (place c).length ≤ 11 * c.length
  | [], _ => Nat.zero_le _
  | [h], o => by
    have := (o h List.mem_cons_self).2.1
    rw [place_one, List.length_singleton]
    omega
  | h :: g :: r, o => by
    have i := place_len (c := g :: r) fun x hx => o x (List.mem_cons_of_mem _ hx)
    have := (o h List.mem_cons_self).2.1
    rw [place_two, List.length_append, List.length_append, List.length_singleton, List.length_cons]
    omega
theorem okC.len {c : Ch} (o : okC c) : (place c).length ≤ 88 := by have := place_len o.2; have := o.1; omega
theorem place_lt : ∀ {c : Ch}, (∀ h ∈ c, okW h.nm) → ∀ x ∈ place c, x < 1114112
  | [], _, x, hx => by cases hx
  | [h], o, x, hx => (o h List.mem_cons_self).lt x hx
  | h :: g :: r, o, x, hx => by
    rw [place_two, List.mem_append, List.mem_append] at hx
    rcases hx with (hx | hx) | hx
    · exact place_lt (c := g :: r) (fun y hy => o y (List.mem_cons_of_mem _ hy)) x hx
    · rw [List.mem_singleton] at hx; subst hx; decide
    · exact (o h List.mem_cons_self).lt x hx
theorem mpl_lt {q : MC} (o : okC q.2) (w : okW q.1.nm) : ∀ x ∈ mpl q, x < 1114112 := fun x hx => by
  unfold mpl at hx
  rw [List.mem_append, List.mem_append] at hx
  rcases hx with (hx | hx) | hx
  · exact place_lt o.2 x hx
  · rw [List.mem_singleton] at hx; subst hx; decide
  · exact w.lt x hx
theorem S_sl : Str.ofString "/" = mk [47] := by decide +kernel
theorem S_co : Str.ofString ":" = mk [58] := by decide +kernel
theorem add_T {a b : List Nat} (h : a.length + b.length ≤ 100000) : pAdd (T a) (T b) = some (T (a ++ b)) := by
  rw [pAdd_ss, if_pos (by rw [mk_len, mk_len]; exact sz h), mk_app]
theorem G_spotI {h : Hs} {r : Ch} (o : okC (h :: r)) : G_Spot_init (uns 3) [embH h, spotV r] = .ok .non [.pv (embH h), .pv (spotV r), .pv (T (place (h :: r)))] := by
  cases r with
  | nil =>
    simp [G_Spot_init, D_Spot_init, fmM, fm0, uns, dFSet, setFld, ofF, spotV, place_one, notUn, toM]
  | cons g r =>
    have l1 := o.tail.len
    have l2 := o.head.2.1
    simp only [G_Spot_init, D_Spot_init, fmM, fm0, uns, spotV, place_two]
    simp [dFSet, setFld, ofF, notUn, toM, pAttr, S_sl, Pv.isNon, -pAdd_ss, add_T (a := place (g :: r)) (b := [47]) (by simp; omega), add_T (a := place (g :: r) ++ [47]) (b := h.nm) (by simp; omega)]
end Tw
set_option Elab.async false
set_option linter.all false
set_option maxRecDepth 100000
set_option maxHeartbeats 4000000
namespace Tw
open PySem PySem.Spec PyProof.Rows L2 Pv
local instance : TabCx := TabCx.nil
@[simp] theorem dMF_ap (c : Str) (g : List PV → R (List PV)) (da : Fm → R PV) (d : Fm → R (List PV)) (env : Fm) : dMF c g da d env = (da env).bind fun x => match x with | .ins c' fs => if c' = c then (d env).bind fun es => g (.ins c fs :: es) else .bad | _ => .bad := rfl
@[simp] theorem dMV_ap (c : Str) (g : List PV → R PV) (da : Fm → R PV) (d : Fm → R (List PV)) (env : Fm) : dMV c g da d env = (da env).bind fun x => match x with | .ins c' fs => if c' = c then (d env).bind fun es => g (.ins c fs :: es) else .bad | _ => .bad := rfl
@[simp] theorem pAttr_is (c : Str) (j : Nat) (fs : List PV) : pAttr c j (.ins c fs) = fs[j]? := by simp [pAttr]
theorem dMake_spot {h : Hs} {r : Ch} (o : okC (h :: r)) {d : Fm → R (List PV)} {env : Fm} (e : d env = .ok [embH h, spotV r]) : dMake 3 (Str.ofString "Spot") G_Spot_init d env = .ok (spotV (h :: r)) := by
  unfold dMake
  rw [e]
  simp only [R.bind_ok, G_spotI o]
  simp [frzV, frzVs, spotV]
def sufs : Ch → List Ch
  | [] => []
  | h :: r => (h :: r) :: sufs r
theorem G_inner {h : Hs} {r : Ch} (o : ∀ m ∈ h.hs, okC (m :: h :: r)) (hz : h.hs.length ≤ 100000) : G_Spot_inner [spotV (h :: r)] = .ok (h.hs.map fun m => spotV (m :: h :: r)) := by
  have key : h.isG = true → C_Spot_inner_1 G_Spot_init [.pv (spotV (h :: r)), .un] = .ok (h.hs.map fun m => spotV (m :: h :: r)) := fun g => by
    unfold C_Spot_inner_1
    refine dLc_all h.hs embH (fun m => spotV (m :: h :: r)) ?_ hz fun m hm => ?_
    · simp [spotV, idx4 g]
    · refine ⟨_, rfl, ?_⟩
      refine dMake_spot (o m hm) ?_
      simp
  cases h with
  | gr n k ms hs =>
    have := key rfl
    simp only [G_Spot_inner, D_Spot_inner, fm0]
    simp [spotV] at this ⊢
    simp [this, Hs.isG, toF, dRetF]
  | tr n k ts ws b => simp [G_Spot_inner, D_Spot_inner, fm0, spotV, Hs.isG, Hs.hs, toF, dRetF]
theorem at_last {α : Type} (l : List α) (x : α) : L2.atI (l ++ [x]) (-1) = some x := by
  have e : L2.ixN (l ++ [x]).length (-1) = some l.length := by
    unfold L2.ixN
    simp only [List.length_append, List.length_singleton]
    rw [if_neg (by omega), if_pos (by omega)]
    congr 1
    omega
  unfold L2.atI
  rw [e]
  simp
theorem sp0 (h : Hs) (r : Ch) : pAttr (Str.ofString "Spot") 0 (spotV (h :: r)) = some (embH h) := by rw [spotV, pAttr_is]; rfl
theorem sp1 (h : Hs) (r : Ch) : pAttr (Str.ofString "Spot") 1 (spotV (h :: r)) = some (spotV r) := by rw [spotV, pAttr_is]; rfl
theorem sp2 (h : Hs) (r : Ch) : pAttr (Str.ofString "Spot") 2 (spotV (h :: r)) = some (T (place (h :: r))) := by rw [spotV, pAttr_is]; rfl
theorem wh_groups : ∀ (n : Nat) (c : Ch) (pre : List Ch) (a : PV), c.length + pre.length < 50 → c ≠ [] → c.length ≤ n →
    whGo (d1 pNotN (d1 (pAttr (Str.ofString "Spot") 1) (d2 pIdx (dR 1) (d1 pNeg (dC (.int 1)))))) B_Spot_groups_1 [] n [.pv a, .own ((pre.map spotV) ++ [spotV c])] = .nx [.pv a, .own ((pre.map spotV) ++ (sufs c).map spotV)]
  | 0, c, pre, a, _, hc, hn => by
    cases c with
    | nil => exact absurd rfl hc
    | cons _ _ => simp at hn
  | n + 1, [], pre, a, _, hc, _ => absurd rfl hc
  | n + 1, [h], pre, a, hl, _, _ => by
    have c1 : (d1 pNotN (d1 (pAttr (Str.ofString "Spot") 1) (d2 pIdx (dR 1) (d1 pNeg (dC (.int 1)))))) [.pv a, .own ((pre.map spotV) ++ [spotV [h]])] = .ok false := by
      simp only [d1_ap, d2_ap, dR_ap, dC_ap, R.bind_ok, pNeg_i, ofO_some, pIdx_l, List.getElem?_cons_succ, List.getElem?_cons_zero, at_last, sp1, pNotN_ap, show Pv.isNon (spotV []) = true from by rw [spotV]; rfl, Bool.not_true]
    rw [whGo, c1]
    simp [sufs]
  | n + 1, h :: g :: r, pre, a, hl, _, hn => by
    have ih := wh_groups n (g :: r) (pre ++ [h :: g :: r]) a (by simp at hl ⊢; omega) (by simp) (by simp at hn ⊢; omega)
    have e3 : Pv.isNon (spotV (g :: r)) = false := rfl
    have hz : (pre.map spotV ++ [spotV (h :: g :: r)]).length < sizeLine := szl (by simp at hl ⊢; omega)
    have c1 : (d1 pNotN (d1 (pAttr (Str.ofString "Spot") 1) (d2 pIdx (dR 1) (d1 pNeg (dC (.int 1)))))) [.pv a, .own ((pre.map spotV) ++ [spotV (h :: g :: r)])] = .ok true := by
      simp only [d1_ap, d2_ap, dR_ap, dC_ap, R.bind_ok, pNeg_i, ofO_some, pIdx_l, List.getElem?_cons_succ, List.getElem?_cons_zero, at_last, sp1, pNotN_ap, e3, Bool.not_false]
    have c2 : B_Spot_groups_1 [.pv a, .own ((pre.map spotV) ++ [spotV (h :: g :: r)])] = .nx [.pv a, .own (((pre ++ [h :: g :: r]).map spotV) ++ [spotV (g :: r)])] := by
      unfold B_Spot_groups_1 dApp
      simp only [d1_ap, d2_ap, dR_ap, dC_ap, R.bind_ok, pNeg_i, ofO_some, pIdx_l, List.getElem?_cons_succ, List.getElem?_cons_zero, at_last, sp1]
      rw [if_pos hz]
      simp
    rw [whGo, c1]
    simp only [c2, clr_nil, ih]
    simp [sufs]
theorem G_groups {c : Ch} (hc : c ≠ []) (hl : c.length ≤ 8) : G_Spot_groups [spotV c] = .ok ((sufs c).map spotV) := by
  have := wh_groups 64 c [] (spotV c) (by simp; omega) hc (by omega)
  simp only [List.map_nil, List.nil_append] at this
  simp only [G_Spot_groups, D_Spot_groups, fm0, L_Spot_groups_1]
  simp [dWhile, this, dRetO, toF]
mutual
def allS' : Hs → Ch → List Ch
  | .tr n k ts ws b, r => [.tr n k ts ws b :: r]
  | .gr n k ms hs, r => (.gr n k ms hs :: r) :: allSs hs (.gr n k ms hs :: r)
def allSs : List Hs → Ch → List Ch
  | [], _ => []
  | h :: hs, r => allS' h r ++ allSs hs r
end
theorem allSs_flat : ∀ (hs : List Hs) (r : Ch), allSs hs r = hs.flatMap fun h => allS' h r
  | [], r => by simp only [allSs, List.flatMap_nil]
  | h :: hs, r => by simp only [allSs, List.flatMap_cons, allSs_flat hs r]
theorem allS_eq (h : Hs) (r : Ch) : allS' h r = (h :: r) :: h.hs.flatMap fun m => allS' m (h :: r) := by
  cases h with
  | tr => simp only [allS', Hs.hs, List.flatMap_nil]
  | gr => rw [allS', allSs_flat]; rfl
mutual
def dep : Hs → Nat
  | .tr _ _ _ _ _ => 1
  | .gr _ _ _ hs => deps hs + 1
def deps : List Hs → Nat
  | [] => 0
  | h :: hs => max (dep h) (deps hs)
end
theorem dep_mem {h : Hs} : ∀ {hs : List Hs}, h ∈ hs → dep h ≤ deps hs
  | [], z => by cases z
  | g :: hs, z => by
    rw [deps]
    rcases List.mem_cons.mp z with rfl | z
    · exact Nat.le_max_left _ _
    · exact Nat.le_trans (dep_mem z) (Nat.le_max_right _ _)
theorem dep_hs {h m : Hs} (hm : m ∈ h.hs) : dep m < dep h := by
  cases h with
  | tr => cases hm
  | gr n k ms hs =>
    have := dep_mem (hs := hs) hm
    rw [dep]
    omega
inductive GN : Hs → Ch → Prop
  | mk {h : Hs} {r : Ch} : okC (h :: r) → h.hs.length ≤ 8 → (∀ m ∈ h.hs, GN m (h :: r)) → GN h r
theorem GN.ok {h : Hs} {r : Ch} (g : GN h r) : okC (h :: r) := by cases g with | mk a b c => exact a
theorem GN.few {h : Hs} {r : Ch} (g : GN h r) : h.hs.length ≤ 8 := by cases g with | mk a b c => exact b
theorem GN.sub {h m : Hs} {r : Ch} (g : GN h r) (hm : m ∈ h.hs) : GN m (h :: r) := by cases g with | mk a b c => exact c m hm
theorem allL_len : ∀ (n : Nat) {h : Hs} {r : Ch}, dep h ≤ n → GN h r → (allS' h r).length ≤ 9 ^ n
  | 0, h, r, hd, _ => by
    have : 0 < dep h := by cases h <;> rw [dep] <;> omega
    omega
  | n + 1, h, r, hd, g => by
    rw [allS_eq, List.length_cons, List.length_flatMap]
    have h1 : ∀ m ∈ h.hs, (allS' m (h :: r)).length ≤ 9 ^ n := fun m hm => allL_len n (by have := dep_hs hm; omega) (g.sub hm)
    have h2 : (h.hs.map fun m => (allS' m (h :: r)).length).sum ≤ h.hs.length * 9 ^ n := by
      generalize h.hs = l at h1
      induction l with
      | nil => simp
      | cons m l ih =>
        have i := ih fun x hx => h1 x (List.mem_cons_of_mem _ hx)
        have j := h1 m List.mem_cons_self
        simp only [List.map_cons, List.sum_cons, List.length_cons]
        rw [Nat.succ_mul]
        omega
    have h3 := g.few
    have h4 : h.hs.length * 9 ^ n ≤ 8 * 9 ^ n := Nat.mul_le_mul_right _ h3
    have h5 : 1 ≤ 9 ^ n := Nat.one_le_pow _ _ (by decide)
    rw [Nat.pow_succ]
    omega
theorem fCat_ok {a b : List PV} (h : a.length + b.length ≤ 100000) : fCat (.lst a) (.lst b) = some (a ++ b) := by rw [fCat_ll, if_pos (sz h)]
theorem dep_pos (h : Hs) : 0 < dep h := by cases h <;> rw [dep] <;> omega
theorem G_allS : ∀ (n : Nat) {h : Hs} {r : Ch}, dep h ≤ n → dep h ≤ 4 → GN h r → G_all_spots n [spotV (h :: r)] = .ok (.lst ((allS' h r).map spotV))
  | 0, h, r, hd, _, _ => by
    have := dep_pos h
    omega
  | n + 1, h, r, hd, hn, g => by
    have e1 := G_inner (h := h) (r := r) (fun m hm => (g.sub hm).ok) (by have := g.few; omega)
    have loop : forGo (tgN 2) (B_all_spots_1 (G_all_spots n)) [2] ((h.hs).map fun m => spotV (m :: h :: r)) [.pv (spotV (h :: r)), .pv (.lst [spotV (h :: r)]), .un] = .nx [.pv (spotV (h :: r)), .pv (.lst ((allS' h r).map spotV)), .un] := by
      have := (for_fold (t := tgN 2) (body := B_all_spots_1 (G_all_spots n)) (wp := [2]) (fun m => spotV (m :: h :: r)) (fun (s : List Ch) => [.pv (spotV (h :: r)), .pv (.lst (s.map spotV)), .un]) (fun s m => s ++ allS' m (h :: r)) h.hs
        (fun s l => (∀ m ∈ l, m ∈ h.hs) ∧ s.length + l.length * 6561 ≤ 80000) [h :: r] ⟨fun _ z => z, by have := g.few; simp; omega⟩ fun s m l q => ?_).1
      · have e2 : h.hs.foldl (fun s m => s ++ allS' m (h :: r)) [h :: r] = allS' h r := by
          have gen : ∀ (l : List Hs) (s : List Ch), l.foldl (fun s m => s ++ allS' m (h :: r)) s = s ++ l.flatMap fun m => allS' m (h :: r) := by
            intro l
            induction l with
            | nil => intro s; simp
            | cons m l ih => intro s; rw [List.foldl_cons, ih, List.flatMap_cons, List.append_assoc]
          rw [gen, allS_eq]
          rfl
        rw [e2] at this
        exact this
      · have gm := g.sub (q.1 m List.mem_cons_self)
        have dm := dep_hs (q.1 m List.mem_cons_self)
        have ih := G_allS n (h := m) (r := h :: r) (by omega) (by omega) gm
        have lm := allL_len 4 (by omega) gm
        have hq := q.2
        rw [List.length_cons, Nat.succ_mul] at hq
        refine ⟨_, [.pv (spotV (h :: r)), .pv (.lst ((s ++ allS' m (h :: r)).map spotV)), .pv (spotV (m :: h :: r))], rfl, .inl ?_, rfl, fun x hx => q.1 x (List.mem_cons_of_mem _ hx), ?_⟩
        · have e3 : fCat (.lst (s.map spotV)) (.lst ((allS' m (h :: r)).map spotV)) = some ((s ++ allS' m (h :: r)).map spotV) := by
            rw [fCat_ok (by simp only [List.length_map]; omega), List.map_append]
          generalize (allS' m (h :: r)).map spotV = M at ih e3
          generalize (s ++ allS' m (h :: r)).map spotV = M2 at e3 ⊢
          generalize s.map spotV = M3 at e3 ⊢
          simp [B_all_spots_1, ih, e3]
        · rw [List.length_append]
          omega
    simp only [G_all_spots, D_all_spots, L_all_spots_1, fm0]
    have e0 : spotV (h :: r) = .ins (Str.ofString "Spot") [embH h, spotV r, T (place (h :: r))] := by rw [spotV]
    generalize (allS' h r).map spotV = M at loop ⊢
    generalize h.hs.map (fun m => spotV (m :: h :: r)) = M2 at loop e1
    rw [e0] at e1 loop ⊢
    simp [dFor, e1, loop]
theorem G_spots {h : Hs} (g : GN h []) (hd : dep h ≤ 4) : G_spots_of [embH h] = .ok (.lst ((allS' h []).map spotV)) := by
  have e1 := G_allS 6 (h := h) (r := []) (by omega) hd g
  have e2 : dMake 3 (Str.ofString "Spot") G_Spot_init (dCons (dV 0) (dCons (dC .non) dNil)) [.pv (embH h)] = .ok (spotV [h]) := dMake_spot g.ok rfl
  simp only [G_spots_of, D_spots_of, fm0]
  simp [e2, e1]
end Tw
set_option Elab.async false
set_option linter.all false
set_option maxRecDepth 100000
set_option maxHeartbeats 4000000
namespace Tw
open PySem PySem.Spec PyProof.Rows L2 Pv
local instance : TabCx := TabCx.nil
def metC (x : List Nat) : Ch → Option MC
  | [] => none
  | h :: r => match h.ms.find? fun m => decide (m.nm = x) with
    | some m => some (m, h :: r)
    | none => metC x r
def optV : Option MC → PV
  | some q => madeV q
  | none => .non
structure okG (c : Ch) : Prop where
  ok : okC c
  gr : ∀ h ∈ c, h.isG = true
  nm : ∀ h ∈ c, ∀ m ∈ h.ms, okW m.nm
  few : ∀ h ∈ c, h.ms.length ≤ 100
theorem okG.tail {h : Hs} {r : Ch} (o : okG (h :: r)) : okG r := ⟨o.ok.tail, fun x hx => o.gr x (List.mem_cons_of_mem _ hx), fun x hx => o.nm x (List.mem_cons_of_mem _ hx), fun x hx => o.few x (List.mem_cons_of_mem _ hx)⟩
@[simp] theorem idxM1 (m : Mkr) : pIdx (embM m) (.int 1) = some (T m.nm) := rfl
@[simp] theorem idxM2 (m : Mkr) : pIdx (embM m) (.int 2) = some (scw m.sc) := rfl
@[simp] theorem idxM3 (m : Mkr) : pIdx (embM m) (.int 3) = some (.tup (m.ws.map T)) := rfl
@[simp] theorem idxM4 (m : Mkr) : pIdx (embM m) (.int 4) = some (.tup (m.rs.map .int)) := rfl
theorem dMake_made {q : MC} (o : okC q.2) (hq : q.2 ≠ []) (w : okW q.1.nm) {d : Fm → R (List PV)} {env : Fm} (e : d env = .ok [embM q.1, spotV q.2]) : dMake 3 (Str.ofString "Made") G_Made_init d env = .ok (madeV q) := by
  obtain ⟨m, c⟩ := q
  cases c with
  | nil => exact absurd rfl hq
  | cons h r =>
    have l1 : (place (h :: r)).length ≤ 88 := o.len
    have l2 : m.nm.length ≤ 10 := w.2.1
    have key : G_Made_init (uns 3) [embM m, spotV (h :: r)] = .ok .non [.pv (embM m), .pv (spotV (h :: r)), .pv (T (mpl (m, h :: r)))] := by
      simp only [G_Made_init, D_Made_init, fmM, fm0, uns, mpl]
      simp [dFSet, setFld, ofF, notUn, toM, sp2, S_co, -pAdd_ss, add_T (a := place (h :: r)) (b := [58]) (by simp; omega), add_T (a := place (h :: r) ++ [58]) (b := m.nm) (by simp; omega)]
    unfold dMake
    rw [e]
    simp only [R.bind_ok, key]
    simp [frzV, frzVs, madeV]
theorem met_in {x : List Nat} : ∀ {c : Ch} {q : MC}, metC x c = some q → q.1.nm = x ∧ ∃ p h r, c = p ++ h :: r ∧ q.2 = h :: r ∧ q.1 ∈ h.ms
  | [], q, e => by cases e
  | h :: r, q, e => by
    rw [metC] at e
    cases f : h.ms.find? fun m => decide (m.nm = x) with
    | some m =>
      rw [f] at e
      cases e
      exact ⟨of_decide_eq_true (List.find?_some (p := fun m : Mkr => decide (m.nm = x)) f), [], h, r, rfl, rfl, List.mem_of_find?_eq_some f⟩
    | none =>
      rw [f] at e
      obtain ⟨h1, p, h2, r2, h3, h4, h5⟩ := met_in (c := r) e
      exact ⟨h1, h :: p, h2, r2, by rw [h3]; rfl, h4, h5⟩
theorem go_met {x : List Nat} {a : PV} (hx : ∀ c ∈ x, c < 1114112) : ∀ {c : Ch}, okG c → forGo (tgN 2) (B_met_2 G_Made_init) [2, 3] ((sufs c).map spotV) [.pv (T x), .pv a, .un, .un] = retO [.pv (T x), .pv a, .un, .un] madeV (metC x c)
  | [], _ => rfl
  | h :: r, o => by
    have hm : forGo (tgN 3) (B_met_1 G_Made_init) [3] (h.ms.map embM) [.pv (T x), .pv a, .pv (spotV (h :: r)), .un] = retO [.pv (T x), .pv a, .pv (spotV (h :: r)), .un] (fun m => madeV (m, h :: r)) (h.ms.find? fun m => decide (m.nm = x)) := by
      refine for_ret embM (fun m => decide (m.nm = x)) (fun m => madeV (m, h :: r)) h.ms (fun m hm q => ?_) (fun m hm q => ?_)
      · have w := o.nm h List.mem_cons_self m hm
        refine ⟨_, [.pv (T x), .pv a, .pv (spotV (h :: r)), .pv (embM m)], rfl, .inl ?_, rfl⟩
        simp [B_met_1, pEq_ss w.lt hx, q]
      · have w := o.nm h List.mem_cons_self m hm
        refine ⟨_, rfl, ?_⟩
        have dm : dMake 3 (Str.ofString "Made") G_Made_init (dCons (dV 3) (dCons (dV 2) dNil)) [.pv (T x), .pv a, .pv (spotV (h :: r)), .pv (embM m)] = .ok (madeV (m, h :: r)) := dMake_made (q := (m, h :: r)) o.ok (by simp) w rfl
        simp [B_met_1, pEq_ss w.lt hx, q, dm]
    have ih := go_met (a := a) hx o.tail
    have i3 := idx3 (o.gr h List.mem_cons_self)
    rw [sufs, List.map_cons, forGo]
    have e1 : B_met_2 G_Made_init [.pv (T x), .pv a, .pv (spotV (h :: r)), .un] = retO [.pv (T x), .pv a, .pv (spotV (h :: r)), .un] (fun m => madeV (m, h :: r)) (h.ms.find? fun m => decide (m.nm = x)) := by
      rw [← hm]
      simp only [B_met_2, L_met_1]
      generalize h.ms.map embM = M at i3 ⊢
      simp [dFor, sp0, i3]
    simp only [tgN_ap, List.length_cons, List.length_nil, Nat.reduceAdd, Nat.reduceLT, if_true, List.set_cons_succ, List.set_cons_zero, e1]
    rw [metC]
    cases f : h.ms.find? fun m => decide (m.nm = x) with
    | some m => rfl
    | none =>
      simp only [f]
      exact ih
theorem G_met_ok {x : List Nat} {c : Ch} (hx : ∀ z ∈ x, z < 1114112) (o : okG c) : G_met [T x, .lst ((sufs c).map spotV)] = .ok (optV (metC x c)) := by
  have := go_met (a := .lst ((sufs c).map spotV)) hx o
  simp only [G_met, D_met, L_met_2, fm0]
  generalize (sufs c).map spotV = M at this ⊢
  cases f : metC x c with
  | some q => rw [f] at this; simp [dFor, this, optV, retO]
  | none => rw [f] at this; simp [dFor, this, optV, retO]
end Tw
set_option Elab.async false
set_option linter.all false
set_option maxRecDepth 100000
set_option maxHeartbeats 4000000
namespace Tw
open PySem PySem.Spec PyProof.Rows L2 Pv
local instance : TabCx := TabCx.nil
theorem fSl_from (l : List PV) (k : Nat) : fSl (.lst l) (some (k : Int)) none = some (l.drop k) := by
  show some (cutP l (some (k : Int)) none) = _
  rw [cutP_from]
theorem fSl_1 (l : List PV) : fSl (.lst l) (some 1) none = some (l.drop 1) := fSl_from l 1
theorem fSl_to (l : List PV) (k : Nat) : fSl (.lst l) none (some (k : Int)) = some (l.take k) := by
  show some (cutP l none (some (k : Int))) = _
  rw [cutP_to]
theorem sufs_tail : ∀ (c : Ch), (sufs c).drop 1 = sufs c.tail
  | [] => rfl
  | h :: r => rfl
def wantC (q : MC) : List (Option MC) := q.1.ws.map fun x => metC x (if x = q.1.nm then q.2.tail else q.2)
structure okR (q : MC) : Prop where
  g : okG q.2
  ne : q.2 ≠ []
  w : okW q.1.nm
  ws : ∀ x ∈ q.1.ws, okW x
  few : q.1.ws.length ≤ 4
structure okQ (q : MC) : Prop where
  g : okG q.2
  ne : q.2 ≠ []
  w : okW q.1.nm
  ws : ∀ x ∈ q.1.ws, okW x
  few : q.1.ws.length ≤ 2
theorem okQ.r {q : MC} (o : okQ q) : okR q := ⟨o.g, o.ne, o.w, o.ws, by have := o.few; omega⟩
theorem okG.tl {c : Ch} (o : okG c) : okG c.tail := by
  cases c with
  | nil => exact o
  | cons h r => exact o.tail
theorem md0 (q : MC) : pAttr (Str.ofString "Made") 0 (madeV q) = some (embM q.1) := by rw [madeV, pAttr_is]; rfl
theorem md1 (q : MC) : pAttr (Str.ofString "Made") 1 (madeV q) = some (spotV q.2) := by rw [madeV, pAttr_is]; rfl
theorem md2 (q : MC) : pAttr (Str.ofString "Made") 2 (madeV q) = some (T (mpl q)) := by rw [madeV, pAttr_is]; rfl
theorem G_meetingR {q : MC} (o : okR q) {x : List Nat} (hx : okW x) : G_Made_meeting [madeV q, T x] = .ok (optV (metC x (if x = q.1.nm then q.2.tail else q.2))) := by
  have e0 := G_groups o.ne o.g.ok.1
  have e1 := G_met_ok (x := x) hx.lt o.g
  have e2 := G_met_ok (x := x) hx.lt o.g.tl
  have e3 : fSl (.lst ((sufs q.2).map spotV)) (some 1) none = some ((sufs q.2.tail).map spotV) := by rw [fSl_1, ← List.map_drop, sufs_tail]
  have e4 : ∃ fs, spotV q.2 = .ins (Str.ofString "Spot") fs := by
    cases h : q.2 with
    | nil => exact absurd h o.ne
    | cons a b => exact ⟨_, by rw [spotV]⟩
  obtain ⟨fs, e4⟩ := e4
  have m1 := md1 q
  have m0 := md0 q
  rw [e4] at e0 m1
  simp only [G_Made_meeting, D_Made_meeting, fm0]
  generalize madeV q = MV at m0 m1 ⊢
  generalize (sufs q.2).map spotV = A1 at e0 e1 e3
  generalize (sufs q.2.tail).map spotV = A2 at e2 e3
  by_cases c : x = q.1.nm
  · have pq : pEq (T x) (T q.1.nm) = some true := by rw [pEq_ss hx.lt o.w.lt, decide_eq_true c]
    rw [if_pos c]
    simp [m1, m0, e0, pq, dSl, e3, e2]
  · have pq : pEq (T x) (T q.1.nm) = some false := by rw [pEq_ss hx.lt o.w.lt, decide_eq_false c]
    rw [if_neg c]
    simp [m1, m0, e0, pq, e1]
theorem pm_isNon (o : Option MC) : Pv.isNon (optV o) = o.isNone := by cases o <;> rfl
theorem filt_opt : ∀ (l : List (Option MC)), (l.filter fun o => !o.isNone).map optV = (l.filterMap id).map madeV
  | [] => rfl
  | none :: l => by simpa using filt_opt l
  | some q :: l => by
    have := filt_opt l
    simp only [List.filter_cons, Option.isNone_some, Bool.not_false, if_true, List.map_cons, List.filterMap_cons, id, this]
    rfl
theorem G_wantedR {q : MC} (o : okR q) : G_Made_wanted_makers [madeV q] = .ok (((wantC q).filterMap id).map madeV) := by
  have c1 : C_Made_wanted_makers_1 G_Made_meeting [.pv (madeV q), .un, .un, .un] = .ok ((wantC q).map optV) := by
    unfold C_Made_wanted_makers_1 wantC
    rw [List.map_map]
    refine dLc_all q.1.ws T _ ?_ (by have := o.few; omega) fun x hx => ?_
    · simp [md0]
    · refine ⟨_, rfl, ?_⟩
      have e1 := G_meetingR o (o.ws x hx)
      have e2 : ∃ fs, madeV q = .ins (Str.ofString "Made") fs := ⟨_, rfl⟩
      obtain ⟨fs, e2⟩ := e2
      rw [e2] at e1 ⊢
      simp [e1]
  have c2 : C_Made_wanted_makers_2 [.pv (madeV q), .pv (.lst ((wantC q).map optV)), .un, .un] = .ok (((wantC q).filterMap id).map madeV) := by
    rw [← filt_opt]
    unfold C_Made_wanted_makers_2
    refine dLc_gen (wantC q) optV optV (fun o => !o.isNone) ?_ (by unfold wantC; rw [List.length_map]; have := o.few; omega) fun a ha => ⟨_, rfl, ?_, fun _ => ?_⟩
    · generalize (wantC q).map optV = M
      simp
    · simp [pm_isNon]
    · simp
  simp only [G_Made_wanted_makers, D_Made_wanted_makers, fm0]
  generalize ((wantC q).filterMap id).map madeV = M2 at c2 ⊢
  generalize (wantC q).map optV = M1 at c1 c2
  generalize madeV q = MV at c1 c2 ⊢
  simp [c1, dFrz, frzS, dRetF, c2, toF]
theorem G_meeting {q : MC} (o : okQ q) {x : List Nat} (hx : okW x) : G_Made_meeting [madeV q, T x] = .ok (optV (metC x (if x = q.1.nm then q.2.tail else q.2))) := G_meetingR o.r hx
theorem G_wanted {q : MC} (o : okQ q) : G_Made_wanted_makers [madeV q] = .ok (((wantC q).filterMap id).map madeV) := G_wantedR o.r
end Tw
set_option Elab.async false
set_option linter.all false
set_option maxRecDepth 100000
set_option maxHeartbeats 4000000
namespace Tw
open PySem PySem.Spec PyProof.Rows L2 Pv
local instance : TabCx := TabCx.nil
def wnt (q : MC) : List MC := (wantC q).filterMap id
def Rk : Nat → MC → Prop
  | 0, _ => False
  | n + 1, q => okQ q ∧ q.1.sc ≤ 2 ∧ ∀ o ∈ wantC q, ∃ p, o = some p ∧ Rk n p ∧ p.1.sc ≤ q.1.sc
theorem Rk.ok {n : Nat} {q : MC} (h : Rk n q) : okQ q := by cases n with | zero => exact h.elim | succ n => exact h.1
theorem Rk.sc {n : Nat} {q : MC} (h : Rk n q) : q.1.sc ≤ 2 := by cases n with | zero => exact h.elim | succ n => exact h.2.1
theorem all_some {α : Type} {P : α → Prop} : ∀ {l : List (Option α)}, (∀ o ∈ l, ∃ p, o = some p ∧ P p) → l = (l.filterMap id).map some ∧ ∀ p ∈ l.filterMap id, P p
  | [], _ => ⟨rfl, fun _ z => by cases z⟩
  | o :: l, h => by
    obtain ⟨p, rfl, hp⟩ := h o List.mem_cons_self
    obtain ⟨i1, i2⟩ := all_some fun x hx => h x (List.mem_cons_of_mem _ hx)
    refine ⟨by simp only [List.filterMap_cons, id, List.map_cons, ← i1], fun x hx => ?_⟩
    simp only [List.filterMap_cons, id, List.mem_cons] at hx
    rcases hx with rfl | hx
    · exact hp
    · exact i2 x hx
theorem Rk.want {n : Nat} {q : MC} (h : Rk (n + 1) q) : wantC q = (wnt q).map some ∧ ∀ p ∈ wnt q, Rk n p ∧ p.1.sc ≤ q.1.sc := all_some h.2.2
theorem wnt_len {q : MC} (o : okQ q) : (wnt q).length ≤ 2 := by
  have h1 : (wnt q).length ≤ (wantC q).length := List.length_filterMap_le _ _
  have h2 : (wantC q).length = q.1.ws.length := by unfold wantC; rw [List.length_map]
  have := o.few
  omega
theorem Rk.mono {n : Nat} : ∀ {q : MC}, Rk n q → Rk (n + 1) q := by
  induction n with
  | zero => intro q h; exact h.elim
  | succ n ih =>
    intro q h
    refine ⟨h.1, h.2.1, fun o ho => ?_⟩
    obtain ⟨p, e, hp, hs⟩ := h.2.2 o ho
    exact ⟨p, e, ih hp, hs⟩
theorem Rk.up {n m : Nat} {q : MC} (h : Rk n q) (hm : n ≤ m) : Rk m q := by
  induction m with
  | zero => have : n = 0 := by omega
            subst this; exact h
  | succ m ih =>
    by_cases c : n = m + 1
    · subst c; exact h
    · exact (ih (by omega)).mono
def bh : Nat → MC → List MC → List MC
  | 0, _, f => f
  | n + 1, q, f => if mpl q ∈ f.map mpl then f else ((wnt q).foldl (fun f p => bh n p f) f) ++ [q]
theorem pl_lt {q : MC} (o : okQ q) : ∀ x ∈ mpl q, x < 1114112 := mpl_lt o.g.ok o.w
theorem map_mpl (f : List MC) : (f.map mpl).map T = f.map fun p => T (mpl p) := by rw [List.map_map]; rfl
theorem G_addm : ∀ (n : Nat) (q : MC) (f : List MC), Rk n q → (∀ p ∈ f, okQ p) → f.length + 2 ^ n ≤ 50000 →
    G_add_made n [madeV q] (f.map madeV) = .ok .non ((bh n q f).map madeV) ∧ (∀ p ∈ bh n q f, okQ p) ∧ (bh n q f).length + 1 ≤ f.length + 2 ^ n
  | 0, q, f, h, _, _ => h.elim
  | n + 1, q, f, h, hf, hl => by
    have o := h.1
    obtain ⟨w1, w2⟩ := h.want
    have c1 : C_add_made_1 [.pv (madeV q), .byr (f.map madeV), .un] = .ok ((f.map mpl).map T) := by
      rw [map_mpl]
      unfold C_add_made_1
      refine dLc_all f madeV (fun p => T (mpl p)) ?_ (by have : 0 < 2 ^ (n + 1) := Nat.two_pow_pos _; omega) fun p hp => ⟨_, rfl, ?_⟩
      · generalize f.map madeV = M
        simp
      · simp [md2]
    have c2 : pNotIn (T (mpl q)) (.lst ((f.map mpl).map T)) = some (!decide (mpl q ∈ f.map mpl)) := pNotIn_TL (pl_lt o) fun y hy => by
      obtain ⟨p, hp, rfl⟩ := List.mem_map.mp hy
      exact pl_lt (hf p hp)
    have p1 : 1 ≤ 2 ^ n := Nat.one_le_two_pow
    have p2 : 2 ^ (n + 1) = 2 ^ n + 2 ^ n := by rw [Nat.pow_succ]; omega
    by_cases c : mpl q ∈ f.map mpl
    · refine ⟨?_, by rw [bh, if_pos c]; exact hf, by rw [bh, if_pos c]; omega⟩
      rw [bh, if_pos c]
      simp only [G_add_made, D_add_made, fmA]
      rw [decide_eq_true c] at c2
      generalize (f.map mpl).map T = M2 at c1 c2
      generalize f.map madeV = M at c1 ⊢
      have m2 := md2 q
      generalize madeV q = MV at c1 m2 ⊢
      simp [c1, m2, c2, toA]
    · have e1 := G_wanted o
      have wl := wnt_len o
      have loop := for_fold (t := tgN 2) (body := B_add_made_1 (G_add_made n)) (wp := [2]) madeV (fun (s : List MC) => [.pv (madeV q), .byr (s.map madeV), .un]) (fun s p => bh n p s) (wnt q)
        (fun s l => (∀ p ∈ l, p ∈ wnt q) ∧ (∀ p ∈ s, okQ p) ∧ s.length + l.length * (2 ^ n - 1) ≤ f.length + (wnt q).length * (2 ^ n - 1)) f ⟨fun _ z => z, hf, Nat.le_refl _⟩ fun s p l qq => by
          obtain ⟨q1, q2, q3⟩ := qq
          have rp := (w2 p (q1 p List.mem_cons_self)).1
          have q4 : (wnt q).length * (2 ^ n - 1) ≤ 2 * (2 ^ n - 1) := Nat.mul_le_mul_right _ wl
          rw [List.length_cons, Nat.succ_mul] at q3
          obtain ⟨i1, i2, i3⟩ := G_addm n p s rp q2 (by omega)
          refine ⟨_, [.pv (madeV q), .byr ((bh n p s).map madeV), .pv (madeV p)], rfl, .inl ?_, rfl, fun x hx => q1 x (List.mem_cons_of_mem _ hx), i2, by omega⟩
          generalize (bh n p s).map madeV = M2 at i1 ⊢
          generalize s.map madeV = M at i1 ⊢
          simp [B_add_made_1, sCallA, lstS, i1]
      obtain ⟨l1, l2, l3, l4⟩ := loop
      have q4 : (wnt q).length * (2 ^ n - 1) ≤ 2 * (2 ^ n - 1) := Nat.mul_le_mul_right _ wl
      simp only [List.length_nil, Nat.zero_mul, Nat.add_zero] at l4
      have e2 : bh (n + 1) q f = ((wnt q).foldl (fun f p => bh n p f) f) ++ [q] := by rw [bh, if_neg c]
      rw [e2]
      generalize hF : (wnt q).foldl (fun f p => bh n p f) f = F at l1 l3 l4 ⊢
      refine ⟨?_, fun p hp => ?_, by rw [List.length_append, List.length_singleton]; omega⟩
      · have hz : (F.map madeV).length < sizeLine := szl (by rw [List.length_map]; omega)
        simp only [G_add_made, D_add_made, fmA, L_add_made_1]
        rw [decide_eq_false c] at c2
        rw [List.map_append, List.map_cons, List.map_nil]
        have e3 : ∃ fs, madeV q = .ins (Str.ofString "Made") fs := ⟨_, rfl⟩
        obtain ⟨fs, e3⟩ := e3
        have m2 := md2 q
        unfold wnt at l1
        generalize ((wantC q).filterMap id).map madeV = M3 at e1 l1
        generalize (f.map mpl).map T = M2 at c1 c2
        generalize f.map madeV = M at c1 l1 ⊢
        generalize F.map madeV = M4 at l1 hz ⊢
        rw [e3] at c1 m2 e1 l1 ⊢
        simp [c1, m2, c2, toA, dFor, e1, l1, dAppB, hz]
        exact e3.symm
      · rcases List.mem_append.mp hp with hp | hp
        · exact l3 p hp
        · rw [List.mem_singleton] at hp; subst hp; exact o
end Tw
set_option Elab.async false
set_option linter.all false
set_option maxRecDepth 100000
set_option maxHeartbeats 4000000
namespace Tw
open PySem PySem.Spec PyProof.Rows L2 Pv
local instance : TabCx := TabCx.nil
theorem G_width {q : MC} (h : q.1.sc ≤ 2) : G_Made_width [madeV q] = .ok (.int (q.1.sc : Nat)) := by
  have e : pTIdx [(Str.ofString "run"), (Str.ofString "group"), (Str.ofString "try")] (scw q.1.sc) = some (.int (q.1.sc : Nat)) := by
    obtain h | h | h : q.1.sc = 0 ∨ q.1.sc = 1 ∨ q.1.sc = 2 := by omega
    · rw [h]; kernel_rfl
    · rw [h]; kernel_rfl
    · rw [h]; kernel_rfl
  have m0 := md0 q
  simp only [G_Made_width, D_Made_width, fm0]
  generalize madeV q = MV at m0 ⊢
  simp [m0, e]
def leC (a b : MC) : Bool := decide (a.1.sc ≤ b.1.sc)
def ord (f : List MC) : List MC := f.filter (fun q => decide (q.1.sc = 0)) ++ (f.filter (fun q => decide (q.1.sc = 1)) ++ f.filter (fun q => decide (q.1.sc = 2)))
theorem stable (l : List MC) (k : Nat) : (l.mergeSort leC).filter (fun q => decide (q.1.sc = k)) = l.filter fun q => decide (q.1.sc = k) := by
  have tr : ∀ a b c : MC, leC a b = true → leC b c = true → leC a c = true := fun a b c h1 h2 => by
    unfold leC at *
    simp only [decide_eq_true_eq] at *
    omega
  have to : ∀ a b : MC, (leC a b || leC b a) = true := fun a b => by
    unfold leC
    simp only [Bool.or_eq_true, decide_eq_true_eq]
    omega
  have pw : (l.filter fun q => decide (q.1.sc = k)).Pairwise fun a b => leC a b = true := by
    refine List.Pairwise.imp_of_mem (R := fun _ _ => True) (fun {a b} ha hb _ => ?_) (List.pairwise_of_forall fun _ _ => trivial)
    have h1 := of_decide_eq_true (List.mem_filter.mp ha).2
    have h2 := of_decide_eq_true (List.mem_filter.mp hb).2
    unfold leC
    rw [h1, h2]
    exact decide_eq_true (Nat.le_refl _)
  have sb := List.sublist_mergeSort tr to pw List.filter_sublist
  have sb2 := sb.filter fun q => decide (q.1.sc = k)
  rw [List.filter_filter] at sb2
  simp only [Bool.and_self] at sb2
  refine (sb2.eq_of_length ?_).symm
  exact ((List.mergeSort_perm l leC).filter _).length_eq.symm
theorem sorted_ord : ∀ {l : List MC}, l.Pairwise (fun a b => leC a b = true) → (∀ q ∈ l, q.1.sc ≤ 2) → l = ord l
  | [], _, _ => rfl
  | q :: l, h, hs => by
    obtain ⟨h1, h2⟩ := List.pairwise_cons.mp h
    have ih := sorted_ord h2 fun p hp => hs p (List.mem_cons_of_mem _ hp)
    have hq := hs q List.mem_cons_self
    have ge : ∀ p ∈ l, q.1.sc ≤ p.1.sc := fun p hp => of_decide_eq_true (h1 p hp)
    have no : ∀ k, k < q.1.sc → l.filter (fun p => decide (p.1.sc = k)) = [] := fun k hk => List.filter_eq_nil_iff.mpr fun p hp z => by
      have := ge p hp
      have := of_decide_eq_true z
      omega
    obtain z | z | z : q.1.sc = 0 ∨ q.1.sc = 1 ∨ q.1.sc = 2 := by omega
    · unfold ord at ih ⊢
      rw [List.filter_cons_of_pos (by simp [z]), List.filter_cons_of_neg (by simp [z]), List.filter_cons_of_neg (by simp [z]), List.cons_append, ← ih]
    · unfold ord at ih ⊢
      rw [no 0 (by omega), List.nil_append] at ih
      rw [List.filter_cons_of_neg (by simp [z]), List.filter_cons_of_pos (by simp [z]), List.filter_cons_of_neg (by simp [z]), no 0 (by omega), List.nil_append, List.cons_append, ← ih]
    · unfold ord at ih ⊢
      rw [no 0 (by omega), no 1 (by omega), List.nil_append, List.nil_append] at ih
      rw [List.filter_cons_of_neg (by simp [z]), List.filter_cons_of_neg (by simp [z]), List.filter_cons_of_pos (by simp [z]), no 0 (by omega), no 1 (by omega), List.nil_append, List.nil_append, ← ih]
theorem sort_ord {l : List MC} (hs : ∀ q ∈ l, q.1.sc ≤ 2) : l.mergeSort leC = ord l := by
  have tr : ∀ a b c : MC, leC a b = true → leC b c = true → leC a c = true := fun a b c h1 h2 => by
    unfold leC at *
    simp only [decide_eq_true_eq] at *
    omega
  have to : ∀ a b : MC, (leC a b || leC b a) = true := fun a b => by
    unfold leC
    simp only [Bool.or_eq_true, decide_eq_true_eq]
    omega
  have h := sorted_ord (List.pairwise_mergeSort tr to l) fun q hq => hs q ((List.mergeSort_perm l leC).mem_iff.mp hq)
  unfold ord at h ⊢
  rw [stable, stable, stable] at h
  exact h
theorem ord_mem {l : List MC} {q : MC} (h : q ∈ ord l) : q ∈ l := by
  unfold ord at h
  simp only [List.mem_append, List.mem_filter] at h
  rcases h with h | h | h <;> exact h.1
def tw (ws : List (List Nat)) (c : Ch) : List MC := (ws.map fun x => metC x c).filterMap id
def fnd (ws : List (List Nat)) (c : Ch) : List MC := (tw ws c).foldl (fun f p => bh 12 p f) []
def allM (ws : List (List Nat)) (c : Ch) : List MC := ord (fnd ws c)
structure okT (ws : List (List Nat)) (c : Ch) : Prop where
  g : okG c
  ne : c ≠ []
  wd : ∀ x ∈ ws, okW x
  few : ws.length ≤ 4
  met : ∀ x ∈ ws, ∃ p, metC x c = some p ∧ Rk 12 p
theorem okT.all {ws : List (List Nat)} {c : Ch} (o : okT ws c) : (ws.map fun x => metC x c) = (tw ws c).map some ∧ ∀ p ∈ tw ws c, Rk 12 p := all_some fun x hx => by
  obtain ⟨y, hy, rfl⟩ := List.mem_map.mp hx
  exact o.met y hy
theorem tw_len {ws : List (List Nat)} {c : Ch} : (tw ws c).length ≤ ws.length := by
  unfold tw
  have := List.length_filterMap_le id (ws.map fun x => metC x c)
  rw [List.length_map] at this
  exact this
theorem bh_sc : ∀ (n : Nat) {q : MC} {f : List MC}, Rk n q → (∀ p ∈ f, p.1.sc ≤ 2) → ∀ p ∈ bh n q f, p.1.sc ≤ 2
  | 0, q, f, h, _ => h.elim
  | n + 1, q, f, h, hf => by
    rw [bh]
    split
    · exact hf
    · obtain ⟨w1, w2⟩ := h.want
      have gen : ∀ (l : List MC) (s : List MC), (∀ p ∈ l, Rk n p) → (∀ p ∈ s, p.1.sc ≤ 2) → ∀ p ∈ l.foldl (fun f p => bh n p f) s, p.1.sc ≤ 2 := by
        intro l
        induction l with
        | nil => intro s _ hs; exact hs
        | cons a l ih => intro s hl hs; exact ih _ (fun p hp => hl p (List.mem_cons_of_mem _ hp)) (bh_sc n (hl a List.mem_cons_self) hs)
      intro p hp
      rcases List.mem_append.mp hp with hp | hp
      · exact gen _ f (fun p hp => (w2 p hp).1) hf p hp
      · rw [List.mem_singleton] at hp; subst hp; exact h.2.1
theorem fnd_ok {ws : List (List Nat)} {c : Ch} (o : okT ws c) : ((∀ p ∈ fnd ws c, okQ p) ∧ (fnd ws c).length ≤ 20000) ∧ (∀ p ∈ fnd ws c, p.1.sc ≤ 2) := by
  obtain ⟨a1, a2⟩ := o.all
  have gen : ∀ (l s : List MC), (∀ p ∈ l, Rk 12 p) → (∀ p ∈ s, okQ p) → (∀ p ∈ s, p.1.sc ≤ 2) → s.length + l.length * 4096 ≤ 20000 → ((∀ p ∈ l.foldl (fun f p => bh 12 p f) s, okQ p) ∧ (l.foldl (fun f p => bh 12 p f) s).length ≤ 20000) ∧ ∀ p ∈ l.foldl (fun f p => bh 12 p f) s, p.1.sc ≤ 2 := by
    intro l
    induction l with
    | nil => intro s _ h1 h2 h3; exact ⟨⟨h1, by simpa using h3⟩, h2⟩
    | cons a l ih =>
      intro s h0 h1 h2 h3
      rw [List.length_cons, Nat.succ_mul] at h3
      obtain ⟨_, i2, i3⟩ := G_addm 12 a s (h0 a List.mem_cons_self) h1 (by omega)
      exact ih (bh 12 a s) (fun p hp => h0 p (List.mem_cons_of_mem _ hp)) i2 (bh_sc 12 (h0 a List.mem_cons_self) h2) (by omega)
  exact gen (tw ws c) [] a2 (fun _ z => by cases z) (fun _ z => by cases z) (by have := tw_len (ws := ws) (c := c); have := o.few; simp; omega)
end Tw
set_option Elab.async false
set_option linter.all false
set_option maxRecDepth 100000
set_option maxHeartbeats 4000000
namespace Tw
open PySem PySem.Spec PyProof.Rows L2 Pv
local instance : TabCx := TabCx.nil
theorem least {P : Nat → Prop} : ∀ n, P n → ∃ m, P m ∧ ∀ k, P k → m ≤ k := by
  intro n
  induction n using Nat.strongRecOn with
  | ind n ih =>
    intro h
    by_cases c : ∃ k, k < n ∧ P k
    · obtain ⟨k, hk, pk⟩ := c
      exact ih k hk pk
    · exact ⟨n, h, fun k pk => Nat.le_of_not_lt fun z => c ⟨k, z, pk⟩⟩
open Classical in
noncomputable def rho (q : MC) : Nat := if h : ∃ n, Rk n q then Classical.choose (least (P := fun n => Rk n q) h.choose h.choose_spec) else 0
theorem rho_ok {n : Nat} {q : MC} (h : Rk n q) : Rk (rho q) q ∧ rho q ≤ n := by
  have e : ∃ n, Rk n q := ⟨n, h⟩
  unfold rho
  rw [dif_pos e]
  have z := Classical.choose_spec (least (P := fun n => Rk n q) e.choose e.choose_spec)
  exact ⟨z.1, z.2 n h⟩
theorem rho_want {n : Nat} {q p : MC} (h : Rk n q) (hp : p ∈ wnt q) : rho p < rho q ∧ Rk (rho p) p := by
  obtain ⟨h1, _⟩ := rho_ok h
  cases e : rho q with
  | zero => rw [e] at h1; exact h1.elim
  | succ k =>
    rw [e] at h1
    have r := (h1.want.2 p hp).1
    obtain ⟨a, b⟩ := rho_ok r
    exact ⟨by omega, a⟩
def inP (c : Ch) (q : MC) : Prop := ∃ pre h r, c = pre ++ h :: r ∧ q.2 = h :: r ∧ q.1 ∈ h.ms
theorem inP_met {x : List Nat} {c : Ch} {q : MC} (e : metC x c = some q) : inP c q := by
  obtain ⟨_, p, h, r, h1, h2, h3⟩ := met_in e
  exact ⟨p, h, r, h1, h2, h3⟩
theorem inP_up {c : Ch} {q p : MC} (h : inP c q) (hp : inP q.2 p) : inP c p := by
  obtain ⟨a, h1, r1, e1, e2, _⟩ := h
  obtain ⟨b, h2, r2, e3, e4, m2⟩ := hp
  refine ⟨a ++ b, h2, r2, ?_, e4, m2⟩
  rw [e1, ← e2, e3, List.append_assoc]
theorem inP_tail {c : Ch} {q : MC} (hp : inP c.tail q) : inP c q := by
  cases c with
  | nil => exact hp
  | cons h r =>
    obtain ⟨b, h2, r2, e3, e4, m2⟩ := hp
    exact ⟨h :: b, h2, r2, by rw [List.tail_cons] at e3; rw [e3]; rfl, e4, m2⟩
theorem inP_want {c : Ch} {q p : MC} (h : inP c q) (hp : p ∈ wnt q) : inP c p := by
  refine inP_up h ?_
  unfold wnt wantC at hp
  obtain ⟨o, ho, e⟩ := List.mem_filterMap.mp hp
  simp only [id] at e
  subst e
  obtain ⟨x, _, e⟩ := List.mem_map.mp ho
  split at e
  · exact inP_tail (inP_met e)
  · exact inP_met e
def pool (c : Ch) : List MC := (sufs c).flatMap fun s => match s with
  | [] => []
  | h :: r => h.ms.map fun m => (m, h :: r)
theorem pool_cons (h : Hs) (r : Ch) : pool (h :: r) = h.ms.map (fun m => (m, h :: r)) ++ pool r := by
  unfold pool
  rw [sufs, List.flatMap_cons]
theorem inP_pool : ∀ {c : Ch} {q : MC}, inP c q → q ∈ pool c
  | [], q, ⟨p, h, r, e, _⟩ => by cases p <;> cases e
  | g :: c, q, ⟨p, h, r, e, e2, m⟩ => by
    rw [pool_cons]
    cases p with
    | nil =>
      cases e
      refine List.mem_append_left _ (List.mem_map.mpr ⟨q.1, m, ?_⟩)
      rw [← e2]
    | cons a p =>
      cases e
      exact List.mem_append_right _ (inP_pool ⟨p, h, r, rfl, e2, m⟩)
theorem pool_len {c : Ch} {k : Nat} (h : ∀ g ∈ c, g.ms.length ≤ k) : (pool c).length ≤ c.length * k := by
  induction c with
  | nil => simp [pool, sufs]
  | cons g r ih =>
    rw [pool_cons, List.length_append, List.length_map, List.length_cons, Nat.succ_mul]
    have := ih fun x hx => h x (List.mem_cons_of_mem _ hx)
    have := h g List.mem_cons_self
    omega
theorem okW.no {x : List Nat} (h : okW x) {k : Nat} (hk : k < 97) : k ∉ x := fun z => by have := (h.2.2 k z).1; omega
theorem place_no58 : ∀ {c : Ch}, (∀ h ∈ c, okW h.nm) → 58 ∉ place c
  | [], _, z => by cases z
  | [h], o, z => (o h List.mem_cons_self).no (by decide) z
  | h :: g :: r, o, z => by
    rw [place_two, List.mem_append, List.mem_append] at z
    rcases z with (z | z) | z
    · exact place_no58 (c := g :: r) (fun y hy => o y (List.mem_cons_of_mem _ hy)) z
    · rw [List.mem_singleton] at z; cases z
    · exact (o h List.mem_cons_self).no (by decide) z
theorem place_count : ∀ {c : Ch}, (∀ h ∈ c, okW h.nm) → c ≠ [] → (place c).count 47 + 1 = c.length
  | [], _, z => absurd rfl z
  | [h], o, _ => by
    rw [place_one, List.count_eq_zero.mpr ((o h List.mem_cons_self).no (by decide))]
    rfl
  | h :: g :: r, o, _ => by
    have ih := place_count (c := g :: r) (fun y hy => o y (List.mem_cons_of_mem _ hy)) (by simp)
    rw [place_two, List.count_append, List.count_append, List.count_eq_zero.mpr ((o h List.mem_cons_self).no (by decide)), List.length_cons, ← ih]
    rfl
theorem cut_at {k : Nat} : ∀ {a b c d : List Nat}, k ∉ a → k ∉ c → a ++ k :: b = c ++ k :: d → a = c ∧ b = d
  | [], b, [], d, _, _, e => by simp at e; exact ⟨rfl, e⟩
  | [], b, y :: c, d, _, hc, e => by simp at e; exact absurd (by rw [e.1]; exact List.mem_cons_self) hc
  | x :: a, b, [], d, ha, _, e => by simp at e; exact absurd (by rw [← e.1]; exact List.mem_cons_self) ha
  | x :: a, b, y :: c, d, ha, hc, e => by
    simp only [List.cons_append, List.cons.injEq] at e
    obtain ⟨h1, h2⟩ := cut_at (a := a) (c := c) (fun z => ha (List.mem_cons_of_mem _ z)) (fun z => hc (List.mem_cons_of_mem _ z)) e.2
    exact ⟨by rw [e.1, h1], h2⟩
theorem suf_eq {c : Ch} {p p' : List Hs} {s s' : Ch} (e : c = p ++ s) (e' : c = p' ++ s') (h : s.length = s'.length) : s = s' := by
  have hl : p.length = p'.length := by
    have := congrArg List.length e
    have h2 := congrArg List.length e'
    rw [List.length_append] at this h2
    omega
  rw [e] at e'
  exact (List.append_inj e' hl).2
def ndG (c : Ch) : Prop := ∀ h ∈ c, (h.ms.map Mkr.nm).Nodup
theorem mpl_inj {c : Ch} {q p : MC} (o : okG c) (nd : ndG c) (hq : inP c q) (hp : inP c p) (e : mpl q = mpl p) : q = p := by
  obtain ⟨a, h, r, e1, e2, m1⟩ := hq
  obtain ⟨b, g, t, e3, e4, m2⟩ := hp
  have w1 : ∀ x ∈ q.2, okW x.nm := fun x hx => o.ok.2 x (by rw [e1, ← e2]; exact List.mem_append_right _ hx)
  have w2 : ∀ x ∈ p.2, okW x.nm := fun x hx => o.ok.2 x (by rw [e3, ← e4]; exact List.mem_append_right _ hx)
  unfold mpl at e
  rw [List.append_assoc, List.append_assoc] at e
  obtain ⟨f1, f2⟩ := cut_at (b := q.1.nm) (d := p.1.nm) (place_no58 w1) (place_no58 w2) e
  have c1 := place_count w1 (by rw [e2]; simp)
  have c2 := place_count w2 (by rw [e4]; simp)
  rw [f1] at c1
  have se : q.2 = p.2 := suf_eq (c := c) (p := a) (p' := b) (by rw [e2]; exact e1) (by rw [e4]; exact e3) (by omega)
  have gh : h = g ∧ r = t := by rw [e2, e4] at se; injection se with x y; exact ⟨x, y⟩
  have hm : h ∈ c := by rw [e1]; simp
  have ne := nd h hm
  have mm : q.1 = p.1 := by
    rw [← gh.1] at m2
    have key : ∀ (l : List Mkr), (l.map Mkr.nm).Nodup → q.1 ∈ l → p.1 ∈ l → q.1 = p.1 := by
      intro l
      induction l with
      | nil => intro _ z; cases z
      | cons x l ih =>
        intro n1 i1 i2
        rw [List.map_cons, List.nodup_cons] at n1
        rcases List.mem_cons.mp i1 with z1 | z1
        · rcases List.mem_cons.mp i2 with z2 | z2
          · rw [z1, z2]
          · exact absurd (List.mem_map.mpr ⟨p.1, z2, by rw [← f2, z1]⟩) n1.1
        · rcases List.mem_cons.mp i2 with z2 | z2
          · exact absurd (List.mem_map.mpr ⟨q.1, z1, by rw [f2, z2]⟩) n1.1
          · exact ih n1.2 z1 z2
    exact key h.ms ne m1 m2
  exact Prod.ext mm se
theorem bh_new (c : Ch) : ∀ (n : Nat) {q : MC} {f : List MC}, Rk n q → inP c q → ∀ p ∈ bh n q f, p ∈ f ∨ (rho p ≤ rho q ∧ inP c p)
  | 0, q, f, h, _ => h.elim
  | n + 1, q, f, h, hc => by
    intro p hp
    rw [bh] at hp
    split at hp
    · exact .inl hp
    · obtain ⟨w1, w2⟩ := h.want
      have gen : ∀ (l s : List MC), (∀ x ∈ l, x ∈ wnt q) → ∀ p ∈ l.foldl (fun f p => bh n p f) s, p ∈ s ∨ (rho p ≤ rho q ∧ inP c p) := by
        intro l
        induction l with
        | nil => intro s _ p hp; exact .inl hp
        | cons a l ih =>
          intro s hl p hp
          rcases ih (bh n a s) (fun x hx => hl x (List.mem_cons_of_mem _ hx)) p hp with z | z
          · have ha := hl a List.mem_cons_self
            rcases bh_new c n (w2 a ha).1 (inP_want hc ha) p z with y | y
            · exact .inl y
            · exact .inr ⟨by have := (rho_want h ha).1; omega, y.2⟩
          · exact .inr z
      rcases List.mem_append.mp hp with hp | hp
      · exact gen _ f (fun _ z => z) p hp
      · rw [List.mem_singleton] at hp; subst hp; exact .inr ⟨Nat.le_refl _, hc⟩
theorem bh_nd {c : Ch} (o : okG c) (nd : ndG c) : ∀ (n : Nat) {q : MC} {f : List MC}, Rk n q → inP c q → (∀ p ∈ f, inP c p) → (f.map mpl).Nodup → ((bh n q f).map mpl).Nodup ∧ ∀ p ∈ bh n q f, inP c p
  | 0, q, f, h, _, _, _ => h.elim
  | n + 1, q, f, h, hc, hf, hn => by
    have hin : ∀ p ∈ bh (n + 1) q f, inP c p := fun p hp => by
      rcases bh_new c (n + 1) h hc p hp with z | z
      · exact hf p z
      · exact z.2
    refine ⟨?_, hin⟩
    rw [bh]
    split
    · exact hn
    · rename_i cc
      obtain ⟨w1, w2⟩ := h.want
      have gen : ∀ (l s : List MC), (∀ x ∈ l, x ∈ wnt q) → (∀ p ∈ s, inP c p) → (s.map mpl).Nodup → (∀ p ∈ s, mpl p = mpl q → False) →
          ((l.foldl (fun f p => bh n p f) s).map mpl).Nodup ∧ (∀ p ∈ l.foldl (fun f p => bh n p f) s, mpl p = mpl q → False) := by
        intro l
        induction l with
        | nil => intro s _ _ h2 h3; exact ⟨h2, h3⟩
        | cons a l ih =>
          intro s hl h1 h2 h3
          have ha := hl a List.mem_cons_self
          obtain ⟨b1, b2⟩ := bh_nd o nd n (w2 a ha).1 (inP_want hc ha) h1 h2
          refine ih (bh n a s) (fun x hx => hl x (List.mem_cons_of_mem _ hx)) b2 b1 fun p hp e => ?_
          rcases bh_new c n (w2 a ha).1 (inP_want hc ha) p hp with z | z
          · exact h3 p z e
          · have e2 := mpl_inj o nd z.2 hc e
            have := (rho_want h ha).1
            have z1 := z.1
            rw [e2] at z1
            omega
      obtain ⟨g1, g2⟩ := gen (wnt q) f (fun _ z => z) hf hn fun p hp e => cc (List.mem_map.mpr ⟨p, hp, e⟩)
      rw [List.map_append, List.map_cons, List.map_nil]
      refine List.nodup_append.mpr ⟨g1, by simp, fun x hx y hy => ?_⟩
      obtain ⟨p, hp, rfl⟩ := List.mem_map.mp hx
      rw [List.mem_singleton] at hy
      subst hy
      exact g2 p hp
theorem nd_len : ∀ {l m : List (List Nat)}, l.Nodup → (∀ x ∈ l, x ∈ m) → l.length ≤ m.length
  | [], m, _, _ => Nat.zero_le _
  | x :: l, m, h, hs => by
    rw [List.nodup_cons] at h
    have ih := nd_len (l := l) (m := m.erase x) h.2 fun y hy => (List.mem_erase_of_ne (fun z => h.1 (by rw [← z]; exact hy))).mpr (hs y (List.mem_cons_of_mem _ hy))
    have hx := hs x List.mem_cons_self
    rw [List.length_erase_of_mem hx] at ih
    have := List.length_pos_of_mem hx
    rw [List.length_cons]
    omega
theorem fnd_nd {ws : List (List Nat)} {c : Ch} (o : okT ws c) (nd : ndG c) : ((fnd ws c).map mpl).Nodup ∧ ∀ p ∈ fnd ws c, inP c p := by
  obtain ⟨a1, a2⟩ := o.all
  have gen : ∀ (l s : List MC), (∀ p ∈ l, Rk 12 p ∧ inP c p) → (∀ p ∈ s, inP c p) → (s.map mpl).Nodup → ((l.foldl (fun f p => bh 12 p f) s).map mpl).Nodup ∧ ∀ p ∈ l.foldl (fun f p => bh 12 p f) s, inP c p := by
    intro l
    induction l with
    | nil => intro s _ h1 h2; exact ⟨h2, h1⟩
    | cons a l ih =>
      intro s h0 h1 h2
      obtain ⟨r, i⟩ := h0 a List.mem_cons_self
      obtain ⟨b1, b2⟩ := bh_nd o.g nd 12 r i h1 h2
      exact ih (bh 12 a s) (fun p hp => h0 p (List.mem_cons_of_mem _ hp)) b2 b1
  refine gen (tw ws c) [] (fun p hp => ⟨a2 p hp, ?_⟩) (fun _ z => by cases z) (by simp)
  unfold tw at hp
  obtain ⟨x, hx, e⟩ := List.mem_filterMap.mp hp
  simp only [id] at e
  subst e
  obtain ⟨y, _, e⟩ := List.mem_map.mp hx
  exact inP_met e
theorem ord_cnt : ∀ (l : List MC), (∀ q ∈ l, q.1.sc ≤ 2) → (ord l).length = l.length
  | l, h => by
    rw [← sort_ord h, List.length_mergeSort]
theorem allM_len {ws : List (List Nat)} {c : Ch} (o : okT ws c) (nd : ndG c) {k : Nat} (hk : ∀ g ∈ c, g.ms.length ≤ k) : (allM ws c).length ≤ c.length * k := by
  obtain ⟨n1, n2⟩ := fnd_nd o nd
  unfold allM
  rw [ord_cnt _ (fnd_ok o).2]
  have h1 := nd_len (m := (pool c).map mpl) n1 fun x hx => by
    obtain ⟨p, hp, rfl⟩ := List.mem_map.mp hx
    exact List.mem_map.mpr ⟨p, inP_pool (n2 p hp), rfl⟩
  rw [List.length_map, List.length_map] at h1
  exact Nat.le_trans h1 (pool_len hk)
end Tw
set_option Elab.async false
set_option linter.all false
set_option maxRecDepth 100000
set_option maxHeartbeats 4000000
namespace Tw
open PySem PySem.Spec PyProof.Rows L2 Pv
local instance : TabCx := TabCx.nil
noncomputable def wg (l : List MC) : Nat := (l.map fun p => 2 ^ rho p - 1).sum
theorem wg_app (a b : List MC) : wg (a ++ b) = wg a + wg b := by unfold wg; rw [List.map_append, List.sum_append]
theorem wg_bound {l : List MC} {k : Nat} (h : ∀ p ∈ l, rho p ≤ k) : wg l ≤ l.length * (2 ^ k - 1) := by
  induction l with
  | nil => simp [wg]
  | cons a l ih =>
    have i := ih fun p hp => h p (List.mem_cons_of_mem _ hp)
    have j : 2 ^ rho a ≤ 2 ^ k := Nat.pow_le_pow_right (by decide) (h a List.mem_cons_self)
    have e : wg (a :: l) = (2 ^ rho a - 1) + wg l := by unfold wg; rw [List.map_cons, List.sum_cons]
    rw [e, List.length_cons, Nat.succ_mul]
    omega
def wOk (c : Ch) (q : MC) (l : List MC) : Prop := ∀ p ∈ l, Rk (rho p) p ∧ rho p < rho q ∧ inP c p
theorem wg_len {c : Ch} {q : MC} {l : List MC} (h : wOk c q l) : l.length ≤ wg l := by
  induction l with
  | nil => simp
  | cons a l ih =>
    have i := ih fun p hp => h p (List.mem_cons_of_mem _ hp)
    have r := (h a List.mem_cons_self).1
    have : rho a ≠ 0 := fun z => by rw [z] at r; exact r.elim
    have j : 2 ≤ 2 ^ rho a := by
      obtain ⟨k, hk⟩ := Nat.exists_eq_succ_of_ne_zero this
      rw [hk, Nat.pow_succ]
      have := Nat.one_le_two_pow (n := k)
      omega
    have e : wg (a :: l) = (2 ^ rho a - 1) + wg l := by unfold wg; rw [List.map_cons, List.sum_cons]
    rw [e, List.length_cons]
    omega
theorem go_ring {c : Ch} {q : MC} (o : okG c) (nd : ndG c) (hq : inP c q) (oq : okQ q) : ∀ (n : Nat) (l : List MC) (g : List (List Nat)), wg l < n → n + g.length ≤ 30000 → wOk c q l → (∀ x ∈ g, ∀ z ∈ x, z < 1114112) →
    ∃ g' : List PV, whGo (d2 pNeNil (dR 2) (dL (dLst dNil))) (B_is_ring_1 G_Made_wanted_makers) [3] n [.pv (madeV q), .own (g.map T), .own (l.map madeV), .un] = .nx [.pv (madeV q), .own g', .own [], .un]
  | 0, l, g, h, _, _, _ => by omega
  | n + 1, l, g, h, hz, hw, hg => by
    rw [whGo]
    rcases List.eq_nil_or_concat l with rfl | ⟨l', p, rfl⟩
    · exact ⟨g.map T, by simp⟩
    · have hp := hw p (by simp)
      have hw' : wOk c q l' := fun x hx => hw x (by simp [hx])
      have hlen := wg_len hw
      rw [List.concat_eq_append] at h hlen ⊢
      rw [wg_app] at h hlen
      have hwp : wg [p] = 2 ^ rho p - 1 := by unfold wg; simp
      have r1 : 1 ≤ wg [p] := by
        have : rho p ≠ 0 := fun z => by have r := hp.1; rw [z] at r; exact r.elim
        obtain ⟨k, hk⟩ := Nat.exists_eq_succ_of_ne_zero this
        rw [hwp, hk, Nat.pow_succ]
        have := Nat.one_le_two_pow (n := k)
        omega
      have op : okQ p := hp.1.ok
      have ne : mpl p ≠ mpl q := fun e => by
        have := mpl_inj o nd hp.2.2 hq e
        have z := hp.2.1
        rw [this] at z
        omega
      have e1 : (d2 pNeNil (dR 2) (dL (dLst dNil))) [.pv (madeV q), .own (g.map T), .own ((l' ++ [p]).map madeV), .un] = .ok true := by
        rw [List.map_append, List.map_cons, List.map_nil]
        generalize l'.map madeV = M
        simp
      have pq : pEq (T (mpl p)) (T (mpl q)) = some false := by rw [pEq_ss (pl_lt op) (pl_lt oq), decide_eq_false ne]
      have pn : pNotIn (T (mpl p)) (.lst (g.map T)) = some (!decide (mpl p ∈ g)) := pNotIn_TL (pl_lt op) hg
      have ew := G_wanted op
      have m2q := md2 q
      have m2p := md2 p
      have e3 : ∃ fs, madeV p = .ins (Str.ofString "Made") fs := ⟨_, rfl⟩
      obtain ⟨fs, e3⟩ := e3
      by_cases cg : mpl p ∈ g
      · rw [decide_eq_true cg] at pn
        have b1 : B_is_ring_1 G_Made_wanted_makers [.pv (madeV q), .own (g.map T), .own ((l' ++ [p]).map madeV), .un] = .nx [.pv (madeV q), .own (g.map T), .own (l'.map madeV), .pv (madeV p)] := by
          rw [List.map_append, List.map_cons, List.map_nil]
          generalize l'.map madeV = M
          generalize g.map T = M2 at pn ⊢
          generalize madeV q = QV at m2q ⊢
          generalize madeV p = PV1 at m2p ⊢
          simp [B_is_ring_1, dPop, m2q, m2p, pq, pn]
        obtain ⟨g', hg'⟩ := go_ring o nd hq oq n l' g (by omega) (by omega) hw' hg
        refine ⟨g', ?_⟩
        rw [e1]
        simp only [b1]
        exact hg'
      · rw [decide_eq_false cg] at pn
        have wl := wnt_len op
        have hww : wOk c q (wnt p) := fun x hx => by
          obtain ⟨x1, x2⟩ := rho_want hp.1 hx
          exact ⟨x2, by omega, inP_want hp.2.2 hx⟩
        have hb : wg (wnt p) + 1 ≤ wg [p] := by
          rw [hwp]
          cases e : rho p with
          | zero => have r := hp.1; rw [e] at r; exact r.elim
          | succ k =>
            have b := wg_bound (l := wnt p) (k := k) fun x hx => by have := (rho_want hp.1 hx).1; omega
            have b2 : (wnt p).length * (2 ^ k - 1) ≤ 2 * (2 ^ k - 1) := Nat.mul_le_mul_right _ wl
            have := Nat.one_le_two_pow (n := k)
            rw [Nat.pow_succ]
            omega
        have b1 : B_is_ring_1 G_Made_wanted_makers [.pv (madeV q), .own (g.map T), .own ((l' ++ [p]).map madeV), .un] = .nx [.pv (madeV q), .own ((g ++ [mpl p]).map T), .own ((l' ++ wnt p).map madeV), .pv (madeV p)] := by
          have z1 : (g.map T).length < sizeLine := szl (by rw [List.length_map]; omega)
          have z2 : (l'.map madeV).length + (((wantC p).filterMap id).map madeV).length ≤ sizeLine := by
            refine sz ?_
            rw [List.length_map, List.length_map]
            have h2 : ((wantC p).filterMap id).length ≤ 2 := wl
            have h3 := wg_len hw'
            omega
          rw [List.map_append, List.map_cons, List.map_nil, List.map_append, List.map_cons, List.map_nil, List.map_append]
          unfold wnt
          generalize l'.map madeV = M at z2 ⊢
          generalize g.map T = M2 at pn z1 ⊢
          generalize ((wantC p).filterMap id).map madeV = M3 at ew z2 ⊢
          generalize madeV q = QV at m2q ⊢
          rw [e3] at m2p ew ⊢
          simp [B_is_ring_1, dPop, m2q, m2p, pq, pn, dApp, z1, ew, dExt, z2]
        obtain ⟨g', hg'⟩ := go_ring o nd hq oq n (l' ++ wnt p) (g ++ [mpl p]) (by rw [wg_app]; omega) (by simp; omega) (fun x hx => by
          rcases List.mem_append.mp hx with z | z
          · exact hw' x z
          · exact hww x z) (fun x hx => by
          rcases List.mem_append.mp hx with z | z
          · exact hg x z
          · rw [List.mem_singleton] at z; subst z; exact pl_lt op)
        refine ⟨g', ?_⟩
        rw [e1]
        simp only [b1]
        exact hg'
theorem G_ring {c : Ch} {q : MC} (o : okG c) (nd : ndG c) (hq : inP c q) (r : Rk 12 q) : G_is_ring [madeV q] = .ok (.bl false) := by
  have oq := r.ok
  have ew := G_wanted oq
  have wl := wnt_len oq
  have hww : wOk c q (wnt q) := fun x hx => by
    obtain ⟨x1, x2⟩ := rho_want r hx
    exact ⟨x2, x1, inP_want hq hx⟩
  have hb : wg (wnt q) < 10000 := by
    have b := wg_bound (l := wnt q) (k := 11) fun x hx => by
      have h1 := (rho_want r hx).1
      have h2 := (rho_ok r).2
      omega
    have : (wnt q).length * (2 ^ 11 - 1) ≤ 2 * (2 ^ 11 - 1) := Nat.mul_le_mul_right _ wl
    omega
  obtain ⟨g', hg'⟩ := go_ring o nd hq oq 10000 (wnt q) [] hb (by simp) hww (fun _ z => by cases z)
  have e3 : ∃ fs, madeV q = .ins (Str.ofString "Made") fs := ⟨_, rfl⟩
  obtain ⟨fs, e3⟩ := e3
  simp only [G_is_ring, D_is_ring, fm0, L_is_ring_1]
  unfold wnt at hg'
  generalize ((wantC q).filterMap id).map madeV = M3 at ew hg'
  simp only [List.map_nil] at hg'
  rw [e3] at ew hg' ⊢
  simp [ew, dWhile, hg']
theorem any_f {α : Type} (l : List α) (f : α → Bool) (h : ∀ a ∈ l, f a = false) : pAny [.lst (l.map fun a => .bl (f a))] = some (.bl false) := by
  have e : (l.map fun a => PV.bl (f a)) = (l.map f).map PV.bl := by rw [List.map_map]; rfl
  rw [e, pAny_m]
  congr 2
  rw [List.any_eq_false]
  intro x hx
  obtain ⟨a, ha, rfl⟩ := List.mem_map.mp hx
  simp [h a ha]
theorem G_wmaker {c : Ch} {q : MC} (o : okG c) (nd : ndG c) (hq : inP c q) (r : Rk 12 q) (hl : G_maker_lacks [embM q.1] = .ok (.bl false)) : G_wrong_maker [madeV q] = .ok [] := by
  have oq := r.ok
  have ew := G_wanted oq
  have er := G_ring o nd hq r
  obtain ⟨w1, w2⟩ := r.want
  have e3 : ∃ fs, madeV q = .ins (Str.ofString "Made") fs := ⟨_, rfl⟩
  obtain ⟨fs, e3⟩ := e3
  have c1 : C_wrong_maker_1 G_Made_meeting [.pv (madeV q), .own [], .un, .un] = .ok ((wantC q).map optV) := by
    unfold C_wrong_maker_1 wantC
    rw [List.map_map]
    refine dLc_all q.1.ws T _ ?_ (by have := oq.few; omega) fun x hx => ?_
    · simp [md0]
    · refine ⟨_, rfl, ?_⟩
      have e1 := G_meeting oq (oq.ws x hx)
      rw [e3] at e1 ⊢
      simp [e1]
  have n1 : pNoneIn [(Str.ofString "Made")] .non (.lst ((wantC q).map optV)) = some false := by
    rw [w1, List.map_map]
    have a1 : ((wnt q).map (optV ∘ some)).all (noneOr [(Str.ofString "Made")]) = true := List.all_eq_true.mpr fun x hx => by
      obtain ⟨p, _, rfl⟩ := List.mem_map.mp hx
      simp [optV, madeV, noneOr]
    have a2 : ((wnt q).map (optV ∘ some)).any Pv.isNon = false := List.any_eq_false.mpr fun x hx => by
      obtain ⟨p, _, rfl⟩ := List.mem_map.mp hx
      simp [optV, madeV, Pv.isNon]
    simp only [pNoneIn, a1, if_true, a2]
  have c2 : C_wrong_maker_2 G_Made_width G_Made_wanted_makers [.pv (madeV q), .own [], .un, .un] = .ok ((wnt q).map fun p => .bl (decide (q.1.sc < p.1.sc))) := by
    unfold C_wrong_maker_2
    refine dLc_all (wnt q) madeV _ ?_ (by have := wnt_len oq; omega) fun p hp => ?_
    · unfold wnt
      generalize ((wantC q).filterMap id).map madeV = M3 at ew ⊢
      rw [e3] at ew ⊢
      simp [ew]
    · refine ⟨_, rfl, ?_⟩
      have g1 := G_width (q := p) (w2 p hp).1.sc
      have g2 := G_width (q := q) r.sc
      have e4 : ∃ gs, madeV p = .ins (Str.ofString "Made") gs := ⟨_, rfl⟩
      obtain ⟨gs, e4⟩ := e4
      rw [e3] at g2
      rw [e4] at g1
      rw [e3, e4]
      simp [g1, g2]
  have n2 := any_f (wnt q) (fun p => decide (q.1.sc < p.1.sc)) fun p hp => decide_eq_false (by have := (w2 p hp).2; omega)
  have m0 := md0 q
  simp only [G_wrong_maker, D_wrong_maker, fm0]
  generalize (wantC q).map optV = M1 at c1 n1
  generalize ((wnt q).map fun p => PV.bl (decide (q.1.sc < p.1.sc))) = M2 at c2 n2
  generalize madeV q = QV at c1 c2 er m0 ⊢
  simp [c1, n1, c2, n2, er, m0, hl, dRetO, toF]
end Tw
set_option Elab.async false
set_option linter.all false
set_option maxRecDepth 100000
set_option maxHeartbeats 4000000
namespace Tw
open PySem PySem.Spec PyProof.Rows L2 Pv
local instance : TabCx := TabCx.nil
def cols (ts : List Tb) : List (List Nat) := ts.flatMap Tb.cs
theorem G_cols {n : List Nat} {k : List (List Nat)} {ts : List Tb} {ws : List (List Nat)} {b : PV} (hl : ts.length ≤ 4) (hc : ∀ t ∈ ts, t.cs.length ≤ 10) : G_columns_in [embH (.tr n k ts ws b)] = .ok ((cols ts).map T) := by
  have i3 : pIdx (embH (.tr n k ts ws b)) (.int 3) = some (.tup (ts.map embB)) := by rw [embH_tr]; rfl
  have loop := (for_fold (t := tgN 2) (body := B_columns_in_1) (wp := [2]) embB (fun (s : List (List Nat)) => [.pv (embH (.tr n k ts ws b)), .own (s.map T), .un]) (fun s t => s ++ t.cs) ts
    (fun s l => (∀ t ∈ l, t ∈ ts) ∧ s.length + l.length * 10 ≤ 100) [] ⟨fun _ z => z, by simp; omega⟩ fun s t l q => by
      have ht := hc t (q.1 t List.mem_cons_self)
      have q2 := q.2
      rw [List.length_cons, Nat.succ_mul] at q2
      refine ⟨_, [.pv (embH (.tr n k ts ws b)), .own ((s ++ t.cs).map T), .pv (embB t)], rfl, .inl ?_, rfl, fun x hx => q.1 x (List.mem_cons_of_mem _ hx), by rw [List.length_append]; omega⟩
      have e1 : pIdx (embB t) (.int 0) = some (.tup (t.cs.map T)) := rfl
      have z : (s.map T).length + (t.cs.map T).length ≤ sizeLine := sz (by rw [List.length_map, List.length_map]; omega)
      rw [List.map_append]
      generalize s.map T = M at z ⊢
      generalize t.cs.map T = M2 at z e1 ⊢
      simp [B_columns_in_1, dExtT, e1, z]).1
  have e2 : ts.foldl (fun s t => s ++ t.cs) [] = cols ts := by
    have gen : ∀ (l : List Tb) (s : List (List Nat)), l.foldl (fun s t => s ++ t.cs) s = s ++ l.flatMap Tb.cs := by
      intro l
      induction l with
      | nil => intro s; simp
      | cons m l ih => intro s; rw [List.foldl_cons, ih, List.flatMap_cons, List.append_assoc]
    rw [gen]
    rfl
  rw [e2] at loop
  simp only [G_columns_in, D_columns_in, fm0, L_columns_in_1]
  generalize (cols ts).map T = M at loop ⊢
  generalize ts.map embB = M2 at loop i3
  simp only [List.map_nil] at loop
  simp [dFor, i3, loop, dRetO, toF]
theorem strs_T (l : List (List Nat)) : strsOf (l.map T) = some (l.map mk) := by
  have e : l.map T = (l.map mk).map PV.str := by rw [List.map_map]; rfl
  rw [e, Pv.strs_map]
theorem mk_nd {l : List (List Nat)} (h : l.Nodup) : (l.map mk).Nodup := by
  induction l with
  | nil => simp
  | cons x l ih =>
    rw [List.nodup_cons] at h
    rw [List.map_cons, List.nodup_cons]
    refine ⟨fun z => ?_, ih h.2⟩
    obtain ⟨y, hy, e⟩ := List.mem_map.mp z
    rw [mk_inj e] at hy
    exact h.1 hy
theorem set_len {l : List (List Nat)} (h : l.Nodup) : (SetX.sortU (l.map mk)).length = l.length := by
  rw [← SetX.sortU_len (mk_nd h) fun _ => Iff.rfl, List.length_map]
theorem txts_T {l : List (List Nat)} (h : l.length ≤ 4000) : txts [.lst (l.map T)] = some (l.map mk) := by
  simp only [txts, strs_T, Option.bind_some, few, List.length_map, if_pos h]
theorem txts_TT {l : List (List Nat)} (h : l.length ≤ 4000) : txts [.tup (l.map T)] = some (l.map mk) := by
  simp only [txts, strs_T, Option.bind_some, few, List.length_map, if_pos h]
@[simp] theorem dSetLen_ap (d : Fm → R (List Str)) (env : Fm) : dSetLen d env = (d env).bind fun xs => .ok (.int (SetX.sortU xs).length) := rfl
structure okY (ts : List Tb) (ws : List (List Nat)) (b : PV) (r : Ch) : Prop where
  t : okT ws r
  nd : ndG r
  few : ts.length ≤ 2
  cs : ∀ t ∈ ts, t.cs.length ≤ 3
  uq : (cols ts ++ ws).Nodup
  lk : G_lacks 6 [b, .lst ((cols ts ++ ws).map T)] = .ok (.bl false)
theorem cols_len {ts : List Tb} {k : Nat} (hc : ∀ t ∈ ts, t.cs.length ≤ k) : (cols ts).length ≤ ts.length * k := by
  induction ts with
  | nil => simp [cols]
  | cons t l ih =>
    have := ih fun x hx => hc x (List.mem_cons_of_mem _ hx)
    have := hc t List.mem_cons_self
    unfold cols at *
    rw [List.flatMap_cons, List.length_append, List.length_cons, Nat.succ_mul]
    omega
theorem G_wtryR {n : List Nat} {k : List (List Nat)} {ts : List Tb} {ws : List (List Nat)} {b : PV} {r : Ch} (o : okY ts ws b r) : G_wrong_try [spotV (.tr n k ts ws b :: r)] = .ok [] := by
  have l1 := o.few
  have l2 := o.t.few
  have l3 := cols_len o.cs
  have e1 := G_cols (n := n) (k := k) (ts := ts) (ws := ws) (b := b) (by omega) fun t ht => by have := o.cs t ht; omega
  have s0 := sp0 (.tr n k ts ws b) r
  have s1 := sp1 (.tr n k ts ws b) r
  have i4 : pIdx (embH (.tr n k ts ws b)) (.int 4) = some (.tup (ws.map T)) := by rw [embH_tr]; rfl
  have i5 : pIdx (embH (.tr n k ts ws b)) (.int 5) = some b := by rw [embH_tr]; rfl
  obtain ⟨a1, a2⟩ := o.t.all
  have e0 := G_groups o.t.ne o.t.g.ok.1
  have e4 : ∃ fs, spotV r = .ins (Str.ofString "Spot") fs := by
    cases h : r with
    | nil => exact absurd h o.t.ne
    | cons a b => exact ⟨_, by rw [spotV]⟩
  obtain ⟨fs, e4⟩ := e4
  have c1 : C_wrong_try_1 G_Spot_groups G_met [.pv (spotV (.tr n k ts ws b :: r)), .own [], .pv (.lst ((cols ts).map T)), .pv (.lst (ws.map T)), .un] = .ok ((ws.map fun x => metC x r).map optV) := by
    unfold C_wrong_try_1
    rw [List.map_map]
    refine dLc_all ws T _ ?_ (by omega) fun x hx => ?_
    · generalize ws.map T = M
      simp
    · refine ⟨_, rfl, ?_⟩
      have e5 := G_met_ok (x := x) (o.t.wd x hx).lt o.t.g
      simp only [Function.comp]
      rw [e4] at e0 s1
      generalize spotV (.tr n k ts ws b :: r) = SV at s1 ⊢
      generalize (sufs r).map spotV = M at e0 e5
      simp [s1, e0, e5]
  have n1 : pNoneIn [(Str.ofString "Made")] .non (.lst ((ws.map fun x => metC x r).map optV)) = some false := by
    rw [a1, List.map_map]
    have b1 : ((tw ws r).map (optV ∘ some)).all (noneOr [(Str.ofString "Made")]) = true := List.all_eq_true.mpr fun x hx => by
      obtain ⟨p, _, rfl⟩ := List.mem_map.mp hx
      simp [optV, madeV, noneOr]
    have b2 : ((tw ws r).map (optV ∘ some)).any Pv.isNon = false := List.any_eq_false.mpr fun x hx => by
      obtain ⟨p, _, rfl⟩ := List.mem_map.mp hx
      simp [optV, madeV, Pv.isNon]
    simp only [pNoneIn, b1, if_true, b2]
  have f1 : fCat (.lst ((cols ts).map T)) (.lst (ws.map T)) = some ((cols ts ++ ws).map T) := by
    rw [fCat_ok (by rw [List.length_map, List.length_map]; omega), List.map_append]
  have t1 := txts_T (l := cols ts ++ ws) (by rw [List.length_append]; omega)
  have t2 : ((SetX.sortU ((cols ts ++ ws).map mk)).length : Int) = (((cols ts).map T).length : Int) + ((ws.map T).length : Int) := by
    rw [set_len o.uq, List.length_append, List.length_map, List.length_map]
    omega
  have lk := o.lk
  simp only [G_wrong_try, D_wrong_try, fm0]
  generalize (ws.map fun x => metC x r).map optV = M1 at c1 n1
  generalize (cols ts ++ ws).map mk = Z1 at t1 t2
  generalize (cols ts ++ ws).map T = Z2 at t1 f1 lk
  generalize (cols ts).map T = A at e1 c1 f1 t2
  generalize ws.map T = B at i4 c1 f1 t2
  generalize spotV (.tr n k ts ws b :: r) = SV at s0 c1 ⊢
  generalize embH (.tr n k ts ws b) = EH at e1 s0 i4 i5
  simp [s0, e1, i4, f1, t1, t2, c1, n1, i5, lk, dRetO, toF]
def spOk : Ch → Prop
  | [] => False
  | .tr _ _ ts ws b :: r => okY ts ws b r
  | .gr n k ms hs :: r => okG (.gr n k ms hs :: r) ∧ ndG (.gr n k ms hs :: r) ∧ ∀ m ∈ ms, Rk 12 (m, .gr n k ms hs :: r) ∧ G_maker_lacks [embM m] = .ok (.bl false)
theorem B_wrong_ok {a : PV} {c : Ch} (o : spOk c) : B_wrong_2 G_Made_init G_wrong_maker G_wrong_try [.pv a, .own [], .pv (spotV c), .un, .un, .un] = .nx [.pv a, .own [], .pv (spotV c), .un, .un, .un] := by
  match c, o with
  | .tr n k ts ws b :: r, o =>
    have e1 := G_wtryR (n := n) (k := k) o
    have s0 := sp0 (.tr n k ts ws b) r
    have c1 : C_wrong_1 G_wrong_try [.pv a, .own [], .pv (spotV (.tr n k ts ws b :: r)), .un, .un, .un] = .ok [] := by
      unfold C_wrong_1
      generalize spotV (.tr n k ts ws b :: r) = SV at e1 ⊢
      have := dLc_all (vs := [5]) (t := tgN 5) (te := dTup (dCons (d1 (pAttr (Str.ofString "Spot") 2) (dV 2)) (dCons (dV 5) dNil))) (src := d1 lstIt (dL (dCall G_wrong_try (dCons (dV 2) dNil)))) (env := [.pv a, .own [], .pv SV, .un, .un, .un]) ([] : List PV) id id (by simp [e1]) (by simp) (fun _ z => by cases z)
      simpa using this
    generalize spotV (.tr n k ts ws b :: r) = SV at s0 c1 ⊢
    simp [B_wrong_2, s0, Hs.isG, c1, dExt]
  | .gr n k ms hs :: r, o =>
    obtain ⟨o1, o2, o3⟩ := o
    have s0 := sp0 (.gr n k ms hs) r
    have i3 := idx3 (h := .gr n k ms hs) rfl
    have loop : forGo (tgN 3) (B_wrong_1 G_Made_init G_wrong_maker) [3, 4] (ms.map embM) [.pv a, .own [], .pv (spotV (.gr n k ms hs :: r)), .un, .un, .un] = .nx [.pv a, .own [], .pv (spotV (.gr n k ms hs :: r)), .un, .un, .un] := by
      refine for_look embM ms fun m hm => ?_
      obtain ⟨r1, r2⟩ := o3 m hm
      refine ⟨_, [.pv a, .own [], .pv (spotV (.gr n k ms hs :: r)), .pv (embM m), .pv (madeV (m, .gr n k ms hs :: r)), .un], rfl, .inl ?_, rfl⟩
      have dm : dMake 3 (Str.ofString "Made") G_Made_init (dCons (dV 3) (dCons (dV 2) dNil)) [.pv a, .own [], .pv (spotV (.gr n k ms hs :: r)), .pv (embM m), .un, .un] = .ok (madeV (m, .gr n k ms hs :: r)) := dMake_made (q := (m, .gr n k ms hs :: r)) o1.ok (by simp) r1.ok.w rfl
      have e1 := G_wmaker (q := (m, .gr n k ms hs :: r)) o1 o2 ⟨[], _, r, rfl, rfl, hm⟩ r1 r2
      have c1 : C_wrong_2 G_wrong_maker [.pv a, .own [], .pv (spotV (.gr n k ms hs :: r)), .pv (embM m), .pv (madeV (m, .gr n k ms hs :: r)), .un] = .ok [] := by
        unfold C_wrong_2
        generalize spotV (.gr n k ms hs :: r) = SV
        generalize madeV (m, .gr n k ms hs :: r) = MV at e1 ⊢
        have := dLc_all (vs := [5]) (t := tgN 5) (te := dTup (dCons (d1 (pAttr (Str.ofString "Made") 2) (dV 4)) (dCons (dV 5) dNil))) (src := d1 lstIt (dL (dCall G_wrong_maker (dCons (dV 4) dNil)))) (env := [.pv a, .own [], .pv SV, .pv (embM m), .pv MV, .un]) ([] : List PV) id id (by simp [e1]) (by simp) (fun _ z => by cases z)
        simpa using this
      generalize spotV (.gr n k ms hs :: r) = SV at dm c1 ⊢
      generalize madeV (m, .gr n k ms hs :: r) = MV at dm c1 ⊢
      simp [B_wrong_1, dm, c1, dExt]
    have i3' : pIdx (embH (.gr n k ms hs)) (.int 3) = some (.tup (ms.map embM)) := i3
    generalize spotV (.gr n k ms hs :: r) = SV at s0 loop ⊢
    generalize ms.map embM = M at i3' loop
    simp [B_wrong_2, s0, Hs.isG, L_wrong_1, dFor, i3', loop]
theorem G_wr {h : Hs} (g : GN h []) (hd : dep h ≤ 4) (hn : G_need_house [embH h] = .ok .non) (o : ∀ c ∈ allS' h [], spOk c) : G_wrongX [embH h] = .ok [] := by
  have e1 := G_spots g hd
  have loop : forGo (tgN 2) (B_wrong_2 G_Made_init G_wrong_maker G_wrong_try) [2, 3, 4] ((allS' h []).map spotV) [.pv (embH h), .own [], .un, .un, .un, .un] = .nx [.pv (embH h), .own [], .un, .un, .un, .un] := by
    refine for_look spotV (allS' h []) fun c hc => ⟨_, _, rfl, .inl (B_wrong_ok (o c hc)), rfl⟩
  simp only [G_wrongX, D_wrongX, fm0, L_wrong_2]
  generalize (allS' h []).map spotV = M at e1 loop
  have fs : fSortD [.lst []] = some [] := by simp [fSortD, sortB, alikeL]
  simp [hn, e1, dFor, loop, dRetF, fs, toF]
end Tw
set_option Elab.async false
set_option linter.all false
set_option maxRecDepth 100000
set_option maxHeartbeats 4000000
namespace Tw
open PySem PySem.Spec PyProof.Rows L2 Pv
local instance : TabCx := TabCx.nil
def okN (x : List Nat) : Prop := G_is_name [T x] = .ok (.bl true)
theorem g_nh : G_need_houses [.bl true] = .ok .non := by simp [G_need_houses, D_need_houses, fm0]
theorem g_it (x : Str) : G_is_text [.str x] = .ok (.bl true) := by simp [G_is_text, D_is_text, fm0]
theorem all_t {α : Type} (l : List α) : pAll [.lst (l.map fun _ => .bl true)] = some (.bl true) := by
  have e : (l.map fun _ => PV.bl true) = (l.map fun _ => true).map PV.bl := by rw [List.map_map]; rfl
  rw [e, pAll_m]
  congr 2
  simp
theorem G_nn {l : List (List Nat)} {lo hi : Nat} (h : ∀ x ∈ l, okN x) (h1 : lo ≤ l.length) (h2 : l.length ≤ hi) (hz : l.length ≤ 1000) : G_need_names [.tup (l.map T), .int (lo : Nat), .int (hi : Nat)] = .ok .non := by
  have c1 : C_need_names_1 G_is_name [.pv (.tup (l.map T)), .pv (.int (lo : Nat)), .pv (.int (hi : Nat)), .un] = .ok (l.map fun _ => .bl true) := by
    unfold C_need_names_1
    refine dLc_all l T _ ?_ (by omega) fun x hx => ⟨_, rfl, ?_⟩
    · generalize l.map T = M
      simp
    · have := h x hx
      unfold okN at this
      simp [this]
  have a1 := all_t l
  have ln : ((l.map T).length : Int) = (l.length : Int) := by rw [List.length_map]
  simp only [G_need_names, D_need_names, fm0]
  generalize (l.map fun _ => PV.bl true) = M2 at c1 a1
  generalize l.map T = M at c1 ln ⊢
  have q1 : (lo : Int) ≤ (M.length : Int) := by omega
  have q2 : (M.length : Int) ≤ (hi : Int) := by omega
  simp [dChain, q1, q2, c1, a1, g_nh]
theorem G_no {l : List (List Nat)} {hi : Nat} (h : ∀ x ∈ l, okN x) (nd : l.Nodup) (h2 : l.length ≤ hi) (hz : l.length ≤ 1000) : G_need_once [.tup (l.map T), .int (hi : Nat)] = .ok .non := by
  have e1 := G_nn (lo := 0) h (Nat.zero_le _) h2 hz
  have t1 := txts_TT (l := l) (by omega)
  have t2 : ((SetX.sortU (l.map mk)).length : Int) = ((l.map T).length : Int) := by rw [set_len nd, List.length_map]
  have e1' : G_need_names [.tup (l.map T), .int 0, .int (hi : Nat)] = .ok .non := e1
  simp only [G_need_once, D_need_once, fm0]
  generalize l.map mk = Z at t1 t2
  generalize l.map T = M at e1' t1 t2 ⊢
  simp [e1', t1, t2, g_nh]
theorem G_iv {i : Int} (h : i.natAbs ≤ 999999) : G_is_value 6 [.int i, .int 0] = .ok (.bl true) := by
  have e : G_is_number [.int i] = .ok (.bl true) := by simp [G_is_number, D_is_number, fm0]
  have q : ((i.natAbs : Nat) : Int) ≤ 999999 := by omega
  simp only [G_is_value, D_is_value, fm0]
  simp [e, q]
theorem G_nv {l : List Int} {lo hi : Nat} (h : ∀ x ∈ l, x.natAbs ≤ 999999) (h1 : lo ≤ l.length) (h2 : l.length ≤ hi) (hz : l.length ≤ 1000) : G_need_values [.tup (l.map .int), .int (lo : Nat), .int (hi : Nat)] = .ok .non := by
  have c1 : C_need_values_1 (G_is_value 6) [.pv (.tup (l.map .int)), .pv (.int (lo : Nat)), .pv (.int (hi : Nat)), .un] = .ok (l.map fun _ => .bl true) := by
    unfold C_need_values_1
    refine dLc_all l PV.int _ ?_ (by omega) fun x hx => ⟨_, rfl, ?_⟩
    · generalize l.map PV.int = M
      simp
    · simp [G_iv (h x hx)]
  have a1 := all_t l
  have ln : ((l.map PV.int).length : Int) = (l.length : Int) := by rw [List.length_map]
  simp only [G_need_values, D_need_values, fm0]
  generalize (l.map fun _ => PV.bl true) = M2 at c1 a1
  generalize l.map PV.int = M at c1 ln ⊢
  have q1 : (lo : Int) ≤ (M.length : Int) := by omega
  have q2 : (M.length : Int) ≤ (hi : Int) := by omega
  simp [dChain, q1, q2, c1, a1, g_nh]
theorem G_ns {b : PV} (h : G_need_body [b] = .ok .non) : G_need_steps [b] = .ok .non := by simp [G_need_steps, D_need_steps, fm0, dTryX, h]
theorem G_nw {b : PV} (h : G_need_term [b] = .ok .non) : G_need_worth [b] = .ok .non := by simp [G_need_worth, D_need_worth, fm0, dTryX, h]
structure mkN (m : Mkr) : Prop where
  nm : okN m.nm
  sc : m.sc ≤ 2
  ws : ∀ x ∈ m.ws, okN x
  nd : m.ws.Nodup
  few : m.ws.length ≤ 4
  rs : ∀ i ∈ m.rs, i.natAbs ≤ 999999
  r1 : 1 ≤ m.rs.length
  r2 : m.rs.length ≤ 4
  up : G_need_body [m.up] = .ok .non
  tm : G_need_term [m.tm] = .ok .non
  dn : G_need_body [m.dn] = .ok .non
theorem G_nm {m : Mkr} (o : mkN m) : G_need_maker [embM m] = .ok .non := by
  have e1 := G_no (hi := 4) o.ws o.nd o.few (by have := o.few; omega)
  have e2 := G_nv (lo := 1) (hi := 4) o.rs o.r1 o.r2 (by have := o.r2; omega)
  have e3 := G_ns o.up
  have e4 := G_nw o.tm
  have e5 := G_ns o.dn
  have e6 := o.nm
  unfold okN at e6
  have sw : ∃ w, scw m.sc = .str w := by
    unfold scw
    split <;> exact ⟨_, rfl⟩
  obtain ⟨w, hw⟩ := sw
  have si : pIn (scw m.sc) (strTup [(Str.ofString "run"), (Str.ofString "group"), (Str.ofString "try")]) = some true := by
    have e : strTup [(Str.ofString "run"), (Str.ofString "group"), (Str.ofString "try")] = .tup (["run", "group", "try"].map fun b => .str (Str.ofString b)) := rfl
    rw [e]
    obtain z | z | z : m.sc = 0 ∨ m.sc = 1 ∨ m.sc = 2 := by have := o.sc; omega
    all_goals rw [z]; simp only [scw]; rw [pIn_ST]; decide
  have i0 : pIdx (embM m) (.int 0) = some (S "maker") := rfl
  have i5 : pIdx (embM m) (.int 5) = some m.up := rfl
  have i6 : pIdx (embM m) (.int 6) = some m.tm := rfl
  have i7 : pIdx (embM m) (.int 7) = some m.dn := rfl
  have e1' : G_need_once [.tup (m.ws.map T), .int 4] = .ok .non := e1
  have e2' : G_need_values [.tup (m.rs.map .int), .int 1, .int 4] = .ok .non := e2
  have ti : pIsi "tuple" (embM m) = some (.bl true) := by unfold embM; exact isi_tuple_tup _
  have ln : pLen [embM m] = some (.int 8) := rfl
  have i1 := idxM1 m
  have i2 := idxM2 m
  have i3 := idxM3 m
  have i4 := idxM4 m
  rw [hw] at si i2
  have ht := g_it w
  simp only [G_need_maker, D_need_maker, fm0]
  generalize embM m = EM at i0 i1 i2 i3 i4 i5 i6 i7 ti ln ⊢
  generalize m.ws.map T = M1 at e1' i3
  generalize m.rs.map PV.int = M2 at e2' i4
  simp [ti, ln, i0, i1, i2, i3, i4, i5, i6, i7, g_it, e6, ht, si, g_nh, e1', e2', e3, e4, e5]
structure tbN (t : Tb) : Prop where
  cs : ∀ x ∈ t.cs, okN x
  c1 : 1 ≤ t.cs.length
  c2 : t.cs.length ≤ 3
  r1 : 1 ≤ t.rw.length
  r2 : t.rw.length ≤ 4
  rl : ∀ r ∈ t.rw, r.length = t.cs.length
  rs : ∀ r ∈ t.rw, ∀ i ∈ r, i.natAbs ≤ 999999
theorem G_ntb {t : Tb} (o : tbN t) : G_need_table [embB t] = .ok .non := by
  have e1 := G_nn (lo := 1) (hi := 3) o.cs o.c1 o.c2 (by have := o.c2; omega)
  have e1' : G_need_names [.tup (t.cs.map T), .int 1, .int 3] = .ok .non := e1
  have i0 : pIdx (embB t) (.int 0) = some (.tup (t.cs.map T)) := rfl
  have i1 : pIdx (embB t) (.int 1) = some (.tup (t.rw.map fun r => .tup (r.map .int))) := rfl
  have ti : pIsi "tuple" (embB t) = some (.bl true) := by unfold embB; exact isi_tuple_tup _
  have ln : pLen [embB t] = some (.int 2) := rfl
  have lr : ((t.rw.map fun r => PV.tup (r.map .int)).length : Int) = (t.rw.length : Int) := by rw [List.length_map]
  have loop : forGo (tgN 1) (B_need_table_1 G_need_values) [1] (t.rw.map fun r => .tup (r.map .int)) [.pv (embB t), .un] = .nx [.pv (embB t), .un] := by
    refine for_look (fun r : List Int => .tup (r.map .int)) t.rw fun r hr => ⟨_, [.pv (embB t), .pv (.tup (r.map .int))], rfl, .inl ?_, rfl⟩
    have e2 := G_nv (l := r) (lo := t.cs.length) (hi := t.cs.length) (o.rs r hr) (by rw [o.rl r hr]; exact Nat.le_refl _) (by rw [o.rl r hr]; exact Nat.le_refl _) (by rw [o.rl r hr]; have := o.c2; omega)
    have lc : ((t.cs.map T).length : Int) = (t.cs.length : Int) := by rw [List.length_map]
    generalize t.cs.map T = M at i0 lc
    generalize r.map PV.int = M2 at e2 ⊢
    generalize embB t = EB at i0 ⊢
    simp [B_need_table_1, i0, lc, e2]
  have q1 := o.r1
  have q2 := o.r2
  simp only [G_need_table, D_need_table, fm0, L_need_table_1]
  generalize t.cs.map T = M at i0 e1'
  generalize (t.rw.map fun r => PV.tup (r.map .int)) = M2 at i1 lr loop
  generalize embB t = EB at i0 i1 ti ln loop ⊢
  have p1 : (1 : Int) ≤ (M2.length : Int) := by omega
  have p2 : (M2.length : Int) ≤ 4 := by omega
  simp [ti, ln, i0, i1, g_nh, e1', dChain, p1, p2, dFor, loop]
structure tryN (n : List Nat) (k : List (List Nat)) (ts : List Tb) (ws : List (List Nat)) (b : PV) : Prop where
  nm : okN n
  ks : ∀ x ∈ k, okN x
  kd : k.Nodup
  kf : k.length ≤ 4
  tf : ts.length ≤ 2
  tt : ∀ t ∈ ts, tbN t
  wk : ∀ x ∈ ws, okN x
  wd : ws.Nodup
  wf : ws.length ≤ 4
  bd : G_need_body [b] = .ok .non
theorem G_nt' {n : List Nat} {k : List (List Nat)} {ts : List Tb} {ws : List (List Nat)} {b : PV} (o : tryN n k ts ws b) : G_need_try [embH (.tr n k ts ws b)] = .ok .non := by
  have e1 : G_need_once [.tup (k.map T), .int 4] = .ok .non := G_no (hi := 4) o.ks o.kd o.kf (by have := o.kf; omega)
  have e2 : G_need_once [.tup (ws.map T), .int 4] = .ok .non := G_no (hi := 4) o.wk o.wd o.wf (by have := o.wf; omega)
  have e3 := G_ns o.bd
  have e6 := o.nm
  unfold okN at e6
  have i1 : pIdx (embH (.tr n k ts ws b)) (.int 1) = some (T n) := by rw [embH_tr]; rfl
  have i2 : pIdx (embH (.tr n k ts ws b)) (.int 2) = some (.tup (k.map T)) := by rw [embH_tr]; rfl
  have i3 : pIdx (embH (.tr n k ts ws b)) (.int 3) = some (.tup (ts.map embB)) := by rw [embH_tr]; rfl
  have i4 : pIdx (embH (.tr n k ts ws b)) (.int 4) = some (.tup (ws.map T)) := by rw [embH_tr]; rfl
  have i5 : pIdx (embH (.tr n k ts ws b)) (.int 5) = some b := by rw [embH_tr]; rfl
  have ln : pLen [embH (.tr n k ts ws b)] = some (.int 6) := by rw [embH_tr]; rfl
  have loop : forGo (tgN 1) (B_need_try_1 G_need_table) [1] (ts.map embB) [.pv (embH (.tr n k ts ws b)), .un] = .nx [.pv (embH (.tr n k ts ws b)), .un] := by
    refine for_look embB ts fun t ht => ⟨_, [.pv (embH (.tr n k ts ws b)), .pv (embB t)], rfl, .inl ?_, rfl⟩
    simp [B_need_try_1, G_ntb (o.tt t ht)]
  have lt : ((ts.map embB).length : Int) ≤ 2 := by rw [List.length_map]; have := o.tf; omega
  simp only [G_need_try, D_need_try, fm0, L_need_try_1]
  generalize k.map T = M1 at i2 e1
  generalize ws.map T = M2 at i4 e2
  generalize ts.map embB = M3 at i3 loop lt
  generalize embH (.tr n k ts ws b) = EH at i1 i2 i3 i4 i5 ln loop ⊢
  simp [ln, i1, i2, i3, i4, i5, e6, g_nh, e1, e2, lt, dFor, loop, e3]
inductive NH : Nat → Hs → Prop
  | tr {d : Nat} {n : List Nat} {k : List (List Nat)} {ts : List Tb} {ws : List (List Nat)} {b : PV} : tryN n k ts ws b → NH d (.tr n k ts ws b)
  | gr {d : Nat} {n : List Nat} {k : List (List Nat)} {ms : List Mkr} {hs : List Hs} : okN n → d < 4 → (∀ x ∈ k, okN x) → k.Nodup → k.length ≤ 4 → ms.length ≤ 6 → (∀ m ∈ ms, mkN m) → (ms.map Mkr.nm).Nodup → hs.length ≤ 8 → (∀ h ∈ hs, NH (d + 1) h) → (hs.map Hs.nm).Nodup → NH d (.gr n k ms hs)
theorem G_ngm : ∀ (n : Nat), (∀ (d : Nat) (h : Hs), h.isG = true → NH d h → 2 * dep h ≤ n → G_need_group n [embH h, .int (d : Nat)] = .ok .non) ∧ (∀ (d : Nat) (h : Hs), NH d h → 2 * dep h + 1 ≤ n → G_need_member n [embH h, .int (d : Nat)] = .ok .non)
  | 0 => ⟨fun d h _ _ hn => by have := dep_pos h; omega, fun d h _ hn => by omega⟩
  | n + 1 => by
    obtain ⟨ih1, ih2⟩ := G_ngm n
    refine ⟨fun d h hg o hn => ?_, fun d h o hn => ?_⟩
    · cases o with
      | tr _ => cases hg
      | @gr _ nm k ms hs o1 o2 o3 o4 o5 o6 o7 o8 o9 o10 o11 =>
        have e1 : G_need_once [.tup (k.map T), .int 4] = .ok .non := G_no (hi := 4) o3 o4 o5 (by omega)
        have i1 : pIdx (embH (.gr nm k ms hs)) (.int 1) = some (T nm) := by rw [embH_gr]; rfl
        have i2 : pIdx (embH (.gr nm k ms hs)) (.int 2) = some (.tup (k.map T)) := by rw [embH_gr]; rfl
        have i3 : pIdx (embH (.gr nm k ms hs)) (.int 3) = some (.tup (ms.map embM)) := by rw [embH_gr]; rfl
        have i4 : pIdx (embH (.gr nm k ms hs)) (.int 4) = some (.tup (hs.map embH)) := by rw [embH_gr]; rfl
        have ln : pLen [embH (.gr nm k ms hs)] = some (.int 5) := by rw [embH_gr]; rfl
        have e6 := o1
        unfold okN at e6
        have l1 : forGo (tgN 2) (B_need_group_1 G_need_maker) [2] (ms.map embM) [.pv (embH (.gr nm k ms hs)), .pv (.int (d : Nat)), .un, .un] = .nx [.pv (embH (.gr nm k ms hs)), .pv (.int (d : Nat)), .un, .un] := by
          refine for_look embM ms fun m hm => ⟨_, [.pv (embH (.gr nm k ms hs)), .pv (.int (d : Nat)), .pv (embM m), .un], rfl, .inl ?_, rfl⟩
          simp [B_need_group_1, G_nm (o7 m hm)]
        have l2 : forGo (tgN 3) (B_need_group_2 (G_need_member n)) [3] (hs.map embH) [.pv (embH (.gr nm k ms hs)), .pv (.int (d : Nat)), .un, .un] = .nx [.pv (embH (.gr nm k ms hs)), .pv (.int (d : Nat)), .un, .un] := by
          refine for_look embH hs fun m hm => ⟨_, [.pv (embH (.gr nm k ms hs)), .pv (.int (d : Nat)), .un, .pv (embH m)], rfl, .inl ?_, rfl⟩
          have dm := dep_hs (h := .gr nm k ms hs) hm
          have e := ih2 (d + 1) m (o10 m hm) (by omega)
          have e' : G_need_member n [embH m, .int ((d : Int) + 1)] = .ok .non := e
          simp [B_need_group_2, e']
        have c1 : C_need_group_1 [.pv (embH (.gr nm k ms hs)), .pv (.int (d : Nat)), .un, .un] = .ok ((ms.map Mkr.nm).map T) := by
          rw [List.map_map]
          unfold C_need_group_1
          refine dLc_all ms embM _ ?_ (by omega) fun m hm => ⟨_, rfl, ?_⟩
          · generalize ms.map embM = M at i3 ⊢
            simp [i3]
          · simp
        have c2 : C_need_group_2 [.pv (embH (.gr nm k ms hs)), .pv (.int (d : Nat)), .un, .un] = .ok ((hs.map Hs.nm).map T) := by
          rw [List.map_map]
          unfold C_need_group_2
          refine dLc_all hs embH _ ?_ (by omega) fun m hm => ⟨_, rfl, ?_⟩
          · generalize hs.map embH = M at i4 ⊢
            simp [i4]
          · simp
        have t1 := txts_T (l := ms.map Mkr.nm) (by rw [List.length_map]; omega)
        have t2 : ((SetX.sortU ((ms.map Mkr.nm).map mk)).length : Int) = ((ms.map embM).length : Int) := by rw [set_len o8, List.length_map, List.length_map]
        have t3 := txts_T (l := hs.map Hs.nm) (by rw [List.length_map]; omega)
        have t4 : ((SetX.sortU ((hs.map Hs.nm).map mk)).length : Int) = ((hs.map embH).length : Int) := by rw [set_len o11, List.length_map, List.length_map]
        have lm : ((ms.map embM).length : Int) ≤ 6 := by rw [List.length_map]; omega
        have lh : ((hs.map embH).length : Int) ≤ 8 := by rw [List.length_map]; omega
        have dl : (d : Int) < 4 := by omega
        simp only [G_need_group, D_need_group, fm0, L_need_group_1, L_need_group_2]
        generalize (ms.map Mkr.nm).map mk = Z1 at t1 t2
        generalize (hs.map Hs.nm).map mk = Z2 at t3 t4
        generalize (ms.map Mkr.nm).map T = Y1 at t1 c1
        generalize (hs.map Hs.nm).map T = Y2 at t3 c2
        generalize k.map T = M1 at i2 e1
        generalize ms.map embM = M2 at i3 l1 t2 lm
        generalize hs.map embH = M3 at i4 l2 t4 lh
        generalize embH (.gr nm k ms hs) = EH at i1 i2 i3 i4 ln l1 l2 c1 c2 ⊢
        simp [ln, i1, i2, i3, i4, e6, dl, g_nh, e1, lm, lh, dFor, l1, l2, c1, c2, t1, t2, t3, t4]
    · cases o with
      | @tr _ nm k ts ws b o =>
        have e := G_nt' o
        have i0 : pIdx (embH (.tr nm k ts ws b)) (.int 0) = some (S "try") := by rw [embH_tr]; rfl
        have ti : pIsi "tuple" (embH (.tr nm k ts ws b)) = some (.bl true) := by rw [embH_tr]; exact isi_tuple_tup _
        have ln : pLen [embH (.tr nm k ts ws b)] = some (.int 6) := by rw [embH_tr]; rfl
        have pi : pIn (S "try") (.tup [S "group", S "try"]) = some true := pIn_ST "try" ["group", "try"]
        simp only [G_need_member, D_need_member, fm0]
        generalize embH (.tr nm k ts ws b) = EH at i0 ti ln e ⊢
        simp [ti, ln, i0, g_it, pi, g_nh, e]
      | @gr _ nm k ms hs o1 o2 o3 o4 o5 o6 o7 o8 o9 o10 o11 =>
        have e := ih1 d (.gr nm k ms hs) rfl (.gr o1 o2 o3 o4 o5 o6 o7 o8 o9 o10 o11) (by omega)
        have i0 : pIdx (embH (.gr nm k ms hs)) (.int 0) = some (S "group") := by rw [embH_gr]; rfl
        have ti : pIsi "tuple" (embH (.gr nm k ms hs)) = some (.bl true) := by rw [embH_gr]; exact isi_tuple_tup _
        have ln : pLen [embH (.gr nm k ms hs)] = some (.int 5) := by rw [embH_gr]; rfl
        have pi : pIn (S "group") (.tup [S "group", S "try"]) = some true := pIn_ST "group" ["group", "try"]
        simp only [G_need_member, D_need_member, fm0]
        generalize embH (.gr nm k ms hs) = EH at i0 ti ln e ⊢
        simp [ti, ln, i0, g_it, pi, g_nh, e]
theorem G_nhs {h : Hs} (hg : h.isG = true) (o : NH 0 h) (hd : dep h ≤ 4) : G_need_house [embH h] = .ok .non := by
  have e : G_need_group 12 [embH h, .int 0] = .ok .non := (G_ngm 12).1 0 h hg o (by omega)
  cases h with
  | tr => cases hg
  | gr nm k ms hs =>
    have i0 : pIdx (embH (.gr nm k ms hs)) (.int 0) = some (S "group") := by rw [embH_gr]; rfl
    have ti : pIsi "tuple" (embH (.gr nm k ms hs)) = some (.bl true) := by rw [embH_gr]; exact isi_tuple_tup _
    have ln : pLen [embH (.gr nm k ms hs)] = some (.int 5) := by rw [embH_gr]; rfl
    simp only [G_need_house, D_need_house, fm0]
    generalize embH (.gr nm k ms hs) = EH at i0 ti ln e ⊢
    simp [ti, ln, i0, g_it, g_nh, e]
end Tw
set_option Elab.async false
set_option linter.all false
set_option maxRecDepth 100000
set_option maxHeartbeats 4000000
namespace Tw
open PySem PySem.Spec PyProof.Rows L2 Pv
local instance : TabCx := TabCx.nil
def prods : List Nat → List (List Nat)
  | [] => [[]]
  | c :: cs => (List.range c).flatMap fun k => (prods cs).map (k :: ·)
def cnt (cs : List Nat) : Nat := cs.foldl (· * ·) 1
theorem foldl_mul : ∀ (cs : List Nat) (a : Nat), cs.foldl (· * ·) a = a * cnt cs
  | [], a => by simp [cnt]
  | c :: cs, a => by
    unfold cnt
    rw [List.foldl_cons, List.foldl_cons, foldl_mul cs (a * c), foldl_mul cs (1 * c), Nat.one_mul, Nat.mul_assoc]
theorem cnt_cons (c : Nat) (cs : List Nat) : cnt (c :: cs) = c * cnt cs := by
  have := foldl_mul cs (1 * c)
  rw [Nat.one_mul] at this
  unfold cnt
  rw [List.foldl_cons, Nat.one_mul, this]
  rfl
theorem sum_const {α : Type} (l : List α) (k : Nat) : (l.map fun _ => k).sum = l.length * k := by
  induction l with
  | nil => simp
  | cons a l ih => rw [List.map_cons, List.sum_cons, ih, List.length_cons, Nat.succ_mul]; omega
theorem prods_len : ∀ cs : List Nat, (prods cs).length = cnt cs
  | [] => rfl
  | c :: cs => by
    rw [prods, List.length_flatMap, cnt_cons]
    simp only [List.length_map, prods_len cs]
    rw [sum_const, List.length_range]
theorem cnt_pos {cs : List Nat} (h : ∀ c ∈ cs, 1 ≤ c) : 1 ≤ cnt cs := by
  induction cs with
  | nil => decide
  | cons c cs ih =>
    rw [cnt_cons]
    exact Nat.mul_pos (h c List.mem_cons_self) (ih fun x hx => h x (List.mem_cons_of_mem _ hx))
def grow (s : List (List Nat)) (c : Nat) : List (List Nat) := s.flatMap fun r => (List.range c).map fun k => r ++ [k]
end Tw
set_option Elab.async false
set_option linter.all false
set_option maxRecDepth 100000
set_option maxHeartbeats 4000000
namespace Tw
open PySem PySem.Spec PyProof.Rows L2 Pv
local instance : TabCx := TabCx.nil
def dg (k : Nat) : List Nat := [48 + k]
def suf (told : List Nat) : List Nat := if told = [] then [] else [91] ++ TL.joinL [45] (told.map dg) ++ [93]
def tld (M : List MC) (tn mn : List Nat) : List Nat := tn ++ ((M.zip mn).filter fun p => decide (1 < p.1.1.rs.length)).map (·.2)
def nmR (c : Ch) (M : List MC) (tn mn : List Nat) : List Nat := place c ++ suf (tld M tn mn)
theorem tld_mem {M : List MC} {tn mn : List Nat} {k : Nat} (h : k ∈ tld M tn mn) : k ∈ tn ∨ k ∈ mn := by
  unfold tld at h
  rcases List.mem_append.mp h with h | h
  · exact .inl h
  · obtain ⟨p, hp, rfl⟩ := List.mem_map.mp h
    exact .inr (List.of_mem_zip (List.mem_filter.mp hp).1).2
def tcs (ts : List Tb) : List Nat := ts.map fun t => t.rw.length
def mcs (M : List MC) : List Nat := M.map fun q => q.1.rs.length
theorem prods_mem : ∀ {cs r : List Nat}, r ∈ prods cs → r.length = cs.length ∧ ∀ k ∈ r, ∃ c ∈ cs, k < c
  | [], r, h => by rw [prods, List.mem_singleton] at h; subst h; exact ⟨rfl, fun _ z => by cases z⟩
  | c :: cs, r, h => by
    rw [prods] at h
    obtain ⟨k, h0, h1⟩ := List.mem_flatMap.mp h
    obtain ⟨r0, h2, rfl⟩ := List.mem_map.mp h1
    obtain ⟨i1, i2⟩ := prods_mem h2
    refine ⟨by rw [List.length_cons, List.length_cons, i1], fun x hx => ?_⟩
    rcases List.mem_cons.mp hx with rfl | hx
    · exact ⟨c, List.mem_cons_self, List.mem_range.mp h0⟩
    · obtain ⟨c', h3, h4⟩ := i2 x hx
      exact ⟨c', List.mem_cons_of_mem _ h3, h4⟩
structure okZ (ts : List Tb) (ws : List (List Nat)) (c : Ch) : Prop where
  t : okT ws c
  nd : ndG c
  tf : ts.length ≤ 2
  tr : ∀ t ∈ ts, 1 ≤ t.rw.length ∧ t.rw.length ≤ 4
  mr : ∀ q ∈ allM ws c, 1 ≤ q.1.rs.length ∧ q.1.rs.length ≤ 4
  ml : (allM ws c).length ≤ 12
def cts (ts : List Tb) (ws : List (List Nat)) (c : Ch) : List Nat := tcs ts ++ mcs (allM ws c)
theorem cts_ok {ts : List Tb} {ws : List (List Nat)} {c : Ch} (o : okZ ts ws c) : (∀ k ∈ cts ts ws c, 1 ≤ k ∧ k ≤ 4) ∧ (cts ts ws c).length ≤ 14 := by
  refine ⟨fun k hk => ?_, ?_⟩
  · unfold cts tcs mcs at hk
    rcases List.mem_append.mp hk with hk | hk
    · obtain ⟨t, ht, rfl⟩ := List.mem_map.mp hk
      exact o.tr t ht
    · obtain ⟨q, hq, rfl⟩ := List.mem_map.mp hk
      exact o.mr q hq
  · unfold cts tcs mcs
    rw [List.length_append, List.length_map, List.length_map]
    have := o.tf
    have := o.ml
    omega
end Tw
set_option Elab.async false
set_option linter.all false
set_option maxRecDepth 100000
set_option maxHeartbeats 4000000
namespace Tw
open PySem PySem.Spec PyProof.Rows L2 Pv
local instance : TabCx := TabCx.nil
def isT : Ch → Bool
  | .tr _ _ _ _ _ :: _ => true
  | _ => false
def triesH (h : Hs) : List Ch := (allS' h []).filter isT
def trOk : Ch → Prop
  | .tr n k ts ws b :: r => okZ ts ws r ∧ okC (.tr n k ts ws b :: r)
  | _ => False
structure okH (h : Hs) : Prop where
  gn : GN h []
  dp : dep h ≤ 4
  gr : h.isG = true
  nh : NH 0 h
  sp : ∀ c ∈ allS' h [], spOk c
  tr : ∀ c ∈ triesH h, trOk c
theorem okH.need {h : Hs} (o : okH h) : G_need_house [embH h] = .ok .non := G_nhs o.gr o.nh o.dp
theorem okH.wrong {h : Hs} (o : okH h) : G_wrongX [embH h] = .ok [] := G_wr o.gn o.dp o.need o.sp
end Tw
set_option Elab.async false
set_option linter.all false
set_option maxRecDepth 100000
set_option maxHeartbeats 4000000
namespace Tw
open PySem PySem.Spec PyProof.Rows L2 Pv
local instance : TabCx := TabCx.nil
theorem ty_tr {c : Ch} (t : trOk c) : ∃ n k ts ws b r, c = .tr n k ts ws b :: r ∧ okZ ts ws r ∧ okC (.tr n k ts ws b :: r) := by
  match c, t with
  | .tr n k ts ws b :: r, t => exact ⟨n, k, ts, ws, b, r, rfl, t.1, t.2⟩
end Tw
set_option Elab.async false
set_option linter.all false
set_option maxRecDepth 100000
set_option maxHeartbeats 4000000
namespace Tw
open PySem PySem.Spec PyProof.Rows L2 Pv
local instance : TabCx := TabCx.nil
abbrev RD0 := Ch × List Nat
def ctsC : Ch → List Nat
  | .tr _ _ ts ws _ :: r => cts ts ws r
  | _ => []
def tsC : Ch → List Tb
  | .tr _ _ ts _ _ :: _ => ts
  | _ => []
def mkC : Ch → List MC
  | .tr _ _ _ ws _ :: r => allM ws r
  | _ => []
def rowsD (h : Hs) : List RD0 := (triesH h).flatMap fun c => (prods (ctsC c)).map fun row => (c, row)
def tnD (d : RD0) : List Nat := d.2.take (tsC d.1).length
def mnD (d : RD0) : List Nat := d.2.drop (tsC d.1).length
def nmD (d : RD0) : List Nat := nmR d.1 (mkC d.1) (tnD d) (mnD d)
structure okD (d : RD0) : Prop where
  ex : ∃ n k ts ws b r, d.1 = .tr n k ts ws b :: r ∧ okZ ts ws r ∧ okC (.tr n k ts ws b :: r) ∧ d.2 ∈ prods (cts ts ws r)
theorem dg_lt {k : Nat} (h : k ≤ 9) : ∀ x ∈ dg k, x < 1114112 := fun x hx => by
  unfold dg at hx
  rw [List.mem_singleton] at hx
  omega
theorem join_lt : ∀ {l : List Nat}, (∀ k ∈ l, k ≤ 9) → ∀ x ∈ TL.joinL [45] (l.map dg), x < 1114112 := fun {l} hl x hx => by
  rcases joinL_in hx with z | ⟨p, hp, hx⟩
  · rw [List.mem_singleton] at z; subst z; decide
  · obtain ⟨k, hk, rfl⟩ := List.mem_map.mp hp
    exact dg_lt (hl k hk) x hx
theorem suf_lt {l : List Nat} (hl : ∀ k ∈ l, k ≤ 9) : ∀ x ∈ suf l, x < 1114112 := fun x hx => by
  unfold suf at hx
  split at hx
  · cases hx
  · rw [List.mem_append, List.mem_append] at hx
    rcases hx with (hx | hx) | hx
    · rw [List.mem_singleton] at hx; subst hx; decide
    · exact join_lt hl x hx
    · rw [List.mem_singleton] at hx; subst hx; decide
theorem okD.sm {d : RD0} (o : okD d) : ∀ k ∈ d.2, k ≤ 3 := by
  obtain ⟨n, k, ts, ws, b, r, e, o1, o2, h⟩ := o.ex
  intro x hx
  obtain ⟨_, m2⟩ := prods_mem h
  obtain ⟨y, hy, hxy⟩ := m2 x hx
  have := ((cts_ok o1).1 y hy).2
  omega
theorem okD.tld {d : RD0} (o : okD d) : ∀ k ∈ tld (mkC d.1) (tnD d) (mnD d), k ≤ 3 := fun k hk => by
  rcases tld_mem hk with z | z
  · exact o.sm k (List.mem_of_mem_take z)
  · exact o.sm k (List.mem_of_mem_drop z)
theorem okD.oc {d : RD0} (o : okD d) : okC d.1 := by
  obtain ⟨n, k, ts, ws, b, r, e, o1, o2, h⟩ := o.ex
  rw [e]
  exact o2
theorem okD.lt {d : RD0} (o : okD d) : ∀ x ∈ nmD d, x < 1114112 := fun x hx => by
  unfold nmD nmR at hx
  rcases List.mem_append.mp hx with hx | hx
  · exact place_lt o.oc.2 x hx
  · exact suf_lt (fun k hk => by have := o.tld k hk; omega) x hx
end Tw
set_option Elab.async false
set_option linter.all false
set_option maxRecDepth 100000
set_option maxHeartbeats 4000000
namespace Tw
open PySem PySem.Spec PyProof.Rows L2 Pv
local instance : TabCx := TabCx.nil
def allK (c : Ch) : List (List Nat) := c.flatMap Hs.marks
def dK (L : List (List Nat)) : Slot := .dic (L.map fun x => .inr (mk x)) (L.map fun _ => .bl true)
end Tw
set_option Elab.async false
set_option linter.all false
set_option maxRecDepth 100000
set_option maxHeartbeats 4000000
namespace Tw
open PySem PySem.Spec PyProof.Rows L2 Pv
local instance : TabCx := TabCx.nil
@[simp] theorem at0 (a : PV) (l : List PV) : L2.atI (a :: l) 0 = some a := atI_in (l := a :: l) (k := 0) (by simp)
@[simp] theorem at1 (a b : PV) (l : List PV) : L2.atI (a :: b :: l) 1 = some b := atI_in (l := a :: b :: l) (k := 1) (by simp)
@[simp] theorem at2 (a b c : PV) (l : List PV) : L2.atI (a :: b :: c :: l) 2 = some c := atI_in (l := a :: b :: c :: l) (k := 2) (by simp)
@[simp] theorem at3 (a b c d : PV) (l : List PV) : L2.atI (a :: b :: c :: d :: l) 3 = some d := atI_in (l := a :: b :: c :: d :: l) (k := 3) (by simp)
@[simp] theorem wt0 : pIn (.str (Str.ofString "plus")) (strTup [(Str.ofString "plus"), (Str.ofString "less"), (Str.ofString "times"), (Str.ofString "join"), (Str.ofString "same"), (Str.ofString "below"), (Str.ofString "part")]) = some true := by decide +kernel
@[simp] theorem wt1 : pIn (.str (Str.ofString "below")) (strTup [(Str.ofString "plus"), (Str.ofString "less"), (Str.ofString "times"), (Str.ofString "join"), (Str.ofString "same"), (Str.ofString "below"), (Str.ofString "part")]) = some true := by decide +kernel
@[simp] theorem wt2 : pDin [((Str.ofString "let"), (3 : Int)), ((Str.ofString "note"), (2 : Int)), ((Str.ofString "check"), (2 : Int)), ((Str.ofString "alike"), (3 : Int)), ((Str.ofString "fail"), (2 : Int)), ((Str.ofString "skip"), (2 : Int)), ((Str.ofString "when"), (4 : Int)), ((Str.ofString "each"), (4 : Int))] (.str (Str.ofString "let")) = some true := by decide +kernel
@[simp] theorem wt3 : pDix [((Str.ofString "let"), (3 : Int)), ((Str.ofString "note"), (2 : Int)), ((Str.ofString "check"), (2 : Int)), ((Str.ofString "alike"), (3 : Int)), ((Str.ofString "fail"), (2 : Int)), ((Str.ofString "skip"), (2 : Int)), ((Str.ofString "when"), (4 : Int)), ((Str.ofString "each"), (4 : Int))] (.str (Str.ofString "let")) = some (.int 3) := by kernel_rfl
@[simp] theorem wt4 : pIn (.str (Str.ofString "let")) (.tup [.str (Str.ofString "let"), .str (Str.ofString "each")]) = some true := by decide +kernel
@[simp] theorem wt5 : pIn (.str (Str.ofString "let")) (.tup [.str (Str.ofString "when"), .str (Str.ofString "each")]) = some false := by decide +kernel
@[simp] theorem wt6 : pDin [((Str.ofString "let"), (3 : Int)), ((Str.ofString "note"), (2 : Int)), ((Str.ofString "check"), (2 : Int)), ((Str.ofString "alike"), (3 : Int)), ((Str.ofString "fail"), (2 : Int)), ((Str.ofString "skip"), (2 : Int)), ((Str.ofString "when"), (4 : Int)), ((Str.ofString "each"), (4 : Int))] (.str (Str.ofString "note")) = some true := by decide +kernel
@[simp] theorem wt7 : pDix [((Str.ofString "let"), (3 : Int)), ((Str.ofString "note"), (2 : Int)), ((Str.ofString "check"), (2 : Int)), ((Str.ofString "alike"), (3 : Int)), ((Str.ofString "fail"), (2 : Int)), ((Str.ofString "skip"), (2 : Int)), ((Str.ofString "when"), (4 : Int)), ((Str.ofString "each"), (4 : Int))] (.str (Str.ofString "note")) = some (.int 2) := by kernel_rfl
@[simp] theorem wt8 : pIn (.str (Str.ofString "note")) (.tup [.str (Str.ofString "let"), .str (Str.ofString "each")]) = some false := by decide +kernel
@[simp] theorem wt9 : pIn (.str (Str.ofString "note")) (.tup [.str (Str.ofString "when"), .str (Str.ofString "each")]) = some false := by decide +kernel
@[simp] theorem wt10 : pDin [((Str.ofString "let"), (3 : Int)), ((Str.ofString "note"), (2 : Int)), ((Str.ofString "check"), (2 : Int)), ((Str.ofString "alike"), (3 : Int)), ((Str.ofString "fail"), (2 : Int)), ((Str.ofString "skip"), (2 : Int)), ((Str.ofString "when"), (4 : Int)), ((Str.ofString "each"), (4 : Int))] (.str (Str.ofString "check")) = some true := by decide +kernel
@[simp] theorem wt11 : pDix [((Str.ofString "let"), (3 : Int)), ((Str.ofString "note"), (2 : Int)), ((Str.ofString "check"), (2 : Int)), ((Str.ofString "alike"), (3 : Int)), ((Str.ofString "fail"), (2 : Int)), ((Str.ofString "skip"), (2 : Int)), ((Str.ofString "when"), (4 : Int)), ((Str.ofString "each"), (4 : Int))] (.str (Str.ofString "check")) = some (.int 2) := by kernel_rfl
@[simp] theorem wt12 : pIn (.str (Str.ofString "check")) (.tup [.str (Str.ofString "let"), .str (Str.ofString "each")]) = some false := by decide +kernel
@[simp] theorem wt13 : pIn (.str (Str.ofString "check")) (.tup [.str (Str.ofString "when"), .str (Str.ofString "each")]) = some false := by decide +kernel
@[simp] theorem wt14 : pDin [((Str.ofString "let"), (3 : Int)), ((Str.ofString "note"), (2 : Int)), ((Str.ofString "check"), (2 : Int)), ((Str.ofString "alike"), (3 : Int)), ((Str.ofString "fail"), (2 : Int)), ((Str.ofString "skip"), (2 : Int)), ((Str.ofString "when"), (4 : Int)), ((Str.ofString "each"), (4 : Int))] (.str (Str.ofString "alike")) = some true := by decide +kernel
@[simp] theorem wt15 : pDix [((Str.ofString "let"), (3 : Int)), ((Str.ofString "note"), (2 : Int)), ((Str.ofString "check"), (2 : Int)), ((Str.ofString "alike"), (3 : Int)), ((Str.ofString "fail"), (2 : Int)), ((Str.ofString "skip"), (2 : Int)), ((Str.ofString "when"), (4 : Int)), ((Str.ofString "each"), (4 : Int))] (.str (Str.ofString "alike")) = some (.int 3) := by kernel_rfl
@[simp] theorem wt16 : pIn (.str (Str.ofString "alike")) (.tup [.str (Str.ofString "let"), .str (Str.ofString "each")]) = some false := by decide +kernel
@[simp] theorem wt17 : pIn (.str (Str.ofString "alike")) (.tup [.str (Str.ofString "when"), .str (Str.ofString "each")]) = some false := by decide +kernel
@[simp] theorem wt18 : pDin [((Str.ofString "let"), (3 : Int)), ((Str.ofString "note"), (2 : Int)), ((Str.ofString "check"), (2 : Int)), ((Str.ofString "alike"), (3 : Int)), ((Str.ofString "fail"), (2 : Int)), ((Str.ofString "skip"), (2 : Int)), ((Str.ofString "when"), (4 : Int)), ((Str.ofString "each"), (4 : Int))] (.str (Str.ofString "fail")) = some true := by decide +kernel
@[simp] theorem wt19 : pDix [((Str.ofString "let"), (3 : Int)), ((Str.ofString "note"), (2 : Int)), ((Str.ofString "check"), (2 : Int)), ((Str.ofString "alike"), (3 : Int)), ((Str.ofString "fail"), (2 : Int)), ((Str.ofString "skip"), (2 : Int)), ((Str.ofString "when"), (4 : Int)), ((Str.ofString "each"), (4 : Int))] (.str (Str.ofString "fail")) = some (.int 2) := by kernel_rfl
@[simp] theorem wt20 : pIn (.str (Str.ofString "fail")) (.tup [.str (Str.ofString "let"), .str (Str.ofString "each")]) = some false := by decide +kernel
@[simp] theorem wt21 : pIn (.str (Str.ofString "fail")) (.tup [.str (Str.ofString "when"), .str (Str.ofString "each")]) = some false := by decide +kernel
@[simp] theorem wt22 : pDin [((Str.ofString "let"), (3 : Int)), ((Str.ofString "note"), (2 : Int)), ((Str.ofString "check"), (2 : Int)), ((Str.ofString "alike"), (3 : Int)), ((Str.ofString "fail"), (2 : Int)), ((Str.ofString "skip"), (2 : Int)), ((Str.ofString "when"), (4 : Int)), ((Str.ofString "each"), (4 : Int))] (.str (Str.ofString "skip")) = some true := by decide +kernel
@[simp] theorem wt23 : pDix [((Str.ofString "let"), (3 : Int)), ((Str.ofString "note"), (2 : Int)), ((Str.ofString "check"), (2 : Int)), ((Str.ofString "alike"), (3 : Int)), ((Str.ofString "fail"), (2 : Int)), ((Str.ofString "skip"), (2 : Int)), ((Str.ofString "when"), (4 : Int)), ((Str.ofString "each"), (4 : Int))] (.str (Str.ofString "skip")) = some (.int 2) := by kernel_rfl
@[simp] theorem wt24 : pIn (.str (Str.ofString "skip")) (.tup [.str (Str.ofString "let"), .str (Str.ofString "each")]) = some false := by decide +kernel
@[simp] theorem wt25 : pIn (.str (Str.ofString "skip")) (.tup [.str (Str.ofString "when"), .str (Str.ofString "each")]) = some false := by decide +kernel
@[simp] theorem wt26 : pDin [((Str.ofString "let"), (3 : Int)), ((Str.ofString "note"), (2 : Int)), ((Str.ofString "check"), (2 : Int)), ((Str.ofString "alike"), (3 : Int)), ((Str.ofString "fail"), (2 : Int)), ((Str.ofString "skip"), (2 : Int)), ((Str.ofString "when"), (4 : Int)), ((Str.ofString "each"), (4 : Int))] (.str (Str.ofString "when")) = some true := by decide +kernel
@[simp] theorem wt27 : pDix [((Str.ofString "let"), (3 : Int)), ((Str.ofString "note"), (2 : Int)), ((Str.ofString "check"), (2 : Int)), ((Str.ofString "alike"), (3 : Int)), ((Str.ofString "fail"), (2 : Int)), ((Str.ofString "skip"), (2 : Int)), ((Str.ofString "when"), (4 : Int)), ((Str.ofString "each"), (4 : Int))] (.str (Str.ofString "when")) = some (.int 4) := by kernel_rfl
@[simp] theorem wt28 : pIn (.str (Str.ofString "when")) (.tup [.str (Str.ofString "let"), .str (Str.ofString "each")]) = some false := by decide +kernel
@[simp] theorem wt29 : pIn (.str (Str.ofString "when")) (.tup [.str (Str.ofString "when"), .str (Str.ofString "each")]) = some true := by decide +kernel
inductive Tm where
  | own (v : PV)
  | nm (x : List Nat)
  | two (w : String) (a b : Tm)
def embT : Tm → PV
  | .own v => .tup [S "own", v]
  | .nm x => .tup [S "name", T x]
  | .two w a b => .tup [S w, embT a, embT b]
def nmsT : Tm → List (List Nat)
  | .own _ => []
  | .nm x => [x]
  | .two _ a b => nmsT a ++ nmsT b
def dpT : Tm → Nat
  | .two _ a b => max (dpT a) (dpT b) + 1
  | _ => 0
def rowN : List Nat := sc "row"
theorem T_row : T rowN = S "row" := by show PV.str (mk (sc "row")) = _; rw [← ofS]
def okX (x : List Nat) : Prop := (∀ c ∈ x, c < 1114112) ∧ (okN x ∨ x = rowN)
def okTm : Tm → Prop
  | .own v => G_is_value 6 [v, .int 0] = .ok (.bl true)
  | .nm x => okX x
  | .two w a b => (w = "plus" ∨ w = "below") ∧ okTm a ∧ okTm b
theorem g_nt : G_need_terms [.bl true] = .ok .non := by simp [G_need_terms, D_need_terms, fm0]
theorem is_row : G_is_name [S "row"] = .ok (.bl false) := by kernel_rfl
theorem nd_ok : ∀ (n : Nat) (t : Tm) (d : Nat), okTm t → dpT t < n → d + dpT t < 8 → G_need_deep n [embT t, .int (d : Nat)] = .ok .non
  | 0, t, d, _, h, _ => by omega
  | n + 1, .own v, d, o, _, h => by
    have hd : (d : Int) < 8 := by omega
    have o' : G_is_value 6 [v, .int 0] = .ok (.bl true) := o
    simp only [G_need_deep, D_need_deep, fm0, embT]
    generalize G_is_value 6 = gv at o' ⊢
    simp [hd, g_nt, o']
  | n + 1, .nm x, d, o, _, h => by
    have hd : (d : Int) < 8 := by omega
    simp only [G_need_deep, D_need_deep, fm0, embT]
    rcases o.2 with q | q
    · have q' : G_is_name [T x] = .ok (.bl true) := q
      simp [hd, g_nt, q']
    · rw [q, T_row]
      simp [hd, g_nt, is_row]
  | n + 1, .two w a b, d, o, h, hd' => by
    have hd : (d : Int) < 8 := by omega
    simp only [dpT] at h hd'
    have ia := nd_ok n a (d + 1) o.2.1 (by omega) (by omega)
    have ib := nd_ok n b (d + 1) o.2.2 (by omega) (by omega)
    rw [Int.natCast_add] at ia ib
    have ia' : G_need_deep n [embT a, .int ((d : Int) + 1)] = .ok .non := ia
    have ib' : G_need_deep n [embT b, .int ((d : Int) + 1)] = .ok .non := ib
    have sl : ∀ z : PV, pSl (.tup [z, embT a, embT b]) (some 1) none = some (.tup [embT a, embT b]) := fun z => slT_fr [z, embT a, embT b] 0
    simp only [G_need_deep, D_need_deep, fm0, embT]
    rcases o.1 with q | q <;> subst q <;>
    · generalize embT a = A at *
      generalize embT b = B at *
      simp [hd, g_nt, L_need_deep_2, B_need_deep_2, dFor, forGo, sl, ia', ib', tgN]
theorem need_tm {t : Tm} (o : okTm t) (h : dpT t < 8) : G_need_term [embT t] = .ok .non := by
  have := nd_ok 12 t 0 o (by omega) (by omega)
  have e : G_need_deep 12 [embT t, .int 0] = .ok .non := this
  simp only [G_need_term, D_need_term, fm0]
  generalize G_need_deep 12 = g at *
  simp [e]
theorem nms_len : ∀ t : Tm, (nmsT t).length ≤ 2 ^ dpT t
  | .own _ => by simp [nmsT]
  | .nm _ => by simp [nmsT, dpT]
  | .two w a b => by
    have h1 := nms_len a
    have h2 := nms_len b
    have h3 : 2 ^ dpT a ≤ 2 ^ max (dpT a) (dpT b) := Nat.pow_le_pow_right (by omega) (by omega)
    have h4 : 2 ^ dpT b ≤ 2 ^ max (dpT a) (dpT b) := Nat.pow_le_pow_right (by omega) (by omega)
    simp only [nmsT, dpT, List.length_append, Nat.pow_succ]
    omega
theorem nms_ok : ∀ (n : Nat) (t : Tm), okTm t → dpT t < n → dpT t < 8 → G_names_in n [embT t] = .ok (.lst ((nmsT t).map T))
  | 0, t, _, h, _ => by omega
  | n + 1, .own v, o, _, h => by simp [G_names_in, D_names_in, fm0, embT, nmsT]
  | n + 1, .nm x, o, _, h => by simp [G_names_in, D_names_in, fm0, embT, nmsT]
  | n + 1, .two w a b, o, h, hd' => by
    simp only [dpT] at h hd'
    have ia := nms_ok n a o.2.1 (by omega) (by omega)
    have ib := nms_ok n b o.2.2 (by omega) (by omega)
    have la := nms_len a
    have lb := nms_len b
    have h3 : 2 ^ dpT a ≤ 2 ^ 8 := Nat.pow_le_pow_right (by omega) (by omega)
    have h4 : 2 ^ dpT b ≤ 2 ^ 8 := Nat.pow_le_pow_right (by omega) (by omega)
    have sl : ∀ z : PV, pSl (.tup [z, embT a, embT b]) (some 1) none = some (.tup [embT a, embT b]) := fun z => slT_fr [z, embT a, embT b] 0
    have f1 : fCat (.lst []) (.lst ((nmsT a).map T)) = some ((nmsT a).map T) := by rw [fCat_ok (by simp; omega)]; rfl
    have f2 : fCat (.lst ((nmsT a).map T)) (.lst ((nmsT b).map T)) = some ((nmsT a).map T ++ (nmsT b).map T) := fCat_ok (by simp; omega)
    simp only [G_names_in, D_names_in, fm0, embT, nmsT, List.map_append]
    generalize (nmsT a).map T = NA at *
    generalize (nmsT b).map T = NB at *
    rcases o.1 with q | q <;> subst q <;>
    · generalize embT a = A at *
      generalize embT b = B at *
      simp [L_names_in_1, B_names_in_1, dFor, forGo, sl, ia, ib, tgN, f1, f2]
inductive St where
  | sgl (w : String) (t : Tm)
  | lt (x : List Nat) (t : Tm)
  | alk (a b : Tm)
  | whn (t f : Tm)
def embS : St → PV
  | .sgl w t => .tup [S w, embT t]
  | .lt x t => .tup [S "let", T x, embT t]
  | .alk a b => .tup [S "alike", embT a, embT b]
  | .whn t f => .tup [S "when", embT t, .tup [.tup [S "fail", embT f]], .tup []]
def tmsS : St → List Tm
  | .sgl _ t => [t]
  | .lt _ t => [t]
  | .alk a b => [a, b]
  | .whn t _ => [t]
def letS : St → List (List Nat)
  | .lt x _ => [x]
  | _ => []
def isW : St → Prop
  | .whn _ _ => True
  | _ => False
structure okK (R : List (List Nat)) (t : Tm) : Prop where
  tm : okTm t
  dp : dpT t < 8
  nm : ∀ x ∈ nmsT t, x ∈ R
def okS (R : List (List Nat)) : St → Prop
  | .sgl w t => (w = "note" ∨ w = "check" ∨ w = "fail" ∨ w = "skip") ∧ okK R t
  | .lt x t => ((∀ c ∈ x, c < 1114112) ∧ okN x) ∧ okK R t
  | .alk a b => okK R a ∧ okK R b
  | .whn t f => okK R t ∧ okK R f
theorem okK.mono {R R' : List (List Nat)} {t : Tm} (h : okK R t) (hs : ∀ x ∈ R, x ∈ R') : okK R' t := ⟨h.tm, h.dp, fun x hx => hs x (h.nm x hx)⟩
theorem okS.mono {R R' : List (List Nat)} {s : St} (h : okS R s) (hs : ∀ x ∈ R, x ∈ R') : okS R' s := by
  cases s with
  | sgl => exact ⟨h.1, h.2.mono hs⟩
  | lt => exact ⟨h.1, h.2.mono hs⟩
  | alk => exact ⟨h.1.mono hs, h.2.mono hs⟩
  | whn => exact ⟨h.1.mono hs, h.2.mono hs⟩
theorem nb_of (n : Nat) {l : List PV} {d : Nat} (hl : l.length ≤ 10) (hd : d < 3) (h : ∀ p ∈ l, G_need_step n [p, .int (d : Nat)] = .ok .non) : G_need_deep_body (n + 1) [.tup l, .int (d : Nat)] = .ok .non := by
  have q1 : (l.length : Int) ≤ 10 := by omega
  have q2 : (d : Int) < 3 := by omega
  simp only [G_need_deep_body, D_need_deep_body, fm0]
  have lp := for_look (t := tgN 2) (body := B_need_deep_body_1 (G_need_step n)) (wp := [2]) (P := [.pv (.tup l), .pv (.int (d : Nat)), .un]) id l fun p hp => by
    refine ⟨_, [.pv (.tup l), .pv (.int (d : Nat)), .pv p], rfl, Or.inl ?_, rfl⟩
    simp [B_need_deep_body_1, h p hp]
  rw [List.map_id] at lp
  simp [q1, q2, g_nt, L_need_deep_body_1, dFor, lp]
theorem ns_ok {R : List (List Nat)} (n : Nat) {s : St} {d : Nat} (o : okS R s) (hd : d < 2) : G_need_step (n + 3) [embS s, .int (d : Nat)] = .ok .non := by
  have sg : ∀ (m k : Nat) (w : String) (t : Tm), okS R (.sgl w t) → k < 3 → G_need_step (m + 1) [embS (.sgl w t), .int (k : Nat)] = .ok .non := fun m k w t o hk => by
    have e := need_tm o.2.tm o.2.dp
    simp only [G_need_step, D_need_step, fm0, embS]
    rcases o.1 with q | q | q | q <;> subst q <;> simp [g_nt, e]
  cases s with
  | sgl w t => exact sg _ _ _ _ o (by omega)
  | lt x t =>
    have e := need_tm o.2.tm o.2.dp
    have e2 : G_is_name [T x] = .ok (.bl true) := o.1.2
    simp only [G_need_step, D_need_step, fm0, embS]
    simp [g_nt, e, e2]
  | alk a b =>
    have e := need_tm o.1.tm o.1.dp
    have e2 := need_tm o.2.tm o.2.dp
    simp only [G_need_step, D_need_step, fm0, embS]
    simp [g_nt, e, e2]
  | whn t f =>
    have e := need_tm o.1.tm o.1.dp
    have e2 := nb_of (n + 1) (l := [embS (.sgl "fail" f)]) (d := d + 1) (by simp) (by omega) fun p hp => by
      rw [List.mem_singleton.mp hp]
      exact sg n (d + 1) "fail" f ⟨Or.inr (Or.inr (Or.inl rfl)), o.2⟩ (by omega)
    have e3 := nb_of (n + 1) (l := []) (d := d + 1) (by simp) (by omega) fun p hp => by cases hp
    rw [Int.natCast_add] at e2 e3
    have e2' : G_need_deep_body (n + 1 + 1) [.tup [.tup [S "fail", embT f]], .int ((d : Int) + 1)] = .ok .non := e2
    have e3' : G_need_deep_body (n + 1 + 1) [.tup [], .int ((d : Int) + 1)] = .ok .non := e3
    simp only [G_need_step, D_need_step, fm0, embS]
    generalize G_need_deep_body (n + 1 + 1) = gb at *
    simp [g_nt, e, e2', e3']
theorem need_bd {R : List (List Nat)} {b : List St} (hl : b.length ≤ 10) (o : ∀ s ∈ b, okS R s) : G_need_body [.tup (b.map embS)] = .ok .non := by
  have := nb_of 11 (l := b.map embS) (d := 0) (by simpa using hl) (by omega) fun p hp => by
    obtain ⟨s, hs, rfl⟩ := List.mem_map.mp hp
    exact ns_ok 8 (o s hs) (by omega)
  have e : G_need_deep_body 12 [.tup (b.map embS), .int 0] = .ok .non := this
  simp only [G_need_body, D_need_body, fm0]
  generalize G_need_deep_body 12 = g at *
  simp [e]
end Tw
set_option Elab.async false
set_option linter.all false
set_option maxRecDepth 100000
set_option maxHeartbeats 4000000
namespace Tw
open PySem PySem.Spec PyProof.Rows L2 Pv
local instance : TabCx := TabCx.nil
def ltL (H : List (List Nat)) : Prop := ∀ y ∈ H, ∀ c ∈ y, c < 1114112
theorem C_lk {H : List (List Nat)} {t : Tm} {b r s : Slot} (hH : ltL H) (o : okK H t) : C_lacks_1 (G_names_in 12) [b, r, .own (H.map T), s, .pv (embT t), .un] = .ok ((nmsT t).map fun _ => .bl true) := by
  have e := nms_ok 12 t o.tm (by have := o.dp; omega) o.dp
  have l := nms_len t
  have l2 : 2 ^ dpT t ≤ 2 ^ 8 := Nat.pow_le_pow_right (by omega) (by have := o.dp; omega)
  unfold C_lacks_1
  refine dLc_all (nmsT t) T _ ?_ (by omega) fun x hx => ⟨_, rfl, ?_⟩
  · generalize (nmsT t).map T = M at *
    generalize H.map T = HH
    simp [e]
  · have := pIn_TL (x := x) (l := H) (hH x (o.nm x hx)) hH
    rw [decide_eq_true (o.nm x hx)] at this
    generalize H.map T = HH at this ⊢
    simp [this]
theorem B_lk {H : List (List Nat)} {t : Tm} {b r s : Slot} (hH : ltL H) (o : okK H t) : B_lacks_1 (G_names_in 12) [b, r, .own (H.map T), s, .pv (embT t), .un] = .nx [b, r, .own (H.map T), s, .pv (embT t), .un] := by
  have c := C_lk (b := b) (r := r) (s := s) hH o
  have a := all_t (nmsT t)
  unfold B_lacks_1
  generalize ((nmsT t).map fun _ => PV.bl true) = M at *
  simp [c, a]
theorem G_tms (s : St) (R : List (List Nat)) (o : okS R s) : G_terms_of [embS s] = .ok (.lst ((tmsS s).map embT)) := by
  cases s with
  | sgl w t =>
    simp only [G_terms_of, D_terms_of, fm0, embS, tmsS]
    rcases o.1 with q | q | q | q <;> subst q <;> simp
  | lt x t => simp [G_terms_of, D_terms_of, fm0, embS, tmsS]
  | alk a b => simp [G_terms_of, D_terms_of, fm0, embS, tmsS]
  | whn t f => simp [G_terms_of, D_terms_of, fm0, embS, tmsS]
theorem okS.tms {R : List (List Nat)} {s : St} (o : okS R s) : ∀ t ∈ tmsS s, okK R t := by
  intro t ht
  cases s with
  | sgl w t' => rw [List.mem_singleton.mp ht]; exact o.2
  | lt w t' => rw [List.mem_singleton.mp ht]; exact o.2
  | whn t' f => rw [List.mem_singleton.mp ht]; exact o.1
  | alk a b =>
    rcases List.mem_cons.mp ht with e | e
    · rw [e]; exact o.1
    · rw [List.mem_singleton.mp e]; exact o.2
theorem L_lk {H : List (List Nat)} {s : St} {b r : Slot} (hH : ltL H) (o : okS H s) : L_lacks_1 (G_names_in 12) G_terms_of [b, r, .own (H.map T), .pv (embS s), .un, .un] = .nx [b, r, .own (H.map T), .pv (embS s), .un, .un] := by
  have e := G_tms s H o
  have lp := for_look (t := tgN 4) (body := B_lacks_1 (G_names_in 12)) (wp := [4]) (P := [b, r, .own (H.map T), .pv (embS s), .un, .un]) embT (tmsS s) fun t ht => by
    exact ⟨_, _, rfl, Or.inl (B_lk hH (o.tms t ht)), rfl⟩
  unfold L_lacks_1
  generalize (tmsS s).map embT = M at *
  generalize B_lacks_1 (G_names_in 12) = BB at *
  simp [dFor, e, lp]
theorem B_lk2 {H : List (List Nat)} {s : St} {b r : Slot} {g : List PV → R PV} (hH : ltL H) (o : okS H s) (hl : H.length ≤ 1000)
    (hg : ∀ t f, s = .whn t f → g [.tup [.tup [S "fail", embT f]], .lst (H.map T)] = .ok (.bl false) ∧ g [.tup [], .lst (H.map T)] = .ok (.bl false)) :
    B_lacks_2 (G_names_in 12) G_terms_of g [b, r, .own (H.map T), .pv (embS s), .un, .un] = .nx [b, r, .own ((H ++ letS s).map T), .pv (embS s), .un, .un] := by
  have l1 := L_lk (b := b) (r := r) hH o
  have z : (H.map T).length < sizeLine := sz (by simp; omega)
  unfold B_lacks_2
  rw [List.map_append]
  generalize L_lacks_1 (G_names_in 12) G_terms_of = LL at *
  cases s with
  | sgl w t =>
    simp only [embS, letS, List.map_nil, List.append_nil] at l1 ⊢
    generalize H.map T = HH at *
    rcases o.1 with q | q | q | q <;> subst q <;> simp [l1]
  | lt x t =>
    simp only [embS, letS, List.map_cons, List.map_nil] at l1 ⊢
    generalize H.map T = HH at *
    simp [l1, dApp, z]
  | alk a c =>
    simp only [embS, letS, List.map_nil, List.append_nil] at l1 ⊢
    generalize H.map T = HH at *
    simp [l1]
  | whn t f =>
    obtain ⟨g1, g2⟩ := hg t f rfl
    simp only [embS, letS, List.map_nil, List.append_nil] at l1 ⊢
    generalize H.map T = HH at *
    simp [l1, dCallQ, dQ, frzV, g1, g2, plainR, plainV]
theorem lacks_ok : ∀ (n : Nat) (b : List St) (R : List (List Nat)), ltL R → (∀ s ∈ b, okS R s ∧ (isW s → 2 ≤ n)) → 1 ≤ n → R.length + b.length ≤ 900 → G_lacks n [.tup (b.map embS), .lst (R.map T)] = .ok (.bl false)
  | 0, _, _, _, _, h, _ => by omega
  | n + 1, b, R, hR, o, _, hl => by
    have lp := (for_fold (t := tgN 3) (body := B_lacks_2 (G_names_in 12) G_terms_of (G_lacks n)) (wp := [3, 4]) embS (fun H : List (List Nat) => [.pv (.tup (b.map embS)), .pv (.lst (R.map T)), .own (H.map T), .un, .un, .un]) (fun H s => H ++ letS s) b
      (fun H rest => ltL H ∧ (∀ x ∈ R, x ∈ H) ∧ (∀ s ∈ rest, okS R s ∧ (isW s → 2 ≤ n + 1)) ∧ H.length + rest.length ≤ 900) R ⟨hR, fun _ h => h, o, hl⟩ (by
        intro H s r ⟨h1, h2, h3, h4⟩
        have os := (h3 s List.mem_cons_self).1.mono h2
        simp only [List.length_cons] at h4
        refine ⟨_, _, rfl, Or.inl (B_lk2 h1 os (by omega) ?_), rfl, ?_, ?_, fun x hx => h3 x (List.mem_cons_of_mem _ hx), ?_⟩
        · intro t f e
          have hn : 1 ≤ n := by have := (h3 s List.mem_cons_self).2 (by rw [e]; trivial); omega
          rw [e] at os
          refine ⟨lacks_ok n [.sgl "fail" f] H h1 (fun x hx => ?_) hn (by simp; omega), lacks_ok n [] H h1 (fun x hx => by cases hx) hn (by simp; omega)⟩
          rw [List.mem_singleton.mp hx]
          exact ⟨⟨Or.inr (Or.inr (Or.inl rfl)), os.2⟩, fun z => z.elim⟩
        · intro y hy
          rcases List.mem_append.mp hy with q | q
          · exact h1 y q
          · cases s with
            | lt x t => rw [List.mem_singleton.mp q]; exact os.1.1
            | sgl => cases q
            | alk => cases q
            | whn => cases q
        · exact fun x hx => List.mem_append_left _ (h2 x hx)
        · have : (letS s).length ≤ 1 := by cases s <;> simp [letS]
          simp only [List.length_append]
          omega)).1
    have z : R.length ≤ sizeLine := sz (by omega)
    have fl : fList [.lst (R.map T)] = some (R.map T) := rfl
    simp only [G_lacks, D_lacks, fm0]
    unfold L_lacks_2 dFor
    generalize B_lacks_2 (G_names_in 12) G_terms_of (G_lacks n) = BB at *
    generalize (b.foldl (fun H s => H ++ letS s) R).map T = HE at *
    generalize b.map embS = EB at *
    generalize R.map T = RR at *
    simp [fl, lp]
theorem G_gb {R : List (List Nat)} {b : List St} (o : ∀ s ∈ b, okS R s) (hl : b.length ≤ 900) : G_given_by [.tup (b.map embS)] = .ok ((b.flatMap letS).map T) := by
  have e := dLc_gen (vs := [1]) (t := tgN 1) (tt := Pv.d2 pEq (Pv.d2 pIdx (dV 1) (dC (.int 0))) (dC (.str (Str.ofString "let")))) (te := Pv.d2 pIdx (dV 1) (dC (.int 1))) (src := Pv.d1 tupIt (dV 0)) (env := [.pv (.tup (b.map embS)), .un]) b embS (fun s => T ((letS s).headD [])) (fun s => !(letS s).isEmpty) (by generalize b.map embS = M; simp) (by omega) (fun s hs => by
    refine ⟨_, rfl, ?_⟩
    have := o s hs
    generalize b.map embS = M
    cases s with
    | sgl w t => rcases this.1 with q | q | q | q <;> subst q <;> simp [embS, letS]
    | lt x t => simp [embS, letS]
    | alk => simp [embS, letS]
    | whn => simp [embS, letS])
  have q : (b.filter fun s => !(letS s).isEmpty).map (fun s => T ((letS s).headD [])) = (b.flatMap letS).map T := by
    clear e o hl
    induction b with
    | nil => rfl
    | cons s b ih =>
      rw [List.flatMap_cons, List.map_append, ← ih]
      cases s <;> simp [letS]
  rw [q] at e
  unfold G_given_by D_given_by C_given_by_1
  simp [fm0, dRetF, e, toF]
theorem M3 (m : Mkr) : pIdx (embM m) (.int 3) = some (.tup (m.ws.map T)) := rfl
theorem M5 (m : Mkr) : pIdx (embM m) (.int 5) = some m.up := rfl
theorem M6 (m : Mkr) : pIdx (embM m) (.int 6) = some m.tm := rfl
theorem M7 (m : Mkr) : pIdx (embM m) (.int 7) = some m.dn := rfl
theorem M1' (m : Mkr) : pIdx (embM m) (.int 1) = some (T m.nm) := rfl
structure gM (m : Mkr) : Prop where
  nm : okW m.nm ∧ okN m.nm
  wd : ∀ x ∈ m.ws, okW x ∧ okN x
  few : m.ws.length ≤ 2
  nd : m.ws.Nodup
  scp : m.sc ≤ 2
  rl : 1 ≤ m.rs.length ∧ m.rs.length ≤ 3
  rv : ∀ i ∈ m.rs, i.natAbs ≤ 999999
  up : ∃ b : List St, m.up = .tup (b.map embS) ∧ b.length ≤ 10 ∧ ∀ s ∈ b, okS [rowN] s
  tm : ∃ t : Tm, m.tm = embT t ∧ okK (m.ws ++ [rowN]) t
  dn : ∃ b : List St, m.dn = .tup (b.map embS) ∧ b.length ≤ 10 ∧ ∀ s ∈ b, okS [m.nm, rowN] s
theorem lt_row : ∀ c ∈ rowN, c < 1114112 := sc_lt "row"
theorem lets_len (b : List St) : (b.flatMap letS).length ≤ b.length := by
  induction b with
  | nil => simp
  | cons s b ih =>
    have : (letS s).length ≤ 1 := by cases s <;> simp [letS]
    simp only [List.flatMap_cons, List.length_append, List.length_cons]
    omega
theorem gM.lacks {m : Mkr} (o : gM m) : G_maker_lacks [embM m] = .ok (.bl false) := by
  obtain ⟨bu, u1, u2, u3⟩ := o.up
  obtain ⟨bd, d1, d2, d3⟩ := o.dn
  obtain ⟨t, t1, t2⟩ := o.tm
  have few := o.few
  have hR : ltL (m.ws ++ [rowN]) := fun y hy => by
    rcases List.mem_append.mp hy with q | q
    · exact (o.wd y q).1.lt
    · rw [List.mem_singleton.mp q]; exact lt_row
  have hL : ltL (bu.flatMap letS) := fun y hy => by
    obtain ⟨s, hs, q⟩ := List.mem_flatMap.mp hy
    have := u3 s hs
    cases s with
    | lt x t => rw [List.mem_singleton.mp q]; exact this.1.1
    | sgl => cases q
    | alk => cases q
    | whn => cases q
  have hB : ltL (m.ws ++ [rowN] ++ bu.flatMap letS) := fun y hy => (List.mem_append.mp hy).elim (hR y) (hL y)
  have hD : ltL (m.ws ++ [rowN] ++ bu.flatMap letS ++ [m.nm]) := fun y hy => (List.mem_append.mp hy).elim (hB y) fun q => by rw [List.mem_singleton.mp q]; exact o.nm.1.lt
  have ll := lets_len bu
  have k1 := lacks_ok 6 bu (m.ws ++ [rowN]) hR (fun s hs => ⟨(u3 s hs).mono fun x hx => List.mem_append_right _ hx, fun _ => by omega⟩) (by omega) (by simp; omega)
  have k2 := lacks_ok 6 bd (m.ws ++ [rowN] ++ bu.flatMap letS ++ [m.nm]) hD (fun s hs => ⟨(d3 s hs).mono fun x hx => by
    rcases List.mem_cons.mp hx with q | q
    · rw [q]; simp
    · rw [List.mem_singleton.mp q]; simp, fun _ => by omega⟩) (by omega) (by simp only [List.length_append, List.length_singleton]; omega)
  have g := G_gb u3 (by omega)
  have tk : okK (m.ws ++ [rowN] ++ bu.flatMap letS) t := t2.mono fun x hx => List.mem_append_left _ hx
  have e := nms_ok 12 t t2.tm (by have := t2.dp; omega) t2.dp
  have l := nms_len t
  have l2 : 2 ^ dpT t ≤ 2 ^ 8 := Nat.pow_le_pow_right (by omega) (by have := t2.dp; omega)
  have c1 : C_maker_lacks_1 (G_names_in 12) [.pv (embM m), .pv (.lst ((m.ws ++ [rowN]).map T)), .pv (.lst ((m.ws ++ [rowN] ++ bu.flatMap letS).map T)), .un] = .ok ((nmsT t).map fun _ => .bl true) := by
    unfold C_maker_lacks_1
    refine dLc_all (nmsT t) T _ ?_ (by omega) fun x hx => ⟨_, rfl, ?_⟩
    · have m6 := M6 m
      rw [t1] at m6
      generalize (nmsT t).map T = M at *
      generalize embM m = EM at *
      simp [m6, e]
    · have := pIn_TL (x := x) (l := m.ws ++ [rowN] ++ bu.flatMap letS) (hB x (tk.nm x hx)) hB
      rw [decide_eq_true (tk.nm x hx)] at this
      generalize (m.ws ++ [rowN] ++ bu.flatMap letS).map T = HH at this ⊢
      simp [this]
  have a1 := all_t (nmsT t)
  have f0 : fList [.tup (m.ws.map T)] = some (m.ws.map T) := rfl
  have f1 : fCat (.lst (m.ws.map T)) (.lst [S "row"]) = some ((m.ws ++ [rowN]).map T) := by rw [fCat_ok (by simp; omega), List.map_append, ← T_row]; rfl
  have f2 : fCat (.lst ((m.ws ++ [rowN]).map T)) (.lst ((bu.flatMap letS).map T)) = some ((m.ws ++ [rowN] ++ bu.flatMap letS).map T) := by rw [fCat_ok (by simp only [List.length_map, List.length_append, List.length_singleton]; omega), ← List.map_append]
  have f3 : fCat (.lst ((m.ws ++ [rowN] ++ bu.flatMap letS).map T)) (.lst [T m.nm]) = some ((m.ws ++ [rowN] ++ bu.flatMap letS ++ [m.nm]).map T) := by rw [fCat_ok (by simp only [List.length_map, List.length_append, List.length_singleton]; omega), List.map_append (l₂ := [m.nm])]; rfl
  have z1 : ((m.ws ++ [rowN]).map T).length ≤ sizeLine := sz (by simp; omega)
  have z2 : ((m.ws ++ [rowN] ++ bu.flatMap letS).map T).length ≤ sizeLine := sz (by simp only [List.length_map, List.length_append, List.length_singleton]; omega)
  have m1 := M1' m
  have m3 := M3 m
  have m5 := M5 m
  have m7 := M7 m
  rw [u1] at m5
  rw [d1] at m7
  simp only [G_maker_lacks, D_maker_lacks, fm0]
  generalize ((nmsT t).map fun _ => PV.bl true) = M at c1 a1
  generalize embM m = EM at *
  generalize (m.ws ++ [rowN] ++ bu.flatMap letS ++ [m.nm]).map T = R3 at *
  generalize (m.ws ++ [rowN] ++ bu.flatMap letS).map T = R2 at *
  generalize (m.ws ++ [rowN]).map T = R1 at *
  generalize (bu.flatMap letS).map T = RL at *
  generalize m.ws.map T = R0 at *
  generalize bu.map embS = BU at *
  generalize bd.map embS = BD at *
  generalize C_maker_lacks_1 (G_names_in 12) = CM at *
  generalize G_lacks 6 = GL at *
  simp [m1, m3, m5, m7, f0, f1, f2, f3, g, k1, c1, a1, k2, z1, z2]
theorem gM.need {m : Mkr} (o : gM m) : mkN m := by
  obtain ⟨bu, u1, u2, u3⟩ := o.up
  obtain ⟨bd, d1, d2, d3⟩ := o.dn
  obtain ⟨t, t1, t2⟩ := o.tm
  have few := o.few
  have rl := o.rl
  constructor
  case nm => exact o.nm.2
  case sc => exact o.scp
  case ws => exact fun x hx => (o.wd x hx).2
  case nd => exact o.nd
  case few => omega
  case rs => exact o.rv
  case up => rw [u1]; exact need_bd u2 u3
  case tm => rw [t1]; exact need_tm t2.tm t2.dp
  case dn => rw [d1]; exact need_bd d2 d3
  all_goals omega
end Tw
set_option Elab.async false
set_option linter.all false
set_option maxRecDepth 100000
set_option maxHeartbeats 4000000
namespace Tw
open PySem PySem.Spec PyProof.Rows L2 Pv
local instance : TabCx := TabCx.nil
theorem T_S (s : String) : T (sc s) = S s := by show PV.str (mk (sc s)) = _; rw [← ofS]
theorem pk {α : Type} {l : List α} {i : Int} (h0 : 0 ≤ i) (h : i < (l.length : Int)) : ∃ v ∈ l, L2.atI l i = some v := by
  obtain ⟨k, rfl⟩ := Int.eq_ofNat_of_zero_le h0
  have hk : k < l.length := by omega
  exact ⟨l[k], List.getElem_mem hk, atI_in hk⟩
theorem md (a : Int) {n : Int} (h : 0 < n) : 0 ≤ a % n ∧ a % n < n := ⟨Int.emod_nonneg _ (by omega), Int.emod_lt_of_pos _ h⟩
theorem addB {b c : List St} (h : b.length + c.length ≤ 100) : pAdd (.tup (b.map embS)) (.tup (c.map embS)) = some (.tup ((b ++ c).map embS)) := by
  rw [pAdd_tt, if_pos (sz (by simp; omega)), List.map_append]
theorem iv_u : G_is_value 6 [S "u", .int 0] = .ok (.bl true) := by kernel_rfl
theorem iv_f : G_is_value 6 [S "f", .int 0] = .ok (.bl true) := by kernel_rfl
theorem iv_s : G_is_value 6 [S "s", .int 0] = .ok (.bl true) := by kernel_rfl
theorem iv_d : G_is_value 6 [S "d", .int 0] = .ok (.bl true) := by kernel_rfl
theorem on_k : okN (sc "k") := by unfold okN; kernel_rfl
theorem iv_m (a : Int) {n : Int} (h : 0 < n) (hn : n ≤ 1000) : G_is_value 6 [.int (a % n), .int 0] = .ok (.bl true) := G_iv (by have := md a h; omega)
theorem okX_row : okX rowN := ⟨lt_row, Or.inr rfl⟩
theorem okK_own {R : List (List Nat)} {v : PV} (h : G_is_value 6 [v, .int 0] = .ok (.bl true)) : okK R (.own v) := ⟨h, by simp [dpT], fun x hx => by cases hx⟩
theorem okK_nm {R : List (List Nat)} {x : List Nat} (h : okX x) (hx : x ∈ R) : okK R (.nm x) := ⟨h, by simp [dpT], fun y hy => by rw [List.mem_singleton.mp hy]; exact hx⟩
theorem up_loop (more : Int) {ws : List (List Nat)} (hw : ∀ x ∈ ws, okW x ∧ okN x) (hl : ws.length ≤ 2) (a1 s2 s3 s4 : Slot) (t : Tm) (ht : okK (ws ++ [rowN]) t) (hd : dpT t ≤ 2) :
    ∃ t' : Tm, L__law_up_1 [.pv (.int more), .pv (.tup (ws.map T)), s2, s3, s4, .pv (embT t), .un] = .nx [.pv (.int more), .pv (.tup (ws.map T)), s2, s3, s4, .pv (embT t'), .un] ∧ okK (ws ++ [rowN]) t' := by
  have lp := for_fold (t := tgN 6) (body := B__law_up_1) (wp := [6]) T (fun t : Tm => [.pv (.int more), .pv (.tup (ws.map T)), s2, s3, s4, .pv (embT t), .un]) (fun t x => .two "plus" t (.nm x)) ws
    (fun t r => okK (ws ++ [rowN]) t ∧ dpT t + r.length ≤ 4 ∧ ∀ x ∈ r, x ∈ ws) t ⟨ht, by omega, fun x h => h⟩ (by
      intro t x r ⟨h1, h2, h3⟩
      simp only [List.length_cons] at h2
      have hx := h3 x List.mem_cons_self
      refine ⟨_, _, rfl, Or.inl rfl, rfl, ⟨⟨Or.inl rfl, h1.tm, (hw x hx).1.lt, Or.inl (hw x hx).2⟩, ?_, ?_⟩, ?_, fun y hy => h3 y (List.mem_cons_of_mem _ hy)⟩
      · simp only [dpT]; omega
      · intro y hy
        simp only [nmsT] at hy
        rcases List.mem_append.mp hy with q | q
        · exact h1.nm y q
        · rw [List.mem_singleton.mp q]; exact List.mem_append_left _ hx
      · simp only [dpT]; omega)
  refine ⟨_, ?_, lp.2.1⟩
  have e := lp.1
  unfold L__law_up_1
  generalize ws.foldl (fun t x => Tm.two "plus" t (.nm x)) t = tt at *
  generalize ws.map T = W at *
  simp [dFor, e]
theorem G_up (more : Int) {ws : List (List Nat)} (hw : ∀ x ∈ ws, okW x ∧ okN x) (hl : ws.length ≤ 2) : ∃ (b : List St) (t : Tm), G__law_up [.int more, .tup (ws.map T)] = .ok (.tup [.tup (b.map embS), embT t]) ∧ b.length ≤ 3 ∧ (∀ s ∈ b, okS [rowN] s) ∧ okK (ws ++ [rowN]) t := by
  have d16 : pDiv (.int more) (.int 16) = some (.int (more / 16)) := pDiv_small (by decide) (by decide)
  have d64 : pDiv (.int more) (.int 64) = some (.int (more / 64)) := pDiv_small (by decide) (by decide)
  have d1k : pDiv (.int more) (.int 1024) = some (.int (more / 1024)) := pDiv_small (by decide) (by decide)
  have p2 : pPow (.int 2) (.int 20) = some (.int 1048576) := by kernel_rfl
  have l2 : Nat.log2 1048576 < 9000 := by decide +kernel
  have d1m : pDiv (.int more) (.int 1048576) = some (.int (more / 1048576)) := by rw [pDiv_ii, if_pos ⟨by decide, l2⟩]
  have rr : T rowN = S "row" := T_row
  obtain ⟨v, hv, ev⟩ := pk (l := [PV.tup [], .tup [.tup [S "note", .tup [S "own", S "u"]]], .tup [.tup [S "let", S "k", .tup [S "own", .int (more % 9)]]], .tup [.tup [S "note", .tup [S "name", S "row"]]]]) (i := more / 16 % 4) (md _ (by decide)).1 (md _ (by decide)).2
  have hb : ∃ b : List St, v = .tup (b.map embS) ∧ b.length ≤ 1 ∧ ∀ s ∈ b, okS [rowN] s := by
    simp only [List.mem_cons, List.not_mem_nil, or_false] at hv
    rcases hv with rfl | rfl | rfl | rfl
    · exact ⟨[], rfl, by simp, fun s hs => by cases hs⟩
    · exact ⟨[.sgl "note" (.own (S "u"))], rfl, by simp, fun s hs => by rw [List.mem_singleton.mp hs]; exact ⟨Or.inl rfl, okK_own iv_u⟩⟩
    · refine ⟨[.lt (sc "k") (.own (.int (more % 9)))], ?_, by simp, fun s hs => by rw [List.mem_singleton.mp hs]; exact ⟨⟨sc_lt "k", on_k⟩, okK_own (iv_m _ (by decide) (by decide))⟩⟩
      simp only [List.map_cons, List.map_nil, embS, embT]
      rw [T_S]
    · refine ⟨[.sgl "note" (.nm rowN)], ?_, by simp, fun s hs => by rw [List.mem_singleton.mp hs]; exact ⟨Or.inl rfl, okK_nm okX_row List.mem_cons_self⟩⟩
      simp only [List.map_cons, List.map_nil, embS, embT, rr]
  obtain ⟨b, rfl, hb1, hb2⟩ := hb
  obtain ⟨t, ht, ht2⟩ : ∃ t : Tm, embT t = .tup [S "plus", .tup [S "own", .int (more / 1048576 % 50)], .tup [S "name", S "row"]] ∧ (okK (ws ++ [rowN]) t ∧ dpT t ≤ 2) := by
    refine ⟨.two "plus" (.own (.int (more / 1048576 % 50))) (.nm rowN), ?_, ⟨⟨Or.inl rfl, iv_m _ (by decide) (by decide), okX_row⟩, by simp [dpT], fun x hx => ?_⟩, by simp [dpT]⟩
    · simp only [embT, rr]
    · simp only [nmsT, List.nil_append, List.mem_singleton] at hx
      rw [hx]; simp
  have wh : ∀ b' : List St, b'.length ≤ 2 → pAdd (.tup (b'.map embS)) (.tup [.tup [S "when", .tup [S "below", .tup [S "name", S "row"], .tup [S "own", .int (more / 1024 % 9)]], .tup [.tup [S "fail", .tup [S "own", S "f"]]], .tup []]]) = some (.tup ((b' ++ [St.whn (.two "below" (.nm rowN) (.own (.int (more / 1024 % 9)))) (.own (S "f"))]).map embS)) := fun b' hb' => by
    rw [← addB (by simp; omega)]
    simp only [List.map_cons, List.map_nil, embS, embT, rr]
  have sk : ∀ b' : List St, b'.length ≤ 2 → pAdd (.tup (b'.map embS)) (.tup [.tup [S "skip", .tup [S "own", S "s"]]]) = some (.tup ((b' ++ [St.sgl "skip" (.own (S "s"))]).map embS)) := fun b' hb' => by
    rw [← addB (by simp; omega)]
    simp only [List.map_cons, List.map_nil, embS, embT]
  have okw : okS [rowN] (.whn (.two "below" (.nm rowN) (.own (.int (more / 1024 % 9)))) (.own (S "f"))) := by
    refine ⟨⟨⟨Or.inr rfl, okX_row, iv_m _ (by decide) (by decide)⟩, by simp [dpT], fun x hx => ?_⟩, okK_own iv_f⟩
    simp only [nmsT, List.append_nil, List.mem_singleton] at hx
    rw [hx]; simp
  have oks : okS [rowN] (.sgl "skip" (.own (S "s"))) := ⟨Or.inr (Or.inr (Or.inr rfl)), okK_own iv_s⟩
  have fin : ∀ (b' : List St) (s2 s4 : Slot), b'.length ≤ 3 → (∀ s ∈ b', okS [rowN] s) → ∃ (b : List St) (t' : Tm), dSeq L__law_up_1 (dRet (dTup (dCons (dV 3) (dCons (dV 5) dNil)))) [.pv (.int more), .pv (.tup (ws.map T)), s2, .pv (.tup (b'.map embS)), s4, .pv (embT t), .un] = .rt (.tup [.tup (b.map embS), embT t']) ∧ b.length ≤ 3 ∧ (∀ s ∈ b, okS [rowN] s) ∧ okK (ws ++ [rowN]) t' := fun b' s2 s4 h1 h2 => by
    obtain ⟨t', e, k⟩ := up_loop more hw hl s2 s2 (.pv (.tup (b'.map embS))) s4 t ht2.1 ht2.2
    refine ⟨b', t', ?_, h1, h2, k⟩
    generalize b'.map embS = BB at *
    generalize ws.map T = W at *
    simp [e]
  simp only [G__law_up, D__law_up, fm0]
  rw [ht] at fin
  generalize ws.map T = W at *
  generalize dSeq L__law_up_1 (dRet (dTup (dCons (dV 3) (dCons (dV 5) dNil)))) = FF at *
  by_cases c1 : more / 64 % 12 = 0 <;> by_cases c2 : more / 64 % 31 = 1
  · obtain ⟨b2, t2, e, k⟩ := fin _ (.pv (.lst [PV.tup [], .tup [.tup [S "note", .tup [S "own", S "u"]]], .tup [.tup [S "let", S "k", .tup [S "own", .int (more % 9)]]], .tup [.tup [S "note", .tup [S "name", S "row"]]]])) (.pv (.tup [S "below", .tup [S "name", S "row"], .tup [S "own", .int (more / 1024 % 9)]])) (show (b ++ [St.whn (.two "below" (.nm rowN) (.own (.int (more / 1024 % 9)))) (.own (S "f"))] ++ [St.sgl "skip" (.own (S "s"))]).length ≤ 3 by simp; omega) (by simp; grind)
    have w1 := wh b (by omega)
    have w2 := sk (b ++ [St.whn (.two "below" (.nm rowN) (.own (.int (more / 1024 % 9)))) (.own (S "f"))]) (by simp; omega)
    refine ⟨b2, t2, ?_, k⟩
    generalize (b ++ [St.whn (.two "below" (.nm rowN) (.own (.int (more / 1024 % 9)))) (.own (S "f"))] ++ [St.sgl "skip" (.own (S "s"))]).map embS = B3 at *
    generalize (b ++ [St.whn (.two "below" (.nm rowN) (.own (.int (more / 1024 % 9)))) (.own (S "f"))]).map embS = B2 at *
    generalize b.map embS = B1 at *
    simp [-pAdd_tt, d16, d64, d1k, d1m, p2, ev, c1, c2, w1, w2, e]
  · obtain ⟨b2, t2, e, k⟩ := fin _ (.pv (.lst [PV.tup [], .tup [.tup [S "note", .tup [S "own", S "u"]]], .tup [.tup [S "let", S "k", .tup [S "own", .int (more % 9)]]], .tup [.tup [S "note", .tup [S "name", S "row"]]]])) (.pv (.tup [S "below", .tup [S "name", S "row"], .tup [S "own", .int (more / 1024 % 9)]])) (show (b ++ [St.whn (.two "below" (.nm rowN) (.own (.int (more / 1024 % 9)))) (.own (S "f"))]).length ≤ 3 by simp; omega) (by simp; grind)
    have w1 := wh b (by omega)
    refine ⟨b2, t2, ?_, k⟩
    generalize (b ++ [St.whn (.two "below" (.nm rowN) (.own (.int (more / 1024 % 9)))) (.own (S "f"))]).map embS = B2 at *
    generalize b.map embS = B1 at *
    simp [-pAdd_tt, d16, d64, d1k, d1m, p2, ev, c1, c2, w1, e]
  · obtain ⟨b2, t2, e, k⟩ := fin _ (.pv (.lst [PV.tup [], .tup [.tup [S "note", .tup [S "own", S "u"]]], .tup [.tup [S "let", S "k", .tup [S "own", .int (more % 9)]]], .tup [.tup [S "note", .tup [S "name", S "row"]]]])) .un (show (b ++ [St.sgl "skip" (.own (S "s"))]).length ≤ 3 by simp; omega) (by simp; grind)
    have w2 := sk b (by omega)
    refine ⟨b2, t2, ?_, k⟩
    generalize (b ++ [St.sgl "skip" (.own (S "s"))]).map embS = B2 at *
    generalize b.map embS = B1 at *
    simp [-pAdd_tt, d16, d64, d1k, d1m, p2, ev, c1, c2, w2, e]
  · obtain ⟨b2, t2, e, k⟩ := fin b (.pv (.lst [PV.tup [], .tup [.tup [S "note", .tup [S "own", S "u"]]], .tup [.tup [S "let", S "k", .tup [S "own", .int (more % 9)]]], .tup [.tup [S "note", .tup [S "name", S "row"]]]])) .un (by omega) hb2
    refine ⟨b2, t2, ?_, k⟩
    generalize b.map embS = B1 at *
    simp [-pAdd_tt, d16, d64, d1k, d1m, p2, ev, c1, c2, e]
end Tw
set_option Elab.async false
set_option linter.all false
set_option maxRecDepth 100000
set_option maxHeartbeats 4000000
namespace Tw
open PySem PySem.Spec PyProof.Rows L2 Pv
local instance : TabCx := TabCx.nil
theorem C_mk1 (more : Int) (a b c d e f g : Slot) : ∃ rs : List Int, C__law_maker_1 G__law_drawn [.pv (.int more), a, b, c, d, e, f, g, .un] = .ok (rs.map .int) ∧ (1 ≤ rs.length ∧ rs.length ≤ 3) ∧ ∀ i ∈ rs, i.natAbs ≤ 999999 := by
  obtain ⟨v, hv, ev⟩ := pk (l := [PV.int 1, .int 1, .int 1, .int 2, .int 3]) (i := more % 5) (md _ (by decide)).1 (md _ (by decide)).2
  obtain ⟨n, rfl, hn⟩ : ∃ n : Nat, v = .int (n : Int) ∧ 1 ≤ n ∧ n ≤ 3 := by
    simp only [List.mem_cons, List.not_mem_nil, or_false] at hv
    rcases hv with rfl | rfl | rfl | rfl | rfl
    · exact ⟨1, rfl, by omega⟩
    · exact ⟨1, rfl, by omega⟩
    · exact ⟨1, rfl, by omega⟩
    · exact ⟨2, rfl, by omega⟩
    · exact ⟨3, rfl, by omega⟩
  refine ⟨(List.range n).map fun (j : Nat) => drawn more (j : Int) % 9, ?_, by simpa using hn, fun i hi => ?_⟩
  · rw [List.map_map]
    unfold C__law_maker_1
    refine dLc_all (List.range n) (fun (k : Nat) => .int (k : Int)) _ ?_ (by simp; omega) fun j hj => ⟨_, rfl, ?_⟩
    · have r := rg1 (n := n) (by omega)
      generalize ((List.range n).map fun (k : Nat) => PV.int (k : Int)) = RG at *
      simp [ev, r]
    · simp [G_drawn]
  · obtain ⟨j, _, rfl⟩ := List.mem_map.mp hi
    have := md (drawn more (j : Int)) (n := 9) (by decide)
    omega
theorem scwN {k : Nat} (h : k ≤ 2) : L2.atI [S "run", S "group", S "try"] (k : Int) = some (scw k) := by
  rcases (show k = 0 ∨ k = 1 ∨ k = 2 by omega) with rfl | rfl | rfl
  · exact at0 _ _
  · exact at1 _ _ _
  · exact at2 _ _ _ _
theorem G_mkr (more : Int) {nm : List Nat} {k : Nat} {ws : List (List Nat)} (hn : okW nm ∧ okN nm) (hk : k ≤ 2) (hw : ∀ x ∈ ws, okW x ∧ okN x) (hl : ws.length ≤ 2) (hd : ws.Nodup) :
    ∃ m : Mkr, G__law_maker [.int more, T nm, .int (k : Nat), .tup (ws.map T)] = .ok (embM m) ∧ gM m ∧ m.nm = nm ∧ m.sc = k ∧ m.ws = ws := by
  obtain ⟨rs, c1, r1, r2⟩ := C_mk1 more (.pv (T nm)) (.pv (.int (k : Nat))) (.pv (.tup (ws.map T))) .un .un .un .un
  obtain ⟨b, t, e, b1, b2, b3⟩ := G_up (drawn more 9) hw hl
  have d8 : pDiv (.int more) (.int 8) = some (.int (more / 8)) := pDiv_small (by decide) (by decide)
  have d64 : pDiv (.int more) (.int 64) = some (.int (more / 64)) := pDiv_small (by decide) (by decide)
  obtain ⟨v, hv, ev⟩ := pk (l := [PV.tup [], .tup [.tup [S "note", .tup [S "name", T nm]]], .tup [.tup [S "note", .tup [S "own", S "d"]]]]) (i := more / 8 % 3) (md _ (by decide)).1 (md _ (by decide)).2
  have hb : ∃ b : List St, v = .tup (b.map embS) ∧ b.length ≤ 1 ∧ ∀ s ∈ b, okS [nm, rowN] s := by
    simp only [List.mem_cons, List.not_mem_nil, or_false] at hv
    rcases hv with rfl | rfl | rfl
    · exact ⟨[], rfl, by simp, fun s hs => by cases hs⟩
    · exact ⟨[.sgl "note" (.nm nm)], rfl, by simp, fun s hs => by rw [List.mem_singleton.mp hs]; exact ⟨Or.inl rfl, okK_nm ⟨hn.1.lt, Or.inl hn.2⟩ List.mem_cons_self⟩⟩
    · exact ⟨[.sgl "note" (.own (S "d"))], rfl, by simp, fun s hs => by rw [List.mem_singleton.mp hs]; exact ⟨Or.inl rfl, okK_own iv_d⟩⟩
  obtain ⟨dn, rfl, h1, h2⟩ := hb
  have ck : pAdd (.tup (dn.map embS)) (.tup [.tup [S "check", .tup [S "below", .tup [S "own", .int 3], .tup [S "name", S "row"]]]]) = some (.tup ((dn ++ [St.sgl "check" (.two "below" (.own (.int 3)) (.nm rowN))]).map embS)) := by
    rw [← addB (by simp; omega)]
    simp only [List.map_cons, List.map_nil, embS, embT, T_row]
  have okc : okS [nm, rowN] (.sgl "check" (.two "below" (.own (.int 3)) (.nm rowN))) := by
    refine ⟨Or.inr (Or.inl rfl), ⟨Or.inr rfl, G_iv (by decide), okX_row⟩, by simp [dpT], fun x hx => ?_⟩
    simp only [nmsT, List.nil_append, List.mem_singleton] at hx
    rw [hx]; simp
  have sw := scwN hk
  have mk : ∀ b' : List St, b'.length ≤ 2 → (∀ s ∈ b', okS [nm, rowN] s) → gM ⟨nm, k, ws, rs, .tup (b.map embS), embT t, .tup (b'.map embS)⟩ := fun b' q1 q2 =>
    ⟨hn, hw, hl, hd, hk, r1, r2, ⟨b, rfl, by omega, b2⟩, ⟨t, rfl, b3⟩, ⟨b', rfl, by omega, q2⟩⟩
  by_cases c : more / 64 % 9 = 0
  · refine ⟨_, ?_, mk (dn ++ [St.sgl "check" (.two "below" (.own (.int 3)) (.nm rowN))]) (by simp; omega) (by simp; grind), rfl, rfl, rfl⟩
    clear mk
    simp only [G__law_maker, D__law_maker, fm0, embM]
    generalize C__law_maker_1 G__law_drawn = CC at *
    generalize rs.map PV.int = RS at *
    generalize b.map embS = B1 at *
    generalize (dn ++ [St.sgl "check" (.two "below" (.own (.int 3)) (.nm rowN))]).map embS = B2 at *
    generalize dn.map embS = B3 at *
    generalize ws.map T = W at *
    generalize embT t = ET at *
    simp [-pAdd_tt, c1, e, G_drawn, d8, d64, ev, c, ck, sw, dSetT, tgT]
  · refine ⟨_, ?_, mk dn (by omega) h2, rfl, rfl, rfl⟩
    clear mk
    simp only [G__law_maker, D__law_maker, fm0, embM]
    generalize C__law_maker_1 G__law_drawn = CC at *
    generalize rs.map PV.int = RS at *
    generalize b.map embS = B1 at *
    generalize dn.map embS = B3 at *
    generalize ws.map T = W at *
    generalize embT t = ET at *
    simp [-pAdd_tt, c1, e, G_drawn, d8, d64, ev, c, sw, dSetT, tgT]
end Tw
set_option Elab.async false
set_option linter.all false
set_option maxRecDepth 100000
set_option maxHeartbeats 4000000
namespace Tw
open PySem PySem.Spec PyProof.Rows L2 Pv
local instance : TabCx := TabCx.nil
abbrev Kn := List (List Nat × Nat)
def knV (p : List Nat × Nat) : PV := .tup [T p.1, .int (p.2 : Nat)]
def NM : List (List Nat) := [sc "aa", sc "b", sc "cq", sc "d"]
def chkW (x : List Nat) : Bool := !x.isEmpty && decide (x.length ≤ 10) && x.all fun c => decide (97 ≤ c) && decide (c ≤ 122)
theorem chkW_ok {x : List Nat} (h : chkW x = true) : okW x := by
  simp only [chkW, Bool.and_eq_true, Bool.not_eq_true', decide_eq_true_eq, List.all_eq_true] at h
  refine ⟨fun z => ?_, h.1.2, fun c hc => h.2 c hc⟩
  rw [z] at h
  simp at h
theorem isBl_name {x : List Nat} (h : isBl true (G_is_name [T x]) = true) : okN x := isBl_ok h
theorem NM_ok : ∀ x ∈ NM, okW x ∧ okN x := by
  intro x hx
  simp only [NM, List.mem_cons, List.not_mem_nil, or_false] at hx
  rcases hx with rfl | rfl | rfl | rfl <;> exact ⟨chkW_ok (by decide +kernel), isBl_name (by decide +kernel)⟩
structure okKn (k : Kn) : Prop where
  nm : ∀ p ∈ k, p.1 ∈ NM
  scp : ∀ p ∈ k, p.2 ≤ 2
  nd : (k.map (·.1)).Nodup
theorem okKn.len {k : Kn} (o : okKn k) : k.length ≤ 4 := by
  have := nd_len o.nd (m := NM) fun x hx => by
    obtain ⟨p, hp, rfl⟩ := List.mem_map.mp hx
    exact o.nm p hp
  rwa [List.length_map] at this
theorem okKn.lt {k : Kn} (o : okKn k) : ∀ y ∈ k.map (·.1), ∀ c ∈ y, c < 1114112 := fun y hy => by
  obtain ⟨p, hp, rfl⟩ := List.mem_map.mp hy
  exact (NM_ok _ (o.nm p hp)).1.lt
theorem NMs : G__law_names [] = .ok [S "aa", S "b", S "cq", S "d"] := by simp [G__law_names, D__law_names, fm0, dRetF, toF]
theorem NM_pk {i : Int} (h0 : 0 ≤ i) (h : i < 4) : ∃ x ∈ NM, L2.atI [S "aa", S "b", S "cq", S "d"] i = some (T x) := by
  obtain ⟨v, hv, e⟩ := pk (l := [S "aa", S "b", S "cq", S "d"]) (i := i) h0 h
  simp only [List.mem_cons, List.not_mem_nil, or_false] at hv
  rcases hv with rfl | rfl | rfl | rfl
  · exact ⟨sc "aa", by simp [NM], by rw [e, T_S]⟩
  · exact ⟨sc "b", by simp [NM], by rw [e, T_S]⟩
  · exact ⟨sc "cq", by simp [NM], by rw [e, T_S]⟩
  · exact ⟨sc "d", by simp [NM], by rw [e, T_S]⟩
theorem okKn.snoc {k : Kn} (o : okKn k) {x : List Nat} {s : Nat} (hx : x ∈ NM) (hs : s ≤ 2) (hn : x ∉ k.map (·.1)) : okKn (k ++ [(x, s)]) := by
  refine ⟨fun p hp => ?_, fun p hp => ?_, ?_⟩
  · rcases List.mem_append.mp hp with q | q
    · exact o.nm p q
    · rw [List.mem_singleton.mp q]; exact hx
  · rcases List.mem_append.mp hp with q | q
    · exact o.scp p q
    · rw [List.mem_singleton.mp q]; exact hs
  · rw [List.map_append, List.nodup_append]
    refine ⟨o.nd, by simp, fun a ha b hb => ?_⟩
    rw [List.map_singleton, List.mem_singleton] at hb
    intro e
    rw [e, hb] at ha
    exact hn ha
theorem loop1 (more : Int) (a1 : Slot) : ∃ own : Kn, L__law_makers_1 G__law_drawn G__law_names [.pv (.int more), a1, .own [], .un, .un, .un, .un, .un, .un, .un, .un, .un, .un, .un, .un, .un] = .nx [.pv (.int more), a1, .own (own.map knV), .un, .un, .un, .un, .un, .un, .un, .un, .un, .un, .un, .un, .un] ∧ okKn own ∧ own.length ≤ 3 := by
  obtain ⟨n, hn, en⟩ := modN (m := more) (n := 4) (by decide)
  have en' : more % 4 = (n : Int) := en
  obtain ⟨e', h1, own, h2, h3, h4⟩ := for_inv (t := tgN 3) (body := B__law_makers_1 G__law_drawn G__law_names) (wp := [3, 4]) ((List.range n).map fun (k : Nat) => PV.int (k : Int))
    (fun i e => ∃ own : Kn, e = [.pv (.int more), a1, .own (own.map knV), .un, .un, .un, .un, .un, .un, .un, .un, .un, .un, .un, .un, .un] ∧ okKn own ∧ own.length ≤ i) [.pv (.int more), a1, .own [], .un, .un, .un, .un, .un, .un, .un, .un, .un, .un, .un, .un, .un] ⟨[], rfl, ⟨fun _ h => (by cases h), fun _ h => (by cases h), by simp⟩, by simp⟩ (by
      rintro i z p hp ⟨own, rfl, o, ol⟩
      obtain ⟨hi, rfl⟩ := rngI hp
      have o4 := o.len
      obtain ⟨x, hx, ex⟩ := NM_pk (i := drawn more (i : Int) % 4) (md _ (by decide)).1 (md _ (by decide)).2
      obtain ⟨s, hs, es⟩ := modN (m := drawn more (10 + (i : Int))) (n := 3) (by decide)
      have es' : drawn more (10 + (i : Int)) % 3 = (s : Int) := es
      have c : C__law_makers_1 [.pv (.int more), a1, .own (own.map knV), .pv (.int (i : Int)), .pv (T x), .un, .un, .un, .un, .un, .un, .un, .un, .un, .un, .un] = .ok ((own.map (·.1)).map T) := by
        rw [List.map_map]
        unfold C__law_makers_1
        refine dLc_all own knV _ ?_ (by omega) fun p hp => ⟨_, rfl, ?_⟩
        · generalize own.map knV = M
          simp
        · simp
      have pn := pNotIn_TL (x := x) (l := own.map (·.1)) (NM_ok x hx).1.lt o.lt
      by_cases q : x ∈ own.map (·.1)
      · refine ⟨_, [.pv (.int more), a1, .own (own.map knV), .pv (.int (i : Int)), .pv (T x), .un, .un, .un, .un, .un, .un, .un, .un, .un, .un, .un], rfl, Or.inl ?_, own, rfl, o, by omega⟩
        rw [decide_eq_true q] at pn
        generalize (own.map (·.1)).map T = L1 at *
        generalize own.map knV = L2 at *
        generalize hC : C__law_makers_1 = CC at *
        simp [B__law_makers_1, hC, NMs, G_drawn, ex, c, pn]
      · refine ⟨_, [.pv (.int more), a1, .own ((own ++ [(x, s)]).map knV), .pv (.int (i : Int)), .pv (T x), .un, .un, .un, .un, .un, .un, .un, .un, .un, .un, .un], rfl, Or.inl ?_, own ++ [(x, s)], rfl, o.snoc hx (by omega) q, by simp; omega⟩
        rw [decide_eq_false q] at pn
        have z : (own.map knV).length < sizeLine := sz (by simp; omega)
        rw [List.map_append, List.map_singleton]
        have kv : knV (x, s) = .tup [T x, .int (s : Nat)] := rfl
        rw [kv]
        generalize (own.map (·.1)).map T = L1 at *
        generalize own.map knV = L2 at *
        generalize hC : C__law_makers_1 = CC at *
        simp [B__law_makers_1, hC, NMs, G_drawn, ex, c, pn, dApp, z, es'])
  refine ⟨own, ?_, h3, by simp at h4; omega⟩
  rw [h2] at h1
  have r := rg1 (n := n) (by omega)
  unfold L__law_makers_1
  generalize ((List.range n).map fun (k : Nat) => PV.int (k : Int)) = RG at *
  generalize own.map knV = L2 at *
  generalize B__law_makers_1 G__law_drawn G__law_names = BB at *
  simp [dFor, en', r, h1]
theorem loop2 (here : Int) (opts : List (List Nat)) (ho : ∀ x ∈ opts, x ∈ NM) (hz : opts.length ≤ 100) (s0 s1 s2 s3 s4 s5 s6 s7 s9 s13 s14 s15 : Slot) : ∃ ws : List (List Nat), L__law_makers_2 G__law_drawn [s0, s1, s2, s3, s4, s5, s6, s7, .pv (.int here), s9, .pv (.lst (opts.map T)), .own [], .un, s13, s14, s15] = .nx [s0, s1, s2, s3, s4, s5, s6, s7, .pv (.int here), s9, .pv (.lst (opts.map T)), .own (ws.map T), .un, s13, s14, s15] ∧ (∀ x ∈ ws, x ∈ opts) ∧ ws.Nodup ∧ ws.length ≤ 2 := by
  obtain ⟨n, hn, en⟩ := modN (m := here) (n := 3) (by decide)
  have en' : here % 3 = (n : Int) := en
  obtain ⟨e', h1, ws, h2, h3, h4, h5⟩ := for_inv (t := tgN 12) (body := B__law_makers_2 G__law_drawn) (wp := [12]) ((List.range n).map fun (k : Nat) => PV.int (k : Int))
    (fun i e => ∃ ws : List (List Nat), e = [s0, s1, s2, s3, s4, s5, s6, s7, .pv (.int here), s9, .pv (.lst (opts.map T)), .own (ws.map T), .un, s13, s14, s15] ∧ (∀ x ∈ ws, x ∈ opts) ∧ ws.Nodup ∧ ws.length ≤ i) [s0, s1, s2, s3, s4, s5, s6, s7, .pv (.int here), s9, .pv (.lst (opts.map T)), .own [], .un, s13, s14, s15] ⟨[], rfl, fun _ h => (by cases h), by simp, by simp⟩ (by
      rintro i z p hp ⟨ws, rfl, o1, o2, o3⟩
      obtain ⟨hi, rfl⟩ := rngI hp
      by_cases e0 : opts = []
      · subst e0
        refine ⟨_, [s0, s1, s2, s3, s4, s5, s6, s7, .pv (.int here), s9, .pv (.lst []), .own (ws.map T), .pv (.int (i : Int)), s13, s14, s15], rfl, Or.inl ?_, ws, rfl, o1, o2, by omega⟩
        generalize ws.map T = W
        simp [B__law_makers_2]
      · have hp : 0 < opts.length := List.length_pos_iff.mpr e0
        have hp' : (0 : Int) < ((opts.map T).length : Int) := by simp; omega
        obtain ⟨v, hv, ev⟩ := pk (l := opts.map T) (i := drawn here (30 + (i : Int)) % ((opts.map T).length : Int)) (md _ hp').1 (md _ hp').2
        obtain ⟨x, hx, rfl⟩ := List.mem_map.mp hv
        have pn := pNotIn_TL (x := x) (l := ws) (NM_ok x (ho x hx)).1.lt (fun y hy => (NM_ok y (ho y (o1 y hy))).1.lt)
        have ne : (opts.map T).isEmpty = false := by
          cases opts with
          | nil => exact absurd rfl e0
          | cons => rfl
        have ne' : opts.map T ≠ [] := fun z => by rw [z] at ne; cases ne
        by_cases q : x ∈ ws
        · refine ⟨_, [s0, s1, s2, s3, s4, s5, s6, s7, .pv (.int here), s9, .pv (.lst (opts.map T)), .own (ws.map T), .pv (.int (i : Int)), s13, s14, s15], rfl, Or.inl ?_, ws, rfl, o1, o2, by omega⟩
          rw [decide_eq_true q] at pn
          clear hv
          generalize ws.map T = W at *
          generalize opts.map T = O at *
          have hp2 : 0 < O.length := by omega
          simp [B__law_makers_2, G_drawn, ne, ne', ev, hp', hp2, pn]
        · refine ⟨_, [s0, s1, s2, s3, s4, s5, s6, s7, .pv (.int here), s9, .pv (.lst (opts.map T)), .own ((ws ++ [x]).map T), .pv (.int (i : Int)), s13, s14, s15], rfl, Or.inl ?_, ws ++ [x], rfl, ?_, ?_, by simp; omega⟩
          · rw [decide_eq_false q] at pn
            have z : (ws.map T).length < sizeLine := sz (by simp; omega)
            rw [List.map_append, List.map_singleton]
            clear hv
            generalize ws.map T = W at *
            generalize opts.map T = O at *
            have hp2 : 0 < O.length := by omega
            simp [B__law_makers_2, G_drawn, ne, ne', ev, hp', hp2, pn, dApp, z]
          · intro y hy
            rcases List.mem_append.mp hy with k | k
            · exact o1 y k
            · rw [List.mem_singleton.mp k]; exact hx
          · rw [List.nodup_append]
            refine ⟨o2, by simp, fun a ha b hb => ?_⟩
            rw [List.mem_singleton] at hb
            intro e
            rw [e, hb] at ha
            exact q ha)
  refine ⟨ws, ?_, h3, h4, by simp at h5; omega⟩
  rw [h2] at h1
  have r := rg1 (n := n) (by omega)
  unfold L__law_makers_2
  generalize ((List.range n).map fun (k : Nat) => PV.int (k : Int)) = RG at *
  generalize ws.map T = W at *
  generalize opts.map T = O at *
  generalize B__law_makers_2 G__law_drawn = BB at *
  simp [dFor, en', r, h1]
end Tw
set_option Elab.async false
set_option linter.all false
set_option maxRecDepth 100000
set_option maxHeartbeats 4000000
namespace Tw
open PySem PySem.Spec PyProof.Rows L2 Pv
local instance : TabCx := TabCx.nil
def nmS (m : Mkr) : List Nat × Nat := (m.nm, m.sc)
structure GMs (kn : Kn) (ms : List Mkr) : Prop where
  ok : ∀ m ∈ ms, gM m
  few : ms.length ≤ 3
  own : okKn (ms.map nmS)
  wt : ∀ pre m post, ms = pre ++ m :: post → ∀ x ∈ m.ws, ∃ s, s ≤ m.sc ∧ (((x, s) ∈ kn ∧ (x ∉ ms.map Mkr.nm ∨ x = m.nm)) ∨ ∃ m' ∈ pre, m'.nm = x ∧ m'.sc = s)
def outK (kn own : Kn) : Kn := kn.filter fun p => !decide (p.1 ∈ own.map (·.1))
def newK (kn : Kn) (ms : List Mkr) : Kn := outK kn (ms.map nmS) ++ ms.map nmS
theorem C_mk3 {kn own : Kn} (ok : okKn kn) (oo : okKn own) (s0 s3 s4 s5 s6 s7 s8 s9 s10 s11 s12 : Slot) : C__law_makers_3 [s0, .pv (.lst (kn.map knV)), .own (own.map knV), s3, s4, s5, s6, s7, s8, s9, s10, s11, s12, .un, .un, .un] = .ok ((outK kn own).map knV) := by
  have kl := ok.len
  have ol := oo.len
  unfold C__law_makers_3 outK
  refine dLc_gen (vs := [4, 13]) (t := tgT [4, 13]) (env := [s0, .pv (.lst (kn.map knV)), .own (own.map knV), s3, s4, s5, s6, s7, s8, s9, s10, s11, s12, .un, .un, .un]) kn knV knV (fun p => !decide (p.1 ∈ own.map (·.1))) ?_ (by omega) fun p hp => ⟨_, rfl, ?_, fun _ => ?_⟩
  · generalize kn.map knV = M
    generalize own.map knV = M2
    simp
  · have c : C__law_makers_2 [s0, .pv (.lst (kn.map knV)), .own (own.map knV), s3, .pv (T p.1), s5, s6, s7, s8, s9, s10, s11, s12, .pv (.int (p.2 : Nat)), .un, .un] = .ok ((own.map (·.1)).map T) := by
      rw [List.map_map]
      unfold C__law_makers_2
      refine dLc_all own knV _ ?_ (by omega) fun p hp => ⟨_, rfl, ?_⟩
      · generalize own.map knV = M
        simp
      · simp
    have pn := pNotIn_TL (x := p.1) (l := own.map (·.1)) (NM_ok _ (ok.nm p hp)).1.lt oo.lt
    generalize (own.map (·.1)).map T = L1 at *
    generalize kn.map knV = M at *
    generalize own.map knV = M2 at *
    generalize hC : C__law_makers_2 = CC at *
    simp [c, pn, hC]
  · generalize kn.map knV = M at *
    generalize own.map knV = M2 at *
    simp [knV]
theorem C_mk4 {kn : Kn} (ok : okKn kn) {p : List Nat × Nat} (hp : p.1 ∈ NM) (s0 s2 s3 s4 s5 s6 s8 s9 s10 s11 s12 s13 s15 : Slot) : C__law_makers_4 [s0, .pv (.lst (kn.map knV)), s2, s3, s4, s5, s6, .pv (knV p), s8, s9, s10, s11, s12, s13, .un, s15] = .ok ((kn.filter fun q => decide (q.1 = p.1)).map knV) := by
  have kl := ok.len
  unfold C__law_makers_4
  refine dLc_gen kn knV knV (fun q => decide (q.1 = p.1)) ?_ (by omega) fun q hq => ⟨_, rfl, ?_, fun _ => ?_⟩
  · generalize kn.map knV = M
    simp
  · generalize kn.map knV = M at *
    have i0 : ∀ q, pIdx (knV q) (.int 0) = some (T q.1) := fun q => rfl
    have pe := pEq_ss (NM_ok _ (ok.nm q hq)).1.lt (NM_ok _ hp).1.lt
    simp [i0, pe]
  · generalize kn.map knV = M at *
    simp
theorem C_mk5 {so : Kn} (hl : so.length ≤ 100) (p : List Nat × Nat) (s0 s1 s2 s3 s4 s5 s6 s8 s10 s11 s12 s14 s15 : Slot) : C__law_makers_5 [s0, s1, s2, s3, .un, s5, s6, .pv (knV p), s8, .pv (.lst (so.map knV)), s10, s11, s12, .un, s14, s15] = .ok (((so.filter fun q => decide (q.2 ≤ p.2)).map (·.1)).map T) := by
  rw [List.map_map]
  unfold C__law_makers_5
  refine dLc_gen so knV _ (fun q => decide (q.2 ≤ p.2)) ?_ (by omega) fun q hq => ⟨_, rfl, ?_, fun _ => ?_⟩
  · generalize so.map knV = M
    simp
  · generalize so.map knV = M at *
    have i1 : pIdx (knV p) (.int 1) = some (.int (p.2 : Nat)) := rfl
    simp [i1]
  · generalize so.map knV = M at *
    simp
theorem B_mk3 (more : Int) {kn own : Kn} (ok : okKn kn) (oo : okKn own) {j : Nat} {p : List Nat × Nat} (hj : own[j]? = some p) {F : List PV} (hF : F.length ≤ 100) :
    ∃ (m : Mkr) (e2 : Fm), B__law_makers_3 G__law_drawn G__law_maker [.pv (.int more), .pv (.lst (kn.map knV)), .pv (.lst (own.map knV)), .pv (.int (j : Nat)), .un, .pv (.lst ((outK kn own).map knV)), .own F, .pv (knV p), .un, .un, .un, .un, .un, .un, .un, .un] = .nx e2 ∧
      clr e2 [3, 7, 8, 9, 10, 11, 12] = [.pv (.int more), .pv (.lst (kn.map knV)), .pv (.lst (own.map knV)), .un, .un, .pv (.lst ((outK kn own).map knV)), .own (F ++ [embM m]), .un, .un, .un, .un, .un, .un, .un, .un, .un] ∧ gM m ∧ nmS m = p ∧
      ∀ x ∈ m.ws, ∃ s, s ≤ m.sc ∧ ((x, s) ∈ outK kn own ∨ (x, s) ∈ own.take j ∨ ((x, s) ∈ kn ∧ x = p.1)) := by
  have hpm : p ∈ own := List.mem_of_getElem? hj
  have hp := oo.nm p hpm
  have kl := ok.len
  have ol := oo.len
  have oul : (outK kn own).length ≤ 4 := Nat.le_trans (List.length_filter_le _ _) kl
  have c4 := fun here => C_mk4 ok hp (.pv (.int more)) (.pv (.lst (own.map knV))) (.pv (.int (j : Nat))) .un (.pv (.lst ((outK kn own).map knV))) (.own F) (.pv (.int here)) .un .un .un .un .un .un
  have sl := fSl_to (own.map knV) j
  rw [← List.map_take] at sl
  have f1 : fCat (.lst ((outK kn own).map knV)) (.lst ((own.take j).map knV)) = some ((outK kn own ++ own.take j).map knV) := by rw [fCat_ok (by simp; omega), List.map_append]
  have fl : (kn.filter fun q => decide (q.1 = p.1)).length ≤ 4 := Nat.le_trans (List.length_filter_le _ _) kl
  have f2 : fCat (.lst ((outK kn own ++ own.take j).map knV)) (.lst ((kn.filter fun q => decide (q.1 = p.1)).map knV)) = some ((outK kn own ++ own.take j ++ kn.filter fun q => decide (q.1 = p.1)).map knV) := by rw [fCat_ok (by simp; omega), ← List.map_append]
  generalize hso : (outK kn own ++ own.take j ++ kn.filter fun q => decide (q.1 = p.1)) = so at f2
  have sol : so.length ≤ 12 := by rw [← hso]; simp; omega
  have som : ∀ q ∈ so, q ∈ outK kn own ∨ q ∈ own.take j ∨ (q ∈ kn ∧ q.1 = p.1) := fun q hq => by
    rw [← hso, List.mem_append, List.mem_append] at hq
    rcases hq with (h | h) | h
    · exact Or.inl h
    · exact Or.inr (Or.inl h)
    · have := List.mem_filter.mp h
      exact Or.inr (Or.inr ⟨this.1, of_decide_eq_true this.2⟩)
  have son : ∀ q ∈ so, q.1 ∈ NM := fun q hq => by
    rcases som q hq with h | h | h
    · exact ok.nm q (List.mem_filter.mp h).1
    · exact oo.nm q (List.mem_of_mem_take h)
    · exact ok.nm q h.1
  generalize hop : (so.filter fun q => decide (q.2 ≤ p.2)).map (·.1) = opts
  have opm : ∀ x ∈ opts, ∃ s, s ≤ p.2 ∧ (x, s) ∈ so := fun x hx => by
    rw [← hop] at hx
    obtain ⟨q, hq, rfl⟩ := List.mem_map.mp hx
    have := List.mem_filter.mp hq
    exact ⟨q.2, of_decide_eq_true this.2, this.1⟩
  have opn : ∀ x ∈ opts, x ∈ NM := fun x hx => by
    obtain ⟨s, _, h⟩ := opm x hx
    exact son _ h
  have opl : opts.length ≤ 12 := by
    rw [← hop, List.length_map]
    exact Nat.le_trans (List.length_filter_le _ _) sol
  have c5 := fun here => C_mk5 (so := so) (by omega) p (.pv (.int more)) (.pv (.lst (kn.map knV))) (.pv (.lst (own.map knV))) (.pv (.int (j : Nat))) .un (.pv (.lst ((outK kn own).map knV))) (.own F) (.pv (.int here)) .un .un .un .un .un
  rw [hop] at c5
  generalize hh : drawn more (20 + (j : Int)) = here
  obtain ⟨ws, l2, w1, w2, w3⟩ := loop2 here opts opn (by omega) (.pv (.int more)) (.pv (.lst (kn.map knV))) (.pv (.lst (own.map knV))) (.pv (.int (j : Nat))) .un (.pv (.lst ((outK kn own).map knV))) (.own F) (.pv (knV p)) (.pv (.lst (so.map knV))) .un .un .un
  obtain ⟨m, g1, g2, g3, g4, g5⟩ := G_mkr (drawn here 1) (NM_ok _ hp) (oo.scp p hpm) (fun x hx => NM_ok x (opn x (w1 x hx))) w3 w2
  refine ⟨m, [.pv (.int more), .pv (.lst (kn.map knV)), .pv (.lst (own.map knV)), .pv (.int (j : Nat)), .un, .pv (.lst ((outK kn own).map knV)), .own (F ++ [embM m]), .pv (knV p), .pv (.int here), .pv (.lst (so.map knV)), .pv (.lst (opts.map T)), .own (ws.map T), .un, .un, .un, .un], ?_, rfl, g2, ?_, ?_⟩
  · have i0 : pIdx (knV p) (.int 0) = some (T p.1) := rfl
    have i1 : pIdx (knV p) (.int 1) = some (.int (p.2 : Nat)) := rfl
    have z : F.length < sizeLine := sz (by omega)
    have c4 := c4 here
    have c5 := c5 here
    have z2 : (so.map knV).length ≤ sizeLine := sz (by simp; omega)
    have z3 : ((outK kn own ++ own.take j).map knV).length ≤ sizeLine := sz (by simp; omega)
    unfold B__law_makers_3
    generalize (outK kn own ++ own.take j).map knV = A1 at *
    generalize (outK kn own).map knV = A2 at *
    generalize (own.take j).map knV = A3 at *
    generalize (kn.filter fun q => decide (q.1 = p.1)).map knV = A4 at *
    generalize so.map knV = A5 at *
    generalize kn.map knV = A6 at *
    generalize own.map knV = A7 at *
    generalize opts.map T = A8 at *
    generalize ws.map T = A9 at *
    generalize C__law_makers_4 = C4 at *
    generalize C__law_makers_5 = C5 at *
    generalize L__law_makers_2 G__law_drawn = LL at *
    generalize knV p = KP at *
    generalize embM m = EM at *
    simp [G_drawn, hh, sl, f1, f2, c4, c5, l2, i0, i1, g1, dApp, z, z2, z3, frzS, dFrz]
  · unfold nmS; rw [g3, g4]
  · rw [g4, g5]
    intro x hx
    obtain ⟨s, h1, h2⟩ := opm x (w1 x hx)
    exact ⟨s, h1, som _ h2⟩
theorem snoc_cut {α : Type} {l pre post : List α} {a b : α} (h : l ++ [a] = pre ++ b :: post) : (post = [] ∧ b = a ∧ pre = l) ∨ ∃ p, post = p ++ [a] ∧ l = pre ++ b :: p := by
  rcases List.eq_nil_or_concat post with rfl | ⟨p, z, rfl⟩
  · have := List.append_inj' h rfl
    exact Or.inl ⟨rfl, by have := this.2; simp at this; exact this.symm, this.1.symm⟩
  · refine Or.inr ⟨p, ?_⟩
    rw [List.concat_eq_append] at h ⊢
    have h' : l ++ [a] = (pre ++ b :: p) ++ [z] := by rw [h]; simp
    have := List.append_inj' h' rfl
    have e := this.2
    simp at e
    exact ⟨by rw [e], this.1⟩
theorem G_mkrs (more : Int) {kn : Kn} (ok : okKn kn) : ∃ ms : List Mkr, G__law_makers [.int more, .lst (kn.map knV)] = .ok (.tup [.tup (ms.map embM), .lst ((newK kn ms).map knV)]) ∧ GMs kn ms := by
  obtain ⟨own, l1, oo, ol⟩ := loop1 more (.pv (.lst (kn.map knV)))
  have kl := ok.len
  have oul : (outK kn own).length ≤ 4 := Nat.le_trans (List.length_filter_le _ _) kl
  have c3 := C_mk3 ok oo (.pv (.int more)) .un .un .un .un .un .un .un .un .un .un
  obtain ⟨e', h1, ms, h2, h3, h4, h5⟩ := for_inv (t := tgT [3, 7]) (body := B__law_makers_3 G__law_drawn G__law_maker) (wp := [3, 7, 8, 9, 10, 11, 12]) (enumFrom 0 (own.map knV))
    (fun i e => ∃ ms : List Mkr, e = [.pv (.int more), .pv (.lst (kn.map knV)), .pv (.lst (own.map knV)), .un, .un, .pv (.lst ((outK kn own).map knV)), .own (ms.map embM), .un, .un, .un, .un, .un, .un, .un, .un, .un] ∧ ms.map nmS = own.take i ∧ (∀ m ∈ ms, gM m) ∧
      ∀ (pre : List Mkr) (m : Mkr) (post : List Mkr), ms = pre ++ m :: post → ∀ x ∈ m.ws, ∃ s, s ≤ m.sc ∧ ((x, s) ∈ outK kn own ∨ (x, s) ∈ pre.map nmS ∨ ((x, s) ∈ kn ∧ x = m.nm)))
    [.pv (.int more), .pv (.lst (kn.map knV)), .pv (.lst (own.map knV)), .un, .un, .pv (.lst ((outK kn own).map knV)), .own [], .un, .un, .un, .un, .un, .un, .un, .un, .un] ⟨[], rfl, by simp, fun _ h => (by cases h), fun pre m post e => (by cases pre <;> cases e)⟩ (by
      rintro i z d hd ⟨ms, rfl, g1, g2, g3⟩
      obtain ⟨v, hv, rfl⟩ := enum_get _ _ _ _ hd
      rw [List.getElem?_map] at hv
      obtain ⟨p, hp, rfl⟩ := Option.map_eq_some_iff.mp hv
      have hm : ms.length ≤ 3 := by
        have := congrArg List.length g1
        rw [List.length_map, List.length_take] at this
        omega
      obtain ⟨m, e2, b1, b2, b3, b4, b5⟩ := B_mk3 more ok oo hp (F := ms.map embM) (by simp; omega)
      refine ⟨_, e2, rfl, Or.inl ?_, ms ++ [m], ?_, ?_, ?_, ?_⟩
      · rw [Nat.zero_add]
        exact b1
      · rw [b2, List.map_append, List.map_singleton]
      · rw [List.map_append, List.map_singleton, g1, b4]
        have hi : i < own.length := (List.getElem?_eq_some_iff.mp hp).1
        rw [List.take_succ, hp]
        rfl
      · intro x hx
        rcases List.mem_append.mp hx with q | q
        · exact g2 x q
        · rw [List.mem_singleton.mp q]; exact b3
      · intro pre m' post e x hx
        rcases snoc_cut e with ⟨_, rfl, rfl⟩ | ⟨q, _, q2⟩
        · obtain ⟨s, k1, k2⟩ := b5 x hx
          rw [g1]
          refine ⟨s, k1, ?_⟩
          rcases k2 with k | k | k
          · exact Or.inl k
          · exact Or.inr (Or.inl k)
          · exact Or.inr (Or.inr ⟨k.1, by rw [k.2, ← b4]; rfl⟩)
        · exact g3 pre m' q q2 x hx)
  rw [enum_len, List.length_map, List.take_length] at h3
  rw [h2] at h1
  have hml : ms.length = own.length := by rw [← h3, List.length_map]
  have onm : own.map (·.1) = ms.map Mkr.nm := by rw [← h3, List.map_map]; rfl
  refine ⟨ms, ?_, h4, by omega, by rw [h3]; exact oo, ?_⟩
  · have fc : fCat (.lst ((outK kn own).map knV)) (.lst (own.map knV)) = some ((newK kn ms).map knV) := by
      unfold newK
      rw [h3, fCat_ok (by simp; omega), List.map_append]
    have z1 : ((newK kn ms).map knV).length ≤ sizeLine := sz (by unfold newK; rw [h3]; simp; omega)
    simp only [G__law_makers, D__law_makers, fm0]
    unfold L__law_makers_3
    generalize ms.map embM = A1 at *
    generalize (newK kn ms).map knV = A2 at *
    generalize (outK kn own).map knV = A3 at *
    generalize hOn : own.map knV = A4 at *
    generalize kn.map knV = A5 at *
    generalize L__law_makers_1 G__law_drawn G__law_names = LL at *
    generalize C__law_makers_3 = CC at *
    generalize B__law_makers_3 G__law_drawn G__law_maker = BB at *
    simp [l1, c3, frzS, dFrz, dFor, enIt, h1, fc, z1]
  · intro pre m post e x hx
    obtain ⟨s, k1, k2⟩ := h5 pre m post e x hx
    refine ⟨s, k1, ?_⟩
    rcases k2 with k | k | k
    · have := List.mem_filter.mp k
      refine Or.inl ⟨this.1, Or.inl ?_⟩
      have t := this.2
      rw [onm] at t
      simpa using t
    · obtain ⟨m', q1, q2⟩ := List.mem_map.mp k
      refine Or.inr ⟨m', q1, ?_, ?_⟩
      · exact congrArg (·.1) q2
      · exact congrArg (·.2) q2
    · exact Or.inl ⟨k.1, Or.inr k.2⟩
end Tw
set_option Elab.async false
set_option linter.all false
set_option maxRecDepth 100000
set_option maxHeartbeats 4000000
namespace Tw
open PySem PySem.Spec PyProof.Rows L2 Pv
local instance : TabCx := TabCx.nil
structure gB (cs : List (List Nat)) (t : Tb) : Prop where
  ce : t.cs = cs
  rl : 1 ≤ t.rw.length ∧ t.rw.length ≤ 3
  rr : ∀ r ∈ t.rw, r.length = cs.length
  rv : ∀ r ∈ t.rw, ∀ i ∈ r, i.natAbs ≤ 999999
theorem G_tab (more : Int) {cs : List (List Nat)} (hc : cs.length ≤ 3) : ∃ t : Tb, G__law_table [.int more, .tup (cs.map T)] = .ok (embB t) ∧ gB cs t := by
  obtain ⟨n, hn, en⟩ := modN (m := more) (n := 3) (by decide)
  have en' : more % 3 = (n : Int) := en
  have rr : ∀ j : Nat, C__law_table_1 G__law_drawn [.pv (.int more), .pv (.tup (cs.map T)), .un, .pv (.int (j : Nat)), .un] = C__law_table_1 G__law_drawn [.pv (.int more), .pv (.tup (cs.map T)), .un, .pv (.int (j : Nat)), .un] := fun _ => rfl
  have c : ∀ (j : Nat) (s : Slot), ∃ r : List Int, C__law_table_1 G__law_drawn [.pv (.int more), .pv (.tup (cs.map T)), s, .pv (.int (j : Nat)), .un] = .ok (r.map .int) ∧ r.length = cs.length ∧ ∀ i ∈ r, i.natAbs ≤ 999999 := fun j s => by
    refine ⟨(List.range cs.length).map fun (k : Nat) => drawn more (8 * (j : Int) + (k : Int)) % 60, ?_, by simp, fun i hi => ?_⟩
    · rw [List.map_map]
      unfold C__law_table_1
      refine dLc_all (List.range cs.length) (fun (k : Nat) => .int (k : Int)) _ ?_ (by simp; omega) fun k hk => ⟨_, rfl, ?_⟩
      · have r := rg1 (n := cs.length) (by omega)
        have ln : (cs.map T).length = cs.length := by simp
        generalize ((List.range cs.length).map fun (k : Nat) => PV.int (k : Int)) = RG at *
        generalize cs.map T = CM at *
        simp [ln, r]
      · have mb : mulB 8 (j : Int) = true := mulB_l (by decide)
        generalize cs.map T = CM at *
        simp [G_drawn, mb]
    · obtain ⟨k, _, rfl⟩ := List.mem_map.mp hi
      have := md (drawn more (8 * (j : Int) + (k : Int))) (n := 60) (by decide)
      omega
  obtain ⟨e', h1, rs, h2, h3, h4⟩ := for_inv (t := tgN 3) (body := B__law_table_1 G__law_drawn) (wp := [3]) ((List.range (1 + n)).map fun (k : Nat) => PV.int (k : Int))
    (fun i e => ∃ rs : List (List Int), e = [.pv (.int more), .pv (.tup (cs.map T)), .own (rs.map fun r => .tup (r.map .int)), .un, .un] ∧ rs.length = i ∧ ∀ r ∈ rs, r.length = cs.length ∧ ∀ i ∈ r, i.natAbs ≤ 999999) [.pv (.int more), .pv (.tup (cs.map T)), .own [], .un, .un] ⟨[], rfl, rfl, fun _ h => (by cases h)⟩ (by
      rintro i z p hp ⟨rs, rfl, g1, g2⟩
      obtain ⟨hi, rfl⟩ := rngI hp
      obtain ⟨r, k1, k2, k3⟩ := c i (.own (rs.map fun r => .tup (r.map .int)))
      refine ⟨_, [.pv (.int more), .pv (.tup (cs.map T)), .own ((rs ++ [r]).map fun r => .tup (r.map .int)), .pv (.int (i : Nat)), .un], rfl, Or.inl ?_, rs ++ [r], rfl, by simp [g1], fun x hx => ?_⟩
      · have z : (rs.map fun r => PV.tup (r.map .int)).length < sizeLine := sz (by simp; omega)
        rw [List.map_append, List.map_singleton]
        unfold B__law_table_1
        generalize (rs.map fun r => PV.tup (r.map .int)) = M at *
        generalize r.map PV.int = R at *
        generalize cs.map T = CM at *
        generalize C__law_table_1 G__law_drawn = CC at *
        simp [k1, dApp, z]
      · rcases List.mem_append.mp hx with q | q
        · exact g2 x q
        · rw [List.mem_singleton.mp q]; exact ⟨k2, k3⟩)
  rw [h2] at h1
  simp only [List.length_map, List.length_range] at h3
  refine ⟨⟨cs, rs⟩, ?_, rfl, by simp only; omega, fun r hr => (h4 r hr).1, fun r hr => (h4 r hr).2⟩
  have r := rg1 (n := 1 + n) (by omega)
  rw [Int.natCast_add] at r
  have r' : rgIt1 [.int (1 + (n : Int))] = some ((List.range (1 + n)).map fun (k : Nat) => PV.int (k : Int)) := r
  simp only [G__law_table, D__law_table, fm0, embB]
  unfold L__law_table_1
  generalize ((List.range (1 + n)).map fun (k : Nat) => PV.int (k : Int)) = RG at *
  generalize (rs.map fun r => PV.tup (r.map .int)) = M at *
  generalize cs.map T = CM at *
  generalize B__law_table_1 G__law_drawn = BB at *
  simp [dFor, en', r', h1]
def cP : List Nat := sc "p"
def cZ : List Nat := sc "zz"
def cQ : List Nat := sc "q"
def CSS : List (List (List (List Nat))) := [[], [[cP]], [[cP, cZ]], [[cP], [cQ]], [[cP, cZ], [cQ]]]
def tupT (cs : List (List Nat)) : PV := .tup (cs.map T)
theorem try_src (more : Int) (e : Fm) : ∃ css ∈ CSS, (Pv.d1 lstIt (dL (dSl fSl (dL (dLst (dCons (dSl pSl (dTup (dCons (dC (.str (Str.ofString "p"))) (dCons (dC (.str (Str.ofString "zz"))) dNil))) dNo (dSo (Pv.d2 pAdd (dC (.int 1)) (Pv.d2 pMod (Pv.d2 pDiv (dV 0) (dC (.int 4))) (dC (.int 2)))))) (dCons (dTup (dCons (dC (.str (Str.ofString "q"))) dNil)) dNil)))) dNo (dSo (Pv.d2 pIdx (dL (dLst (dCons (dC (.int 0)) (dCons (dC (.int 0)) (dCons (dC (.int 1)) (dCons (dC (.int 2)) dNil)))))) (Pv.d2 pMod (dV 0) (dC (.int 4)))))))) (.pv (.int more) :: e) = .ok (css.map tupT) := by
  have d4 : pDiv (.int more) (.int 4) = some (.int (more / 4)) := pDiv_small (by decide) (by decide)
  obtain ⟨k, hk, ek⟩ := modN (m := more / 4) (n := 2) (by decide)
  have ek' : more / 4 % 2 = (k : Int) := ek
  obtain ⟨v, hv, ev⟩ := pk (l := [PV.int 0, .int 0, .int 1, .int 2]) (i := more % 4) (md _ (by decide)).1 (md _ (by decide)).2
  have hv' : v = .int 0 ∨ v = .int 1 ∨ v = .int 2 := by
    simp only [List.mem_cons, List.not_mem_nil, or_false] at hv
    rcases hv with h | h | h | h
    · exact Or.inl h
    · exact Or.inl h
    · exact Or.inr (Or.inl h)
    · exact Or.inr (Or.inr h)
  have s1 : pSl (.tup [S "p", S "zz"]) none (some 1) = some (.tup [S "p"]) := slT_to [S "p", S "zz"] 1
  have s2 : pSl (.tup [S "p", S "zz"]) none (some 2) = some (.tup [S "p", S "zz"]) := slT_to [S "p", S "zz"] 2
  have f0 : ∀ a b : PV, fSl (.lst [a, b]) none (some 0) = some [] := fun a b => fSl_to [a, b] 0
  have f1 : ∀ a b : PV, fSl (.lst [a, b]) none (some 1) = some [a] := fun a b => fSl_to [a, b] 1
  have f2 : ∀ a b : PV, fSl (.lst [a, b]) none (some 2) = some [a, b] := fun a b => fSl_to [a, b] 2
  have tp : T cP = S "p" := T_S "p"
  have tz : T cZ = S "zz" := T_S "zz"
  have tq : T cQ = S "q" := T_S "q"
  rcases (show k = 0 ∨ k = 1 by omega) with rfl | rfl
  · have ek2 : more / 4 % 2 = 0 := ek'
    rcases hv' with rfl | rfl | rfl
    · exact ⟨[], by simp [CSS], by simp [d4, ek2, ev, s1, f0]⟩
    · exact ⟨[[cP]], by simp [CSS], by simp [d4, ek2, ev, s1, f1, tupT, tp]⟩
    · exact ⟨[[cP], [cQ]], by simp [CSS], by simp [d4, ek2, ev, s1, f2, tupT, tp, tq]⟩
  · have ek2 : more / 4 % 2 = 1 := ek'
    rcases hv' with rfl | rfl | rfl
    · exact ⟨[], by simp [CSS], by simp [d4, ek2, ev, s2, f0]⟩
    · exact ⟨[[cP, cZ]], by simp [CSS], by simp [d4, ek2, ev, s2, f1, tupT, tp, tz]⟩
    · exact ⟨[[cP, cZ], [cQ]], by simp [CSS], by simp [d4, ek2, ev, s2, f2, tupT, tp, tz, tq]⟩
end Tw
set_option Elab.async false
set_option linter.all false
set_option maxRecDepth 100000
set_option maxHeartbeats 4000000
namespace Tw
open PySem PySem.Spec PyProof.Rows L2 Pv
local instance : TabCx := TabCx.nil
theorem CSS_len : ∀ css ∈ CSS, css.length ≤ 2 ∧ ∀ cs ∈ css, 1 ≤ cs.length ∧ cs.length ≤ 2 := by
  intro css h
  simp only [CSS, List.mem_cons, List.not_mem_nil, or_false] at h
  rcases h with rfl | rfl | rfl | rfl | rfl <;> simp
theorem try_l1 (more : Int) (s1 s2 : Slot) : ∃ (css : List (List (List Nat))) (ts : List Tb), css ∈ CSS ∧ L__law_try_1 G__law_drawn G__law_table [.pv (.int more), s1, s2, .own [], .un, .un, .un, .un, .un, .un, .un, .un, .un, .un, .un, .un] = .nx [.pv (.int more), s1, s2, .own (ts.map embB), .un, .un, .un, .un, .un, .un, .un, .un, .un, .un, .un, .un] ∧ ts.map Tb.cs = css ∧ ∀ t ∈ ts, gB t.cs t := by
  obtain ⟨css, hc, es⟩ := try_src more [s1, s2, .own [], .un, .un, .un, .un, .un, .un, .un, .un, .un, .un, .un, .un]
  have cl := CSS_len css hc
  obtain ⟨e', h1, ts, h2, h3, h4⟩ := for_inv (t := tgN 4) (body := B__law_try_1 G__law_drawn G__law_table) (wp := [4]) (css.map tupT)
    (fun i e => ∃ ts : List Tb, e = [.pv (.int more), s1, s2, .own (ts.map embB), .un, .un, .un, .un, .un, .un, .un, .un, .un, .un, .un, .un] ∧ ts.map Tb.cs = css.take i ∧ ∀ t ∈ ts, gB t.cs t) [.pv (.int more), s1, s2, .own [], .un, .un, .un, .un, .un, .un, .un, .un, .un, .un, .un, .un] ⟨[], rfl, by simp, fun _ h => (by cases h)⟩ (by
      rintro i z d hd ⟨ts, rfl, g1, g2⟩
      rw [List.getElem?_map] at hd
      obtain ⟨cs, hp, rfl⟩ := Option.map_eq_some_iff.mp hd
      have hcs : cs ∈ css := List.mem_of_getElem? hp
      have cl2 := cl.2 cs hcs
      have hm : ts.length ≤ 2 := by
        have := congrArg List.length g1
        rw [List.length_map, List.length_take] at this
        omega
      obtain ⟨t, k1, k2⟩ := G_tab (drawn more ((cs.map T).length : Int)) (cs := cs) (by omega)
      refine ⟨_, [.pv (.int more), s1, s2, .own ((ts ++ [t]).map embB), .pv (tupT cs), .un, .un, .un, .un, .un, .un, .un, .un, .un, .un, .un], rfl, Or.inl ?_, ts ++ [t], rfl, ?_, ?_⟩
      · have z : (ts.map embB).length < sizeLine := sz (by simp; omega)
        rw [List.map_append, List.map_singleton]
        unfold B__law_try_1 tupT
        generalize ts.map embB = M at *
        generalize cs.map T = C at *
        generalize embB t = EB at *
        simp [G_drawn, k1, dApp, z]
      · rw [List.map_append, List.map_singleton, g1, k2.ce, List.take_succ, hp]
        rfl
      · intro x hx
        rcases List.mem_append.mp hx with q | q
        · exact g2 x q
        · rw [List.mem_singleton.mp q, k2.ce]; exact k2)
  rw [List.length_map, List.take_length] at h3
  rw [h2] at h1
  refine ⟨css, ts, hc, ?_, h3, h4⟩
  unfold L__law_try_1 dFor
  rw [es]
  simp only [clr_cons, clr_nil, List.set_cons_zero, List.set_cons_succ]
  exact h1
theorem try_l2 (more : Int) {kn : Kn} (ok : okKn kn) (s1 s3 s4 : Slot) : ∃ ws : List (List Nat), L__law_try_2 G__law_drawn [.pv (.int more), s1, .pv (.lst (kn.map knV)), s3, s4, .own [], .un, .un, .un, .un, .un, .un, .un, .un, .un, .un] = .nx [.pv (.int more), s1, .pv (.lst (kn.map knV)), s3, s4, .own (ws.map T), .un, .un, .un, .un, .un, .un, .un, .un, .un, .un] ∧ (∀ x ∈ ws, x ∈ kn.map (·.1)) ∧ ws.Nodup ∧ ws.length ≤ 3 := by
  have d16 : pDiv (.int more) (.int 16) = some (.int (more / 16)) := pDiv_small (by decide) (by decide)
  obtain ⟨n, hn, en⟩ := modN (m := more / 16) (n := 4) (by decide)
  have en' : more / 16 % 4 = (n : Int) := en
  obtain ⟨e', h1, ws, h2, h3, h4, h5⟩ := for_inv (t := tgN 6) (body := B__law_try_2 G__law_drawn) (wp := [6, 7]) ((List.range n).map fun (k : Nat) => PV.int (k : Int))
    (fun i e => ∃ ws : List (List Nat), e = [.pv (.int more), s1, .pv (.lst (kn.map knV)), s3, s4, .own (ws.map T), .un, .un, .un, .un, .un, .un, .un, .un, .un, .un] ∧ (∀ x ∈ ws, x ∈ kn.map (·.1)) ∧ ws.Nodup ∧ ws.length ≤ i) [.pv (.int more), s1, .pv (.lst (kn.map knV)), s3, s4, .own [], .un, .un, .un, .un, .un, .un, .un, .un, .un, .un] ⟨[], rfl, fun _ h => (by cases h), by simp, by simp⟩ (by
      rintro i z p hp ⟨ws, rfl, o1, o2, o3⟩
      obtain ⟨hi, rfl⟩ := rngI hp
      by_cases e0 : kn = []
      · subst e0
        refine ⟨_, [.pv (.int more), s1, .pv (.lst []), s3, s4, .own (ws.map T), .pv (.int (i : Int)), .pv (.int (drawn more (20 + (i : Int)))), .un, .un, .un, .un, .un, .un, .un, .un], rfl, Or.inl ?_, ws, rfl, o1, o2, by omega⟩
        generalize ws.map T = W
        simp [B__law_try_2, G_drawn]
      · have hp : 0 < kn.length := List.length_pos_iff.mpr e0
        have hp' : (0 : Int) < ((kn.map knV).length : Int) := by simp; omega
        obtain ⟨v, hv, ev⟩ := pk (l := kn.map knV) (i := drawn more (20 + (i : Int)) % ((kn.map knV).length : Int)) (md _ hp').1 (md _ hp').2
        obtain ⟨x, hx, rfl⟩ := List.mem_map.mp hv
        have i0 : pIdx (knV x) (.int 0) = some (T x.1) := rfl
        have pn := pNotIn_TL (x := x.1) (l := ws) (NM_ok _ (ok.nm x hx)).1.lt (fun y hy => ok.lt y (o1 y hy))
        have ne : (kn.map knV).isEmpty = false := by
          cases kn with
          | nil => exact absurd rfl e0
          | cons => rfl
        have ne' : kn.map knV ≠ [] := fun z => by rw [z] at ne; cases ne
        by_cases q : x.1 ∈ ws
        · refine ⟨_, [.pv (.int more), s1, .pv (.lst (kn.map knV)), s3, s4, .own (ws.map T), .pv (.int (i : Int)), .pv (.int (drawn more (20 + (i : Int)))), .un, .un, .un, .un, .un, .un, .un, .un], rfl, Or.inl ?_, ws, rfl, o1, o2, by omega⟩
          rw [decide_eq_true q] at pn
          clear hv
          generalize ws.map T = W at *
          generalize kn.map knV = O at *
          generalize knV x = KX at *
          have hp2 : 0 < O.length := by omega
          simp [B__law_try_2, G_drawn, ne, ne', ev, hp', hp2, pn, i0]
        · refine ⟨_, [.pv (.int more), s1, .pv (.lst (kn.map knV)), s3, s4, .own ((ws ++ [x.1]).map T), .pv (.int (i : Int)), .pv (.int (drawn more (20 + (i : Int)))), .un, .un, .un, .un, .un, .un, .un, .un], rfl, Or.inl ?_, ws ++ [x.1], rfl, ?_, ?_, by simp; omega⟩
          · rw [decide_eq_false q] at pn
            have z : (ws.map T).length < sizeLine := sz (by simp; omega)
            rw [List.map_append, List.map_singleton]
            clear hv
            generalize ws.map T = W at *
            generalize kn.map knV = O at *
            generalize knV x = KX at *
            have hp2 : 0 < O.length := by omega
            simp [B__law_try_2, G_drawn, ne, ne', ev, hp', hp2, pn, i0, dApp, z]
          · intro y hy
            rcases List.mem_append.mp hy with k | k
            · exact o1 y k
            · rw [List.mem_singleton.mp k]; exact List.mem_map.mpr ⟨x, hx, rfl⟩
          · rw [List.nodup_append]
            refine ⟨o2, by simp, fun a ha b hb => ?_⟩
            rw [List.mem_singleton] at hb
            intro e
            rw [e, hb] at ha
            exact q ha)
  refine ⟨ws, ?_, h3, h4, by simp at h5; omega⟩
  rw [h2] at h1
  have r := rg1 (n := n) (by omega)
  unfold L__law_try_2
  generalize ((List.range n).map fun (k : Nat) => PV.int (k : Int)) = RG at *
  generalize ws.map T = W at *
  generalize kn.map knV = O at *
  generalize B__law_try_2 G__law_drawn = BB at *
  simp [dFor, d16, en', r, h1]
theorem cols_fold : ∀ (ts : List Tb) (l : List (List Nat)), ts.foldl (fun l t => l ++ t.cs) l = l ++ cols ts
  | [], l => by simp [cols]
  | t :: ts, l => by
    rw [List.foldl_cons, cols_fold ts]
    simp [cols]
theorem try_l3 {ts : List Tb} {ns : List (List Nat)} (ht : ts.length ≤ 2) (hc : ∀ t ∈ ts, t.cs.length ≤ 3) (hn : ns.length ≤ 10) (s0 s1 s2 s4 s5 s6 s7 s10 s11 s12 s13 s14 s15 : Slot) : L__law_try_3 [s0, s1, s2, .pv (.lst (ts.map embB)), s4, s5, s6, s7, .pv (.lst (ns.map T)), .un, s10, s11, s12, s13, s14, s15] = .nx [s0, s1, s2, .pv (.lst (ts.map embB)), s4, s5, s6, s7, .pv (.lst ((ns ++ cols ts).map T)), .un, s10, s11, s12, s13, s14, s15] := by
  have lp := (for_fold (t := tgN 9) (body := B__law_try_3) (wp := [9]) embB (fun l : List (List Nat) => [s0, s1, s2, .pv (.lst (ts.map embB)), s4, s5, s6, s7, .pv (.lst (l.map T)), .un, s10, s11, s12, s13, s14, s15]) (fun l t => l ++ t.cs) ts
    (fun l r => l.length + 3 * r.length ≤ 100 ∧ ∀ t ∈ r, t.cs.length ≤ 3) ns ⟨by omega, hc⟩ (by
      intro l t r ⟨h1, h2⟩
      have h3 := h2 t List.mem_cons_self
      simp only [List.length_cons] at h1
      refine ⟨_, [s0, s1, s2, .pv (.lst (ts.map embB)), s4, s5, s6, s7, .pv (.lst ((l ++ t.cs).map T)), .pv (embB t), s10, s11, s12, s13, s14, s15], rfl, Or.inl ?_, rfl, by simp; omega, fun x hx => h2 x (List.mem_cons_of_mem _ hx)⟩
      have i0 : pIdx (embB t) (.int 0) = some (.tup (t.cs.map T)) := rfl
      have fc : fCat (.lst (l.map T)) (.lst (t.cs.map T)) = some ((l ++ t.cs).map T) := by rw [fCat_ok (by simp; omega), List.map_append]
      have z : ((l ++ t.cs).map T).length ≤ sizeLine := sz (by simp; omega)
      unfold B__law_try_3
      generalize (l ++ t.cs).map T = A1 at *
      generalize l.map T = A2 at *
      generalize t.cs.map T = A3 at *
      generalize ts.map embB = A4 at *
      generalize embB t = A5 at *
      simp [i0, fc, z])).1
  rw [cols_fold] at lp
  unfold L__law_try_3
  generalize (ns ++ cols ts).map T = A1 at *
  generalize ns.map T = A2 at *
  generalize ts.map embB = A4 at *
  generalize B__law_try_3 = BB at *
  simp [dFor, lp]
end Tw
set_option Elab.async false
set_option linter.all false
set_option maxRecDepth 100000
set_option maxHeartbeats 4000000
namespace Tw
open PySem PySem.Spec PyProof.Rows L2 Pv
local instance : TabCx := TabCx.nil
theorem try_l4 (more : Int) {ns : List (List Nat)} {b : List St} (hx : ∀ x ∈ ns, okX x) (hl : ns.length ≤ 6) (hb : b.length ≤ 6) (ob : ∀ s ∈ b, okS ns s) (s1 s2 s3 s4 s5 s6 s7 s9 s13 s14 s15 : Slot) :
    ∃ b' : List St, L__law_try_4 [.pv (.int more), s1, s2, s3, s4, s5, s6, s7, .pv (.lst (ns.map T)), s9, .own (b.map embS), .un, .un, s13, s14, s15] = .nx [.pv (.int more), s1, s2, s3, s4, s5, s6, s7, .pv (.lst (ns.map T)), s9, .own (b'.map embS), .un, .un, s13, s14, s15] ∧ b'.length ≤ 9 ∧ ∀ s ∈ b', okS ns s := by
  obtain ⟨e', h1, b', h2, h3, h4⟩ := for_inv (t := tgT [11, 12]) (body := B__law_try_4) (wp := [11, 12]) (enumFrom 0 ((ns.reverse.take 3).map T))
    (fun i e => ∃ b' : List St, e = [.pv (.int more), s1, s2, s3, s4, s5, s6, s7, .pv (.lst (ns.map T)), s9, .own (b'.map embS), .un, .un, s13, s14, s15] ∧ b'.length ≤ 6 + i ∧ ∀ s ∈ b', okS ns s) [.pv (.int more), s1, s2, s3, s4, s5, s6, s7, .pv (.lst (ns.map T)), s9, .own (b.map embS), .un, .un, s13, s14, s15] ⟨b, rfl, by omega, ob⟩ (by
      rintro i z d hd ⟨b', rfl, g1, g2⟩
      have hi : i < 3 := by
        have := (List.getElem?_eq_some_iff.mp hd).1
        rw [enum_len, List.length_map, List.length_take] at this
        omega
      obtain ⟨v, hv, rfl⟩ := enum_get _ _ _ _ hd
      rw [List.getElem?_map] at hv
      obtain ⟨x, hp, rfl⟩ := Option.map_eq_some_iff.mp hv
      have hxm : x ∈ ns := List.mem_reverse.mp (List.mem_of_mem_take (List.mem_of_getElem? hp))
      obtain ⟨v, hv, ev⟩ := pk (l := [PV.int 200, .int 200, .int 55]) (i := more / (64 + (i : Int)) % 3) (md _ (by decide)).1 (md _ (by decide)).2
      obtain ⟨w, rfl, hw⟩ : ∃ w : Int, v = .int w ∧ w.natAbs ≤ 999999 := by
        simp only [List.mem_cons, List.not_mem_nil, or_false] at hv
        rcases hv with rfl | rfl | rfl
        · exact ⟨200, rfl, by decide⟩
        · exact ⟨200, rfl, by decide⟩
        · exact ⟨55, rfl, by decide⟩
      have dv : pDiv (.int more) (.int (64 + (i : Int))) = some (.int (more / (64 + (i : Int)))) := pDiv_small (by omega) (by omega)
      refine ⟨_, [.pv (.int more), s1, s2, s3, s4, s5, s6, s7, .pv (.lst (ns.map T)), s9, .own ((b' ++ [St.sgl "check" (.two "below" (.nm x) (.own (.int w)))]).map embS), .pv (.int ((0 + i : Nat) : Int)), .pv (T x), s13, s14, s15], rfl, Or.inl ?_, b' ++ [St.sgl "check" (.two "below" (.nm x) (.own (.int w)))], rfl, by simp; omega, ?_⟩
      · have z : (b'.map embS).length < sizeLine := sz (by simp; omega)
        rw [List.map_append, List.map_singleton, Nat.zero_add]
        simp only [embS, embT]
        unfold B__law_try_4
        generalize b'.map embS = B at *
        generalize ns.map T = N at *
        simp [dv, ev, dApp, z]
      · intro s hs
        rcases List.mem_append.mp hs with q | q
        · exact g2 s q
        · rw [List.mem_singleton.mp q]
          refine ⟨Or.inr (Or.inl rfl), ⟨Or.inr rfl, hx x hxm, G_iv hw⟩, by simp [dpT], fun y hy => ?_⟩
          simp only [nmsT, List.append_nil, List.mem_singleton] at hy
          rw [hy]; exact hxm)
  rw [enum_len, List.length_map, List.length_take] at h3
  rw [h2] at h1
  refine ⟨b', ?_, by omega, h4⟩
  have sl := fSl_to (ns.map T).reverse 3
  rw [← List.map_reverse, ← List.map_take] at sl
  have sl' : fSl (.lst (ns.map T).reverse) none (some 3) = some ((ns.reverse.take 3).map T) := by rw [← List.map_reverse]; exact sl
  have z1 : (ns.map T).reverse.length ≤ sizeLine := sz (by simp; omega)
  have z2 : ((ns.reverse.take 3).map T).length ≤ sizeLine := sz (by simp; omega)
  unfold L__law_try_4
  generalize (ns.reverse.take 3).map T = A1 at *
  generalize ns.map T = A2 at *
  generalize b.map embS = A3 at *
  generalize b'.map embS = A4 at *
  generalize B__law_try_4 = BB at *
  simp [dFor, dRev, fRev, sl', enIt, h1, z1, z2]
def MK : List (List Nat) := [sc "skip", sc "fails", sc "strict", sc "slow"]
theorem MK_ok : ∀ x ∈ MK, okW x ∧ okN x := by
  intro x hx
  simp only [MK, List.mem_cons, List.not_mem_nil, or_false] at hx
  rcases hx with rfl | rfl | rfl | rfl <;> exact ⟨chkW_ok (by decide +kernel), isBl_name (by decide +kernel)⟩
theorem MK_nd : MK.Nodup := by decide +kernel
theorem MK_map : MK.map T = [S "skip", S "fails", S "strict", S "slow"] := by simp only [MK, List.map_cons, List.map_nil, T_S]
theorem nd_snoc {α : Type} {l : List α} {x : α} (h : l.Nodup) (hx : x ∉ l) : (l ++ [x]).Nodup := by
  rw [List.nodup_append]
  refine ⟨h, by simp, fun a ha b hb => ?_⟩
  rw [List.mem_singleton] at hb
  intro e
  rw [e, hb] at ha
  exact hx ha
theorem try_l5 (more : Int) (s1 s2 s3 s4 s5 s6 s7 s8 s9 s10 s12 s13 : Slot) :
    ∃ ks : List (List Nat), L__law_try_5 G__law_drawn [.pv (.int more), s1, s2, s3, s4, s5, s6, s7, s8, s9, s10, .un, s12, s13, .own [], .un] = .nx [.pv (.int more), s1, s2, s3, s4, s5, s6, s7, s8, s9, s10, .un, s12, s13, .own (ks.map T), .un] ∧ (∀ x ∈ ks, x ∈ MK) ∧ ks.Nodup ∧ ks.length ≤ 4 := by
  obtain ⟨e', h1, ks, h2, h3, h4, h5⟩ := for_inv (t := tgT [11, 15]) (body := B__law_try_5 G__law_drawn) (wp := [11, 15]) (enumFrom 0 (MK.map T))
    (fun i e => ∃ ks : List (List Nat), e = [.pv (.int more), s1, s2, s3, s4, s5, s6, s7, s8, s9, s10, .un, s12, s13, .own (ks.map T), .un] ∧ (∀ x ∈ ks, x ∈ MK.take i) ∧ ks.Nodup ∧ ks.length ≤ i) [.pv (.int more), s1, s2, s3, s4, s5, s6, s7, s8, s9, s10, .un, s12, s13, .own [], .un] ⟨[], rfl, fun _ h => (by cases h), by simp, by simp⟩ (by
      rintro i z d hd ⟨ks, rfl, g1, g2, g3⟩
      have hi : i < 4 := by
        have := (List.getElem?_eq_some_iff.mp hd).1
        rw [enum_len, List.length_map] at this
        exact this
      obtain ⟨v, hv, rfl⟩ := enum_get _ _ _ _ hd
      rw [List.getElem?_map] at hv
      obtain ⟨x, hp, rfl⟩ := Option.map_eq_some_iff.mp hv
      obtain ⟨v, hv, ev⟩ := pk (l := [PV.int 9, .int 6, .int 8, .int 3]) (i := (i : Int)) (by omega) (by simp; omega)
      obtain ⟨w, rfl, hw⟩ : ∃ w : Int, v = .int w ∧ 0 < w := by
        simp only [List.mem_cons, List.not_mem_nil, or_false] at hv
        rcases hv with rfl | rfl | rfl | rfl
        · exact ⟨9, rfl, by decide⟩
        · exact ⟨6, rfl, by decide⟩
        · exact ⟨8, rfl, by decide⟩
        · exact ⟨3, rfl, by decide⟩
      have tk : MK.take (i + 1) = MK.take i ++ [x] := by rw [List.take_succ, hp]; rfl
      have hxn : x ∉ MK.take i := by
        have := List.Sublist.nodup (List.take_sublist (i + 1) MK) MK_nd
        rw [tk, List.nodup_append] at this
        intro hx
        exact this.2.2 x hx x (by simp) rfl
      by_cases c : drawn more (40 + (i : Int)) % w = 0
      · refine ⟨_, [.pv (.int more), s1, s2, s3, s4, s5, s6, s7, s8, s9, s10, .pv (.int ((0 + i : Nat) : Int)), s12, s13, .own ((ks ++ [x]).map T), .pv (T x)], rfl, Or.inl ?_, ks ++ [x], rfl, ?_, nd_snoc g2 fun h => hxn (g1 x h), by simp; omega⟩
        · have z : (ks.map T).length < sizeLine := sz (by simp; omega)
          rw [List.map_append, List.map_singleton, Nat.zero_add]
          unfold B__law_try_5
          generalize ks.map T = K at *
          simp [G_drawn, ev, hw, c, dApp, z]
        · intro y hy
          rw [tk]
          rcases List.mem_append.mp hy with q | q
          · exact List.mem_append_left _ (g1 y q)
          · exact List.mem_append_right _ q
      · refine ⟨_, [.pv (.int more), s1, s2, s3, s4, s5, s6, s7, s8, s9, s10, .pv (.int ((0 + i : Nat) : Int)), s12, s13, .own (ks.map T), .pv (T x)], rfl, Or.inl ?_, ks, rfl, ?_, g2, by omega⟩
        · rw [Nat.zero_add]
          unfold B__law_try_5
          generalize ks.map T = K at *
          simp [G_drawn, ev, hw, c]
        · intro y hy
          rw [tk]
          exact List.mem_append_left _ (g1 y hy))
  rw [enum_len, List.length_map] at h3 h5
  rw [h2] at h1
  refine ⟨ks, ?_, fun x hx => List.mem_of_mem_take (h3 x hx), h4, h5⟩
  rw [MK_map] at h1
  unfold L__law_try_5
  generalize ks.map T = A1 at *
  generalize B__law_try_5 G__law_drawn = BB at *
  simp [dFor, enIt, h1]
structure gT (kn : Kn) (nm : List Nat) (ks : List (List Nat)) (ts : List Tb) (ws : List (List Nat)) (b : PV) : Prop where
  km : ∀ x ∈ ks, x ∈ MK
  kd : ks.Nodup
  kf : ks.length ≤ 4
  tc : ts.map Tb.cs ∈ CSS
  tb : ∀ t ∈ ts, gB t.cs t
  wk : ∀ x ∈ ws, x ∈ kn.map (·.1)
  wd : ws.Nodup
  wf : ws.length ≤ 3
  bd : ∃ bs : List St, b = .tup (bs.map embS) ∧ bs.length ≤ 10 ∧ ∀ s ∈ bs, okS (ws ++ cols ts) s
theorem okX_of {x : List Nat} (h : okW x ∧ okN x) : okX x := ⟨h.1.lt, Or.inl h.2⟩
theorem CN_ok : ∀ x ∈ [cP, cZ, cQ], okW x ∧ okN x := by
  intro x hx
  simp only [List.mem_cons, List.not_mem_nil, or_false] at hx
  rcases hx with rfl | rfl | rfl <;> exact ⟨chkW_ok (by decide +kernel), isBl_name (by decide +kernel)⟩
theorem cols_css {ts : List Tb} (h : ts.map Tb.cs ∈ CSS) : cols ts ∈ [[], [cP], [cP, cZ], [cP, cQ], [cP, cZ, cQ]] := by
  have e : cols ts = (ts.map Tb.cs).flatten := by unfold cols; rw [List.flatMap_def]
  rw [e]
  simp only [CSS, List.mem_cons, List.not_mem_nil, or_false] at h
  rcases h with h | h | h | h | h <;> rw [h] <;> simp
theorem cols_ok {ts : List Tb} (h : ts.map Tb.cs ∈ CSS) : (cols ts).length ≤ 3 ∧ (∀ x ∈ cols ts, x ∈ [cP, cZ, cQ]) ∧ (cols ts).Nodup := by
  have := cols_css h
  generalize cols ts = c at *
  simp only [List.mem_cons, List.not_mem_nil, or_false] at this
  rcases this with rfl | rfl | rfl | rfl | rfl
  · simp
  · simp
  · exact ⟨by simp, by simp, by decide +kernel⟩
  · exact ⟨by simp, by simp, by decide +kernel⟩
  · exact ⟨by simp, by simp, by decide +kernel⟩
theorem G_ltry (more : Int) {nm : List Nat} {kn : Kn} (ok : okKn kn) : ∃ (ks : List (List Nat)) (ts : List Tb) (ws : List (List Nat)) (b : PV), G__law_try [.int more, T nm, .lst (kn.map knV)] = .ok (embH (.tr nm ks ts ws b)) ∧ gT kn nm ks ts ws b := by
  obtain ⟨css, ts, hc, l1, t1, t2⟩ := try_l1 more (.pv (T nm)) (.pv (.lst (kn.map knV)))
  obtain ⟨ws, l2, w1, w2, w3⟩ := try_l2 more ok (.pv (T nm)) (.own (ts.map embB)) .un
  have tc : ts.map Tb.cs ∈ CSS := by rw [t1]; exact hc
  have co := cols_ok tc
  have cl := CSS_len css hc
  have tl : ts.length ≤ 2 := by
    have := cl.1
    rw [← t1, List.length_map] at this
    exact this
  have tcl : ∀ t ∈ ts, t.cs.length ≤ 3 := fun t ht => by
    have := (cl.2 t.cs (by rw [← t1]; exact List.mem_map.mpr ⟨t, ht, rfl⟩)).2
    omega
  have l3 := try_l3 (ns := ws) tl tcl (by omega) (.pv (.int more)) (.pv (T nm)) (.pv (.lst (kn.map knV))) .un (.own (ws.map T)) .un .un .un .un .un .un .un .un
  have nx : ∀ x ∈ ws ++ cols ts, okX x := fun x hx => by
    rcases List.mem_append.mp hx with q | q
    · obtain ⟨p, hp, rfl⟩ := List.mem_map.mp (w1 x q)
      exact okX_of (NM_ok _ (ok.nm p hp))
    · exact okX_of (CN_ok x (co.2.1 x q))
  generalize hns : ws ++ cols ts = ns at *
  have nl : ns.length ≤ 6 := by rw [← hns]; simp; omega
  have c1 : C__law_try_1 [.pv (.int more), .pv (T nm), .pv (.lst (kn.map knV)), .pv (.lst (ts.map embB)), .un, .own (ws.map T), .un, .un, .pv (.lst (ns.map T)), .un, .un, .un, .un, .un, .un, .un] = .ok ((ns.map fun x => St.sgl "note" (.nm x)).map embS) := by
    rw [List.map_map]
    unfold C__law_try_1
    refine dLc_all ns T _ ?_ (by omega) fun x hx => ⟨_, rfl, ?_⟩
    · generalize ns.map T = N
      generalize kn.map knV = N2
      generalize ts.map embB = N3
      generalize ws.map T = N4
      simp
    · generalize ns.map T = N
      generalize kn.map knV = N2
      generalize ts.map embB = N3
      generalize ws.map T = N4
      simp [embS, embT]
  have ob0 : ∀ s ∈ ns.map (fun x => St.sgl "note" (.nm x)), okS ns s := fun s hs => by
    obtain ⟨x, hx, rfl⟩ := List.mem_map.mp hs
    exact ⟨Or.inl rfl, okK_nm (nx x hx) hx⟩
  obtain ⟨b, l4, b1, b2⟩ := try_l4 more (ns := ns) (b := ns.map fun x => St.sgl "note" (.nm x)) nx nl (by simpa using nl) ob0 (.pv (T nm)) (.pv (.lst (kn.map knV))) (.pv (.lst (ts.map embB))) .un (.own (ws.map T)) .un .un .un .un .un .un
  have d256 : pDiv (.int more) (.int 256) = some (.int (more / 256)) := pDiv_small (by decide) (by decide)
  have d2 : pDiv (.int (more / 256 % 8)) (.int 2) = some (.int (more / 256 % 8 / 2)) := pDiv_small (by decide) (by decide)
  have m8 := md (more / 256) (n := 8) (by decide)
  obtain ⟨v, hv, ev⟩ := pk (l := [PV.tup [], .tup [], .tup [.tup [S "alike", .tup [S "own", .tup [.int 1, S "a"]], .tup [S "own", .tup [.int 1, S "b"]]]], .tup [.tup [S "skip", .tup [S "own", .int 0]]]]) (i := more / 256 % 8 / 2) (by omega) (by simp; omega)
  have hb : ∃ c : List St, v = .tup (c.map embS) ∧ c.length ≤ 1 ∧ ∀ s ∈ c, okS ns s := by
    simp only [List.mem_cons, List.not_mem_nil, or_false] at hv
    rcases hv with rfl | rfl | rfl | rfl
    · exact ⟨[], rfl, by simp, fun s hs => by cases hs⟩
    · exact ⟨[], rfl, by simp, fun s hs => by cases hs⟩
    · exact ⟨[.alk (.own (.tup [.int 1, S "a"])) (.own (.tup [.int 1, S "b"]))], rfl, by simp, fun s hs => by rw [List.mem_singleton.mp hs]; exact ⟨okK_own (by kernel_rfl), okK_own (by kernel_rfl)⟩⟩
    · exact ⟨[.sgl "skip" (.own (.int 0))], rfl, by simp, fun s hs => by rw [List.mem_singleton.mp hs]; exact ⟨Or.inr (Or.inr (Or.inr rfl)), okK_own (by kernel_rfl)⟩⟩
  obtain ⟨c, rfl, c2, c3⟩ := hb
  have ad := addB (b := b) (c := c) (by omega)
  obtain ⟨ks, l5, k1, k2, k3⟩ := try_l5 more (.pv (T nm)) (.pv (.lst (kn.map knV))) (.pv (.lst (ts.map embB))) .un (.own (ws.map T)) .un .un (.pv (.lst (ns.map T))) .un (.pv (.tup ((b ++ c).map embS))) .un (.pv (.lst [PV.tup [], .tup [], .tup [.tup [S "alike", .tup [S "own", .tup [.int 1, S "a"]], .tup [S "own", .tup [.int 1, S "b"]]]], .tup [.tup [S "skip", .tup [S "own", .int 0]]]]))
  refine ⟨ks, ts, ws, .tup ((b ++ c).map embS), ?_, k1, k2, k3, tc, t2, w1, w2, w3, ⟨b ++ c, rfl, by simp; omega, fun s hs => ?_⟩⟩
  · have z1 : (ws.map T).length ≤ sizeLine := sz (by simp; omega)
    rw [embH_tr]
    simp only [G__law_try, D__law_try, fm0]
    generalize (b ++ c).map embS = A1 at *
    generalize b.map embS = A2 at *
    generalize c.map embS = A3 at *
    generalize ks.map T = A4 at *
    generalize ts.map embB = A5 at *
    generalize ws.map T = A6 at *
    generalize ns.map T = A7 at *
    generalize kn.map knV = A8 at *
    generalize (ns.map fun x => St.sgl "note" (.nm x)).map embS = A9 at *
    generalize C__law_try_1 = CC at *
    generalize L__law_try_1 G__law_drawn G__law_table = L1 at *
    generalize L__law_try_2 G__law_drawn = L2 at *
    generalize L__law_try_3 = L3 at *
    generalize L__law_try_4 = L4 at *
    generalize L__law_try_5 G__law_drawn = L5 at *
    simp [-pAdd_tt, l1, l2, l3, c1, l4, d256, d2, ev, ad, l5, frzS, dFrz, z1]
  · rw [hns]
    rcases List.mem_append.mp hs with q | q
    · exact b2 s q
    · exact c3 s q
end Tw
set_option Elab.async false
set_option linter.all false
set_option maxRecDepth 100000
set_option maxHeartbeats 4000000
namespace Tw
open PySem PySem.Spec PyProof.Rows L2 Pv
local instance : TabCx := TabCx.nil
def MB : List (List (List Nat)) := [[sc "m", sc "n", sc "oo"], [sc "t", sc "oo", sc "a"]]
def SX : List (List Nat) := [[], sc "x"]
def MN : List (List Nat) := [sc "m", sc "mx", sc "n", sc "nx", sc "oo", sc "oox", sc "t", sc "tx", sc "a", sc "ax"]
def GK : List (List (List Nat)) := [[], [], [sc "net"], [sc "slow", sc "net"]]
theorem MB_in : ∀ B ∈ MB, ∀ x ∈ B, ∀ s ∈ SX, x ++ s ∈ MN := by decide +kernel
theorem MB_len : ∀ B ∈ MB, B.length = 3 := by decide +kernel
theorem MB_hd : ∀ B ∈ MB, (B.map List.head?).Nodup := by decide +kernel
theorem MB_ne : ∀ B ∈ MB, ∀ x ∈ B, x ≠ [] := by decide +kernel
theorem MB_sh : ∀ B ∈ MB, ∀ x ∈ B, ∀ s ∈ SX, x.length + s.length ≤ 10 := by decide +kernel
theorem MN_ok : ∀ x ∈ MN, okW x ∧ okN x := by
  intro x hx
  simp only [MN, List.mem_cons, List.not_mem_nil, or_false] at hx
  rcases hx with rfl | rfl | rfl | rfl | rfl | rfl | rfl | rfl | rfl | rfl <;> exact ⟨chkW_ok (by decide +kernel), isBl_name (by decide +kernel)⟩
theorem GK_nd : ∀ k ∈ GK, k.Nodup ∧ k.length ≤ 2 := by decide +kernel
theorem GK_ok : ∀ k ∈ GK, ∀ x ∈ k, okW x ∧ okN x := by
  intro k hk x hx
  simp only [GK, List.mem_cons, List.not_mem_nil, or_false] at hk
  rcases hk with rfl | rfl | rfl | rfl
  · cases hx
  · cases hx
  · rw [List.mem_singleton.mp hx]; exact ⟨chkW_ok (by decide +kernel), isBl_name (by decide +kernel)⟩
  · simp only [List.mem_cons, List.not_mem_nil, or_false] at hx
    rcases hx with rfl | rfl <;> exact ⟨chkW_ok (by decide +kernel), isBl_name (by decide +kernel)⟩
theorem GMs.newK {kn : Kn} {ms : List Mkr} (ok : okKn kn) (g : GMs kn ms) : okKn (newK kn ms) := by
  unfold Tw.newK
  have oo := g.own
  refine ⟨fun p hp => ?_, fun p hp => ?_, ?_⟩
  · rcases List.mem_append.mp hp with q | q
    · exact ok.nm p (List.mem_filter.mp q).1
    · exact oo.nm p q
  · rcases List.mem_append.mp hp with q | q
    · exact ok.scp p (List.mem_filter.mp q).1
    · exact oo.scp p q
  · rw [List.map_append, List.nodup_append]
    refine ⟨?_, oo.nd, fun a ha b hb e => ?_⟩
    · exact List.Sublist.nodup (List.Sublist.map _ (List.filter_sublist)) ok.nd
    · obtain ⟨p, hp, rfl⟩ := List.mem_map.mp ha
      have := (List.mem_filter.mp hp).2
      simp only [Bool.not_eq_true', decide_eq_false_iff_not] at this
      rw [← e] at hb
      exact this hb
inductive Gen : Nat → Kn → Hs → Prop
  | tr {d : Nat} {kn : Kn} {n : List Nat} {k : List (List Nat)} {ts : List Tb} {ws : List (List Nat)} {b : PV} : okW n ∧ okN n → gT kn n k ts ws b → Gen d kn (.tr n k ts ws b)
  | gr {d : Nat} {kn : Kn} {n : List Nat} {k : List (List Nat)} {ms : List Mkr} {hs : List Hs} : okW n ∧ okN n → k ∈ GK → GMs kn ms → 1 ≤ hs.length → hs.length ≤ 3 → (hs.map Hs.nm).Nodup → (∀ h ∈ hs, h.nm ∈ MN) → (∀ h ∈ hs, Gen d (newK kn ms) h) → Gen (d + 1) kn (.gr n k ms hs)
theorem inner_nm (more here : Int) (j : Nat) (hj : j < 3) : ∃ B ∈ MB, ∀ (here : Int) (j : Nat) (hj : j < 3), ∃ s ∈ SX, ∃ x, B[j]? = some x ∧ ∃ v w, L2.atI [PV.lst [S "m", S "n", S "oo"], .lst [S "t", S "oo", S "a"]] (more / 32 % 2) = some v ∧ pIdx v (.int (j : Int)) = some (T x) ∧ L2.atI [S "", S "x"] (here % 2) = some w ∧ pAdd (T x) w = some (T (x ++ s)) := by
  obtain ⟨v, hv, ev⟩ := pk (l := [PV.lst [S "m", S "n", S "oo"], .lst [S "t", S "oo", S "a"]]) (i := more / 32 % 2) (md _ (by decide)).1 (md _ (by decide)).2
  obtain ⟨B, hB, rfl⟩ : ∃ B ∈ MB, v = .lst (B.map T) := by
    simp only [List.mem_cons, List.not_mem_nil, or_false] at hv
    rcases hv with rfl | rfl
    · exact ⟨[sc "m", sc "n", sc "oo"], by simp [MB], by simp only [List.map_cons, List.map_nil, T_S]⟩
    · exact ⟨[sc "t", sc "oo", sc "a"], by simp [MB], by simp only [List.map_cons, List.map_nil, T_S]⟩
  refine ⟨B, hB, fun here j hj => ?_⟩
  obtain ⟨w, hw, ew⟩ := pk (l := [S "", S "x"]) (i := here % 2) (md _ (by decide)).1 (md _ (by decide)).2
  obtain ⟨s, hs, rfl⟩ : ∃ s ∈ SX, w = T s := by
    simp only [List.mem_cons, List.not_mem_nil, or_false] at hw
    rcases hw with rfl | rfl
    · exact ⟨[], by simp [SX], by rw [← T_S]; rfl⟩
    · exact ⟨sc "x", by simp [SX], by rw [T_S]⟩
  have hl := MB_len B hB
  have hx : B[j]? = some (B[j]'(by omega)) := List.getElem?_eq_getElem (by omega)
  have hm : (B[j]'(by omega)) ∈ B := List.getElem_mem _
  refine ⟨s, hs, B[j]'(by omega), hx, _, _, ev, ?_, ew, ?_⟩
  · rw [pIdx_l, atI_in (by simp; omega)]
    simp
  · exact add_T (by have := MB_sh B hB _ hm s hs; omega)
theorem G_lgroup : ∀ (n d : Nat) (more : Int) {nm : List Nat} {kn : Kn}, okW nm ∧ okN nm → okKn kn → d < n → ∃ h : Hs, G__law_group n [.int more, T nm, .int (d : Nat), .lst (kn.map knV)] = .ok (embH h) ∧ Gen (d + 1) kn h ∧ h.nm = nm ∧ h.isG = true
  | 0, d, more, nm, kn, _, _, h => by omega
  | n + 1, d, more, nm, kn, on, ok, hd => by
    obtain ⟨ms, g1, g2⟩ := G_mkrs (drawn more 1) ok
    have ok2 := g2.newK ok
    obtain ⟨N, hN, eN⟩ := modN (m := more) (n := 3) (by decide)
    have eN' : more % 3 = (N : Int) := eN
    obtain ⟨B, hB, nmB⟩ := inner_nm more 0 0 (by omega)
    have d32 : pDiv (.int more) (.int 32) = some (.int (more / 32)) := pDiv_small (by decide) (by decide)
    have d4 : pDiv (.int more) (.int 4) = some (.int (more / 4)) := pDiv_small (by decide) (by decide)
    obtain ⟨e', h1, hs, h2, h3, h4, h5⟩ := for_inv (t := tgN 6) (body := B__law_group_1 G__law_drawn G__law_try (G__law_group n)) (wp := [6, 7, 8]) ((List.range (1 + N)).map fun (k : Nat) => PV.int (k : Int))
      (fun i e => ∃ hs : List Hs, e = [.pv (.int more), .pv (T nm), .pv (.int (d : Nat)), .pv (.lst ((newK kn ms).map knV)), .pv (.tup (ms.map embM)), .own (hs.map embH), .un, .un, .un, .un] ∧ hs.length = i ∧ hs.map (fun h => h.nm.head?) = (B.take i).map List.head? ∧ ∀ h ∈ hs, h.nm ∈ MN ∧ Gen d (newK kn ms) h)
      [.pv (.int more), .pv (T nm), .pv (.int (d : Nat)), .pv (.lst ((newK kn ms).map knV)), .pv (.tup (ms.map embM)), .own [], .un, .un, .un, .un] ⟨[], rfl, rfl, by simp, fun _ h => (by cases h)⟩ (by
        rintro i z p hp ⟨hs, rfl, k1, k2, k3⟩
        obtain ⟨hi, rfl⟩ := rngI hp
        generalize hh : drawn more (10 + (i : Int)) = here
        obtain ⟨s, s1, x, x1, v, w, x2, x3, x4, x5⟩ := nmB here i (by omega)
        have xm : x ∈ B := List.mem_of_getElem? x1
        have d2 : pDiv (.int here) (.int 2) = some (.int (here / 2)) := pDiv_small (by decide) (by decide)
        have z : (hs.map embH).length < sizeLine := sz (by simp; omega)
        have mem : ∃ h : Hs, B__law_group_1 G__law_drawn G__law_try (G__law_group n) [.pv (.int more), .pv (T nm), .pv (.int (d : Nat)), .pv (.lst ((newK kn ms).map knV)), .pv (.tup (ms.map embM)), .own (hs.map embH), .pv (.int (i : Int)), .un, .un, .un] = .nx [.pv (.int more), .pv (T nm), .pv (.int (d : Nat)), .pv (.lst ((newK kn ms).map knV)), .pv (.tup (ms.map embM)), .own (hs.map embH ++ [embH h]), .pv (.int (i : Int)), .pv (.int here), .pv (T (x ++ s)), .un] ∧ h.nm = x ++ s ∧ Gen d (newK kn ms) h := by
          obtain ⟨ks, ts, ws, b, t1, t2⟩ := G_ltry (drawn here 1) (nm := x ++ s) ok2
          have tt : B__law_group_1 G__law_drawn G__law_try (G__law_group n) [.pv (.int more), .pv (T nm), .pv (.int (d : Nat)), .pv (.lst ((newK kn ms).map knV)), .pv (.tup (ms.map embM)), .own (hs.map embH), .pv (.int (i : Int)), .un, .un, .un] = .nx [.pv (.int more), .pv (T nm), .pv (.int (d : Nat)), .pv (.lst ((newK kn ms).map knV)), .pv (.tup (ms.map embM)), .own (hs.map embH ++ [embH (.tr (x ++ s) ks ts ws b)]), .pv (.int (i : Int)), .pv (.int here), .pv (T (x ++ s)), .un] ∨ (0 < d ∧ here / 2 % 3 = 0) := by
            by_cases c : 0 < d ∧ here / 2 % 3 = 0
            · exact Or.inr c
            · refine Or.inl ?_
              unfold B__law_group_1
              generalize (newK kn ms).map knV = A1 at *
              generalize ms.map embM = A2 at *
              generalize hs.map embH = A3 at *
              generalize embH (.tr (x ++ s) ks ts ws b) = EH at *
              by_cases c1 : 0 < d
              · have c2 : ¬ here / 2 % 3 = 0 := fun z => c ⟨c1, z⟩
                simp [-pAdd_ss, G_drawn, hh, d32, x2, x3, x4, x5, d2, c1, c2, t1, dApp, z]
              · simp [-pAdd_ss, G_drawn, hh, d32, x2, x3, x4, x5, d2, c1, t1, dApp, z]
          rcases tt with tt | ⟨c1, c2⟩
          · exact ⟨_, tt, rfl, .tr (MN_ok _ (MB_in B hB x xm s s1)) t2⟩
          · obtain ⟨d', rfl⟩ : ∃ d', d = d' + 1 := ⟨d - 1, by omega⟩
            obtain ⟨h, q1, q2, q3, q4⟩ := G_lgroup n d' (drawn here 1) (nm := x ++ s) (MN_ok _ (MB_in B hB x xm s s1)) ok2 (by omega)
            refine ⟨h, ?_, q3, q2⟩
            unfold B__law_group_1
            generalize (newK kn ms).map knV = A1 at *
            generalize ms.map embM = A2 at *
            generalize hs.map embH = A3 at *
            generalize embH h = EH at *
            simp [-pAdd_ss, G_drawn, hh, d32, x2, x3, x4, x5, d2, c2, q1, dApp, z]
        obtain ⟨h, m1, m2, m3⟩ := mem
        refine ⟨_, _, rfl, Or.inl m1, hs ++ [h], ?_, by simp [k1], ?_, fun y hy => ?_⟩
        · rw [List.map_append, List.map_singleton]; rfl
        · rw [List.map_append, k2, List.take_succ, x1, List.map_append]
          congr 1
          simp only [List.map_cons, List.map_nil, m2, Option.toList]
          have := MB_ne B hB x xm
          cases x with
          | nil => exact absurd rfl this
          | cons a l => rfl
        · rcases List.mem_append.mp hy with q | q
          · exact k3 y q
          · rw [List.mem_singleton.mp q]
            exact ⟨by rw [m2]; exact MB_in B hB x xm s s1, m3⟩)
    simp only [List.length_map, List.length_range] at h3 h4
    rw [h2] at h1
    obtain ⟨v, hv, ev⟩ := pk (l := [PV.tup [], .tup [], .tup [S "net"], .tup [S "slow", S "net"]]) (i := more / 4 % 4) (md _ (by decide)).1 (md _ (by decide)).2
    obtain ⟨k, hk, rfl⟩ : ∃ k ∈ GK, v = .tup (k.map T) := by
      simp only [List.mem_cons, List.not_mem_nil, or_false] at hv
      rcases hv with rfl | rfl | rfl | rfl
      · exact ⟨[], by simp [GK], rfl⟩
      · exact ⟨[], by simp [GK], rfl⟩
      · exact ⟨[sc "net"], by simp [GK], by simp only [List.map_cons, List.map_nil, T_S]⟩
      · exact ⟨[sc "slow", sc "net"], by simp [GK], by simp only [List.map_cons, List.map_nil, T_S]⟩
    refine ⟨.gr nm k ms hs, ?_, .gr on hk g2 (by omega) (by omega) ?_ (fun h hh => (h5 h hh).1) (fun h hh => (h5 h hh).2), rfl, rfl⟩
    · have r := rg1 (n := 1 + N) (by omega)
      rw [Int.natCast_add] at r
      have r' : rgIt1 [.int (1 + (N : Int))] = some ((List.range (1 + N)).map fun (k : Nat) => PV.int (k : Int)) := r
      rw [embH_gr]
      simp only [G__law_group, D__law_group, fm0]
      unfold L__law_group_1
      generalize ((List.range (1 + N)).map fun (k : Nat) => PV.int (k : Int)) = RG at *
      generalize (newK kn ms).map knV = A1 at *
      generalize ms.map embM = A2 at *
      generalize hs.map embH = A3 at *
      generalize k.map T = A4 at *
      generalize kn.map knV = A5 at *
      generalize B__law_group_1 G__law_drawn G__law_try (G__law_group n) = BB at *
      simp [G_drawn, g1, dSetT, tgT, dFor, eN', r', h1, d4, ev]
    · have nd : (hs.map fun h => h.nm.head?).Nodup := by
        rw [h4]
        exact List.Sublist.nodup (List.Sublist.map _ (List.take_sublist _ _)) (MB_hd B hB)
      have e : (hs.map fun h => h.nm.head?) = (hs.map Hs.nm).map List.head? := by rw [List.map_map]; rfl
      rw [e] at nd
      exact List.Pairwise.of_map _ (fun a b h z => h (by rw [z])) nd
end Tw
set_option Elab.async false
set_option linter.all false
set_option maxRecDepth 100000
set_option maxHeartbeats 4000000
namespace Tw
open PySem PySem.Spec PyProof.Rows L2 Pv
local instance : TabCx := TabCx.nil
def KN (kn : Kn) (c : Ch) (r : Nat) : Prop := ∀ p ∈ kn, ∃ q, metC p.1 c = some q ∧ Rk r q ∧ q.1.sc = p.2
structure CH (c : Ch) : Prop where
  g : okG c
  nd : ndG c
  gm : ∀ h ∈ c, ∀ m ∈ h.ms, gM m
  f3 : ∀ h ∈ c, h.ms.length ≤ 3
theorem CH.nil : CH [] := ⟨⟨⟨by simp, fun _ h => (by cases h)⟩, fun _ h => (by cases h), fun _ h => (by cases h), fun _ h => (by cases h)⟩, fun _ h => (by cases h), fun _ h => (by cases h), fun _ h => (by cases h)⟩
theorem CH.cons {kn : Kn} {c : Ch} {n : List Nat} {k : List (List Nat)} {ms : List Mkr} {hs : List Hs} (o : CH c) (hn : okW n) (hl : c.length ≤ 7) (g : GMs kn ms) : CH (.gr n k ms hs :: c) := by
  have few := g.few
  refine ⟨⟨⟨by simp; omega, ?_⟩, ?_, ?_, ?_⟩, ?_, ?_, ?_⟩
  · intro h hh
    rcases List.mem_cons.mp hh with rfl | q
    · exact hn
    · exact o.g.ok.2 h q
  · intro h hh
    rcases List.mem_cons.mp hh with rfl | q
    · rfl
    · exact o.g.gr h q
  · intro h hh m hm
    rcases List.mem_cons.mp hh with rfl | q
    · exact (g.ok m hm).nm.1
    · exact o.g.nm h q m hm
  · intro h hh
    rcases List.mem_cons.mp hh with rfl | q
    · show ms.length ≤ 100; omega
    · exact o.g.few h q
  · intro h hh
    rcases List.mem_cons.mp hh with rfl | q
    · have := g.own.nd
      rw [List.map_map] at this
      exact this
    · exact o.nd h q
  · intro h hh m hm
    rcases List.mem_cons.mp hh with rfl | q
    · exact g.ok m hm
    · exact o.gm h q m hm
  · intro h hh
    rcases List.mem_cons.mp hh with rfl | q
    · exact few
    · exact o.f3 h q
theorem find_nd : ∀ {ms : List Mkr} {m : Mkr}, (ms.map Mkr.nm).Nodup → m ∈ ms → ms.find? (fun z => decide (z.nm = m.nm)) = some m
  | a :: ms, m, h, hm => by
    rw [List.map_cons, List.nodup_cons] at h
    rw [List.find?_cons]
    rcases List.mem_cons.mp hm with rfl | q
    · rw [decide_eq_true rfl]
    · have : a.nm ≠ m.nm := fun e => h.1 (by rw [e]; exact List.mem_map.mpr ⟨m, q, rfl⟩)
      rw [decide_eq_false this]
      exact find_nd h.2 q
theorem find_no {ms : List Mkr} {x : List Nat} (h : x ∉ ms.map Mkr.nm) : ms.find? (fun z => decide (z.nm = x)) = none := by
  rw [List.find?_eq_none]
  intro m hm
  simp only [decide_eq_true_eq]
  intro e
  exact h (List.mem_map.mpr ⟨m, hm, e⟩)
theorem met_own {n : List Nat} {k : List (List Nat)} {ms : List Mkr} {hs : List Hs} {c : Ch} {m : Mkr} (nd : (ms.map Mkr.nm).Nodup) (hm : m ∈ ms) : metC m.nm (.gr n k ms hs :: c) = some (m, .gr n k ms hs :: c) := by
  have := find_nd nd hm
  show (match ms.find? (fun z => decide (z.nm = m.nm)) with | some z => some (z, _) | none => metC m.nm c) = _
  rw [this]
theorem met_out {n : List Nat} {k : List (List Nat)} {ms : List Mkr} {hs : List Hs} {c : Ch} {x : List Nat} (h : x ∉ ms.map Mkr.nm) : metC x (.gr n k ms hs :: c) = metC x c := by
  have := find_no h
  show (match ms.find? (fun z => decide (z.nm = x)) with | some z => some (z, _) | none => metC x c) = _
  rw [this]
theorem rank {kn : Kn} {c : Ch} {r : Nat} {n : List Nat} {k : List (List Nat)} {ms : List Mkr} {hs : List Hs} (g : GMs kn ms) (K : KN kn c r) (C : CH (.gr n k ms hs :: c)) :
    ∀ (j : Nat) (pre : List Mkr) (m : Mkr) (post : List Mkr), pre.length = j → ms = pre ++ m :: post → Rk (r + j + 1) (m, .gr n k ms hs :: c) := by
  intro j
  induction j using Nat.strongRecOn with
  | ind j ih =>
    intro pre m post hj e
    have hm : m ∈ ms := by rw [e]; simp
    have gm := g.ok m hm
    have nd : (ms.map Mkr.nm).Nodup := by
      have := g.own.nd
      rw [List.map_map] at this
      exact this
    refine ⟨⟨C.g, by simp, gm.nm.1, fun x hx => (gm.wd x hx).1, gm.few⟩, gm.scp, fun o ho => ?_⟩
    obtain ⟨x, hx, rfl⟩ := List.mem_map.mp ho
    obtain ⟨s, hs1, hs2⟩ := g.wt pre m post e x hx
    rcases hs2 with ⟨h1, h2⟩ | ⟨m', h1, h2, h3⟩
    · obtain ⟨q, q1, q2, q3⟩ := K _ h1
      refine ⟨q, ?_, q2.up (by omega), ?_⟩
      · by_cases e2 : x = m.nm
        · simp only [e2, if_true, List.tail_cons]
          rw [← e2]; exact q1
        · simp only [if_neg e2]
          rcases h2 with h2 | h2
          · rw [met_out h2]; exact q1
          · exact absurd h2 e2
      · show q.1.sc ≤ m.sc
        rw [q3]; exact hs1
    · have ne : x ≠ m.nm := by
        rw [e, List.map_append, List.map_cons, List.nodup_append] at nd
        intro e2
        exact nd.2.2 x (List.mem_map.mpr ⟨m', h1, h2⟩) x (by rw [e2]; exact List.mem_cons_self) rfl
      have hm' : m' ∈ ms := by rw [e]; exact List.mem_append_left _ h1
      refine ⟨(m', .gr n k ms hs :: c), ?_, ?_, ?_⟩
      · simp only [if_neg ne]
        rw [← h2]
        exact met_own nd hm'
      · obtain ⟨p1, p2, hp⟩ := List.append_of_mem h1
        have hl : p1.length < j := by rw [← hj, hp]; simp
        have := ih p1.length hl p1 m' (p2 ++ m :: post) rfl (by rw [e, hp]; simp)
        exact this.up (by omega)
      · show m'.sc ≤ m.sc
        rw [h3]; exact hs1
theorem KN.cons {kn : Kn} {c : Ch} {r : Nat} {n : List Nat} {k : List (List Nat)} {ms : List Mkr} {hs : List Hs} (g : GMs kn ms) (K : KN kn c r) (C : CH (.gr n k ms hs :: c)) : KN (newK kn ms) (.gr n k ms hs :: c) (r + 3) ∧ ∀ m ∈ ms, Rk (r + 3) (m, .gr n k ms hs :: c) := by
  have few := g.few
  have all : ∀ m ∈ ms, Rk (r + 3) (m, .gr n k ms hs :: c) := fun m hm => by
    obtain ⟨p1, p2, hp⟩ := List.append_of_mem hm
    have hl : p1.length < 3 := by
      have := congrArg List.length hp
      simp at this
      omega
    exact (rank g K C p1.length p1 m p2 rfl hp).up (by omega)
  have nd : (ms.map Mkr.nm).Nodup := by
    have := g.own.nd
    rw [List.map_map] at this
    exact this
  refine ⟨fun p hp => ?_, all⟩
  unfold newK at hp
  rcases List.mem_append.mp hp with q | q
  · have := List.mem_filter.mp q
    obtain ⟨z, z1, z2, z3⟩ := K p this.1
    refine ⟨z, ?_, z2.up (by omega), z3⟩
    have h2 := this.2
    simp only [Bool.not_eq_true', decide_eq_false_iff_not, List.map_map] at h2
    rw [met_out h2]
    exact z1
  · obtain ⟨m, hm, rfl⟩ := List.mem_map.mp q
    exact ⟨_, met_own nd hm, all m hm, rfl⟩
theorem gT.tabs {kn : Kn} {n : List Nat} {k : List (List Nat)} {ts : List Tb} {ws : List (List Nat)} {b : PV} (o : gT kn n k ts ws b) : ts.length ≤ 2 ∧ ∀ t ∈ ts, 1 ≤ t.cs.length ∧ t.cs.length ≤ 2 ∧ ∀ x ∈ t.cs, okN x := by
  have cl := CSS_len _ o.tc
  have co := cols_ok o.tc
  refine ⟨by have := cl.1; rwa [List.length_map] at this, fun t ht => ?_⟩
  have := cl.2 t.cs (List.mem_map.mpr ⟨t, ht, rfl⟩)
  exact ⟨this.1, this.2, fun x hx => (CN_ok x (co.2.1 x (List.mem_flatMap.mpr ⟨t, ht, hx⟩))).2⟩
theorem gT.need {kn : Kn} (ok : okKn kn) {n : List Nat} {k : List (List Nat)} {ts : List Tb} {ws : List (List Nat)} {b : PV} (hn : okN n) (o : gT kn n k ts ws b) : tryN n k ts ws b := by
  obtain ⟨bs, b1, b2, b3⟩ := o.bd
  obtain ⟨t1, t2⟩ := o.tabs
  refine ⟨hn, fun x hx => (MK_ok x (o.km x hx)).2, o.kd, o.kf, t1, fun t ht => ?_, fun x hx => ?_, o.wd, by have := o.wf; omega, by rw [b1]; exact need_bd b2 b3⟩
  · have := t2 t ht
    have tb := o.tb t ht
    exact ⟨this.2.2, this.1, by omega, tb.rl.1, by have := tb.rl.2; omega, tb.rr, tb.rv⟩
  · obtain ⟨p, hp, rfl⟩ := List.mem_map.mp (o.wk x hx)
    exact (NM_ok _ (ok.nm p hp)).2
theorem NMC : ∀ x ∈ NM, x ∉ [cP, cZ, cQ] := by decide +kernel
theorem gT.okT {kn : Kn} (ok : okKn kn) {c : Ch} {r : Nat} {n : List Nat} {k : List (List Nat)} {ts : List Tb} {ws : List (List Nat)} {b : PV} (o : gT kn n k ts ws b) (C : CH c) (K : KN kn c r) (hr : r ≤ 12) (hc : c ≠ []) : Tw.okT ws c := by
  refine ⟨C.g, hc, fun x hx => ?_, by have := o.wf; omega, fun x hx => ?_⟩
  · obtain ⟨p, hp, rfl⟩ := List.mem_map.mp (o.wk x hx)
    exact (NM_ok _ (ok.nm p hp)).1
  · obtain ⟨p, hp, rfl⟩ := List.mem_map.mp (o.wk x hx)
    obtain ⟨q, q1, q2, q3⟩ := K p hp
    exact ⟨q, q1, q2.up hr⟩
theorem gT.okY {kn : Kn} (ok : okKn kn) {c : Ch} {r : Nat} {n : List Nat} {k : List (List Nat)} {ts : List Tb} {ws : List (List Nat)} {b : PV} (o : gT kn n k ts ws b) (C : CH c) (K : KN kn c r) (hr : r ≤ 12) (hc : c ≠ []) : Tw.okY ts ws b c := by
  obtain ⟨t1, t2⟩ := o.tabs
  obtain ⟨bs, b1, b2, b3⟩ := o.bd
  have co := cols_ok o.tc
  have wf := o.wf
  have wm : ∀ x ∈ ws, x ∈ NM := fun x hx => by
    obtain ⟨p, hp, rfl⟩ := List.mem_map.mp (o.wk x hx)
    exact ok.nm p hp
  refine ⟨o.okT ok C K hr hc, C.nd, t1, fun t ht => by have := (t2 t ht).2.1; omega, ?_, ?_⟩
  · rw [List.nodup_append]
    refine ⟨co.2.2, o.wd, fun a ha b hb e => ?_⟩
    rw [← e] at hb
    exact NMC a (wm a hb) (co.2.1 a ha)
  · rw [b1]
    refine lacks_ok 6 bs (cols ts ++ ws) (fun y hy => ?_) (fun s hs => ⟨(b3 s hs).mono fun x hx => ?_, fun _ => by omega⟩) (by omega) (by simp; omega)
    · rcases List.mem_append.mp hy with q | q
      · exact (CN_ok y (co.2.1 y q)).1.lt
      · exact (NM_ok y (wm y q)).1.lt
    · rcases List.mem_append.mp hx with q | q
      · exact List.mem_append_right _ q
      · exact List.mem_append_left _ q
theorem gT.okZ {kn : Kn} (ok : okKn kn) {c : Ch} {r : Nat} {n : List Nat} {k : List (List Nat)} {ts : List Tb} {ws : List (List Nat)} {b : PV} (o : gT kn n k ts ws b) (C : CH c) (K : KN kn c r) (hr : r ≤ 12) (hc : c ≠ []) (hl : c.length ≤ 4) : Tw.okZ ts ws c := by
  have t := o.okT ok C K hr hc
  obtain ⟨t1, t2⟩ := o.tabs
  refine ⟨t, C.nd, t1, fun t ht => by have := (o.tb t ht).rl; omega, fun q hq => ?_, ?_⟩
  · obtain ⟨pre, h, r', e1, e2, e3⟩ := (fnd_nd t C.nd).2 q (ord_mem hq)
    have := (C.gm h (by rw [e1]; simp) q.1 e3).rl
    omega
  · have := allM_len t C.nd C.f3
    omega
theorem gen_dep {d : Nat} {kn : Kn} {h : Hs} (g : Gen d kn h) : dep h ≤ d + 1 := by
  induction g with
  | tr => rw [dep]; omega
  | gr _ _ _ _ _ _ _ _ ih =>
    rename_i d kn n k ms hs h1 h2 h3 h4 h5 h6 h7 h8
    rw [dep]
    have : deps hs ≤ d + 1 := by
      clear h4 h5 h6 h7 h8
      induction hs with
      | nil => simp [deps]
      | cons a l il =>
        rw [deps]
        have := ih a List.mem_cons_self
        have := il fun x hx => ih x (List.mem_cons_of_mem _ hx)
        omega
    omega
theorem gen_all {d : Nat} {kn : Kn} {h : Hs} (g : Gen d kn h) : ∀ {c : Ch} {r : Nat}, okKn kn → CH c → KN kn c r → r ≤ 3 * c.length → c.length + d ≤ 3 → (h.isG = false → c ≠ []) → (∀ s ∈ allS' h c, spOk s ∧ (isT s = true → trOk s)) ∧ GN h c ∧ NH c.length h := by
  induction g with
  | tr hn o =>
    intro c r ok C K hr hl hc
    rename_i d kn n k ts ws b
    have hc := hc rfl
    have oc : okC (.tr n k ts ws b :: c) := ⟨by simp; omega, fun x hx => by
      rcases List.mem_cons.mp hx with rfl | q
      · exact hn.1
      · exact C.g.ok.2 x q⟩
    refine ⟨fun s hs => ?_, .mk oc (by simp [Hs.hs]) (fun m hm => by cases hm), .tr (o.need ok hn.2)⟩
    rw [allS', List.mem_singleton] at hs
    subst hs
    exact ⟨o.okY ok C K (by omega) hc, fun _ => ⟨o.okZ ok C K (by omega) hc (by omega), oc⟩⟩
  | gr hn hk gm h1 h3 nd mn _ ih =>
    intro c r ok C K hr hl _
    rename_i d kn n k ms hs _ _
    have C2 : CH (.gr n k ms hs :: c) := C.cons hn.1 (by omega) gm
    obtain ⟨K2, rk⟩ := KN.cons gm K C2
    have ok2 := gm.newK ok
    have few := gm.few
    have all := fun m (hm : m ∈ hs) => ih m hm ok2 C2 K2 (by simp only [List.length_cons]; omega) (by simp only [List.length_cons]; omega) (fun _ => by simp)
    have kk := GK_nd k hk
    refine ⟨fun s hs' => ?_, .mk C2.g.ok (by show hs.length ≤ 8; omega) fun m hm => (all m hm).2.1, ?_⟩
    · rw [allS_eq] at hs'
      rcases List.mem_cons.mp hs' with rfl | q
      · exact ⟨⟨C2.g, C2.nd, fun m hm => ⟨(rk m hm).up (by omega), (gm.ok m hm).lacks⟩⟩, fun z => by cases z⟩
      · obtain ⟨m, hm, hq⟩ := List.mem_flatMap.mp q
        exact (all m hm).1 s hq
    · refine .gr hn.2 (by omega) (fun x hx => (GK_ok k hk x hx).2) kk.1 (by omega) (by omega) (fun m hm => (gm.ok m hm).need) ?_ (by omega) (fun m hm => ?_) nd
      · exact C2.nd _ List.mem_cons_self
      · have := (all m hm).2.2
        simpa using this
theorem gen_ok {h : Hs} (g : Gen 3 [] h) (hg : h.isG = true) : okH h := by
  obtain ⟨a, b, c⟩ := gen_all g (c := []) (r := 0) ⟨fun _ h => (by cases h), fun _ h => (by cases h), by simp⟩ CH.nil (fun _ h => by cases h) (by simp) (by simp) (fun z => by rw [hg] at z; cases z)
  refine ⟨b, gen_dep g, hg, c, fun s hs => (a s hs).1, fun s hs => ?_⟩
  have := List.mem_filter.mp hs
  exact (a s this.1).2 this.2
end Tw
set_option Elab.async false
set_option linter.all false
set_option maxRecDepth 100000
set_option maxHeartbeats 4000000
namespace Tw
open PySem PySem.Spec PyProof.Rows L2 Pv
local instance : TabCx := TabCx.nil
inductive UN : Hs → Prop
  | mk {h : Hs} : (h.hs.map Hs.nm).Nodup → (∀ m ∈ h.hs, okW m.nm) → (∀ m ∈ h.hs, UN m) → UN h
theorem gen_un {d : Nat} {kn : Kn} {h : Hs} (g : Gen d kn h) : UN h := by
  induction g with
  | tr => exact .mk (by simp [Hs.hs]) (fun m hm => by cases hm) (fun m hm => by cases hm)
  | gr _ _ _ _ _ nd mn _ ih => exact .mk nd (fun m hm => (MN_ok _ (mn m hm)).1) ih
theorem okD_of {h : Hs} (o : okH h) {c : Ch} (hc : c ∈ triesH h) {row : List Nat} (hr : row ∈ prods (ctsC c)) : (c, row) ∈ rowsD h := List.mem_flatMap.mpr ⟨c, hc, List.mem_map.mpr ⟨row, hr, rfl⟩⟩
end Tw
set_option Elab.async false
set_option linter.all false
set_option maxRecDepth 100000
set_option maxHeartbeats 4000000
namespace Tw
open PySem PySem.Spec PyProof.Rows L2 Pv
local instance : TabCx := TabCx.nil
structure gH (h : Hs) : Prop where
  g : Gen 3 [] h
  gr : h.isG = true
  nm : h.nm = sc "root"
theorem gH.ok {h : Hs} (o : gH h) : okH h := gen_ok o.g o.gr
theorem gH.un {h : Hs} (o : gH h) : UN h := gen_un o.g
theorem gen_sp {d : Nat} {kn : Kn} {h : Hs} (g : Gen d kn h) : ∀ {c s : Ch}, s ∈ allS' h c → (∀ x ∈ c, x.marks.length ≤ 4) → (∀ t ∈ tsC s, t.cs.length ≤ 3) ∧ s.length ≤ c.length + d + 1 ∧ ∀ x ∈ s, x.marks.length ≤ 4 := by
  induction g with
  | tr hn o =>
    rename_i d kn n k ts ws b
    intro c s hs hc
    rw [allS', List.mem_singleton] at hs
    subst hs
    refine ⟨fun t ht => by have := ((o.tabs).2 t ht).2.1; omega, by simp, fun x hx => ?_⟩
    rcases List.mem_cons.mp hx with rfl | q
    · exact o.kf
    · exact hc x q
  | gr hn hk gm h1 h3 nd mn _ ih =>
    rename_i d kn n k ms hs _
    intro c s hs' hc
    have hc2 : ∀ x ∈ (Hs.gr n k ms hs :: c), x.marks.length ≤ 4 := fun x hx => by
      rcases List.mem_cons.mp hx with rfl | q
      · have := (GK_nd k hk).2
        show k.length ≤ 4
        omega
      · exact hc x q
    rw [allS_eq] at hs'
    rcases List.mem_cons.mp hs' with rfl | q
    · exact ⟨fun t ht => (by cases ht), by simp only [List.length_cons]; omega, hc2⟩
    · obtain ⟨m, hm, hq⟩ := List.mem_flatMap.mp q
      obtain ⟨a, b, c'⟩ := ih m hm hq hc2
      refine ⟨a, ?_, c'⟩
      simp only [List.length_cons] at b
      omega
theorem allK_len : ∀ {c : Ch}, (∀ x ∈ c, x.marks.length ≤ 4) → (allK c).length ≤ 4 * c.length
  | [], _ => by simp [allK]
  | h :: c, o => by
    have := allK_len (c := c) fun x hx => o x (List.mem_cons_of_mem _ hx)
    have := o h List.mem_cons_self
    simp only [allK, List.flatMap_cons, List.length_append, List.length_cons] at *
    omega
theorem gH.spot {h : Hs} (o : gH h) {d : RD0} (hd : d ∈ rowsD h) : d.1 ∈ allS' h [] ∧ isT d.1 = true := by
  obtain ⟨c, hc, h2⟩ := List.mem_flatMap.mp hd
  obtain ⟨row, _, rfl⟩ := List.mem_map.mp h2
  exact List.mem_filter.mp hc
theorem gH.cs {h : Hs} (o : gH h) {d : RD0} (hd : d ∈ rowsD h) : ∀ t ∈ tsC d.1, t.cs.length ≤ 3 := (gen_sp o.g (o.spot hd).1 (fun _ h => by cases h)).1
theorem gH.kl {h : Hs} (o : gH h) {d : RD0} (hd : d ∈ rowsD h) : (allK d.1).length ≤ 60 := by
  obtain ⟨_, b, c⟩ := gen_sp o.g (o.spot hd).1 (fun _ h => by cases h)
  have := allK_len c
  simp only [List.length_nil] at b
  omega
theorem gH.css {h : Hs} (o : gH h) : ∀ n k ts ws b r, (.tr n k ts ws b :: r : Ch) ∈ allS' h [] → ∀ t ∈ ts, t.cs.length ≤ 3 := fun n k ts ws b r hs => (gen_sp o.g hs (fun _ h => by cases h)).1
theorem gen_try {d : Nat} {kn : Kn} {h : Hs} (g : Gen d kn h) : ∀ {c : Ch}, ∃ s ∈ allS' h c, isT s = true := by
  induction g with
  | tr hn o =>
    rename_i d kn n k ts ws b
    intro c
    exact ⟨_, by rw [allS']; exact List.mem_singleton.mpr rfl, rfl⟩
  | gr hn hk gm h1 h3 nd mn _ ih =>
    rename_i d kn n k ms hs _
    intro c
    obtain ⟨m, hm⟩ := List.exists_mem_of_length_pos h1
    obtain ⟨s, s1, s2⟩ := ih m hm (c := .gr n k ms hs :: c)
    exact ⟨s, by rw [allS_eq]; exact List.mem_cons_of_mem _ (List.mem_flatMap.mpr ⟨m, hm, s1⟩), s2⟩
theorem gH.some {h : Hs} (o : gH h) : rowsD h ≠ [] := by
  obtain ⟨s, s1, s2⟩ := gen_try o.g (c := [])
  have hs : s ∈ triesH h := List.mem_filter.mpr ⟨s1, s2⟩
  obtain ⟨n, k, ts, ws, b, r, e, oz, _⟩ := ty_tr (o.ok.tr s hs)
  have := cnt_pos (cs := cts ts ws r) fun c hc => ((cts_ok oz).1 c hc).1
  rw [← prods_len] at this
  obtain ⟨row, hr⟩ := List.exists_mem_of_length_pos this
  intro z
  have := okD_of o.ok hs (row := row) (by rw [e]; exact hr)
  rw [z] at this
  cases this
theorem okD.tail {d : RD0} (o : okD d) : ∃ t r, d.1 = t :: r ∧ r ≠ [] := by
  obtain ⟨n, k, ts, ws, b, r, e, oz, _⟩ := o.ex
  exact ⟨_, r, e, oz.t.ne⟩
end Tw
set_option Elab.async false
set_option linter.all false
set_option maxRecDepth 100000
set_option maxHeartbeats 4000000
namespace Tw
open PySem PySem.Spec PyProof.Rows L2 Pv
local instance : TabCx := TabCx.nil
end Tw
set_option Elab.async false
set_option linter.all false
set_option maxRecDepth 100000
set_option maxHeartbeats 4000000
namespace Tw
open PySem PySem.Spec PyProof.Rows L2 Pv
local instance : TabCx := TabCx.nil
theorem wdH : pNe (wordOf (.cls (Str.ofString "BadHouse"))) (.tup [S "refused", S "BadHouse"]) = some false := by
  have e : wordOf (.cls (Str.ofString "BadHouse")) = .tup [S "refused", S "BadHouse"] := rfl
  rw [e]
  exact ne_self (by decide +kernel)
theorem gdH : goodEx (.cls (Str.ofString "BadHouse")) = true := by decide +kernel
theorem root_ok : okW (sc "root") ∧ okN (sc "root") := ⟨chkW_ok (by decide +kernel), isBl_name (by decide +kernel)⟩
theorem drawnH (m : Int) : ∃ h : Hs, G__law_group 4 [.int (drawn m 1), S "root", .int 2, .lst []] = .ok (embH h) ∧ gH h := by
  obtain ⟨h, h1, h2, h3, h4⟩ := G_lgroup 4 2 (drawn m 1) (kn := []) root_ok ⟨fun _ h => (by cases h), fun _ h => (by cases h), by simp⟩ (by decide)
  rw [T_S] at h1
  exact ⟨h, h1, h2, h4, h3⟩
end Tw
set_option Elab.async false
set_option linter.all false
set_option maxRecDepth 100000
set_option maxHeartbeats 4000000
namespace Tw
open PySem PySem.Spec PyProof.Rows L2 Pv
local instance : TabCx := TabCx.nil
abbrev BHs : Ex := .cls (Str.ofString "BadHouse")
def isBH : R PV → Bool
  | .ex (.cls n) => n == Str.ofString "BadHouse"
  | _ => false
theorem isBH_ok {r : R PV} (h : isBH r = true) : r = .ex BHs := by
  cases r with
  | ok v => cases h
  | bad => cases h
  | ex e =>
    cases e with
    | cls n => rw [show n = Str.ofString "BadHouse" from eq_of_beq h]
    | trb a b => cases h
def isNn : R PV → Bool
  | .ok .non => true
  | _ => false
theorem isNn_ok {r : R PV} (h : isNn r = true) : r = .ok .non := by
  cases r with
  | ok v => cases v <;> first | rfl | cases h
  | bad => cases h
  | ex e => cases h
def lOf : R (List PV) → List PV
  | .ok l => l
  | _ => []
theorem lOf_ok {r : R (List PV)} (h : isOkR r = true) : r = .ok (lOf r) := by
  cases r with
  | ok v => rfl
  | bad => cases h
  | ex e => cases h
def vOf : R PV → List PV
  | .ok (.lst l) => l
  | _ => []
def isL : R PV → Bool
  | .ok (.lst _) => true
  | _ => false
theorem vOf_ok {r : R PV} (h : isL r = true) : r = .ok (.lst (vOf r)) := by
  cases r with
  | ok v => cases v <;> first | rfl | cases h
  | bad => cases h
  | ex e => cases h
def bmL : List PV := lOf (G__law_bad_makers [])
theorem bm_ok : G__law_bad_makers [] = .ok bmL := lOf_ok (by decide +kernel)
def btL : List PV := vOf (G__law_bad_tries [])
theorem bt_ok : G__law_bad_tries [] = .ok (.lst btL) := vOf_ok (by decide +kernel)
def bgL : List PV := vOf (G__law_bad_groups [])
theorem bg_ok : G__law_bad_groups [] = .ok (.lst bgL) := vOf_ok (by decide +kernel)
theorem bm_len : 0 < bmL.length ∧ bmL.length ≤ 100 := by decide +kernel
theorem bt_len : 0 < btL.length ∧ btL.length ≤ 100 := by decide +kernel
theorem bg_len : 0 < bgL.length ∧ bgL.length ≤ 100 := by decide +kernel
theorem bm_all : (bmL.all fun p => isBH (G_need_maker [p])) = true := by decide +kernel
theorem bt_all : (btL.all fun p => isBH (G_need_member 11 [p, .int 1]) && isBH (G_need_member 9 [p, .int 2])) = true := by decide +kernel
theorem bg_all : (bgL.all fun p => isBH (G_need_member 11 [p, .int 1]) && isBH (G_need_member 9 [p, .int 2]) && isBH (G_need_house [p])) = true := by decide +kernel
theorem try_bad : G_need_house [.tup [S "try", S "a", .tup [], .tup [], .tup [], .tup []]] = .ex BHs := isBH_ok (by decide +kernel)
def nest3 : PV := match G__law_nest [.int 3] with
  | .ok v => v
  | _ => .non
theorem nest_ok : G__law_nest [.int 3] = .ok nest3 := by kernel_rfl
theorem nest_good : G_need_house [nest3] = .ok .non := isNn_ok (by decide +kernel)
theorem pick_any {l : List PV} (h : 0 < l.length) (m : Int) : ∃ p ∈ l, L2.atI l (m % (l.length : Int)) = some p := by
  obtain ⟨k, hk, e⟩ := modN (m := m) (n := l.length) h
  rw [e, atI_in (l := l) (k := k) hk]
  exact ⟨l[k], List.getElem_mem _, rfl⟩
theorem g_nhF : G_need_houses [.bl false] = .ex BHs := isBH_ok (by decide +kernel)
theorem for_ex {α : Type} {t : Tgt} {body : Fm → RS} {wp : List Nat} {P e1 e2 : Fm} {x : PV} {r : List PV} {E : Ex} (em : α → PV) : ∀ (as : List α), (∀ a ∈ as, ∃ e1 e2, t (em a) P = some e1 ∧ (body e1 = .nx e2 ∨ body e1 = .ct e2) ∧ clr e2 wp = P) → t x P = some e1 → body e1 = .ex E e2 → forGo t body wp (as.map em ++ x :: r) P = .ex E e2
  | [], _, h1, h2 => by simp only [List.map_nil, List.nil_append, forGo, h1, h2]
  | a :: as, h, h1, h2 => by
    obtain ⟨f1, f2, k1, k2, k3⟩ := h a List.mem_cons_self
    have ih := for_ex (r := r) em as (fun b hb => h b (List.mem_cons_of_mem _ hb)) h1 h2
    rw [List.map_cons, List.cons_append, forGo, k1]
    rcases k2 with k2 | k2 <;> simp only [k2, k3, ih]
theorem bad_own {n : List Nat} {k : List (List Nat)} {ms : List Mkr} {hs : List Hs} {p : PV} (o : NH 0 (.gr n k ms hs)) (hp : G_need_maker [p] = .ex BHs) : G_need_house [.tup [S "group", T n, .tup (k.map T), .tup (ms.map embM ++ [p]), .tup (hs.map embH)]] = .ex BHs := by
  cases o with
  | gr o1 o2 o3 o4 o5 o6 o7 o8 o9 o10 o11 =>
    have e1 : G_need_once [.tup (k.map T), .int 4] = .ok .non := G_no (hi := 4) o3 o4 o5 (by omega)
    have e6 : G_is_name [T n] = .ok (.bl true) := o1
    have g : G_need_group 12 [.tup [S "group", T n, .tup (k.map T), .tup (ms.map embM ++ [p]), .tup (hs.map embH)], .int 0] = .ex BHs := by
      generalize hX : PV.tup [S "group", T n, .tup (k.map T), .tup (ms.map embM ++ [p]), .tup (hs.map embH)] = X
      have i1 : pIdx X (.int 1) = some (T n) := by rw [← hX]; rfl
      have i2 : pIdx X (.int 2) = some (.tup (k.map T)) := by rw [← hX]; rfl
      have i3 : pIdx X (.int 3) = some (.tup (ms.map embM ++ [p])) := by rw [← hX]; rfl
      have ln : pLen [X] = some (.int 5) := by rw [← hX]; rfl
      have l1 : forGo (tgN 2) (B_need_group_1 G_need_maker) [2] (ms.map embM ++ [p]) [.pv X, .pv (.int 0), .un, .un] = .ex BHs [.pv X, .pv (.int 0), .pv p, .un] := by
        refine for_ex embM ms (fun m hm => ⟨_, [.pv X, .pv (.int 0), .pv (embM m), .un], rfl, .inl ?_, rfl⟩) rfl ?_
        · simp [B_need_group_1, G_nm (o7 m hm)]
        · simp [B_need_group_1, hp]
      have l2 : ((ms.map embM ++ [p]).length : Int) = (ms.length : Int) + 1 := by simp
      simp only [G_need_group, D_need_group, fm0, L_need_group_1]
      clear hX
      generalize k.map T = M1 at *
      generalize ms.map embM ++ [p] = M2 at *
      by_cases c : (ms.length : Int) + 1 ≤ 6
      · simp [ln, i1, i2, i3, e6, g_nh, e1, l2, c, dFor, l1]
      · simp [ln, i1, i2, i3, e6, g_nh, e1, l2, c, g_nhF]
    simp only [G_need_house, D_need_house, fm0]
    generalize G_need_group 12 = GG at g ⊢
    generalize k.map T = M1 at *
    generalize ms.map embM ++ [p] = M2 at *
    generalize hs.map embH = M3 at *
    simp [g_it, g_nh, g]
theorem bad_mem {n : List Nat} {k : List (List Nat)} {ms : List Mkr} {hs : List Hs} {p : PV} (r : List PV) (o : NH 0 (.gr n k ms hs)) (hp : G_need_member 11 [p, .int 1] = .ex BHs) : G_need_house [.tup [S "group", T n, .tup (k.map T), .tup (ms.map embM), .tup (p :: r)]] = .ex BHs := by
  cases o with
  | gr o1 o2 o3 o4 o5 o6 o7 o8 o9 o10 o11 =>
    have e1 : G_need_once [.tup (k.map T), .int 4] = .ok .non := G_no (hi := 4) o3 o4 o5 (by omega)
    have e6 : G_is_name [T n] = .ok (.bl true) := o1
    have g : G_need_group 12 [.tup [S "group", T n, .tup (k.map T), .tup (ms.map embM), .tup (p :: r)], .int 0] = .ex BHs := by
      generalize hX : PV.tup [S "group", T n, .tup (k.map T), .tup (ms.map embM), .tup (p :: r)] = X
      have i1 : pIdx X (.int 1) = some (T n) := by rw [← hX]; rfl
      have i2 : pIdx X (.int 2) = some (.tup (k.map T)) := by rw [← hX]; rfl
      have i3 : pIdx X (.int 3) = some (.tup (ms.map embM)) := by rw [← hX]; rfl
      have i4 : pIdx X (.int 4) = some (.tup (p :: r)) := by rw [← hX]; rfl
      have ln : pLen [X] = some (.int 5) := by rw [← hX]; rfl
      have l1 : forGo (tgN 2) (B_need_group_1 G_need_maker) [2] (ms.map embM) [.pv X, .pv (.int 0), .un, .un] = .nx [.pv X, .pv (.int 0), .un, .un] := by
        refine for_look embM ms fun m hm => ⟨_, [.pv X, .pv (.int 0), .pv (embM m), .un], rfl, .inl ?_, rfl⟩
        simp [B_need_group_1, G_nm (o7 m hm)]
      have l2 : forGo (tgN 3) (B_need_group_2 (G_need_member 11)) [3] (p :: r) [.pv X, .pv (.int 0), .un, .un] = .ex BHs [.pv X, .pv (.int 0), .un, .pv p] := by
        refine for_ex (α := PV) (r := r) id [] (fun _ h => by cases h) rfl ?_
        generalize G_need_member 11 = GM at hp ⊢
        simp [B_need_group_2, hp]
      have c1 : C_need_group_1 [.pv X, .pv (.int 0), .un, .un] = .ok ((ms.map Mkr.nm).map T) := by
        rw [List.map_map]
        unfold C_need_group_1
        refine dLc_all ms embM _ ?_ (by omega) fun m hm => ⟨_, rfl, ?_⟩
        · generalize ms.map embM = M at i3 ⊢
          simp [i3]
        · simp
      have t1 := txts_T (l := ms.map Mkr.nm) (by rw [List.length_map]; omega)
      have t2 : ((SetX.sortU ((ms.map Mkr.nm).map mk)).length : Int) = ((ms.map embM).length : Int) := by rw [set_len o8, List.length_map, List.length_map]
      have lm : ((ms.map embM).length : Int) ≤ 6 := by rw [List.length_map]; omega
      simp only [G_need_group, D_need_group, fm0, L_need_group_1, L_need_group_2]
      clear hX
      generalize (ms.map Mkr.nm).map mk = Z1 at *
      generalize (ms.map Mkr.nm).map T = Y1 at *
      generalize k.map T = M1 at *
      generalize ms.map embM = M2 at *
      generalize G_need_member 11 = GM at *
      generalize hq : p :: r = Q at *
      by_cases c : (Q.length : Int) ≤ 8
      · simp [ln, i1, i2, i3, i4, e6, g_nh, e1, lm, dFor, l1, l2, c1, t1, t2, c]
      · simp [ln, i1, i2, i3, i4, e6, g_nh, e1, lm, dFor, l1, c1, t1, t2, c, g_nhF]
    simp only [G_need_house, D_need_house, fm0]
    generalize G_need_group 12 = GG at g ⊢
    generalize k.map T = M1 at *
    generalize ms.map embM = M2 at *
    generalize p :: r = M3 at *
    simp [g_it, g_nh, g]
theorem bad_w {p : PV} (hp : G_need_member 9 [p, .int 2] = .ex BHs) : G_need_member 11 [.tup [S "group", S "w", .tup [], .tup [], .tup [p]], .int 1] = .ex BHs := by
  have nw : G_is_name [S "w"] = .ok (.bl true) := by kernel_rfl
  have no : G_need_once [.tup [], .int 4] = .ok .non := by kernel_rfl
  have tx : txts [.lst []] = some [] := by kernel_rfl
  have su : (SetX.sortU []).length = 0 := by kernel_rfl
  have g : G_need_group 10 [.tup [S "group", S "w", .tup [], .tup [], .tup [p]], .int 1] = .ex BHs := by
    have c1 : C_need_group_1 [.pv (.tup [S "group", S "w", .tup [], .tup [], .tup [p]]), .pv (.int 1), .un, .un] = .ok [] := by
      unfold C_need_group_1
      exact dLc_all (α := PV) [] id (fun _ => .non) (by simp) (by simp) fun m hm => by cases hm
    have l2 : forGo (tgN 3) (B_need_group_2 (G_need_member 9)) [3] [p] [.pv (.tup [S "group", S "w", .tup [], .tup [], .tup [p]]), .pv (.int 1), .un, .un] = .ex BHs [.pv (.tup [S "group", S "w", .tup [], .tup [], .tup [p]]), .pv (.int 1), .un, .pv p] := by
      refine for_ex (α := PV) (r := []) id [] (fun _ h => by cases h) rfl ?_
      generalize G_need_member 9 = GM at hp ⊢
      simp [B_need_group_2, hp]
    generalize hX : PV.tup [S "group", S "w", .tup [], .tup [], .tup [p]] = X at *
    have i1 : pIdx X (.int 1) = some (S "w") := by rw [← hX]; rfl
    have i2 : pIdx X (.int 2) = some (.tup []) := by rw [← hX]; rfl
    have i3 : pIdx X (.int 3) = some (.tup []) := by rw [← hX]; rfl
    have i4 : pIdx X (.int 4) = some (.tup [p]) := by rw [← hX]; rfl
    have ln : pLen [X] = some (.int 5) := by rw [← hX]; rfl
    clear hX
    simp only [G_need_group, D_need_group, fm0, L_need_group_1, L_need_group_2]
    generalize G_need_member 9 = GM at *
    have l0 : ∀ e, forGo (tgN 2) (B_need_group_1 G_need_maker) [2] [] e = .nx e := fun _ => rfl
    simp [i1, i2, i3, i4, ln, nw, g_nh, no, dFor, l0, c1, tx, su, l2]
  have pi : pIn (S "group") (.tup [S "group", S "try"]) = some true := pIn_ST "group" ["group", "try"]
  simp only [G_need_member, D_need_member, fm0]
  generalize G_need_group 10 = GG at *
  simp [g_it, pi, g_nh, g]
theorem G_with {h : Hs} (hg : h.isG = true) (o : NH 0 h) (m : Int) : ∃ b, G__law_with [embH h, .int m] = .ok b ∧ G_need_house [b] = .ex BHs := by
  cases h with
  | tr => cases hg
  | gr n k ms hs =>
    have hms : ms.length ≤ 6 := by cases o; assumption
    have hhs : hs.length ≤ 8 := by cases o; assumption
    have d4 : pDiv (.int m) (.int 4) = some (.int (m / 4)) := pDiv_small (by omega) (by omega)
    have d64 : pDiv (.int (m / 4)) (.int 64) = some (.int (m / 4 / 64)) := pDiv_small (by omega) (by omega)
    obtain ⟨p1, q1, a1⟩ := pick_any bm_len.1 (m / 4)
    obtain ⟨p2, q2, a2⟩ := pick_any bt_len.1 (m / 4)
    obtain ⟨p3, q3, a3⟩ := pick_any bg_len.1 (m / 4)
    have z1 := bm_len
    have z2 := bt_len
    have z3 := bg_len
    have r1 := isBH_ok (List.all_eq_true.mp bm_all p1 q1)
    have r2 := List.all_eq_true.mp bt_all p2 q2
    have r3 := List.all_eq_true.mp bg_all p3 q3
    simp only [Bool.and_eq_true] at r2 r3
    have s1 : pAdd (.tup (ms.map embM)) (.tup [p1]) = some (.tup (ms.map embM ++ [p1])) := by rw [pAdd_tt, if_pos (Nat.le_of_lt (sz (by simp; omega)))]
    have s2 : ∀ p, pAdd (.tup [p]) (.tup (hs.map embH)) = some (.tup (p :: hs.map embH)) := fun p => by rw [pAdd_tt, if_pos (Nat.le_of_lt (sz (by simp; omega)))]; rfl
    have s3 : ∀ p, pAdd (.tup [p]) (.tup ((hs.map embH).take 2)) = some (.tup (p :: (hs.map embH).take 2)) := fun p => by rw [pAdd_tt, if_pos (Nat.le_of_lt (sz (by simp; omega)))]; rfl
    have s4 : pSl (.tup (hs.map embH)) none (some 2) = some (.tup ((hs.map embH).take 2)) := slT_to _ 2
    have f1 := bad_own o r1
    have f2 := bad_mem (hs.map embH) o (isBH_ok r2.1)
    have f3 := bad_mem (hs.map embH) o (isBH_ok r3.1.1)
    have f4 := bad_mem ((hs.map embH).take 2) o (bad_w (isBH_ok r2.2))
    have f5 := bad_mem ((hs.map embH).take 2) o (bad_w (isBH_ok r3.1.2))
    have hb1 := bm_ok
    have hb2 := bt_ok
    have hb3 := bg_ok
    have y1 := z1.1
    have y2 := z2.1
    have y3 := z3.1
    clear z1 z2 z3
    rw [embH_gr]
    simp only [G__law_with, D__law_with, fm0]
    generalize G_need_house = NHs at *
    generalize (hs.map embH).take 2 = H2 at *
    generalize k.map T = M1 at *
    generalize ms.map embM = M2 at *
    generalize hs.map embH = M3 at *
    generalize bmL = LM at *
    generalize btL = LT at *
    generalize bgL = LG at *
    by_cases c0 : m % 3 = 0
    · refine ⟨_, ?_, f1⟩
      simp [-pAdd_tt, dSetT, tgT, setAll, hb1, hb2, hb3, y1, y2, y3, d4, d64, c0, a1, s1]
    · by_cases c1 : m % 3 = 1
      · by_cases c2 : m / 4 / 64 % 2 = 0
        · refine ⟨_, ?_, f2⟩
          simp [-pAdd_tt, dSetT, tgT, setAll, hb1, hb2, hb3, y1, y2, y3, d4, d64, c1, c2, a2, s2]
        · refine ⟨_, ?_, f4⟩
          simp [-pAdd_tt, dSetT, tgT, setAll, hb1, hb2, hb3, y1, y2, y3, d4, d64, c1, c2, a2, s3, s4]
      · by_cases c2 : m / 4 / 64 % 2 = 0
        · refine ⟨_, ?_, f3⟩
          simp [-pAdd_tt, dSetT, tgT, setAll, hb1, hb2, hb3, y1, y2, y3, d4, d64, c0, c1, c2, a3, s2]
        · refine ⟨_, ?_, f5⟩
          simp [-pAdd_tt, dSetT, tgT, setAll, hb1, hb2, hb3, y1, y2, y3, d4, d64, c0, c1, c2, a3, s3, s4]
theorem wrong_bad {b : PV} (h : G_need_house [b] = .ex BHs) : G_wrong [b] = .ex BHs := by
  simp [G_wrong, D_wrong, fm0, h]
abbrev BB1 : Fm → RS := B_law_1 G_need_house G_wrong G__law_drawn G__law_with
theorem step1 {h : Hs} (hg : h.isG = true) (o : NH 0 h) (m : Int) (j : Nat) (s0 s1 : Slot) : ∃ b, BB1 [s0, s1, .pv (.int m), .pv (embH h), .pv (.int (j : Nat)), .un, .un] = .nx [s0, s1, .pv (.int m), .pv (embH h), .pv (.int (j : Nat)), .pv b, .un] := by
  obtain ⟨b, e1, e2⟩ := G_with hg o (drawn m (10 + (j : Int)))
  have e3 := wrong_bad e2
  have dr := G_drawn m (10 + (j : Int))
  refine ⟨b, ?_⟩
  unfold BB1 B_law_1
  generalize embH h = EH at *
  simp [dr, e1, e2, e3, dTold, gdH, wdH]
theorem loopJ {h : Hs} (hg : h.isG = true) (o : NH 0 h) (m : Int) (s0 s1 : Slot) : L_law_1 G_need_house G_wrong G__law_drawn G__law_with [s0, s1, .pv (.int m), .pv (embH h), .un, .un, .un] = .nx [s0, s1, .pv (.int m), .pv (embH h), .un, .un, .un] := by
  obtain ⟨e', r1, r2⟩ := for_inv (t := tgN 4) (body := BB1) (wp := [4, 5]) ((List.range 6).map fun (k : Nat) => PV.int (k : Int)) (fun _ e => e = [s0, s1, .pv (.int m), .pv (embH h), .un, .un, .un]) [s0, s1, .pv (.int m), .pv (embH h), .un, .un, .un] rfl (by
    rintro i z p hp rfl
    obtain ⟨_, rfl⟩ := rngI hp
    obtain ⟨b, e2⟩ := step1 hg o m i s0 s1
    exact ⟨_, _, rfl, .inl e2, rfl⟩)
  rw [r2] at r1
  have r := rg1 (n := 6) (by omega)
  unfold L_law_1
  unfold BB1 at r1
  generalize ((List.range 6).map fun (k : Nat) => PV.int (k : Int)) = RG at *
  generalize B_law_1 G_need_house G_wrong G__law_drawn G__law_with = BB at *
  generalize embH h = EH at *
  have r' : rgIt1 [.int 6] = some RG := r
  simp [dFor, r', r1]
abbrev e7 (ns : List Int) : Fm := [.pv (.scr ns), .un, .un, .un, .un, .un, .un]
abbrev BB2 : Fm → RS := B_law_2 G_need_house G_wrong G__law_cell G__law_drawn (G__law_group 4) G__law_bad_groups G__law_nest G__law_with
theorem step (ns : List Int) (k : Nat) (hl : ns.length ≤ 63) : ∃ e2, BB2 [.pv (.scr ns), .pv (.int (k : Nat)), .un, .un, .un, .un, .un] = .nx e2 ∧ clr e2 [1, 2, 3, 4, 5, 6] = e7 ns := by
  obtain ⟨c, hc⟩ := G_cell (ns := ns) k hl
  generalize hmm : drawn c (k : Int) = m
  obtain ⟨h, g1, o⟩ := drawnH m
  have w0 := o.ok.need
  have l1 := loopJ o.gr o.ok.nh m (.pv (.scr ns)) (.pv (.int (k : Nat)))
  obtain ⟨p3, q3, a3⟩ := pick_any bg_len.1 (m / 8)
  have r3 := List.all_eq_true.mp bg_all p3 q3
  simp only [Bool.and_eq_true] at r3
  have r4 := isBH_ok r3.2
  have d8 : pDiv (.int m) (.int 8) = some (.int (m / 8)) := pDiv_small (by omega) (by omega)
  have z3 := bg_len
  have n1 := nest_ok
  have n2 := nest_good
  have b1 := bg_ok
  have t1 := try_bad
  refine ⟨[.pv (.scr ns), .pv (.int (k : Nat)), .pv (.int m), .pv (embH h), .un, .pv p3, .pv (.lst bgL)], ?_, rfl⟩
  unfold BB2 B_law_2
  generalize embH h = EH at *
  generalize L_law_1 G_need_house G_wrong G__law_drawn G__law_with = LL1 at *
  generalize G__law_group 4 = GG at *
  generalize G_need_house = NHs at *
  generalize G__law_nest = GN at *
  generalize nest3 = N3 at *
  generalize G__law_bad_groups = GB at *
  generalize bgL = LG at *
  simp [hc, G_drawn, hmm, g1, w0, l1, dTold, n1, n2, b1, d8, z3.1, a3, r4, t1, gdH, wdH]
theorem pure (ns : List Int) (h1 : ns.length ≤ 63) (h2 : ∀ z ∈ ns, Builtin.Int.intBits z ≤ 1048576) : G_law [.scr ns] = .ok (.bl true) := by
  obtain ⟨n, hn, en⟩ : ∃ n : Nat, n ≤ 3 ∧ (max 1 (min 3 (ns.length : Int)) : Int) = (n : Int) := ⟨max 1 (min 3 ns.length), by omega, by omega⟩
  obtain ⟨e', r1, r2⟩ := for_inv (t := tgN 1) (body := BB2) (wp := [1, 2, 3, 4, 5, 6]) ((List.range n).map fun (k : Nat) => PV.int (k : Int)) (fun _ e => e = e7 ns) (e7 ns) rfl (by
    rintro i z p hp rfl
    obtain ⟨_, rfl⟩ := rngI hp
    obtain ⟨e2, q1, q2⟩ := step ns i h1
    exact ⟨_, e2, rfl, .inl q1, q2⟩)
  rw [r2] at r1
  have r := rg1 (n := n) (by omega)
  simp only [G_law, D_law, fm0]
  unfold L_law_2
  unfold BB2 at r1
  generalize ((List.range n).map fun (k : Nat) => PV.int (k : Int)) = RG at *
  generalize B_law_2 G_need_house G_wrong G__law_cell G__law_drawn (G__law_group 4) G__law_bad_groups G__law_nest G__law_with = BB at *
  simp [dFor, en, r, r1]
end Tw
set_option Elab.async false
set_option linter.all false
set_option maxRecDepth 100000
set_option maxHeartbeats 4000000
namespace Tw
open PySem PySem.Spec PyProof.Rows L2 Pv
variable [TabCx]
structure Top (w : World) (K : PySem.W.Frag) (mg : Str → Option Value) : Prop where
  dum : True
  n_ValueError : mg "ValueError" = none
  n_abs : mg "abs" = none
  n_all : mg "all" = none
  n_bool : mg "bool" = none
  n_enumerate : mg "enumerate" = none
  n_int : mg "int" = none
  n_isinstance : mg "isinstance" = none
  n_len : mg "len" = none
  n_list : mg "list" = none
  n_max : mg "max" = none
  n_min : mg "min" = none
  n_ord : mg "ord" = none
  n_range : mg "range" = none
  n_set : mg "set" = none
  n_str : mg "str" = none
  n_sum : mg "sum" = none
  n_tuple : mg "tuple" = none
  g_BARRED_terms : GTup K mg "BARRED_terms" [(Str.ofString "and"), (Str.ofString "or"), (Str.ofString "not"), (Str.ofString "row")]
  c_BARRED_values : ∃ t, mg "BARRED_values" = some (.int 37 t)
  c_LETTERS : ∃ t, mg "LETTERS" = some (.str (Str.ofString "abcdefghijklmnopqrstuvwxyz") t)
  c_MOST_COLUMNS : ∃ t, mg "MOST_COLUMNS" = some (.int 3 t)
  c_MOST_DEEP : ∃ t, mg "MOST_DEEP" = some (.int 8 t)
  c_MOST_FOUR : ∃ t, mg "MOST_FOUR" = some (.int 4 t)
  c_MOST_MAKERS : ∃ t, mg "MOST_MAKERS" = some (.int 6 t)
  c_MOST_MEMBERS : ∃ t, mg "MOST_MEMBERS" = some (.int 8 t)
  c_MOST_NAME : ∃ t, mg "MOST_NAME" = some (.int 10 t)
  c_MOST_NUMBER : ∃ t, mg "MOST_NUMBER" = some (.int 999999 t)
  c_MOST_PARTS : ∃ t, mg "MOST_PARTS" = some (.int 6 t)
  c_MOST_SIGNS : ∃ t, mg "MOST_SIGNS" = some (.int 20 t)
  c_MOST_STEPS : ∃ t, mg "MOST_STEPS" = some (.int 10 t)
  c_MOST_TABLES : ∃ t, mg "MOST_TABLES" = some (.int 2 t)
  c_MOST_WITHIN_bodies : ∃ t, mg "MOST_WITHIN_bodies" = some (.int 3 t)
  c_MOST_WITHIN_houses : ∃ t, mg "MOST_WITHIN_houses" = some (.int 4 t)
  c_MOST_WITHIN_values : ∃ t, mg "MOST_WITHIN_values" = some (.int 3 t)
  g_ONE : GTup K mg "ONE" [(Str.ofString "not"), (Str.ofString "many")]
  g_SCOPES : GTup K mg "SCOPES" [(Str.ofString "run"), (Str.ofString "group"), (Str.ofString "try")]
  g_TWO : GTup K mg "TWO" [(Str.ofString "plus"), (Str.ofString "less"), (Str.ofString "times"), (Str.ofString "join"), (Str.ofString "same"), (Str.ofString "below"), (Str.ofString "part")]
  d_LENGTHS : GDct K w mg "LENGTHS" [((Str.ofString "let"), (3 : Int)), ((Str.ofString "note"), (2 : Int)), ((Str.ofString "check"), (2 : Int)), ((Str.ofString "alike"), (3 : Int)), ((Str.ofString "fail"), (2 : Int)), ((Str.ofString "skip"), (2 : Int)), ((Str.ofString "when"), (4 : Int)), ((Str.ofString "each"), (4 : Int))]
  x_BadHouse : Exc1 K mg "BadHouse"
  x_BadSteps : Exc1 K mg "BadSteps"
  y_BadSteps_BadHouse : TryF K mg "BadSteps" "BadHouse"
  wf : WordF K mg
section
variable {P : Program} {w : World} {K : PySem.W.Frag} {mg : Str → Option Value} {base : Heap}
abbrev st_is_number : Stmt := topS 15
abbrev N_is_number : List Str := ["thing"]
theorem sc_is_number : FnScope N_is_number ["thing"] (defScope st_is_number) := ⟨rfl, rfl, rfl, by decide +kernel, rfl, by decide +kernel, by decide +kernel⟩
theorem b_is_number {f : Addr} {fd : FuncData} {k : Nat} {g : List PV → R PV} (T : Top w K mg) (Fn : Fun K "is_number" "is_number" st_is_number f fd) (hl : ∀ ds, g ds ≠ .bad → ds.length = 1) (hd : ∀ ds, g ds ≠ .bad → toV (D_is_number (fm0 1 ds)) = g ds) :
    FnOk P w K mg base (L2C.CX P w) (k + 1) f fd ["thing"] (spV K mg g) :=
  fn_V (d := D_is_number) Fn sc_is_number hl hd (by
    intro cdv A outer s H E hcv hr
    have sc := sc_is_number
    have tk : L2C.Takes (cxX P w K mg base N_is_number "is_number" st_is_number f cdv A outer s H E) (wE E) := L2C.takes_of rfl rfl rfl rfl
    have hp : PassesOwn (model P w) (cxX P w K mg base N_is_number "is_number" st_is_number f cdv A outer s H E).A (cxX P w K mg base N_is_number "is_number" st_is_number f cdv A outer s H E).env (cxX P w K mg base N_is_number "is_number" st_is_number f cdv A outer s H E).xe := passes_of rfl
    exact (Pv.s_one (Pv.s_ret (Pv.v_and (Pv.v_isi T.n_isinstance (Pv.rV (Pv.pe_V 0 (pv 0))) rfl T.n_int (by decide +kernel)) (pe_one (Pv.v_not (Pv.v_isi T.n_isinstance (Pv.rV (Pv.pe_V 0 (pv 0))) rfl T.n_bool (by decide +kernel))))))))
abbrev st_are_signs : Stmt := topS 16
abbrev N_are_signs : List Str := ["text", "sign"]
theorem sc_are_signs : FnScope N_are_signs ["text"] (defScope st_are_signs) := ⟨rfl, rfl, rfl, by decide +kernel, rfl, by decide +kernel, by decide +kernel⟩
theorem b_are_signs {f : Addr} {fd : FuncData} {k : Nat} {g : List PV → R PV} (T : Top w K mg) (Fn : Fun K "are_signs" "are_signs" st_are_signs f fd) (hl : ∀ ds, g ds ≠ .bad → ds.length = 1) (hd : ∀ ds, g ds ≠ .bad → toV (D_are_signs (fm0 2 ds)) = g ds) :
    FnOk P w K mg base (L2C.CX P w) (k + 1) f fd ["text"] (spV K mg g) :=
  fn_V (d := D_are_signs) Fn sc_are_signs hl hd (by
    intro cdv A outer s H E hcv hr
    have sc := sc_are_signs
    have tk : L2C.Takes (cxX P w K mg base N_are_signs "are_signs" st_are_signs f cdv A outer s H E) (wE E) := L2C.takes_of rfl rfl rfl rfl
    have hp : PassesOwn (model P w) (cxX P w K mg base N_are_signs "are_signs" st_are_signs f cdv A outer s H E).A (cxX P w K mg base N_are_signs "are_signs" st_are_signs f cdv A outer s H E).env (cxX P w K mg base N_are_signs "are_signs" st_are_signs f cdv A outer s H E).xe := passes_of rfl
    exact (Pv.s_one (Pv.s_ret (Pv.v_all rfl T.n_all (Pv.aRcons (Pv.rF (Pv.f_lc [(Str.ofString "sign", 1)] rfl rfl sc.nd (Pv.iR (Pv.i_str (Pv.pe_V 0 (pv 0)))) (blkOk_by (N := N_are_signs) (sc := defScope st_are_signs) (by decide +kernel)) (fun _ _ _ _ _ => (pg_name (i := 1) sc.nd rfl (by first | exact Or.inl rfl | exact Or.inr rfl))) (Pv.tg_name 1) (by decide) (fun _ _ _ _ _ => Pv.tests_nil) (fun _ _ _ _ _ => (Pv.v_and (Pv.v_chain Pv.c_le Pv.c_le (Pv.rV Pv.kStr) (Pv.rV (Pv.pe_V 1 (pv 1))) (Pv.rV Pv.kStr)) (pe_one (Pv.v_cmp (Pv.c_ne hr) (Pv.rV (Pv.v_ord T.n_ord (Pv.aRcons (Pv.rV (Pv.pe_V 1 (pv 1))) Pv.aRnil))) (Pv.rV (Pv.kGlInt rfl T.c_BARRED_values)))))))) Pv.aRnil)))))
abbrev st_is_value : Stmt := topS 17
abbrev N_is_value : List Str := ["thing", "deep", "one"]
theorem sc_is_value : FnScope N_is_value ["thing", "deep"] (defScope st_is_value) := ⟨rfl, rfl, rfl, by decide +kernel, rfl, by decide +kernel, by decide +kernel⟩
theorem b_is_value {f : Addr} {fd : FuncData} {k : Nat} {g : List PV → R PV} (T : Top w K mg) (Fn : Fun K "is_value" "is_value" st_is_value f fd) {k_are_signs : Nat} {g_are_signs : List PV → R PV} (C_are_signs : CaV P w K mg base k_are_signs "are_signs" g_are_signs) (h_are_signs : k_are_signs ≤ k) {k_is_value : Nat} {g_is_value : List PV → R PV} (C_is_value : CaV P w K mg base k_is_value "is_value" g_is_value) (h_is_value : k_is_value ≤ k) {k_is_number : Nat} {g_is_number : List PV → R PV} (C_is_number : CaV P w K mg base k_is_number "is_number" g_is_number) (h_is_number : k_is_number ≤ k) (hl : ∀ ds, g ds ≠ .bad → ds.length = 2) (hd : ∀ ds, g ds ≠ .bad → toV ((D_is_value g_are_signs g_is_value g_is_number) (fm0 3 ds)) = g ds) :
    FnOk P w K mg base (L2C.CX P w) (k + 1) f fd ["thing", "deep"] (spV K mg g) :=
  fn_V (d := (D_is_value g_are_signs g_is_value g_is_number)) Fn sc_is_value hl hd (by
    intro cdv A outer s H E hcv hr
    have sc := sc_is_value
    have tk : L2C.Takes (cxX P w K mg base N_is_value "is_value" st_is_value f cdv A outer s H E) (wE E) := L2C.takes_of rfl rfl rfl rfl
    have hp : PassesOwn (model P w) (cxX P w K mg base N_is_value "is_value" st_is_value f cdv A outer s H E).A (cxX P w K mg base N_is_value "is_value" st_is_value f cdv A outer s H E).env (cxX P w K mg base N_is_value "is_value" st_is_value f cdv A outer s H E).xe := passes_of rfl
    exact (Pv.s_cons (Pv.s_if (Pv.tV_test (Pv.v_isi T.n_isinstance (Pv.rV (Pv.pe_V 0 (pv 0))) rfl T.n_str (by decide +kernel))) (Pv.s_one (Pv.s_ret (Pv.v_and (Pv.v_cmp Pv.c_le (Pv.rV (Pv.v_len T.n_len (Pv.aRcons (Pv.rV (Pv.pe_V 0 (pv 0))) Pv.aRnil))) (Pv.rV (Pv.kGlInt rfl T.c_MOST_SIGNS))) (pe_one (Pv.v_call C_are_signs tk hr (Pv.aVcons (Pv.pe_V 0 (pv 0)) Pv.aVnil) h_are_signs))))) Pv.s_nil) (Pv.s_cons (Pv.s_if (Pv.tV_test (Pv.v_isi T.n_isinstance (Pv.rV (Pv.pe_V 0 (pv 0))) rfl T.n_tuple (by decide +kernel))) (Pv.s_one (Pv.s_ret (Pv.v_and (Pv.v_cmp Pv.c_lt (Pv.rV (Pv.pe_V 1 (pv 1))) (Pv.rV (Pv.kGlInt rfl T.c_MOST_WITHIN_values))) (Pv.v_and (Pv.v_cmp Pv.c_le (Pv.rV (Pv.v_len T.n_len (Pv.aRcons (Pv.rV (Pv.pe_V 0 (pv 0))) Pv.aRnil))) (Pv.rV (Pv.kGlInt rfl T.c_MOST_PARTS))) (pe_one (Pv.v_all rfl T.n_all (Pv.aRcons (Pv.rF (Pv.f_lc [(Str.ofString "one", 2)] rfl rfl sc.nd (Pv.iR (Pv.i_tup (Pv.pe_V 0 (pv 0)))) (blkOk_by (N := N_is_value) (sc := defScope st_is_value) (by decide +kernel)) (fun _ _ _ _ _ => (pg_name (i := 2) sc.nd rfl (by first | exact Or.inl rfl | exact Or.inr rfl))) (Pv.tg_name 2) (by decide) (fun _ _ _ _ _ => Pv.tests_nil) (fun _ _ _ _ _ => (Pv.v_call C_is_value Pv.takes0 hr (Pv.aVcons (Pv.pe_V 2 (pv 2)) (Pv.aVcons (Pv.v_add (Pv.rV (Pv.pe_V 1 (pv 1))) (Pv.rV Pv.kInt)) Pv.aVnil)) h_is_value)))) Pv.aRnil))))))) Pv.s_nil) (Pv.s_one (Pv.s_ret (Pv.v_and (Pv.v_call C_is_number tk hr (Pv.aVcons (Pv.pe_V 0 (pv 0)) Pv.aVnil) h_is_number) (pe_one (Pv.v_cmp Pv.c_le (Pv.rV (Pv.v_abs T.n_abs (Pv.aRcons (Pv.rV (Pv.pe_V 0 (pv 0))) Pv.aRnil))) (Pv.rV (Pv.kGlInt rfl T.c_MOST_NUMBER))))))))))
abbrev st_need_terms : Stmt := topS 25
abbrev N_need_terms : List Str := ["good"]
theorem sc_need_terms : FnScope N_need_terms ["good"] (defScope st_need_terms) := ⟨rfl, rfl, rfl, by decide +kernel, rfl, by decide +kernel, by decide +kernel⟩
theorem b_need_terms {f : Addr} {fd : FuncData} {k : Nat} {g : List PV → R PV} (T : Top w K mg) (Fn : Fun K "need" "need" st_need_terms f fd) (hl : ∀ ds, g ds ≠ .bad → ds.length = 1) (hd : ∀ ds, g ds ≠ .bad → toV (D_need_terms (fm0 1 ds)) = g ds) :
    FnOk P w K mg base (L2C.CX P w) (k + 1) f fd ["good"] (spV K mg g) :=
  fn_V (d := D_need_terms) Fn sc_need_terms hl hd (by
    intro cdv A outer s H E hcv hr
    have sc := sc_need_terms
    have tk : L2C.Takes (cxX P w K mg base N_need_terms "need" st_need_terms f cdv A outer s H E) (wE E) := L2C.takes_of rfl rfl rfl rfl
    have hp : PassesOwn (model P w) (cxX P w K mg base N_need_terms "need" st_need_terms f cdv A outer s H E).A (cxX P w K mg base N_need_terms "need" st_need_terms f cdv A outer s H E).env (cxX P w K mg base N_need_terms "need" st_need_terms f cdv A outer s H E).xe := passes_of rfl
    exact (Pv.s_one (Pv.s_if (Pv.t_not (Pv.tV_test (Pv.pe_V 0 (pv 0)))) (Pv.s_one (Pv.s_raise T.x_BadSteps rfl tk)) Pv.s_nil)))
abbrev st_is_name : Stmt := topS 27
abbrev N_is_name : List Str := ["thing", "sign"]
theorem sc_is_name : FnScope N_is_name ["thing"] (defScope st_is_name) := ⟨rfl, rfl, rfl, by decide +kernel, rfl, by decide +kernel, by decide +kernel⟩
theorem b_is_name {f : Addr} {fd : FuncData} {k : Nat} {g : List PV → R PV} (T : Top w K mg) (Fn : Fun K "is_name" "is_name" st_is_name f fd) (hl : ∀ ds, g ds ≠ .bad → ds.length = 1) (hd : ∀ ds, g ds ≠ .bad → toV (D_is_name (fm0 2 ds)) = g ds) :
    FnOk P w K mg base (L2C.CX P w) (k + 1) f fd ["thing"] (spV K mg g) :=
  fn_V (d := D_is_name) Fn sc_is_name hl hd (by
    intro cdv A outer s H E hcv hr
    have sc := sc_is_name
    have tk : L2C.Takes (cxX P w K mg base N_is_name "is_name" st_is_name f cdv A outer s H E) (wE E) := L2C.takes_of rfl rfl rfl rfl
    have hp : PassesOwn (model P w) (cxX P w K mg base N_is_name "is_name" st_is_name f cdv A outer s H E).A (cxX P w K mg base N_is_name "is_name" st_is_name f cdv A outer s H E).env (cxX P w K mg base N_is_name "is_name" st_is_name f cdv A outer s H E).xe := passes_of rfl
    exact (Pv.s_cons (Pv.s_if (PW.pt (Pv.w_or (Pv.t_not (Pv.tV_test (Pv.v_isi T.n_isinstance (Pv.rV (Pv.pe_V 0 (pv 0))) rfl T.n_str (by decide +kernel)))) (pw_or1 (Pv.t_cmp (Pv.c_in hr) (Pv.rV (Pv.pe_V 0 (pv 0))) (Pv.rV (Pv.kGlTup T.g_BARRED_terms)))))) (Pv.s_one (Pv.s_ret Pv.kBl)) Pv.s_nil) (Pv.s_one (Pv.s_ret (Pv.v_and (Pv.v_chain Pv.c_le Pv.c_le (Pv.rV Pv.kInt) (Pv.rV (Pv.v_len T.n_len (Pv.aRcons (Pv.rV (Pv.pe_V 0 (pv 0))) Pv.aRnil))) (Pv.rV (Pv.kGlInt rfl T.c_MOST_NAME))) (pe_one (Pv.v_all rfl T.n_all (Pv.aRcons (Pv.rF (Pv.f_lc [(Str.ofString "sign", 1)] rfl rfl sc.nd (Pv.iR (Pv.i_str (Pv.pe_V 0 (pv 0)))) (blkOk_by (N := N_is_name) (sc := defScope st_is_name) (by decide +kernel)) (fun _ _ _ _ _ => (pg_name (i := 1) sc.nd rfl (by first | exact Or.inl rfl | exact Or.inr rfl))) (Pv.tg_name 1) (by decide) (fun _ _ _ _ _ => Pv.tests_nil) (fun _ _ _ _ _ => (Pv.v_cmp (Pv.c_in hr) (Pv.rV (Pv.pe_V 1 (pv 1))) (Pv.rV (Pv.kGlStr rfl T.c_LETTERS)))))) Pv.aRnil))))))))
abbrev st_need_deep : Stmt := topS 28
abbrev N_need_deep : List Str := ["term", "deep", "word", "one"]
theorem sc_need_deep : FnScope N_need_deep ["term", "deep"] (defScope st_need_deep) := ⟨rfl, rfl, rfl, by decide +kernel, rfl, by decide +kernel, by decide +kernel⟩
theorem b_need_deep {f : Addr} {fd : FuncData} {k : Nat} {g : List PV → R PV} (T : Top w K mg) (Fn : Fun K "need_deep" "need_deep" st_need_deep f fd) {k_need_terms : Nat} {g_need_terms : List PV → R PV} (C_need_terms : CaV P w K mg base k_need_terms "need_terms" g_need_terms) (h_need_terms : k_need_terms ≤ k) {k_is_value : Nat} {g_is_value : List PV → R PV} (C_is_value : CaV P w K mg base k_is_value "is_value" g_is_value) (h_is_value : k_is_value ≤ k) {k_is_name : Nat} {g_is_name : List PV → R PV} (C_is_name : CaV P w K mg base k_is_name "is_name" g_is_name) (h_is_name : k_is_name ≤ k) {k_need_deep : Nat} {g_need_deep : List PV → R PV} (C_need_deep : CaV P w K mg base k_need_deep "need_deep" g_need_deep) (h_need_deep : k_need_deep ≤ k) (hl : ∀ ds, g ds ≠ .bad → ds.length = 2) (hd : ∀ ds, g ds ≠ .bad → toV ((D_need_deep g_need_terms g_is_value g_is_name g_need_deep) (fm0 4 ds)) = g ds) :
    FnOk P w K mg base (L2C.CX P w) (k + 1) f fd ["term", "deep"] (spV K mg g) :=
  fn_V (d := (D_need_deep g_need_terms g_is_value g_is_name g_need_deep)) Fn sc_need_deep hl hd (by
    intro cdv A outer s H E hcv hr
    have sc := sc_need_deep
    have tk : L2C.Takes (cxX P w K mg base N_need_deep "need_deep" st_need_deep f cdv A outer s H E) (wE E) := L2C.takes_of rfl rfl rfl rfl
    have hp : PassesOwn (model P w) (cxX P w K mg base N_need_deep "need_deep" st_need_deep f cdv A outer s H E).A (cxX P w K mg base N_need_deep "need_deep" st_need_deep f cdv A outer s H E).env (cxX P w K mg base N_need_deep "need_deep" st_need_deep f cdv A outer s H E).xe := passes_of rfl
    exact (Pv.s_cons (Pv.s_expr (Pv.v_call C_need_terms tk hr (Pv.aVcons (Pv.v_and (Pv.v_isi T.n_isinstance (Pv.rV (Pv.pe_V 0 (pv 0))) rfl T.n_tuple (by decide +kernel)) (Pv.v_and (Pv.v_cmp Pv.c_gt (Pv.rV (Pv.v_len T.n_len (Pv.aRcons (Pv.rV (Pv.pe_V 0 (pv 0))) Pv.aRnil))) (Pv.rV Pv.kInt)) (Pv.v_and (Pv.v_isi T.n_isinstance (Pv.rV (Pv.v_idx (Pv.rV (Pv.pe_V 0 (pv 0))) (Pv.rV Pv.kInt))) rfl T.n_str (by decide +kernel)) (pe_one (Pv.v_cmp Pv.c_lt (Pv.rV (Pv.pe_V 1 (pv 1))) (Pv.rV (Pv.kGlInt rfl T.c_MOST_DEEP))))))) Pv.aVnil) h_need_terms)) (Pv.s_cons (Pv.s_set (i := 2) sc.nd (Pv.v_idx (Pv.rV (Pv.pe_V 0 (pv 0))) (Pv.rV Pv.kInt))) (Pv.s_one (Pv.s_if (Pv.t_cmp (Pv.c_eq hr) (Pv.rV (Pv.pe_V 2 (pv 2))) (Pv.rV Pv.kStr)) (Pv.s_one (Pv.s_expr (Pv.v_call C_need_terms tk hr (Pv.aVcons (Pv.v_and (Pv.v_cmp (Pv.c_eq hr) (Pv.rV (Pv.v_len T.n_len (Pv.aRcons (Pv.rV (Pv.pe_V 0 (pv 0))) Pv.aRnil))) (Pv.rV Pv.kInt)) (pe_one (Pv.v_call C_is_value tk hr (Pv.aVcons (Pv.v_idx (Pv.rV (Pv.pe_V 0 (pv 0))) (Pv.rV Pv.kInt)) (Pv.aVcons Pv.kInt Pv.aVnil)) h_is_value))) Pv.aVnil) h_need_terms))) (Pv.s_one (Pv.s_if (Pv.t_cmp (Pv.c_eq hr) (Pv.rV (Pv.pe_V 2 (pv 2))) (Pv.rV Pv.kStr)) (Pv.s_one (Pv.s_expr (Pv.v_call C_need_terms tk hr (Pv.aVcons (Pv.v_and (Pv.v_cmp (Pv.c_eq hr) (Pv.rV (Pv.v_len T.n_len (Pv.aRcons (Pv.rV (Pv.pe_V 0 (pv 0))) Pv.aRnil))) (Pv.rV Pv.kInt)) (pe_one (Pv.v_or (Pv.v_call C_is_name tk hr (Pv.aVcons (Pv.v_idx (Pv.rV (Pv.pe_V 0 (pv 0))) (Pv.rV Pv.kInt)) Pv.aVnil) h_is_name) (pe_one (Pv.v_cmp (Pv.c_eq hr) (Pv.rV (Pv.v_idx (Pv.rV (Pv.pe_V 0 (pv 0))) (Pv.rV Pv.kInt))) (Pv.rV Pv.kStr)))))) Pv.aVnil) h_need_terms))) (Pv.s_one (Pv.s_if (Pv.t_cmp (Pv.c_eq hr) (Pv.rV (Pv.pe_V 2 (pv 2))) (Pv.rV Pv.kStr)) (Pv.s_cons (Pv.s_expr (Pv.v_call C_need_terms tk hr (Pv.aVcons (Pv.v_and (Pv.v_cmp (Pv.c_eq hr) (Pv.rV (Pv.v_len T.n_len (Pv.aRcons (Pv.rV (Pv.pe_V 0 (pv 0))) Pv.aRnil))) (Pv.rV Pv.kInt)) (Pv.v_and (Pv.v_isi T.n_isinstance (Pv.rV (Pv.v_idx (Pv.rV (Pv.pe_V 0 (pv 0))) (Pv.rV Pv.kInt))) rfl T.n_tuple (by decide +kernel)) (pe_one (Pv.v_cmp Pv.c_le (Pv.rV (Pv.v_len T.n_len (Pv.aRcons (Pv.rV (Pv.v_idx (Pv.rV (Pv.pe_V 0 (pv 0))) (Pv.rV Pv.kInt))) Pv.aRnil))) (Pv.rV (Pv.kGlInt rfl T.c_MOST_PARTS)))))) Pv.aVnil) h_need_terms)) (Pv.s_one (Pv.s_for [3] hp rfl (Pv.i_tup (Pv.v_idx (Pv.rV (Pv.pe_V 0 (pv 0))) (Pv.rV Pv.kInt))) (pg_name (i := 3) sc.nd rfl (by first | exact Or.inl rfl | exact Or.inr rfl)) (Pv.tg_name 3) (Pv.s_one (Pv.s_expr (Pv.v_call C_need_deep tk hr (Pv.aVcons (Pv.pe_V 3 (pv 3)) (Pv.aVcons (Pv.v_add (Pv.rV (Pv.pe_V 1 (pv 1))) (Pv.rV Pv.kInt)) Pv.aVnil)) h_need_deep)))))) (Pv.s_cons (Pv.s_expr (Pv.v_call C_need_terms tk hr (Pv.aVcons (Pv.v_or (Pv.v_and (Pv.v_cmp (Pv.c_in hr) (Pv.rV (Pv.pe_V 2 (pv 2))) (Pv.rV (Pv.kGlTup T.g_TWO))) (pe_one (Pv.v_cmp (Pv.c_eq hr) (Pv.rV (Pv.v_len T.n_len (Pv.aRcons (Pv.rV (Pv.pe_V 0 (pv 0))) Pv.aRnil))) (Pv.rV Pv.kInt)))) (pe_one (Pv.v_and (Pv.v_cmp (Pv.c_in hr) (Pv.rV (Pv.pe_V 2 (pv 2))) (Pv.rV (Pv.kGlTup T.g_ONE))) (pe_one (Pv.v_cmp (Pv.c_eq hr) (Pv.rV (Pv.v_len T.n_len (Pv.aRcons (Pv.rV (Pv.pe_V 0 (pv 0))) Pv.aRnil))) (Pv.rV Pv.kInt)))))) Pv.aVnil) h_need_terms)) (Pv.s_one (Pv.s_for [3] hp rfl (Pv.i_tup (Pv.v_slice (Pv.rV (Pv.pe_V 0 (pv 0))) (Pv.o_so Pv.kInt) Pv.o_no)) (pg_name (i := 3) sc.nd rfl (by first | exact Or.inl rfl | exact Or.inr rfl)) (Pv.tg_name 3) (Pv.s_one (Pv.s_expr (Pv.v_call C_need_deep tk hr (Pv.aVcons (Pv.pe_V 3 (pv 3)) (Pv.aVcons (Pv.v_add (Pv.rV (Pv.pe_V 1 (pv 1))) (Pv.rV Pv.kInt)) Pv.aVnil)) h_need_deep)))))))))))))))
abbrev st_need_term : Stmt := topS 29
abbrev N_need_term : List Str := ["term"]
theorem sc_need_term : FnScope N_need_term ["term"] (defScope st_need_term) := ⟨rfl, rfl, rfl, by decide +kernel, rfl, by decide +kernel, by decide +kernel⟩
theorem b_need_term {f : Addr} {fd : FuncData} {k : Nat} {g : List PV → R PV} (T : Top w K mg) (Fn : Fun K "need_term" "need_term" st_need_term f fd) {k_need_deep : Nat} {g_need_deep : List PV → R PV} (C_need_deep : CaV P w K mg base k_need_deep "need_deep" g_need_deep) (h_need_deep : k_need_deep ≤ k) (hl : ∀ ds, g ds ≠ .bad → ds.length = 1) (hd : ∀ ds, g ds ≠ .bad → toV ((D_need_term g_need_deep) (fm0 1 ds)) = g ds) :
    FnOk P w K mg base (L2C.CX P w) (k + 1) f fd ["term"] (spV K mg g) :=
  fn_V (d := (D_need_term g_need_deep)) Fn sc_need_term hl hd (by
    intro cdv A outer s H E hcv hr
    have sc := sc_need_term
    have tk : L2C.Takes (cxX P w K mg base N_need_term "need_term" st_need_term f cdv A outer s H E) (wE E) := L2C.takes_of rfl rfl rfl rfl
    have hp : PassesOwn (model P w) (cxX P w K mg base N_need_term "need_term" st_need_term f cdv A outer s H E).A (cxX P w K mg base N_need_term "need_term" st_need_term f cdv A outer s H E).env (cxX P w K mg base N_need_term "need_term" st_need_term f cdv A outer s H E).xe := passes_of rfl
    exact (Pv.s_one (Pv.s_expr (Pv.v_call C_need_deep tk hr (Pv.aVcons (Pv.pe_V 0 (pv 0)) (Pv.aVcons Pv.kInt Pv.aVnil)) h_need_deep))))
abbrev st_need_step : Stmt := topS 34
abbrev N_need_step : List Str := ["step", "deep", "word"]
theorem sc_need_step : FnScope N_need_step ["step", "deep"] (defScope st_need_step) := ⟨rfl, rfl, rfl, by decide +kernel, rfl, by decide +kernel, by decide +kernel⟩
theorem b_need_step {f : Addr} {fd : FuncData} {k : Nat} {g : List PV → R PV} (T : Top w K mg) (Fn : Fun K "need_step" "need_step" st_need_step f fd) {k_need_terms : Nat} {g_need_terms : List PV → R PV} (C_need_terms : CaV P w K mg base k_need_terms "need_terms" g_need_terms) (h_need_terms : k_need_terms ≤ k) {k_is_name : Nat} {g_is_name : List PV → R PV} (C_is_name : CaV P w K mg base k_is_name "is_name" g_is_name) (h_is_name : k_is_name ≤ k) {k_need_term : Nat} {g_need_term : List PV → R PV} (C_need_term : CaV P w K mg base k_need_term "need_term" g_need_term) (h_need_term : k_need_term ≤ k) {k_need_deep_body : Nat} {g_need_deep_body : List PV → R PV} (C_need_deep_body : CaV P w K mg base k_need_deep_body "need_deep_body" g_need_deep_body) (h_need_deep_body : k_need_deep_body ≤ k) (hl : ∀ ds, g ds ≠ .bad → ds.length = 2) (hd : ∀ ds, g ds ≠ .bad → toV ((D_need_step g_need_terms g_is_name g_need_term g_need_deep_body) (fm0 3 ds)) = g ds) :
    FnOk P w K mg base (L2C.CX P w) (k + 1) f fd ["step", "deep"] (spV K mg g) :=
  fn_V (d := (D_need_step g_need_terms g_is_name g_need_term g_need_deep_body)) Fn sc_need_step hl hd (by
    intro cdv A outer s H E hcv hr
    have sc := sc_need_step
    have tk : L2C.Takes (cxX P w K mg base N_need_step "need_step" st_need_step f cdv A outer s H E) (wE E) := L2C.takes_of rfl rfl rfl rfl
    have hp : PassesOwn (model P w) (cxX P w K mg base N_need_step "need_step" st_need_step f cdv A outer s H E).A (cxX P w K mg base N_need_step "need_step" st_need_step f cdv A outer s H E).env (cxX P w K mg base N_need_step "need_step" st_need_step f cdv A outer s H E).xe := passes_of rfl
    exact (Pv.s_cons (Pv.s_expr (Pv.v_call C_need_terms tk hr (Pv.aVcons (Pv.v_and (Pv.v_isi T.n_isinstance (Pv.rV (Pv.pe_V 0 (pv 0))) rfl T.n_tuple (by decide +kernel)) (Pv.v_and (Pv.v_cmp Pv.c_gt (Pv.rV (Pv.v_len T.n_len (Pv.aRcons (Pv.rV (Pv.pe_V 0 (pv 0))) Pv.aRnil))) (Pv.rV Pv.kInt)) (Pv.v_and (Pv.v_isi T.n_isinstance (Pv.rV (Pv.v_idx (Pv.rV (Pv.pe_V 0 (pv 0))) (Pv.rV Pv.kInt))) rfl T.n_str (by decide +kernel)) (pe_one (Pv.v_dIn T.d_LENGTHS (Pv.rV (Pv.v_idx (Pv.rV (Pv.pe_V 0 (pv 0))) (Pv.rV Pv.kInt)))))))) Pv.aVnil) h_need_terms)) (Pv.s_cons (Pv.s_set (i := 2) sc.nd (Pv.v_idx (Pv.rV (Pv.pe_V 0 (pv 0))) (Pv.rV Pv.kInt))) (Pv.s_cons (Pv.s_expr (Pv.v_call C_need_terms tk hr (Pv.aVcons (Pv.v_cmp (Pv.c_eq hr) (Pv.rV (Pv.v_len T.n_len (Pv.aRcons (Pv.rV (Pv.pe_V 0 (pv 0))) Pv.aRnil))) (Pv.rV (Pv.v_dIx T.d_LENGTHS (Pv.rV (Pv.pe_V 2 (pv 2)))))) Pv.aVnil) h_need_terms)) (Pv.s_cons (Pv.s_if (Pv.t_cmp (Pv.c_in hr) (Pv.rV (Pv.pe_V 2 (pv 2))) (Pv.rV (Pv.v_tup (Pv.aVcons Pv.kStr (Pv.aVcons Pv.kStr Pv.aVnil))))) (Pv.s_cons (Pv.s_expr (Pv.v_call C_need_terms tk hr (Pv.aVcons (Pv.v_call C_is_name tk hr (Pv.aVcons (Pv.v_idx (Pv.rV (Pv.pe_V 0 (pv 0))) (Pv.rV Pv.kInt)) Pv.aVnil) h_is_name) Pv.aVnil) h_need_terms)) (Pv.s_one (Pv.s_expr (Pv.v_call C_need_term tk hr (Pv.aVcons (Pv.v_idx (Pv.rV (Pv.pe_V 0 (pv 0))) (Pv.rV Pv.kInt)) Pv.aVnil) h_need_term)))) (Pv.s_one (Pv.s_expr (Pv.v_call C_need_term tk hr (Pv.aVcons (Pv.v_idx (Pv.rV (Pv.pe_V 0 (pv 0))) (Pv.rV Pv.kInt)) Pv.aVnil) h_need_term)))) (Pv.s_cons (Pv.s_if (Pv.t_cmp (Pv.c_eq hr) (Pv.rV (Pv.pe_V 2 (pv 2))) (Pv.rV Pv.kStr)) (Pv.s_one (Pv.s_expr (Pv.v_call C_need_term tk hr (Pv.aVcons (Pv.v_idx (Pv.rV (Pv.pe_V 0 (pv 0))) (Pv.rV Pv.kInt)) Pv.aVnil) h_need_term))) Pv.s_nil) (Pv.s_cons (Pv.s_if (Pv.t_cmp (Pv.c_eq hr) (Pv.rV (Pv.pe_V 2 (pv 2))) (Pv.rV Pv.kStr)) (Pv.s_one (Pv.s_expr (Pv.v_call C_need_deep_body tk hr (Pv.aVcons (Pv.v_idx (Pv.rV (Pv.pe_V 0 (pv 0))) (Pv.rV Pv.kInt)) (Pv.aVcons (Pv.v_add (Pv.rV (Pv.pe_V 1 (pv 1))) (Pv.rV Pv.kInt)) Pv.aVnil)) h_need_deep_body))) Pv.s_nil) (Pv.s_one (Pv.s_if (Pv.t_cmp (Pv.c_in hr) (Pv.rV (Pv.pe_V 2 (pv 2))) (Pv.rV (Pv.v_tup (Pv.aVcons Pv.kStr (Pv.aVcons Pv.kStr Pv.aVnil))))) (Pv.s_one (Pv.s_expr (Pv.v_call C_need_deep_body tk hr (Pv.aVcons (Pv.v_idx (Pv.rV (Pv.pe_V 0 (pv 0))) (Pv.rV Pv.kInt)) (Pv.aVcons (Pv.v_add (Pv.rV (Pv.pe_V 1 (pv 1))) (Pv.rV Pv.kInt)) Pv.aVnil)) h_need_deep_body))) Pv.s_nil)))))))))
abbrev st_need_deep_body : Stmt := topS 35
abbrev N_need_deep_body : List Str := ["body", "deep", "step"]
theorem sc_need_deep_body : FnScope N_need_deep_body ["body", "deep"] (defScope st_need_deep_body) := ⟨rfl, rfl, rfl, by decide +kernel, rfl, by decide +kernel, by decide +kernel⟩
theorem b_need_deep_body {f : Addr} {fd : FuncData} {k : Nat} {g : List PV → R PV} (T : Top w K mg) (Fn : Fun K "need_deep_body" "need_deep_body" st_need_deep_body f fd) {k_need_terms : Nat} {g_need_terms : List PV → R PV} (C_need_terms : CaV P w K mg base k_need_terms "need_terms" g_need_terms) (h_need_terms : k_need_terms ≤ k) {k_need_step : Nat} {g_need_step : List PV → R PV} (C_need_step : CaV P w K mg base k_need_step "need_step" g_need_step) (h_need_step : k_need_step ≤ k) (hl : ∀ ds, g ds ≠ .bad → ds.length = 2) (hd : ∀ ds, g ds ≠ .bad → toV ((D_need_deep_body g_need_terms g_need_step) (fm0 3 ds)) = g ds) :
    FnOk P w K mg base (L2C.CX P w) (k + 1) f fd ["body", "deep"] (spV K mg g) :=
  fn_V (d := (D_need_deep_body g_need_terms g_need_step)) Fn sc_need_deep_body hl hd (by
    intro cdv A outer s H E hcv hr
    have sc := sc_need_deep_body
    have tk : L2C.Takes (cxX P w K mg base N_need_deep_body "need_deep_body" st_need_deep_body f cdv A outer s H E) (wE E) := L2C.takes_of rfl rfl rfl rfl
    have hp : PassesOwn (model P w) (cxX P w K mg base N_need_deep_body "need_deep_body" st_need_deep_body f cdv A outer s H E).A (cxX P w K mg base N_need_deep_body "need_deep_body" st_need_deep_body f cdv A outer s H E).env (cxX P w K mg base N_need_deep_body "need_deep_body" st_need_deep_body f cdv A outer s H E).xe := passes_of rfl
    exact (Pv.s_cons (Pv.s_expr (Pv.v_call C_need_terms tk hr (Pv.aVcons (Pv.v_and (Pv.v_isi T.n_isinstance (Pv.rV (Pv.pe_V 0 (pv 0))) rfl T.n_tuple (by decide +kernel)) (Pv.v_and (Pv.v_cmp Pv.c_le (Pv.rV (Pv.v_len T.n_len (Pv.aRcons (Pv.rV (Pv.pe_V 0 (pv 0))) Pv.aRnil))) (Pv.rV (Pv.kGlInt rfl T.c_MOST_STEPS))) (pe_one (Pv.v_cmp Pv.c_lt (Pv.rV (Pv.pe_V 1 (pv 1))) (Pv.rV (Pv.kGlInt rfl T.c_MOST_WITHIN_bodies)))))) Pv.aVnil) h_need_terms)) (Pv.s_one (Pv.s_for [2] hp rfl (Pv.i_tup (Pv.pe_V 0 (pv 0))) (pg_name (i := 2) sc.nd rfl (by first | exact Or.inl rfl | exact Or.inr rfl)) (Pv.tg_name 2) (Pv.s_one (Pv.s_expr (Pv.v_call C_need_step tk hr (Pv.aVcons (Pv.pe_V 2 (pv 2)) (Pv.aVcons (Pv.pe_V 1 (pv 1)) Pv.aVnil)) h_need_step)))))))
abbrev st_need_body : Stmt := topS 36
abbrev N_need_body : List Str := ["body"]
theorem sc_need_body : FnScope N_need_body ["body"] (defScope st_need_body) := ⟨rfl, rfl, rfl, by decide +kernel, rfl, by decide +kernel, by decide +kernel⟩
theorem b_need_body {f : Addr} {fd : FuncData} {k : Nat} {g : List PV → R PV} (T : Top w K mg) (Fn : Fun K "need_body" "need_body" st_need_body f fd) {k_need_deep_body : Nat} {g_need_deep_body : List PV → R PV} (C_need_deep_body : CaV P w K mg base k_need_deep_body "need_deep_body" g_need_deep_body) (h_need_deep_body : k_need_deep_body ≤ k) (hl : ∀ ds, g ds ≠ .bad → ds.length = 1) (hd : ∀ ds, g ds ≠ .bad → toV ((D_need_body g_need_deep_body) (fm0 1 ds)) = g ds) :
    FnOk P w K mg base (L2C.CX P w) (k + 1) f fd ["body"] (spV K mg g) :=
  fn_V (d := (D_need_body g_need_deep_body)) Fn sc_need_body hl hd (by
    intro cdv A outer s H E hcv hr
    have sc := sc_need_body
    have tk : L2C.Takes (cxX P w K mg base N_need_body "need_body" st_need_body f cdv A outer s H E) (wE E) := L2C.takes_of rfl rfl rfl rfl
    have hp : PassesOwn (model P w) (cxX P w K mg base N_need_body "need_body" st_need_body f cdv A outer s H E).A (cxX P w K mg base N_need_body "need_body" st_need_body f cdv A outer s H E).env (cxX P w K mg base N_need_body "need_body" st_need_body f cdv A outer s H E).xe := passes_of rfl
    exact (Pv.s_one (Pv.s_expr (Pv.v_call C_need_deep_body tk hr (Pv.aVcons (Pv.pe_V 0 (pv 0)) (Pv.aVcons Pv.kInt Pv.aVnil)) h_need_deep_body))))
abbrev st_need_houses : Stmt := topS 45
abbrev N_need_houses : List Str := ["good"]
theorem sc_need_houses : FnScope N_need_houses ["good"] (defScope st_need_houses) := ⟨rfl, rfl, rfl, by decide +kernel, rfl, by decide +kernel, by decide +kernel⟩
theorem b_need_houses {f : Addr} {fd : FuncData} {k : Nat} {g : List PV → R PV} (T : Top w K mg) (Fn : Fun K "need" "need" st_need_houses f fd) (hl : ∀ ds, g ds ≠ .bad → ds.length = 1) (hd : ∀ ds, g ds ≠ .bad → toV (D_need_houses (fm0 1 ds)) = g ds) :
    FnOk P w K mg base (L2C.CX P w) (k + 1) f fd ["good"] (spV K mg g) :=
  fn_V (d := D_need_houses) Fn sc_need_houses hl hd (by
    intro cdv A outer s H E hcv hr
    have sc := sc_need_houses
    have tk : L2C.Takes (cxX P w K mg base N_need_houses "need" st_need_houses f cdv A outer s H E) (wE E) := L2C.takes_of rfl rfl rfl rfl
    have hp : PassesOwn (model P w) (cxX P w K mg base N_need_houses "need" st_need_houses f cdv A outer s H E).A (cxX P w K mg base N_need_houses "need" st_need_houses f cdv A outer s H E).env (cxX P w K mg base N_need_houses "need" st_need_houses f cdv A outer s H E).xe := passes_of rfl
    exact (Pv.s_one (Pv.s_if (Pv.t_not (Pv.tV_test (Pv.pe_V 0 (pv 0)))) (Pv.s_one (Pv.s_raise T.x_BadHouse rfl tk)) Pv.s_nil)))
abbrev st_is_text : Stmt := topS 47
abbrev N_is_text : List Str := ["thing"]
theorem sc_is_text : FnScope N_is_text ["thing"] (defScope st_is_text) := ⟨rfl, rfl, rfl, by decide +kernel, rfl, by decide +kernel, by decide +kernel⟩
theorem b_is_text {f : Addr} {fd : FuncData} {k : Nat} {g : List PV → R PV} (T : Top w K mg) (Fn : Fun K "is_text" "is_text" st_is_text f fd) (hl : ∀ ds, g ds ≠ .bad → ds.length = 1) (hd : ∀ ds, g ds ≠ .bad → toV (D_is_text (fm0 1 ds)) = g ds) :
    FnOk P w K mg base (L2C.CX P w) (k + 1) f fd ["thing"] (spV K mg g) :=
  fn_V (d := D_is_text) Fn sc_is_text hl hd (by
    intro cdv A outer s H E hcv hr
    have sc := sc_is_text
    have tk : L2C.Takes (cxX P w K mg base N_is_text "is_text" st_is_text f cdv A outer s H E) (wE E) := L2C.takes_of rfl rfl rfl rfl
    have hp : PassesOwn (model P w) (cxX P w K mg base N_is_text "is_text" st_is_text f cdv A outer s H E).A (cxX P w K mg base N_is_text "is_text" st_is_text f cdv A outer s H E).env (cxX P w K mg base N_is_text "is_text" st_is_text f cdv A outer s H E).xe := passes_of rfl
    exact (Pv.s_one (Pv.s_ret (Pv.v_isi T.n_isinstance (Pv.rV (Pv.pe_V 0 (pv 0))) rfl T.n_str (by decide +kernel)))))
abbrev st_need_steps : Stmt := topS 48
abbrev N_need_steps : List Str := ["body"]
theorem sc_need_steps : FnScope N_need_steps ["body"] (defScope st_need_steps) := ⟨rfl, rfl, rfl, by decide +kernel, rfl, by decide +kernel, by decide +kernel⟩
theorem b_need_steps {f : Addr} {fd : FuncData} {k : Nat} {g : List PV → R PV} (T : Top w K mg) (Fn : Fun K "need_steps" "need_steps" st_need_steps f fd) {k_need_body : Nat} {g_need_body : List PV → R PV} (C_need_body : CaV P w K mg base k_need_body "need_body" g_need_body) (h_need_body : k_need_body ≤ k) (hl : ∀ ds, g ds ≠ .bad → ds.length = 1) (hd : ∀ ds, g ds ≠ .bad → toV ((D_need_steps g_need_body) (fm0 1 ds)) = g ds) :
    FnOk P w K mg base (L2C.CX P w) (k + 1) f fd ["body"] (spV K mg g) :=
  fn_V (d := (D_need_steps g_need_body)) Fn sc_need_steps hl hd (by
    intro cdv A outer s H E hcv hr
    have sc := sc_need_steps
    have tk : L2C.Takes (cxX P w K mg base N_need_steps "need_steps" st_need_steps f cdv A outer s H E) (wE E) := L2C.takes_of rfl rfl rfl rfl
    have hp : PassesOwn (model P w) (cxX P w K mg base N_need_steps "need_steps" st_need_steps f cdv A outer s H E).A (cxX P w K mg base N_need_steps "need_steps" st_need_steps f cdv A outer s H E).env (cxX P w K mg base N_need_steps "need_steps" st_need_steps f cdv A outer s H E).xe := passes_of rfl
    exact (Pv.s_one (Pv.s_tryF T.x_BadHouse T.y_BadSteps_BadHouse tk (fun W pn xe tk hp => (Pv.s_one (Pv.s_expr (Pv.v_call C_need_body tk hr (Pv.aVcons (Pv.pe_V 0 (pv 0)) Pv.aVnil) h_need_body)))))))
abbrev st_need_worth : Stmt := topS 49
abbrev N_need_worth : List Str := ["term"]
theorem sc_need_worth : FnScope N_need_worth ["term"] (defScope st_need_worth) := ⟨rfl, rfl, rfl, by decide +kernel, rfl, by decide +kernel, by decide +kernel⟩
theorem b_need_worth {f : Addr} {fd : FuncData} {k : Nat} {g : List PV → R PV} (T : Top w K mg) (Fn : Fun K "need_worth" "need_worth" st_need_worth f fd) {k_need_term : Nat} {g_need_term : List PV → R PV} (C_need_term : CaV P w K mg base k_need_term "need_term" g_need_term) (h_need_term : k_need_term ≤ k) (hl : ∀ ds, g ds ≠ .bad → ds.length = 1) (hd : ∀ ds, g ds ≠ .bad → toV ((D_need_worth g_need_term) (fm0 1 ds)) = g ds) :
    FnOk P w K mg base (L2C.CX P w) (k + 1) f fd ["term"] (spV K mg g) :=
  fn_V (d := (D_need_worth g_need_term)) Fn sc_need_worth hl hd (by
    intro cdv A outer s H E hcv hr
    have sc := sc_need_worth
    have tk : L2C.Takes (cxX P w K mg base N_need_worth "need_worth" st_need_worth f cdv A outer s H E) (wE E) := L2C.takes_of rfl rfl rfl rfl
    have hp : PassesOwn (model P w) (cxX P w K mg base N_need_worth "need_worth" st_need_worth f cdv A outer s H E).A (cxX P w K mg base N_need_worth "need_worth" st_need_worth f cdv A outer s H E).env (cxX P w K mg base N_need_worth "need_worth" st_need_worth f cdv A outer s H E).xe := passes_of rfl
    exact (Pv.s_one (Pv.s_tryF T.x_BadHouse T.y_BadSteps_BadHouse tk (fun W pn xe tk hp => (Pv.s_one (Pv.s_expr (Pv.v_call C_need_term tk hr (Pv.aVcons (Pv.pe_V 0 (pv 0)) Pv.aVnil) h_need_term)))))))
abbrev st_need_names : Stmt := topS 50
abbrev N_need_names : List Str := ["names", "least", "most", "one"]
theorem sc_need_names : FnScope N_need_names ["names", "least", "most"] (defScope st_need_names) := ⟨rfl, rfl, rfl, by decide +kernel, rfl, by decide +kernel, by decide +kernel⟩
theorem b_need_names {f : Addr} {fd : FuncData} {k : Nat} {g : List PV → R PV} (T : Top w K mg) (Fn : Fun K "need_names" "need_names" st_need_names f fd) {k_need_houses : Nat} {g_need_houses : List PV → R PV} (C_need_houses : CaV P w K mg base k_need_houses "need_houses" g_need_houses) (h_need_houses : k_need_houses ≤ k) {k_is_name : Nat} {g_is_name : List PV → R PV} (C_is_name : CaV P w K mg base k_is_name "is_name" g_is_name) (h_is_name : k_is_name ≤ k) (hl : ∀ ds, g ds ≠ .bad → ds.length = 3) (hd : ∀ ds, g ds ≠ .bad → toV ((D_need_names g_need_houses g_is_name) (fm0 4 ds)) = g ds) :
    FnOk P w K mg base (L2C.CX P w) (k + 1) f fd ["names", "least", "most"] (spV K mg g) :=
  fn_V (d := (D_need_names g_need_houses g_is_name)) Fn sc_need_names hl hd (by
    intro cdv A outer s H E hcv hr
    have sc := sc_need_names
    have tk : L2C.Takes (cxX P w K mg base N_need_names "need_names" st_need_names f cdv A outer s H E) (wE E) := L2C.takes_of rfl rfl rfl rfl
    have hp : PassesOwn (model P w) (cxX P w K mg base N_need_names "need_names" st_need_names f cdv A outer s H E).A (cxX P w K mg base N_need_names "need_names" st_need_names f cdv A outer s H E).env (cxX P w K mg base N_need_names "need_names" st_need_names f cdv A outer s H E).xe := passes_of rfl
    exact (Pv.s_one (Pv.s_expr (Pv.v_call C_need_houses tk hr (Pv.aVcons (Pv.v_and (Pv.v_isi T.n_isinstance (Pv.rV (Pv.pe_V 0 (pv 0))) rfl T.n_tuple (by decide +kernel)) (Pv.v_and (Pv.v_chain Pv.c_le Pv.c_le (Pv.rV (Pv.pe_V 1 (pv 1))) (Pv.rV (Pv.v_len T.n_len (Pv.aRcons (Pv.rV (Pv.pe_V 0 (pv 0))) Pv.aRnil))) (Pv.rV (Pv.pe_V 2 (pv 2)))) (pe_one (Pv.v_all rfl T.n_all (Pv.aRcons (Pv.rF (Pv.f_lc [(Str.ofString "one", 3)] rfl rfl sc.nd (Pv.iR (Pv.i_tup (Pv.pe_V 0 (pv 0)))) (blkOk_by (N := N_need_names) (sc := defScope st_need_names) (by decide +kernel)) (fun _ _ _ _ _ => (pg_name (i := 3) sc.nd rfl (by first | exact Or.inl rfl | exact Or.inr rfl))) (Pv.tg_name 3) (by decide) (fun _ _ _ _ _ => Pv.tests_nil) (fun _ _ _ _ _ => (Pv.v_call C_is_name Pv.takes0 hr (Pv.aVcons (Pv.pe_V 3 (pv 3)) Pv.aVnil) h_is_name)))) Pv.aRnil))))) Pv.aVnil) h_need_houses))))
abbrev st_need_once : Stmt := topS 51
abbrev N_need_once : List Str := ["names", "most"]
theorem sc_need_once : FnScope N_need_once ["names", "most"] (defScope st_need_once) := ⟨rfl, rfl, rfl, by decide +kernel, rfl, by decide +kernel, by decide +kernel⟩
theorem b_need_once {f : Addr} {fd : FuncData} {k : Nat} {g : List PV → R PV} (T : Top w K mg) (Fn : Fun K "need_once" "need_once" st_need_once f fd) {k_need_names : Nat} {g_need_names : List PV → R PV} (C_need_names : CaV P w K mg base k_need_names "need_names" g_need_names) (h_need_names : k_need_names ≤ k) {k_need_houses : Nat} {g_need_houses : List PV → R PV} (C_need_houses : CaV P w K mg base k_need_houses "need_houses" g_need_houses) (h_need_houses : k_need_houses ≤ k) (hl : ∀ ds, g ds ≠ .bad → ds.length = 2) (hd : ∀ ds, g ds ≠ .bad → toV ((D_need_once g_need_names g_need_houses) (fm0 2 ds)) = g ds) :
    FnOk P w K mg base (L2C.CX P w) (k + 1) f fd ["names", "most"] (spV K mg g) :=
  fn_V (d := (D_need_once g_need_names g_need_houses)) Fn sc_need_once hl hd (by
    intro cdv A outer s H E hcv hr
    have sc := sc_need_once
    have tk : L2C.Takes (cxX P w K mg base N_need_once "need_once" st_need_once f cdv A outer s H E) (wE E) := L2C.takes_of rfl rfl rfl rfl
    have hp : PassesOwn (model P w) (cxX P w K mg base N_need_once "need_once" st_need_once f cdv A outer s H E).A (cxX P w K mg base N_need_once "need_once" st_need_once f cdv A outer s H E).env (cxX P w K mg base N_need_once "need_once" st_need_once f cdv A outer s H E).xe := passes_of rfl
    exact (Pv.s_cons (Pv.s_expr (Pv.v_call C_need_names tk hr (Pv.aVcons (Pv.pe_V 0 (pv 0)) (Pv.aVcons Pv.kInt (Pv.aVcons (Pv.pe_V 1 (pv 1)) Pv.aVnil))) h_need_names)) (Pv.s_one (Pv.s_expr (Pv.v_call C_need_houses tk hr (Pv.aVcons (Pv.v_cmp (Pv.c_eq hr) (Pv.rV (Pv.v_lenSet T.n_len (Pv.e_set rfl T.n_set (Pv.aRcons (Pv.rV (Pv.pe_V 0 (pv 0))) Pv.aRnil)))) (Pv.rV (Pv.v_len T.n_len (Pv.aRcons (Pv.rV (Pv.pe_V 0 (pv 0))) Pv.aRnil)))) Pv.aVnil) h_need_houses)))))
abbrev st_need_values : Stmt := topS 52
abbrev N_need_values : List Str := ["values", "least", "most", "one"]
theorem sc_need_values : FnScope N_need_values ["values", "least", "most"] (defScope st_need_values) := ⟨rfl, rfl, rfl, by decide +kernel, rfl, by decide +kernel, by decide +kernel⟩
theorem b_need_values {f : Addr} {fd : FuncData} {k : Nat} {g : List PV → R PV} (T : Top w K mg) (Fn : Fun K "need_values" "need_values" st_need_values f fd) {k_need_houses : Nat} {g_need_houses : List PV → R PV} (C_need_houses : CaV P w K mg base k_need_houses "need_houses" g_need_houses) (h_need_houses : k_need_houses ≤ k) {k_is_value : Nat} {g_is_value : List PV → R PV} (C_is_value : CaV P w K mg base k_is_value "is_value" g_is_value) (h_is_value : k_is_value ≤ k) (hl : ∀ ds, g ds ≠ .bad → ds.length = 3) (hd : ∀ ds, g ds ≠ .bad → toV ((D_need_values g_need_houses g_is_value) (fm0 4 ds)) = g ds) :
    FnOk P w K mg base (L2C.CX P w) (k + 1) f fd ["values", "least", "most"] (spV K mg g) :=
  fn_V (d := (D_need_values g_need_houses g_is_value)) Fn sc_need_values hl hd (by
    intro cdv A outer s H E hcv hr
    have sc := sc_need_values
    have tk : L2C.Takes (cxX P w K mg base N_need_values "need_values" st_need_values f cdv A outer s H E) (wE E) := L2C.takes_of rfl rfl rfl rfl
    have hp : PassesOwn (model P w) (cxX P w K mg base N_need_values "need_values" st_need_values f cdv A outer s H E).A (cxX P w K mg base N_need_values "need_values" st_need_values f cdv A outer s H E).env (cxX P w K mg base N_need_values "need_values" st_need_values f cdv A outer s H E).xe := passes_of rfl
    exact (Pv.s_one (Pv.s_expr (Pv.v_call C_need_houses tk hr (Pv.aVcons (Pv.v_and (Pv.v_isi T.n_isinstance (Pv.rV (Pv.pe_V 0 (pv 0))) rfl T.n_tuple (by decide +kernel)) (Pv.v_and (Pv.v_chain Pv.c_le Pv.c_le (Pv.rV (Pv.pe_V 1 (pv 1))) (Pv.rV (Pv.v_len T.n_len (Pv.aRcons (Pv.rV (Pv.pe_V 0 (pv 0))) Pv.aRnil))) (Pv.rV (Pv.pe_V 2 (pv 2)))) (pe_one (Pv.v_all rfl T.n_all (Pv.aRcons (Pv.rF (Pv.f_lc [(Str.ofString "one", 3)] rfl rfl sc.nd (Pv.iR (Pv.i_tup (Pv.pe_V 0 (pv 0)))) (blkOk_by (N := N_need_values) (sc := defScope st_need_values) (by decide +kernel)) (fun _ _ _ _ _ => (pg_name (i := 3) sc.nd rfl (by first | exact Or.inl rfl | exact Or.inr rfl))) (Pv.tg_name 3) (by decide) (fun _ _ _ _ _ => Pv.tests_nil) (fun _ _ _ _ _ => (Pv.v_call C_is_value Pv.takes0 hr (Pv.aVcons (Pv.pe_V 3 (pv 3)) (Pv.aVcons Pv.kInt Pv.aVnil)) h_is_value)))) Pv.aRnil))))) Pv.aVnil) h_need_houses))))
abbrev st_need_maker : Stmt := topS 53
abbrev N_need_maker : List Str := ["maker"]
theorem sc_need_maker : FnScope N_need_maker ["maker"] (defScope st_need_maker) := ⟨rfl, rfl, rfl, by decide +kernel, rfl, by decide +kernel, by decide +kernel⟩
theorem b_need_maker {f : Addr} {fd : FuncData} {k : Nat} {g : List PV → R PV} (T : Top w K mg) (Fn : Fun K "need_maker" "need_maker" st_need_maker f fd) {k_need_houses : Nat} {g_need_houses : List PV → R PV} (C_need_houses : CaV P w K mg base k_need_houses "need_houses" g_need_houses) (h_need_houses : k_need_houses ≤ k) {k_is_text : Nat} {g_is_text : List PV → R PV} (C_is_text : CaV P w K mg base k_is_text "is_text" g_is_text) (h_is_text : k_is_text ≤ k) {k_is_name : Nat} {g_is_name : List PV → R PV} (C_is_name : CaV P w K mg base k_is_name "is_name" g_is_name) (h_is_name : k_is_name ≤ k) {k_need_once : Nat} {g_need_once : List PV → R PV} (C_need_once : CaV P w K mg base k_need_once "need_once" g_need_once) (h_need_once : k_need_once ≤ k) {k_need_values : Nat} {g_need_values : List PV → R PV} (C_need_values : CaV P w K mg base k_need_values "need_values" g_need_values) (h_need_values : k_need_values ≤ k) {k_need_steps : Nat} {g_need_steps : List PV → R PV} (C_need_steps : CaV P w K mg base k_need_steps "need_steps" g_need_steps) (h_need_steps : k_need_steps ≤ k) {k_need_worth : Nat} {g_need_worth : List PV → R PV} (C_need_worth : CaV P w K mg base k_need_worth "need_worth" g_need_worth) (h_need_worth : k_need_worth ≤ k) (hl : ∀ ds, g ds ≠ .bad → ds.length = 1) (hd : ∀ ds, g ds ≠ .bad → toV ((D_need_maker g_need_houses g_is_text g_is_name g_need_once g_need_values g_need_steps g_need_worth) (fm0 1 ds)) = g ds) :
    FnOk P w K mg base (L2C.CX P w) (k + 1) f fd ["maker"] (spV K mg g) :=
  fn_V (d := (D_need_maker g_need_houses g_is_text g_is_name g_need_once g_need_values g_need_steps g_need_worth)) Fn sc_need_maker hl hd (by
    intro cdv A outer s H E hcv hr
    have sc := sc_need_maker
    have tk : L2C.Takes (cxX P w K mg base N_need_maker "need_maker" st_need_maker f cdv A outer s H E) (wE E) := L2C.takes_of rfl rfl rfl rfl
    have hp : PassesOwn (model P w) (cxX P w K mg base N_need_maker "need_maker" st_need_maker f cdv A outer s H E).A (cxX P w K mg base N_need_maker "need_maker" st_need_maker f cdv A outer s H E).env (cxX P w K mg base N_need_maker "need_maker" st_need_maker f cdv A outer s H E).xe := passes_of rfl
    exact (Pv.s_cons (Pv.s_expr (Pv.v_call C_need_houses tk hr (Pv.aVcons (Pv.v_and (Pv.v_isi T.n_isinstance (Pv.rV (Pv.pe_V 0 (pv 0))) rfl T.n_tuple (by decide +kernel)) (Pv.v_and (Pv.v_cmp (Pv.c_eq hr) (Pv.rV (Pv.v_len T.n_len (Pv.aRcons (Pv.rV (Pv.pe_V 0 (pv 0))) Pv.aRnil))) (Pv.rV Pv.kInt)) (Pv.v_and (Pv.v_call C_is_text tk hr (Pv.aVcons (Pv.v_idx (Pv.rV (Pv.pe_V 0 (pv 0))) (Pv.rV Pv.kInt)) Pv.aVnil) h_is_text) (pe_one (Pv.v_cmp (Pv.c_eq hr) (Pv.rV (Pv.v_idx (Pv.rV (Pv.pe_V 0 (pv 0))) (Pv.rV Pv.kInt))) (Pv.rV Pv.kStr)))))) Pv.aVnil) h_need_houses)) (Pv.s_cons (Pv.s_expr (Pv.v_call C_need_houses tk hr (Pv.aVcons (Pv.v_and (Pv.v_call C_is_name tk hr (Pv.aVcons (Pv.v_idx (Pv.rV (Pv.pe_V 0 (pv 0))) (Pv.rV Pv.kInt)) Pv.aVnil) h_is_name) (Pv.v_and (Pv.v_call C_is_text tk hr (Pv.aVcons (Pv.v_idx (Pv.rV (Pv.pe_V 0 (pv 0))) (Pv.rV Pv.kInt)) Pv.aVnil) h_is_text) (pe_one (Pv.v_cmp (Pv.c_in hr) (Pv.rV (Pv.v_idx (Pv.rV (Pv.pe_V 0 (pv 0))) (Pv.rV Pv.kInt))) (Pv.rV (Pv.kGlTup T.g_SCOPES)))))) Pv.aVnil) h_need_houses)) (Pv.s_cons (Pv.s_expr (Pv.v_call C_need_once tk hr (Pv.aVcons (Pv.v_idx (Pv.rV (Pv.pe_V 0 (pv 0))) (Pv.rV Pv.kInt)) (Pv.aVcons (Pv.kGlInt rfl T.c_MOST_FOUR) Pv.aVnil)) h_need_once)) (Pv.s_cons (Pv.s_expr (Pv.v_call C_need_values tk hr (Pv.aVcons (Pv.v_idx (Pv.rV (Pv.pe_V 0 (pv 0))) (Pv.rV Pv.kInt)) (Pv.aVcons Pv.kInt (Pv.aVcons (Pv.kGlInt rfl T.c_MOST_FOUR) Pv.aVnil))) h_need_values)) (Pv.s_cons (Pv.s_expr (Pv.v_call C_need_steps tk hr (Pv.aVcons (Pv.v_idx (Pv.rV (Pv.pe_V 0 (pv 0))) (Pv.rV Pv.kInt)) Pv.aVnil) h_need_steps)) (Pv.s_cons (Pv.s_expr (Pv.v_call C_need_worth tk hr (Pv.aVcons (Pv.v_idx (Pv.rV (Pv.pe_V 0 (pv 0))) (Pv.rV Pv.kInt)) Pv.aVnil) h_need_worth)) (Pv.s_one (Pv.s_expr (Pv.v_call C_need_steps tk hr (Pv.aVcons (Pv.v_idx (Pv.rV (Pv.pe_V 0 (pv 0))) (Pv.rV Pv.kInt)) Pv.aVnil) h_need_steps))))))))))
abbrev st_need_table : Stmt := topS 54
abbrev N_need_table : List Str := ["table", "row"]
theorem sc_need_table : FnScope N_need_table ["table"] (defScope st_need_table) := ⟨rfl, rfl, rfl, by decide +kernel, rfl, by decide +kernel, by decide +kernel⟩
theorem b_need_table {f : Addr} {fd : FuncData} {k : Nat} {g : List PV → R PV} (T : Top w K mg) (Fn : Fun K "need_table" "need_table" st_need_table f fd) {k_need_houses : Nat} {g_need_houses : List PV → R PV} (C_need_houses : CaV P w K mg base k_need_houses "need_houses" g_need_houses) (h_need_houses : k_need_houses ≤ k) {k_need_names : Nat} {g_need_names : List PV → R PV} (C_need_names : CaV P w K mg base k_need_names "need_names" g_need_names) (h_need_names : k_need_names ≤ k) {k_need_values : Nat} {g_need_values : List PV → R PV} (C_need_values : CaV P w K mg base k_need_values "need_values" g_need_values) (h_need_values : k_need_values ≤ k) (hl : ∀ ds, g ds ≠ .bad → ds.length = 1) (hd : ∀ ds, g ds ≠ .bad → toV ((D_need_table g_need_houses g_need_names g_need_values) (fm0 2 ds)) = g ds) :
    FnOk P w K mg base (L2C.CX P w) (k + 1) f fd ["table"] (spV K mg g) :=
  fn_V (d := (D_need_table g_need_houses g_need_names g_need_values)) Fn sc_need_table hl hd (by
    intro cdv A outer s H E hcv hr
    have sc := sc_need_table
    have tk : L2C.Takes (cxX P w K mg base N_need_table "need_table" st_need_table f cdv A outer s H E) (wE E) := L2C.takes_of rfl rfl rfl rfl
    have hp : PassesOwn (model P w) (cxX P w K mg base N_need_table "need_table" st_need_table f cdv A outer s H E).A (cxX P w K mg base N_need_table "need_table" st_need_table f cdv A outer s H E).env (cxX P w K mg base N_need_table "need_table" st_need_table f cdv A outer s H E).xe := passes_of rfl
    exact (Pv.s_cons (Pv.s_expr (Pv.v_call C_need_houses tk hr (Pv.aVcons (Pv.v_and (Pv.v_isi T.n_isinstance (Pv.rV (Pv.pe_V 0 (pv 0))) rfl T.n_tuple (by decide +kernel)) (pe_one (Pv.v_cmp (Pv.c_eq hr) (Pv.rV (Pv.v_len T.n_len (Pv.aRcons (Pv.rV (Pv.pe_V 0 (pv 0))) Pv.aRnil))) (Pv.rV Pv.kInt)))) Pv.aVnil) h_need_houses)) (Pv.s_cons (Pv.s_expr (Pv.v_call C_need_names tk hr (Pv.aVcons (Pv.v_idx (Pv.rV (Pv.pe_V 0 (pv 0))) (Pv.rV Pv.kInt)) (Pv.aVcons Pv.kInt (Pv.aVcons (Pv.kGlInt rfl T.c_MOST_COLUMNS) Pv.aVnil))) h_need_names)) (Pv.s_cons (Pv.s_expr (Pv.v_call C_need_houses tk hr (Pv.aVcons (Pv.v_and (Pv.v_isi T.n_isinstance (Pv.rV (Pv.v_idx (Pv.rV (Pv.pe_V 0 (pv 0))) (Pv.rV Pv.kInt))) rfl T.n_tuple (by decide +kernel)) (pe_one (Pv.v_chain Pv.c_le Pv.c_le (Pv.rV Pv.kInt) (Pv.rV (Pv.v_len T.n_len (Pv.aRcons (Pv.rV (Pv.v_idx (Pv.rV (Pv.pe_V 0 (pv 0))) (Pv.rV Pv.kInt))) Pv.aRnil))) (Pv.rV (Pv.kGlInt rfl T.c_MOST_FOUR))))) Pv.aVnil) h_need_houses)) (Pv.s_one (Pv.s_for [1] hp rfl (Pv.i_tup (Pv.v_idx (Pv.rV (Pv.pe_V 0 (pv 0))) (Pv.rV Pv.kInt))) (pg_name (i := 1) sc.nd rfl (by first | exact Or.inl rfl | exact Or.inr rfl)) (Pv.tg_name 1) (Pv.s_one (Pv.s_expr (Pv.v_call C_need_values tk hr (Pv.aVcons (Pv.pe_V 1 (pv 1)) (Pv.aVcons (Pv.v_len T.n_len (Pv.aRcons (Pv.rV (Pv.v_idx (Pv.rV (Pv.pe_V 0 (pv 0))) (Pv.rV Pv.kInt))) Pv.aRnil)) (Pv.aVcons (Pv.v_len T.n_len (Pv.aRcons (Pv.rV (Pv.v_idx (Pv.rV (Pv.pe_V 0 (pv 0))) (Pv.rV Pv.kInt))) Pv.aRnil)) Pv.aVnil))) h_need_values)))))))))
abbrev st_need_try : Stmt := topS 55
abbrev N_need_try : List Str := ["one", "table"]
theorem sc_need_try : FnScope N_need_try ["one"] (defScope st_need_try) := ⟨rfl, rfl, rfl, by decide +kernel, rfl, by decide +kernel, by decide +kernel⟩
theorem b_need_try {f : Addr} {fd : FuncData} {k : Nat} {g : List PV → R PV} (T : Top w K mg) (Fn : Fun K "need_try" "need_try" st_need_try f fd) {k_need_houses : Nat} {g_need_houses : List PV → R PV} (C_need_houses : CaV P w K mg base k_need_houses "need_houses" g_need_houses) (h_need_houses : k_need_houses ≤ k) {k_is_name : Nat} {g_is_name : List PV → R PV} (C_is_name : CaV P w K mg base k_is_name "is_name" g_is_name) (h_is_name : k_is_name ≤ k) {k_need_once : Nat} {g_need_once : List PV → R PV} (C_need_once : CaV P w K mg base k_need_once "need_once" g_need_once) (h_need_once : k_need_once ≤ k) {k_need_table : Nat} {g_need_table : List PV → R PV} (C_need_table : CaV P w K mg base k_need_table "need_table" g_need_table) (h_need_table : k_need_table ≤ k) {k_need_steps : Nat} {g_need_steps : List PV → R PV} (C_need_steps : CaV P w K mg base k_need_steps "need_steps" g_need_steps) (h_need_steps : k_need_steps ≤ k) (hl : ∀ ds, g ds ≠ .bad → ds.length = 1) (hd : ∀ ds, g ds ≠ .bad → toV ((D_need_try g_need_houses g_is_name g_need_once g_need_table g_need_steps) (fm0 2 ds)) = g ds) :
    FnOk P w K mg base (L2C.CX P w) (k + 1) f fd ["one"] (spV K mg g) :=
  fn_V (d := (D_need_try g_need_houses g_is_name g_need_once g_need_table g_need_steps)) Fn sc_need_try hl hd (by
    intro cdv A outer s H E hcv hr
    have sc := sc_need_try
    have tk : L2C.Takes (cxX P w K mg base N_need_try "need_try" st_need_try f cdv A outer s H E) (wE E) := L2C.takes_of rfl rfl rfl rfl
    have hp : PassesOwn (model P w) (cxX P w K mg base N_need_try "need_try" st_need_try f cdv A outer s H E).A (cxX P w K mg base N_need_try "need_try" st_need_try f cdv A outer s H E).env (cxX P w K mg base N_need_try "need_try" st_need_try f cdv A outer s H E).xe := passes_of rfl
    exact (Pv.s_cons (Pv.s_expr (Pv.v_call C_need_houses tk hr (Pv.aVcons (Pv.v_and (Pv.v_cmp (Pv.c_eq hr) (Pv.rV (Pv.v_len T.n_len (Pv.aRcons (Pv.rV (Pv.pe_V 0 (pv 0))) Pv.aRnil))) (Pv.rV Pv.kInt)) (pe_one (Pv.v_call C_is_name tk hr (Pv.aVcons (Pv.v_idx (Pv.rV (Pv.pe_V 0 (pv 0))) (Pv.rV Pv.kInt)) Pv.aVnil) h_is_name))) Pv.aVnil) h_need_houses)) (Pv.s_cons (Pv.s_expr (Pv.v_call C_need_once tk hr (Pv.aVcons (Pv.v_idx (Pv.rV (Pv.pe_V 0 (pv 0))) (Pv.rV Pv.kInt)) (Pv.aVcons (Pv.kGlInt rfl T.c_MOST_FOUR) Pv.aVnil)) h_need_once)) (Pv.s_cons (Pv.s_expr (Pv.v_call C_need_houses tk hr (Pv.aVcons (Pv.v_and (Pv.v_isi T.n_isinstance (Pv.rV (Pv.v_idx (Pv.rV (Pv.pe_V 0 (pv 0))) (Pv.rV Pv.kInt))) rfl T.n_tuple (by decide +kernel)) (pe_one (Pv.v_cmp Pv.c_le (Pv.rV (Pv.v_len T.n_len (Pv.aRcons (Pv.rV (Pv.v_idx (Pv.rV (Pv.pe_V 0 (pv 0))) (Pv.rV Pv.kInt))) Pv.aRnil))) (Pv.rV (Pv.kGlInt rfl T.c_MOST_TABLES))))) Pv.aVnil) h_need_houses)) (Pv.s_cons (Pv.s_for [1] hp rfl (Pv.i_tup (Pv.v_idx (Pv.rV (Pv.pe_V 0 (pv 0))) (Pv.rV Pv.kInt))) (pg_name (i := 1) sc.nd rfl (by first | exact Or.inl rfl | exact Or.inr rfl)) (Pv.tg_name 1) (Pv.s_one (Pv.s_expr (Pv.v_call C_need_table tk hr (Pv.aVcons (Pv.pe_V 1 (pv 1)) Pv.aVnil) h_need_table)))) (Pv.s_cons (Pv.s_expr (Pv.v_call C_need_once tk hr (Pv.aVcons (Pv.v_idx (Pv.rV (Pv.pe_V 0 (pv 0))) (Pv.rV Pv.kInt)) (Pv.aVcons (Pv.kGlInt rfl T.c_MOST_FOUR) Pv.aVnil)) h_need_once)) (Pv.s_one (Pv.s_expr (Pv.v_call C_need_steps tk hr (Pv.aVcons (Pv.v_idx (Pv.rV (Pv.pe_V 0 (pv 0))) (Pv.rV Pv.kInt)) Pv.aVnil) h_need_steps)))))))))
abbrev st_need_group : Stmt := topS 56
abbrev N_need_group : List Str := ["group", "deep", "maker", "member"]
theorem sc_need_group : FnScope N_need_group ["group", "deep"] (defScope st_need_group) := ⟨rfl, rfl, rfl, by decide +kernel, rfl, by decide +kernel, by decide +kernel⟩
theorem b_need_group {f : Addr} {fd : FuncData} {k : Nat} {g : List PV → R PV} (T : Top w K mg) (Fn : Fun K "need_group" "need_group" st_need_group f fd) {k_need_houses : Nat} {g_need_houses : List PV → R PV} (C_need_houses : CaV P w K mg base k_need_houses "need_houses" g_need_houses) (h_need_houses : k_need_houses ≤ k) {k_is_name : Nat} {g_is_name : List PV → R PV} (C_is_name : CaV P w K mg base k_is_name "is_name" g_is_name) (h_is_name : k_is_name ≤ k) {k_need_once : Nat} {g_need_once : List PV → R PV} (C_need_once : CaV P w K mg base k_need_once "need_once" g_need_once) (h_need_once : k_need_once ≤ k) {k_need_maker : Nat} {g_need_maker : List PV → R PV} (C_need_maker : CaV P w K mg base k_need_maker "need_maker" g_need_maker) (h_need_maker : k_need_maker ≤ k) {k_need_member : Nat} {g_need_member : List PV → R PV} (C_need_member : CaV P w K mg base k_need_member "need_member" g_need_member) (h_need_member : k_need_member ≤ k) (hl : ∀ ds, g ds ≠ .bad → ds.length = 2) (hd : ∀ ds, g ds ≠ .bad → toV ((D_need_group g_need_houses g_is_name g_need_once g_need_maker g_need_member) (fm0 4 ds)) = g ds) :
    FnOk P w K mg base (L2C.CX P w) (k + 1) f fd ["group", "deep"] (spV K mg g) :=
  fn_V (d := (D_need_group g_need_houses g_is_name g_need_once g_need_maker g_need_member)) Fn sc_need_group hl hd (by
    intro cdv A outer s H E hcv hr
    have sc := sc_need_group
    have tk : L2C.Takes (cxX P w K mg base N_need_group "need_group" st_need_group f cdv A outer s H E) (wE E) := L2C.takes_of rfl rfl rfl rfl
    have hp : PassesOwn (model P w) (cxX P w K mg base N_need_group "need_group" st_need_group f cdv A outer s H E).A (cxX P w K mg base N_need_group "need_group" st_need_group f cdv A outer s H E).env (cxX P w K mg base N_need_group "need_group" st_need_group f cdv A outer s H E).xe := passes_of rfl
    exact (Pv.s_cons (Pv.s_expr (Pv.v_call C_need_houses tk hr (Pv.aVcons (Pv.v_and (Pv.v_cmp (Pv.c_eq hr) (Pv.rV (Pv.v_len T.n_len (Pv.aRcons (Pv.rV (Pv.pe_V 0 (pv 0))) Pv.aRnil))) (Pv.rV Pv.kInt)) (Pv.v_and (Pv.v_call C_is_name tk hr (Pv.aVcons (Pv.v_idx (Pv.rV (Pv.pe_V 0 (pv 0))) (Pv.rV Pv.kInt)) Pv.aVnil) h_is_name) (pe_one (Pv.v_cmp Pv.c_lt (Pv.rV (Pv.pe_V 1 (pv 1))) (Pv.rV (Pv.kGlInt rfl T.c_MOST_WITHIN_houses)))))) Pv.aVnil) h_need_houses)) (Pv.s_cons (Pv.s_expr (Pv.v_call C_need_once tk hr (Pv.aVcons (Pv.v_idx (Pv.rV (Pv.pe_V 0 (pv 0))) (Pv.rV Pv.kInt)) (Pv.aVcons (Pv.kGlInt rfl T.c_MOST_FOUR) Pv.aVnil)) h_need_once)) (Pv.s_cons (Pv.s_expr (Pv.v_call C_need_houses tk hr (Pv.aVcons (Pv.v_and (Pv.v_isi T.n_isinstance (Pv.rV (Pv.v_idx (Pv.rV (Pv.pe_V 0 (pv 0))) (Pv.rV Pv.kInt))) rfl T.n_tuple (by decide +kernel)) (pe_one (Pv.v_cmp Pv.c_le (Pv.rV (Pv.v_len T.n_len (Pv.aRcons (Pv.rV (Pv.v_idx (Pv.rV (Pv.pe_V 0 (pv 0))) (Pv.rV Pv.kInt))) Pv.aRnil))) (Pv.rV (Pv.kGlInt rfl T.c_MOST_MAKERS))))) Pv.aVnil) h_need_houses)) (Pv.s_cons (Pv.s_for [2] hp rfl (Pv.i_tup (Pv.v_idx (Pv.rV (Pv.pe_V 0 (pv 0))) (Pv.rV Pv.kInt))) (pg_name (i := 2) sc.nd rfl (by first | exact Or.inl rfl | exact Or.inr rfl)) (Pv.tg_name 2) (Pv.s_one (Pv.s_expr (Pv.v_call C_need_maker tk hr (Pv.aVcons (Pv.pe_V 2 (pv 2)) Pv.aVnil) h_need_maker)))) (Pv.s_cons (Pv.s_expr (Pv.v_call C_need_houses tk hr (Pv.aVcons (Pv.v_cmp (Pv.c_eq hr) (Pv.rV (Pv.v_lenSet T.n_len (Pv.e_set rfl T.n_set (Pv.aRcons (Pv.rF (Pv.f_lc [(Str.ofString "maker", 2)] rfl rfl sc.nd (Pv.iR (Pv.i_tup (Pv.v_idx (Pv.rV (Pv.pe_V 0 (pv 0))) (Pv.rV Pv.kInt)))) (blkOk_by (N := N_need_group) (sc := defScope st_need_group) (by decide +kernel)) (fun _ _ _ _ _ => (pg_name (i := 2) sc.nd rfl (by first | exact Or.inl rfl | exact Or.inr rfl))) (Pv.tg_name 2) (by decide) (fun _ _ _ _ _ => Pv.tests_nil) (fun _ _ _ _ _ => (Pv.v_idx (Pv.rV (Pv.pe_V 2 (pv 2))) (Pv.rV Pv.kInt))))) Pv.aRnil)))) (Pv.rV (Pv.v_len T.n_len (Pv.aRcons (Pv.rV (Pv.v_idx (Pv.rV (Pv.pe_V 0 (pv 0))) (Pv.rV Pv.kInt))) Pv.aRnil)))) Pv.aVnil) h_need_houses)) (Pv.s_cons (Pv.s_expr (Pv.v_call C_need_houses tk hr (Pv.aVcons (Pv.v_and (Pv.v_isi T.n_isinstance (Pv.rV (Pv.v_idx (Pv.rV (Pv.pe_V 0 (pv 0))) (Pv.rV Pv.kInt))) rfl T.n_tuple (by decide +kernel)) (pe_one (Pv.v_cmp Pv.c_le (Pv.rV (Pv.v_len T.n_len (Pv.aRcons (Pv.rV (Pv.v_idx (Pv.rV (Pv.pe_V 0 (pv 0))) (Pv.rV Pv.kInt))) Pv.aRnil))) (Pv.rV (Pv.kGlInt rfl T.c_MOST_MEMBERS))))) Pv.aVnil) h_need_houses)) (Pv.s_cons (Pv.s_for [3] hp rfl (Pv.i_tup (Pv.v_idx (Pv.rV (Pv.pe_V 0 (pv 0))) (Pv.rV Pv.kInt))) (pg_name (i := 3) sc.nd rfl (by first | exact Or.inl rfl | exact Or.inr rfl)) (Pv.tg_name 3) (Pv.s_one (Pv.s_expr (Pv.v_call C_need_member tk hr (Pv.aVcons (Pv.pe_V 3 (pv 3)) (Pv.aVcons (Pv.v_add (Pv.rV (Pv.pe_V 1 (pv 1))) (Pv.rV Pv.kInt)) Pv.aVnil)) h_need_member)))) (Pv.s_one (Pv.s_expr (Pv.v_call C_need_houses tk hr (Pv.aVcons (Pv.v_cmp (Pv.c_eq hr) (Pv.rV (Pv.v_lenSet T.n_len (Pv.e_set rfl T.n_set (Pv.aRcons (Pv.rF (Pv.f_lc [(Str.ofString "member", 3)] rfl rfl sc.nd (Pv.iR (Pv.i_tup (Pv.v_idx (Pv.rV (Pv.pe_V 0 (pv 0))) (Pv.rV Pv.kInt)))) (blkOk_by (N := N_need_group) (sc := defScope st_need_group) (by decide +kernel)) (fun _ _ _ _ _ => (pg_name (i := 3) sc.nd rfl (by first | exact Or.inl rfl | exact Or.inr rfl))) (Pv.tg_name 3) (by decide) (fun _ _ _ _ _ => Pv.tests_nil) (fun _ _ _ _ _ => (Pv.v_idx (Pv.rV (Pv.pe_V 3 (pv 3))) (Pv.rV Pv.kInt))))) Pv.aRnil)))) (Pv.rV (Pv.v_len T.n_len (Pv.aRcons (Pv.rV (Pv.v_idx (Pv.rV (Pv.pe_V 0 (pv 0))) (Pv.rV Pv.kInt))) Pv.aRnil)))) Pv.aVnil) h_need_houses)))))))))))
abbrev st_need_member : Stmt := topS 57
abbrev N_need_member : List Str := ["member", "deep"]
theorem sc_need_member : FnScope N_need_member ["member", "deep"] (defScope st_need_member) := ⟨rfl, rfl, rfl, by decide +kernel, rfl, by decide +kernel, by decide +kernel⟩
theorem b_need_member {f : Addr} {fd : FuncData} {k : Nat} {g : List PV → R PV} (T : Top w K mg) (Fn : Fun K "need_member" "need_member" st_need_member f fd) {k_need_houses : Nat} {g_need_houses : List PV → R PV} (C_need_houses : CaV P w K mg base k_need_houses "need_houses" g_need_houses) (h_need_houses : k_need_houses ≤ k) {k_is_text : Nat} {g_is_text : List PV → R PV} (C_is_text : CaV P w K mg base k_is_text "is_text" g_is_text) (h_is_text : k_is_text ≤ k) {k_need_group : Nat} {g_need_group : List PV → R PV} (C_need_group : CaV P w K mg base k_need_group "need_group" g_need_group) (h_need_group : k_need_group ≤ k) {k_need_try : Nat} {g_need_try : List PV → R PV} (C_need_try : CaV P w K mg base k_need_try "need_try" g_need_try) (h_need_try : k_need_try ≤ k) (hl : ∀ ds, g ds ≠ .bad → ds.length = 2) (hd : ∀ ds, g ds ≠ .bad → toV ((D_need_member g_need_houses g_is_text g_need_group g_need_try) (fm0 2 ds)) = g ds) :
    FnOk P w K mg base (L2C.CX P w) (k + 1) f fd ["member", "deep"] (spV K mg g) :=
  fn_V (d := (D_need_member g_need_houses g_is_text g_need_group g_need_try)) Fn sc_need_member hl hd (by
    intro cdv A outer s H E hcv hr
    have sc := sc_need_member
    have tk : L2C.Takes (cxX P w K mg base N_need_member "need_member" st_need_member f cdv A outer s H E) (wE E) := L2C.takes_of rfl rfl rfl rfl
    have hp : PassesOwn (model P w) (cxX P w K mg base N_need_member "need_member" st_need_member f cdv A outer s H E).A (cxX P w K mg base N_need_member "need_member" st_need_member f cdv A outer s H E).env (cxX P w K mg base N_need_member "need_member" st_need_member f cdv A outer s H E).xe := passes_of rfl
    exact (Pv.s_cons (Pv.s_expr (Pv.v_call C_need_houses tk hr (Pv.aVcons (Pv.v_and (Pv.v_isi T.n_isinstance (Pv.rV (Pv.pe_V 0 (pv 0))) rfl T.n_tuple (by decide +kernel)) (Pv.v_and (Pv.v_cmp Pv.c_gt (Pv.rV (Pv.v_len T.n_len (Pv.aRcons (Pv.rV (Pv.pe_V 0 (pv 0))) Pv.aRnil))) (Pv.rV Pv.kInt)) (Pv.v_and (Pv.v_call C_is_text tk hr (Pv.aVcons (Pv.v_idx (Pv.rV (Pv.pe_V 0 (pv 0))) (Pv.rV Pv.kInt)) Pv.aVnil) h_is_text) (pe_one (Pv.v_cmp (Pv.c_in hr) (Pv.rV (Pv.v_idx (Pv.rV (Pv.pe_V 0 (pv 0))) (Pv.rV Pv.kInt))) (Pv.rV (Pv.v_tup (Pv.aVcons Pv.kStr (Pv.aVcons Pv.kStr Pv.aVnil))))))))) Pv.aVnil) h_need_houses)) (Pv.s_one (Pv.s_if (Pv.t_cmp (Pv.c_eq hr) (Pv.rV (Pv.v_idx (Pv.rV (Pv.pe_V 0 (pv 0))) (Pv.rV Pv.kInt))) (Pv.rV Pv.kStr)) (Pv.s_one (Pv.s_expr (Pv.v_call C_need_group tk hr (Pv.aVcons (Pv.pe_V 0 (pv 0)) (Pv.aVcons (Pv.pe_V 1 (pv 1)) Pv.aVnil)) h_need_group))) (Pv.s_one (Pv.s_expr (Pv.v_call C_need_try tk hr (Pv.aVcons (Pv.pe_V 0 (pv 0)) Pv.aVnil) h_need_try)))))))
abbrev st_need_house : Stmt := topS 58
abbrev N_need_house : List Str := ["house"]
theorem sc_need_house : FnScope N_need_house ["house"] (defScope st_need_house) := ⟨rfl, rfl, rfl, by decide +kernel, rfl, by decide +kernel, by decide +kernel⟩
theorem b_need_house {f : Addr} {fd : FuncData} {k : Nat} {g : List PV → R PV} (T : Top w K mg) (Fn : Fun K "need_house" "need_house" st_need_house f fd) {k_need_houses : Nat} {g_need_houses : List PV → R PV} (C_need_houses : CaV P w K mg base k_need_houses "need_houses" g_need_houses) (h_need_houses : k_need_houses ≤ k) {k_is_text : Nat} {g_is_text : List PV → R PV} (C_is_text : CaV P w K mg base k_is_text "is_text" g_is_text) (h_is_text : k_is_text ≤ k) {k_need_group : Nat} {g_need_group : List PV → R PV} (C_need_group : CaV P w K mg base k_need_group "need_group" g_need_group) (h_need_group : k_need_group ≤ k) (hl : ∀ ds, g ds ≠ .bad → ds.length = 1) (hd : ∀ ds, g ds ≠ .bad → toV ((D_need_house g_need_houses g_is_text g_need_group) (fm0 1 ds)) = g ds) :
    FnOk P w K mg base (L2C.CX P w) (k + 1) f fd ["house"] (spV K mg g) :=
  fn_V (d := (D_need_house g_need_houses g_is_text g_need_group)) Fn sc_need_house hl hd (by
    intro cdv A outer s H E hcv hr
    have sc := sc_need_house
    have tk : L2C.Takes (cxX P w K mg base N_need_house "need_house" st_need_house f cdv A outer s H E) (wE E) := L2C.takes_of rfl rfl rfl rfl
    have hp : PassesOwn (model P w) (cxX P w K mg base N_need_house "need_house" st_need_house f cdv A outer s H E).A (cxX P w K mg base N_need_house "need_house" st_need_house f cdv A outer s H E).env (cxX P w K mg base N_need_house "need_house" st_need_house f cdv A outer s H E).xe := passes_of rfl
    exact (Pv.s_cons (Pv.s_expr (Pv.v_call C_need_houses tk hr (Pv.aVcons (Pv.v_and (Pv.v_isi T.n_isinstance (Pv.rV (Pv.pe_V 0 (pv 0))) rfl T.n_tuple (by decide +kernel)) (Pv.v_and (Pv.v_cmp (Pv.c_eq hr) (Pv.rV (Pv.v_len T.n_len (Pv.aRcons (Pv.rV (Pv.pe_V 0 (pv 0))) Pv.aRnil))) (Pv.rV Pv.kInt)) (Pv.v_and (Pv.v_call C_is_text tk hr (Pv.aVcons (Pv.v_idx (Pv.rV (Pv.pe_V 0 (pv 0))) (Pv.rV Pv.kInt)) Pv.aVnil) h_is_text) (pe_one (Pv.v_cmp (Pv.c_eq hr) (Pv.rV (Pv.v_idx (Pv.rV (Pv.pe_V 0 (pv 0))) (Pv.rV Pv.kInt))) (Pv.rV Pv.kStr)))))) Pv.aVnil) h_need_houses)) (Pv.s_one (Pv.s_expr (Pv.v_call C_need_group tk hr (Pv.aVcons (Pv.pe_V 0 (pv 0)) (Pv.aVcons Pv.kInt Pv.aVnil)) h_need_group)))))
abbrev st_wrong : Stmt := topS 75
abbrev N_wrong : List Str := ["house", "found", "spot", "maker", "made", "word"]
theorem sc_wrong : FnScope N_wrong ["house"] (defScope st_wrong) := ⟨rfl, rfl, rfl, by decide +kernel, rfl, by decide +kernel, by decide +kernel⟩
theorem b_wrong {f : Addr} {fd : FuncData} {k : Nat} {g : List PV → R PV} (T : Top w K mg) (Fn : Fun K "wrong" "wrong" st_wrong f fd) {k_need_house : Nat} {g_need_house : List PV → R PV} (C_need_house : CaV P w K mg base k_need_house "need_house" g_need_house) (h_need_house : k_need_house ≤ k) (hl : ∀ ds, g ds ≠ .bad → ds.length = 1) (hd : ∀ ds, g ds ≠ .bad → toV ((D_wrong g_need_house) (fm0 6 ds)) = g ds) :
    FnOk P w K mg base (L2C.CX P w) (k + 1) f fd ["house"] (spV K mg g) :=
  fn_V (d := (D_wrong g_need_house)) Fn sc_wrong hl hd (by
    intro cdv A outer s H E hcv hr
    have sc := sc_wrong
    have tk : L2C.Takes (cxX P w K mg base N_wrong "wrong" st_wrong f cdv A outer s H E) (wE E) := L2C.takes_of rfl rfl rfl rfl
    have hp : PassesOwn (model P w) (cxX P w K mg base N_wrong "wrong" st_wrong f cdv A outer s H E).A (cxX P w K mg base N_wrong "wrong" st_wrong f cdv A outer s H E).env (cxX P w K mg base N_wrong "wrong" st_wrong f cdv A outer s H E).xe := passes_of rfl
    exact (Pv.s_cons (Pv.s_expr (Pv.v_call C_need_house tk hr (Pv.aVcons (Pv.pe_V 0 (pv 0)) Pv.aVnil) h_need_house)) (Pv.s_cons Pv.s_never (Pv.s_cons Pv.s_never (Pv.s_one Pv.s_never)))))
abbrev st__law_cell : Stmt := topS 77
abbrev N__law_cell : List Str := ["script", "k"]
theorem sc__law_cell : FnScope N__law_cell ["script", "k"] (defScope st__law_cell) := ⟨rfl, rfl, rfl, by decide +kernel, rfl, by decide +kernel, by decide +kernel⟩
theorem b__law_cell {f : Addr} {fd : FuncData} {k : Nat} {g : List PV → R PV} (T : Top w K mg) (Fn : Fun K "_law_cell" "_law_cell" st__law_cell f fd) (hl : ∀ ds, g ds ≠ .bad → ds.length = 2) (hd : ∀ ds, g ds ≠ .bad → toV (D__law_cell (fm0 2 ds)) = g ds) :
    FnOk P w K mg base (L2C.CX P w) (k + 1) f fd ["script", "k"] (spV K mg g) :=
  fn_V (d := D__law_cell) Fn sc__law_cell hl hd (by
    intro cdv A outer s H E hcv hr
    have sc := sc__law_cell
    have tk : L2C.Takes (cxX P w K mg base N__law_cell "_law_cell" st__law_cell f cdv A outer s H E) (wE E) := L2C.takes_of rfl rfl rfl rfl
    have hp : PassesOwn (model P w) (cxX P w K mg base N__law_cell "_law_cell" st__law_cell f cdv A outer s H E).A (cxX P w K mg base N__law_cell "_law_cell" st__law_cell f cdv A outer s H E).env (cxX P w K mg base N__law_cell "_law_cell" st__law_cell f cdv A outer s H E).xe := passes_of rfl
    exact (Pv.s_cons (Pv.s_if (Pv.t_cmp (Pv.c_eq hr) (Pv.rV (Pv.pe_V 0 (pv 0))) (Pv.rF (Pv.f_lst Pv.aVnil))) (Pv.s_one (Pv.s_ret (Pv.v_mul (Pv.rV (Pv.pe_V 1 (pv 1))) (Pv.rV Pv.kInt)))) Pv.s_nil) (Pv.s_one (Pv.s_ret (Pv.v_add (Pv.rV (Pv.v_idx (Pv.rV (Pv.pe_V 0 (pv 0))) (Pv.rV (Pv.v_mod (Pv.rV (Pv.pe_V 1 (pv 1))) (Pv.rV (Pv.v_len T.n_len (Pv.aRcons (Pv.rV (Pv.pe_V 0 (pv 0))) Pv.aRnil))))))) (Pv.rV (Pv.v_mul (Pv.rV (Pv.v_div (Pv.rV (Pv.pe_V 1 (pv 1))) (Pv.rV (Pv.v_len T.n_len (Pv.aRcons (Pv.rV (Pv.pe_V 0 (pv 0))) Pv.aRnil))))) (Pv.rV Pv.kInt))))))))
abbrev st__law_drawn : Stmt := topS 78
abbrev N__law_drawn : List Str := ["cell", "k", "more"]
theorem sc__law_drawn : FnScope N__law_drawn ["cell", "k"] (defScope st__law_drawn) := ⟨rfl, rfl, rfl, by decide +kernel, rfl, by decide +kernel, by decide +kernel⟩
theorem b__law_drawn {f : Addr} {fd : FuncData} {k : Nat} {g : List PV → R PV} (T : Top w K mg) (Fn : Fun K "_law_drawn" "_law_drawn" st__law_drawn f fd) (hl : ∀ ds, g ds ≠ .bad → ds.length = 2) (hd : ∀ ds, g ds ≠ .bad → toV (D__law_drawn (fm0 3 ds)) = g ds) :
    FnOk P w K mg base (L2C.CX P w) (k + 1) f fd ["cell", "k"] (spV K mg g) :=
  fn_V (d := D__law_drawn) Fn sc__law_drawn hl hd (by
    intro cdv A outer s H E hcv hr
    have sc := sc__law_drawn
    have tk : L2C.Takes (cxX P w K mg base N__law_drawn "_law_drawn" st__law_drawn f cdv A outer s H E) (wE E) := L2C.takes_of rfl rfl rfl rfl
    have hp : PassesOwn (model P w) (cxX P w K mg base N__law_drawn "_law_drawn" st__law_drawn f cdv A outer s H E).A (cxX P w K mg base N__law_drawn "_law_drawn" st__law_drawn f cdv A outer s H E).env (cxX P w K mg base N__law_drawn "_law_drawn" st__law_drawn f cdv A outer s H E).xe := passes_of rfl
    exact (Pv.s_cons (Pv.s_set (i := 2) sc.nd (Pv.v_mod (Pv.rV (Pv.v_add (Pv.rV (Pv.v_mul (Pv.rV (Pv.pe_V 0 (pv 0))) (Pv.rV Pv.kInt))) (Pv.rV (Pv.v_mul (Pv.rV (Pv.v_add (Pv.rV (Pv.pe_V 1 (pv 1))) (Pv.rV Pv.kInt))) (Pv.rV Pv.kInt))))) (Pv.rV Pv.kInt))) (Pv.s_cons (Pv.s_set (i := 2) sc.nd (Pv.v_mod (Pv.rV (Pv.v_mul (Pv.rV (Pv.pe_V 2 (pv 2))) (Pv.rV (Pv.pe_V 2 (pv 2))))) (Pv.rV Pv.kInt))) (Pv.s_cons (Pv.s_set (i := 2) sc.nd (Pv.v_mul (Pv.rV (Pv.v_mul (Pv.rV (Pv.v_add (Pv.rV (Pv.v_mod (Pv.rV (Pv.pe_V 2 (pv 2))) (Pv.rV Pv.kInt))) (Pv.rV Pv.kInt))) (Pv.rV (Pv.v_add (Pv.rV (Pv.v_div (Pv.rV (Pv.pe_V 2 (pv 2))) (Pv.rV Pv.kInt))) (Pv.rV Pv.kInt))))) (Pv.rV (Pv.pe_V 2 (pv 2))))) (Pv.s_one (Pv.s_ret (Pv.v_mod (Pv.rV (Pv.pe_V 2 (pv 2))) (Pv.rV Pv.kInt))))))))
abbrev st__law_names : Stmt := topS 81
abbrev N__law_names : List Str := []
theorem sc__law_names : FnScope N__law_names [] (defScope st__law_names) := ⟨rfl, rfl, rfl, by decide +kernel, rfl, by decide +kernel, by decide +kernel⟩
theorem b__law_names {f : Addr} {fd : FuncData} {k : Nat} {g : List PV → R (List PV)} (T : Top w K mg) (Fn : Fun K "_law_names" "_law_names" st__law_names f fd) (hl : ∀ ds, g ds ≠ .bad → ds.length = 0) (hd : ∀ ds, g ds ≠ .bad → toF (D__law_names (fm0 0 ds)) = g ds) :
    FnOk P w K mg base (L2C.CX P w) (k + 1) f fd [] (spF K mg g) :=
  fn_F (d := D__law_names) Fn sc__law_names hl hd (by
    intro cdv A outer s H E hcv hr
    have sc := sc__law_names
    have tk : L2C.Takes (cxX P w K mg base N__law_names "_law_names" st__law_names f cdv A outer s H E) (wE E) := L2C.takes_of rfl rfl rfl rfl
    have hp : PassesOwn (model P w) (cxX P w K mg base N__law_names "_law_names" st__law_names f cdv A outer s H E).A (cxX P w K mg base N__law_names "_law_names" st__law_names f cdv A outer s H E).env (cxX P w K mg base N__law_names "_law_names" st__law_names f cdv A outer s H E).xe := passes_of rfl
    exact (Pv.s_one (Pv.s_retF (Pv.f_lst (Pv.aVcons Pv.kStr (Pv.aVcons Pv.kStr (Pv.aVcons Pv.kStr (Pv.aVcons Pv.kStr Pv.aVnil))))))))
abbrev st__law_up : Stmt := topS 82
abbrev N__law_up : List Str := ["more", "wants", "some", "body", "is_low", "term", "name"]
theorem sc__law_up : FnScope N__law_up ["more", "wants"] (defScope st__law_up) := ⟨rfl, rfl, rfl, by decide +kernel, rfl, by decide +kernel, by decide +kernel⟩
theorem b__law_up {f : Addr} {fd : FuncData} {k : Nat} {g : List PV → R PV} (T : Top w K mg) (Fn : Fun K "_law_up" "_law_up" st__law_up f fd) (hl : ∀ ds, g ds ≠ .bad → ds.length = 2) (hd : ∀ ds, g ds ≠ .bad → toV (D__law_up (fm0 7 ds)) = g ds) :
    FnOk P w K mg base (L2C.CX P w) (k + 1) f fd ["more", "wants"] (spV K mg g) :=
  fn_V (d := D__law_up) Fn sc__law_up hl hd (by
    intro cdv A outer s H E hcv hr
    have sc := sc__law_up
    have tk : L2C.Takes (cxX P w K mg base N__law_up "_law_up" st__law_up f cdv A outer s H E) (wE E) := L2C.takes_of rfl rfl rfl rfl
    have hp : PassesOwn (model P w) (cxX P w K mg base N__law_up "_law_up" st__law_up f cdv A outer s H E).A (cxX P w K mg base N__law_up "_law_up" st__law_up f cdv A outer s H E).env (cxX P w K mg base N__law_up "_law_up" st__law_up f cdv A outer s H E).xe := passes_of rfl
    exact (Pv.s_cons (Pv.s_set (i := 2) sc.nd (Pv.vF (Pv.f_lst (Pv.aVcons (Pv.v_tup Pv.aVnil) (Pv.aVcons (Pv.v_tup (Pv.aVcons (Pv.v_tup (Pv.aVcons Pv.kStr (Pv.aVcons (Pv.v_tup (Pv.aVcons Pv.kStr (Pv.aVcons Pv.kStr Pv.aVnil))) Pv.aVnil))) Pv.aVnil)) (Pv.aVcons (Pv.v_tup (Pv.aVcons (Pv.v_tup (Pv.aVcons Pv.kStr (Pv.aVcons Pv.kStr (Pv.aVcons (Pv.v_tup (Pv.aVcons Pv.kStr (Pv.aVcons (Pv.v_mod (Pv.rV (Pv.pe_V 0 (pv 0))) (Pv.rV Pv.kInt)) Pv.aVnil))) Pv.aVnil)))) Pv.aVnil)) (Pv.aVcons (Pv.v_tup (Pv.aVcons (Pv.v_tup (Pv.aVcons Pv.kStr (Pv.aVcons (Pv.v_tup (Pv.aVcons Pv.kStr (Pv.aVcons Pv.kStr Pv.aVnil))) Pv.aVnil))) Pv.aVnil)) Pv.aVnil))))))) (Pv.s_cons (Pv.s_set (i := 3) sc.nd (Pv.v_idx (Pv.rV (Pv.pe_V 2 (pv 2))) (Pv.rV (Pv.v_mod (Pv.rV (Pv.v_div (Pv.rV (Pv.pe_V 0 (pv 0))) (Pv.rV Pv.kInt))) (Pv.rV Pv.kInt))))) (Pv.s_cons (Pv.s_if (Pv.t_cmp (Pv.c_eq hr) (Pv.rV (Pv.v_mod (Pv.rV (Pv.v_div (Pv.rV (Pv.pe_V 0 (pv 0))) (Pv.rV Pv.kInt))) (Pv.rV Pv.kInt))) (Pv.rV Pv.kInt)) (Pv.s_cons (Pv.s_set (i := 4) sc.nd (Pv.v_tup (Pv.aVcons Pv.kStr (Pv.aVcons (Pv.v_tup (Pv.aVcons Pv.kStr (Pv.aVcons Pv.kStr Pv.aVnil))) (Pv.aVcons (Pv.v_tup (Pv.aVcons Pv.kStr (Pv.aVcons (Pv.v_mod (Pv.rV (Pv.v_div (Pv.rV (Pv.pe_V 0 (pv 0))) (Pv.rV Pv.kInt))) (Pv.rV Pv.kInt)) Pv.aVnil))) Pv.aVnil))))) (Pv.s_one (Pv.s_set (i := 3) sc.nd (Pv.v_add (Pv.rV (Pv.pe_V 3 (pv 3))) (Pv.rV (Pv.v_tup (Pv.aVcons (Pv.v_tup (Pv.aVcons Pv.kStr (Pv.aVcons (Pv.pe_V 4 (pv 4)) (Pv.aVcons (Pv.v_tup (Pv.aVcons (Pv.v_tup (Pv.aVcons Pv.kStr (Pv.aVcons (Pv.v_tup (Pv.aVcons Pv.kStr (Pv.aVcons Pv.kStr Pv.aVnil))) Pv.aVnil))) Pv.aVnil)) (Pv.aVcons (Pv.v_tup Pv.aVnil) Pv.aVnil))))) Pv.aVnil))))))) Pv.s_nil) (Pv.s_cons (Pv.s_if (Pv.t_cmp (Pv.c_eq hr) (Pv.rV (Pv.v_mod (Pv.rV (Pv.v_div (Pv.rV (Pv.pe_V 0 (pv 0))) (Pv.rV Pv.kInt))) (Pv.rV Pv.kInt))) (Pv.rV Pv.kInt)) (Pv.s_one (Pv.s_set (i := 3) sc.nd (Pv.v_add (Pv.rV (Pv.pe_V 3 (pv 3))) (Pv.rV (Pv.v_tup (Pv.aVcons (Pv.v_tup (Pv.aVcons Pv.kStr (Pv.aVcons (Pv.v_tup (Pv.aVcons Pv.kStr (Pv.aVcons Pv.kStr Pv.aVnil))) Pv.aVnil))) Pv.aVnil)))))) Pv.s_nil) (Pv.s_cons (Pv.s_set (i := 5) sc.nd (Pv.v_tup (Pv.aVcons Pv.kStr (Pv.aVcons (Pv.v_tup (Pv.aVcons Pv.kStr (Pv.aVcons (Pv.v_mod (Pv.rV (Pv.v_div (Pv.rV (Pv.pe_V 0 (pv 0))) (Pv.rV (Pv.v_pow (Pv.rV Pv.kInt) (Pv.rV Pv.kInt))))) (Pv.rV Pv.kInt)) Pv.aVnil))) (Pv.aVcons (Pv.v_tup (Pv.aVcons Pv.kStr (Pv.aVcons Pv.kStr Pv.aVnil))) Pv.aVnil))))) (Pv.s_cons (Pv.s_for [6] hp rfl (Pv.i_tup (Pv.pe_V 1 (pv 1))) (pg_name (i := 6) sc.nd rfl (by first | exact Or.inl rfl | exact Or.inr rfl)) (Pv.tg_name 6) (Pv.s_one (Pv.s_set (i := 5) sc.nd (Pv.v_tup (Pv.aVcons Pv.kStr (Pv.aVcons (Pv.pe_V 5 (pv 5)) (Pv.aVcons (Pv.v_tup (Pv.aVcons Pv.kStr (Pv.aVcons (Pv.pe_V 6 (pv 6)) Pv.aVnil))) Pv.aVnil))))))) (Pv.s_one (Pv.s_ret (Pv.v_tup (Pv.aVcons (Pv.pe_V 3 (pv 3)) (Pv.aVcons (Pv.pe_V 5 (pv 5)) Pv.aVnil))))))))))))
abbrev st__law_maker : Stmt := topS 83
abbrev N__law_maker : List Str := ["more", "name", "scope", "wants", "rows", "body", "term", "down", "j"]
theorem sc__law_maker : FnScope N__law_maker ["more", "name", "scope", "wants"] (defScope st__law_maker) := ⟨rfl, rfl, rfl, by decide +kernel, rfl, by decide +kernel, by decide +kernel⟩
theorem b__law_maker {f : Addr} {fd : FuncData} {k : Nat} {g : List PV → R PV} (T : Top w K mg) (Fn : Fun K "_law_maker" "_law_maker" st__law_maker f fd) {k__law_drawn : Nat} {g__law_drawn : List PV → R PV} (C__law_drawn : CaV P w K mg base k__law_drawn "_law_drawn" g__law_drawn) (h__law_drawn : k__law_drawn ≤ k) {k__law_up : Nat} {g__law_up : List PV → R PV} (C__law_up : CaV P w K mg base k__law_up "_law_up" g__law_up) (h__law_up : k__law_up ≤ k) (hl : ∀ ds, g ds ≠ .bad → ds.length = 4) (hd : ∀ ds, g ds ≠ .bad → toV ((D__law_maker g__law_drawn g__law_up) (fm0 9 ds)) = g ds) :
    FnOk P w K mg base (L2C.CX P w) (k + 1) f fd ["more", "name", "scope", "wants"] (spV K mg g) :=
  fn_V (d := (D__law_maker g__law_drawn g__law_up)) Fn sc__law_maker hl hd (by
    intro cdv A outer s H E hcv hr
    have sc := sc__law_maker
    have tk : L2C.Takes (cxX P w K mg base N__law_maker "_law_maker" st__law_maker f cdv A outer s H E) (wE E) := L2C.takes_of rfl rfl rfl rfl
    have hp : PassesOwn (model P w) (cxX P w K mg base N__law_maker "_law_maker" st__law_maker f cdv A outer s H E).A (cxX P w K mg base N__law_maker "_law_maker" st__law_maker f cdv A outer s H E).env (cxX P w K mg base N__law_maker "_law_maker" st__law_maker f cdv A outer s H E).xe := passes_of rfl
    exact (Pv.s_cons (Pv.s_set (i := 4) sc.nd (Pv.v_tuple T.n_tuple (Pv.aRcons (Pv.rF (Pv.f_lc [(Str.ofString "j", 8)] rfl rfl sc.nd (Pv.iR (Pv.i_rg1 T.n_range (Pv.aRcons (Pv.rV (Pv.v_idx (Pv.rF (Pv.f_lst (Pv.aVcons Pv.kInt (Pv.aVcons Pv.kInt (Pv.aVcons Pv.kInt (Pv.aVcons Pv.kInt (Pv.aVcons Pv.kInt Pv.aVnil))))))) (Pv.rV (Pv.v_mod (Pv.rV (Pv.pe_V 0 (pv 0))) (Pv.rV Pv.kInt))))) Pv.aRnil))) (blkOk_by (N := N__law_maker) (sc := defScope st__law_maker) (by decide +kernel)) (fun _ _ _ _ _ => (pg_name (i := 8) sc.nd rfl (by first | exact Or.inl rfl | exact Or.inr rfl))) (Pv.tg_name 8) (by decide) (fun _ _ _ _ _ => Pv.tests_nil) (fun _ _ _ _ _ => (Pv.v_mod (Pv.rV (Pv.v_call C__law_drawn Pv.takes0 hr (Pv.aVcons (Pv.pe_V 0 (pv 0)) (Pv.aVcons (Pv.pe_V 8 (pv 8)) Pv.aVnil)) h__law_drawn)) (Pv.rV Pv.kInt))))) Pv.aRnil))) (Pv.s_cons (Pv.s_setT [5, 6] (Pv.v_call C__law_up tk hr (Pv.aVcons (Pv.v_call C__law_drawn tk hr (Pv.aVcons (Pv.pe_V 0 (pv 0)) (Pv.aVcons Pv.kInt Pv.aVnil)) h__law_drawn) (Pv.aVcons (Pv.pe_V 3 (pv 3)) Pv.aVnil)) h__law_up) (pg_tup rfl (pgs_cons (pg_name (i := 5) sc.nd rfl (by first | exact Or.inl rfl | exact Or.inr rfl)) (pgs_cons (pg_name (i := 6) sc.nd rfl (by first | exact Or.inl rfl | exact Or.inr rfl)) pgs_nil)))) (Pv.s_cons (Pv.s_set (i := 7) sc.nd (Pv.v_idx (Pv.rF (Pv.f_lst (Pv.aVcons (Pv.v_tup Pv.aVnil) (Pv.aVcons (Pv.v_tup (Pv.aVcons (Pv.v_tup (Pv.aVcons Pv.kStr (Pv.aVcons (Pv.v_tup (Pv.aVcons Pv.kStr (Pv.aVcons (Pv.pe_V 1 (pv 1)) Pv.aVnil))) Pv.aVnil))) Pv.aVnil)) (Pv.aVcons (Pv.v_tup (Pv.aVcons (Pv.v_tup (Pv.aVcons Pv.kStr (Pv.aVcons (Pv.v_tup (Pv.aVcons Pv.kStr (Pv.aVcons Pv.kStr Pv.aVnil))) Pv.aVnil))) Pv.aVnil)) Pv.aVnil))))) (Pv.rV (Pv.v_mod (Pv.rV (Pv.v_div (Pv.rV (Pv.pe_V 0 (pv 0))) (Pv.rV Pv.kInt))) (Pv.rV Pv.kInt))))) (Pv.s_cons (Pv.s_if (Pv.t_cmp (Pv.c_eq hr) (Pv.rV (Pv.v_mod (Pv.rV (Pv.v_div (Pv.rV (Pv.pe_V 0 (pv 0))) (Pv.rV Pv.kInt))) (Pv.rV Pv.kInt))) (Pv.rV Pv.kInt)) (Pv.s_one (Pv.s_set (i := 7) sc.nd (Pv.v_add (Pv.rV (Pv.pe_V 7 (pv 7))) (Pv.rV (Pv.v_tup (Pv.aVcons (Pv.v_tup (Pv.aVcons Pv.kStr (Pv.aVcons (Pv.v_tup (Pv.aVcons Pv.kStr (Pv.aVcons (Pv.v_tup (Pv.aVcons Pv.kStr (Pv.aVcons Pv.kInt Pv.aVnil))) (Pv.aVcons (Pv.v_tup (Pv.aVcons Pv.kStr (Pv.aVcons Pv.kStr Pv.aVnil))) Pv.aVnil)))) Pv.aVnil))) Pv.aVnil)))))) Pv.s_nil) (Pv.s_one (Pv.s_ret (Pv.v_tup (Pv.aVcons Pv.kStr (Pv.aVcons (Pv.pe_V 1 (pv 1)) (Pv.aVcons (Pv.v_idx (Pv.rF (Pv.f_lst (Pv.aVcons Pv.kStr (Pv.aVcons Pv.kStr (Pv.aVcons Pv.kStr Pv.aVnil))))) (Pv.rV (Pv.pe_V 2 (pv 2)))) (Pv.aVcons (Pv.pe_V 3 (pv 3)) (Pv.aVcons (Pv.pe_V 4 (pv 4)) (Pv.aVcons (Pv.pe_V 5 (pv 5)) (Pv.aVcons (Pv.pe_V 6 (pv 6)) (Pv.aVcons (Pv.pe_V 7 (pv 7)) Pv.aVnil))))))))))))))))
abbrev st__law_makers : Stmt := topS 84
abbrev N__law_makers : List Str := ["more", "known", "own", "j", "name", "outer", "found", "pair", "here", "some", "options", "wants", "n", "scope", "one", "wide"]
theorem sc__law_makers : FnScope N__law_makers ["more", "known"] (defScope st__law_makers) := ⟨rfl, rfl, rfl, by decide +kernel, rfl, by decide +kernel, by decide +kernel⟩
theorem b__law_makers {f : Addr} {fd : FuncData} {k : Nat} {g : List PV → R PV} (T : Top w K mg) (Fn : Fun K "_law_makers" "_law_makers" st__law_makers f fd) {k__law_names : Nat} {g__law_names : List PV → R (List PV)} (C__law_names : CaF P w K mg base k__law_names "_law_names" g__law_names) (h__law_names : k__law_names ≤ k) {k__law_drawn : Nat} {g__law_drawn : List PV → R PV} (C__law_drawn : CaV P w K mg base k__law_drawn "_law_drawn" g__law_drawn) (h__law_drawn : k__law_drawn ≤ k) {k__law_maker : Nat} {g__law_maker : List PV → R PV} (C__law_maker : CaV P w K mg base k__law_maker "_law_maker" g__law_maker) (h__law_maker : k__law_maker ≤ k) (hl : ∀ ds, g ds ≠ .bad → ds.length = 2) (hd : ∀ ds, g ds ≠ .bad → toV ((D__law_makers g__law_names g__law_drawn g__law_maker) (fm0 16 ds)) = g ds) :
    FnOk P w K mg base (L2C.CX P w) (k + 1) f fd ["more", "known"] (spV K mg g) :=
  fn_V (d := (D__law_makers g__law_names g__law_drawn g__law_maker)) Fn sc__law_makers hl hd (by
    intro cdv A outer s H E hcv hr
    have sc := sc__law_makers
    have tk : L2C.Takes (cxX P w K mg base N__law_makers "_law_makers" st__law_makers f cdv A outer s H E) (wE E) := L2C.takes_of rfl rfl rfl rfl
    have hp : PassesOwn (model P w) (cxX P w K mg base N__law_makers "_law_makers" st__law_makers f cdv A outer s H E).A (cxX P w K mg base N__law_makers "_law_makers" st__law_makers f cdv A outer s H E).env (cxX P w K mg base N__law_makers "_law_makers" st__law_makers f cdv A outer s H E).xe := passes_of rfl
    exact (Pv.s_cons (Pv.s_setF (i := 2) sc.nd (Pv.f_lst Pv.aVnil)) (Pv.s_cons (Pv.s_for [3, 4] hp rfl (Pv.i_rg1 T.n_range (Pv.aRcons (Pv.rV (Pv.v_mod (Pv.rV (Pv.pe_V 0 (pv 0))) (Pv.rV Pv.kInt))) Pv.aRnil)) (pg_name (i := 3) sc.nd rfl (by first | exact Or.inl rfl | exact Or.inr rfl)) (Pv.tg_name 3) (Pv.s_cons (Pv.s_set (i := 4) sc.nd (Pv.v_idx (Pv.rF (Pv.f_call0 C__law_names tk hr h__law_names)) (Pv.rV (Pv.v_mod (Pv.rV (Pv.v_call C__law_drawn tk hr (Pv.aVcons (Pv.pe_V 0 (pv 0)) (Pv.aVcons (Pv.pe_V 3 (pv 3)) Pv.aVnil)) h__law_drawn)) (Pv.rV Pv.kInt))))) (Pv.s_one (Pv.s_if (Pv.t_cmp (Pv.c_notIn hr) (Pv.rV (Pv.pe_V 4 (pv 4))) (Pv.rF (Pv.f_lc [(Str.ofString "one", 14), (Str.ofString "scope", 13)] rfl rfl sc.nd (Pv.i_lstR (Pv.pe_R 2 (pv 2))) (blkOk_by (N := N__law_makers) (sc := defScope st__law_makers) (by decide +kernel)) (fun _ _ _ _ _ => (pg_tup rfl (pgs_cons (pg_name (i := 14) sc.nd rfl (by first | exact Or.inl rfl | exact Or.inr rfl)) (pgs_cons (pg_name (i := 13) sc.nd rfl (by first | exact Or.inl rfl | exact Or.inr rfl)) pgs_nil)))) (Pv.tg_tup [14, 13]) (by decide) (fun _ _ _ _ _ => Pv.tests_nil) (fun _ _ _ _ _ => (Pv.pe_V 14 (pv 14)))))) (Pv.s_one (Pv.s_app 2 (pv 2) (Pv.v_tup (Pv.aVcons (Pv.pe_V 4 (pv 4)) (Pv.aVcons (Pv.v_mod (Pv.rV (Pv.v_call C__law_drawn tk hr (Pv.aVcons (Pv.pe_V 0 (pv 0)) (Pv.aVcons (Pv.v_add (Pv.rV Pv.kInt) (Pv.rV (Pv.pe_V 3 (pv 3)))) Pv.aVnil)) h__law_drawn)) (Pv.rV Pv.kInt)) Pv.aVnil))))) Pv.s_nil)))) (Pv.s_cons (Pv.s_setLc (i := 5) [(Str.ofString "name", 4), (Str.ofString "scope", 13)] rfl rfl sc.nd rfl rfl (sw_true rfl rfl rfl (by decide +kernel)) (Pv.iR (Pv.i_lst (Pv.pe_V 1 (pv 1)))) (blkOk_by (N := N__law_makers) (sc := defScope st__law_makers) (by decide +kernel)) (fun _ _ _ _ _ => (pg_tup rfl (pgs_cons (pg_name (i := 4) sc.nd rfl (by first | exact Or.inl rfl | exact Or.inr rfl)) (pgs_cons (pg_name (i := 13) sc.nd rfl (by first | exact Or.inl rfl | exact Or.inr rfl)) pgs_nil)))) (Pv.tg_tup [4, 13]) (by decide) (fun _ _ _ _ _ => (Pv.tests_one (Pv.t_cmp (Pv.c_notIn hr) (Pv.rV (Pv.pe_V 4 (pv 4))) (Pv.rF (Pv.f_lc [(Str.ofString "one", 14), (Str.ofString "wide", 15)] rfl rfl sc.nd (Pv.i_lstR (Pv.pe_R 2 (pv 2))) (blkOk_by rfl) (fun _ _ _ _ _ => (pg_tup rfl (pgs_cons (pg_name (i := 14) sc.nd rfl (by first | exact Or.inl rfl | exact Or.inr rfl)) (pgs_cons (pg_name (i := 15) sc.nd rfl (by first | exact Or.inl rfl | exact Or.inr rfl)) pgs_nil)))) (Pv.tg_tup [14, 15]) (by decide) (fun _ _ _ _ _ => Pv.tests_nil) (fun _ _ _ _ _ => (Pv.pe_V 14 (pv 14)))))))) (fun _ _ _ _ _ => (Pv.v_tup (Pv.aVcons (Pv.pe_V 4 (pv 4)) (Pv.aVcons (Pv.pe_V 13 (pv 13)) Pv.aVnil))))) (Pv.s_frz 5 (Pv.s_cons (Pv.s_setF (i := 6) sc.nd (Pv.f_lst Pv.aVnil)) (Pv.s_frz 2 (Pv.s_cons (Pv.s_for [3, 7, 8, 9, 10, 11, 12] hp rfl (Pv.i_enum T.n_enumerate (Pv.aVcons (Pv.pe_V 2 (pv 2)) Pv.aVnil)) (pg_tup rfl (pgs_cons (pg_name (i := 3) sc.nd rfl (by first | exact Or.inl rfl | exact Or.inr rfl)) (pgs_cons (pg_name (i := 7) sc.nd rfl (by first | exact Or.inl rfl | exact Or.inr rfl)) pgs_nil))) (Pv.tg_tup [3, 7]) (Pv.s_cons (Pv.s_set (i := 8) sc.nd (Pv.v_call C__law_drawn tk hr (Pv.aVcons (Pv.pe_V 0 (pv 0)) (Pv.aVcons (Pv.v_add (Pv.rV Pv.kInt) (Pv.rV (Pv.pe_V 3 (pv 3)))) Pv.aVnil)) h__law_drawn)) (Pv.s_cons (Pv.s_set (i := 9) sc.nd (Pv.vF (Pv.f_cat (Pv.rF (Pv.f_cat (Pv.rV (Pv.pe_V 5 (pv 5))) (Pv.rF (Pv.f_slice (Pv.rV (Pv.pe_V 2 (pv 2))) Pv.o_no (Pv.o_so (Pv.pe_V 3 (pv 3))))))) (Pv.rF (Pv.f_lc [(Str.ofString "one", 14)] rfl rfl sc.nd (Pv.iR (Pv.i_lst (Pv.pe_V 1 (pv 1)))) (blkOk_by (N := N__law_makers) (sc := defScope st__law_makers) (by decide +kernel)) (fun _ _ _ _ _ => (pg_name (i := 14) sc.nd rfl (by first | exact Or.inl rfl | exact Or.inr rfl))) (Pv.tg_name 14) (by decide) (fun _ _ _ _ _ => (Pv.tests_one (Pv.t_cmp (Pv.c_eq hr) (Pv.rV (Pv.v_idx (Pv.rV (Pv.pe_V 14 (pv 14))) (Pv.rV Pv.kInt))) (Pv.rV (Pv.v_idx (Pv.rV (Pv.pe_V 7 (pv 7))) (Pv.rV Pv.kInt)))))) (fun _ _ _ _ _ => (Pv.pe_V 14 (pv 14)))))))) (Pv.s_cons (Pv.s_setLc (i := 10) [(Str.ofString "name", 4), (Str.ofString "scope", 13)] rfl rfl sc.nd rfl rfl (sw_true rfl rfl rfl (by decide +kernel)) (Pv.iR (Pv.i_lst (Pv.pe_V 9 (pv 9)))) (blkOk_by (N := N__law_makers) (sc := defScope st__law_makers) (by decide +kernel)) (fun _ _ _ _ _ => (pg_tup rfl (pgs_cons (pg_name (i := 4) sc.nd rfl (by first | exact Or.inl rfl | exact Or.inr rfl)) (pgs_cons (pg_name (i := 13) sc.nd rfl (by first | exact Or.inl rfl | exact Or.inr rfl)) pgs_nil)))) (Pv.tg_tup [4, 13]) (by decide) (fun _ _ _ _ _ => (Pv.tests_one (Pv.t_cmp Pv.c_le (Pv.rV (Pv.pe_V 13 (pv 13))) (Pv.rV (Pv.v_idx (Pv.rV (Pv.pe_V 7 (pv 7))) (Pv.rV Pv.kInt)))))) (fun _ _ _ _ _ => (Pv.pe_V 4 (pv 4)))) (Pv.s_frz 10 (Pv.s_cons (Pv.s_setF (i := 11) sc.nd (Pv.f_lst Pv.aVnil)) (Pv.s_cons (Pv.s_for [12] hp rfl (Pv.i_rg1 T.n_range (Pv.aRcons (Pv.rV (Pv.v_mod (Pv.rV (Pv.pe_V 8 (pv 8))) (Pv.rV Pv.kInt))) Pv.aRnil)) (pg_name (i := 12) sc.nd rfl (by first | exact Or.inl rfl | exact Or.inr rfl)) (Pv.tg_name 12) (Pv.s_one (Pv.s_if (PW.pt (Pv.w_and (Pv.t_cmp (Pv.c_neNil hr) (Pv.rV (Pv.pe_V 10 (pv 10))) (Pv.rF (Pv.f_lst Pv.aVnil))) (pw_and1 (Pv.t_cmp (Pv.c_notIn hr) (Pv.rV (Pv.v_idx (Pv.rV (Pv.pe_V 10 (pv 10))) (Pv.rV (Pv.v_mod (Pv.rV (Pv.v_call C__law_drawn tk hr (Pv.aVcons (Pv.pe_V 8 (pv 8)) (Pv.aVcons (Pv.v_add (Pv.rV Pv.kInt) (Pv.rV (Pv.pe_V 12 (pv 12)))) Pv.aVnil)) h__law_drawn)) (Pv.rV (Pv.v_len T.n_len (Pv.aRcons (Pv.rV (Pv.pe_V 10 (pv 10))) Pv.aRnil))))))) (Pv.pe_R 11 (pv 11)))))) (Pv.s_one (Pv.s_app 11 (pv 11) (Pv.v_idx (Pv.rV (Pv.pe_V 10 (pv 10))) (Pv.rV (Pv.v_mod (Pv.rV (Pv.v_call C__law_drawn tk hr (Pv.aVcons (Pv.pe_V 8 (pv 8)) (Pv.aVcons (Pv.v_add (Pv.rV Pv.kInt) (Pv.rV (Pv.pe_V 12 (pv 12)))) Pv.aVnil)) h__law_drawn)) (Pv.rV (Pv.v_len T.n_len (Pv.aRcons (Pv.rV (Pv.pe_V 10 (pv 10))) Pv.aRnil)))))))) Pv.s_nil))) (Pv.s_one (Pv.s_app 6 (pv 6) (Pv.v_call C__law_maker tk hr (Pv.aVcons (Pv.v_call C__law_drawn tk hr (Pv.aVcons (Pv.pe_V 8 (pv 8)) (Pv.aVcons Pv.kInt Pv.aVnil)) h__law_drawn) (Pv.aVcons (Pv.v_idx (Pv.rV (Pv.pe_V 7 (pv 7))) (Pv.rV Pv.kInt)) (Pv.aVcons (Pv.v_idx (Pv.rV (Pv.pe_V 7 (pv 7))) (Pv.rV Pv.kInt)) (Pv.aVcons (Pv.v_tuple T.n_tuple (Pv.aRcons (Pv.pe_R 11 (pv 11)) Pv.aRnil)) Pv.aVnil)))) h__law_maker)))))))))) (Pv.s_one (Pv.s_ret (Pv.v_tup (Pv.aVcons (Pv.v_tuple T.n_tuple (Pv.aRcons (Pv.pe_R 6 (pv 6)) Pv.aRnil)) (Pv.aVcons (Pv.vF (Pv.f_cat (Pv.rV (Pv.pe_V 5 (pv 5))) (Pv.rV (Pv.pe_V 2 (pv 2))))) Pv.aVnil)))))))))))))
abbrev st__law_table : Stmt := topS 85
abbrev N__law_table : List Str := ["more", "columns", "rows", "j", "n"]
theorem sc__law_table : FnScope N__law_table ["more", "columns"] (defScope st__law_table) := ⟨rfl, rfl, rfl, by decide +kernel, rfl, by decide +kernel, by decide +kernel⟩
theorem b__law_table {f : Addr} {fd : FuncData} {k : Nat} {g : List PV → R PV} (T : Top w K mg) (Fn : Fun K "_law_table" "_law_table" st__law_table f fd) {k__law_drawn : Nat} {g__law_drawn : List PV → R PV} (C__law_drawn : CaV P w K mg base k__law_drawn "_law_drawn" g__law_drawn) (h__law_drawn : k__law_drawn ≤ k) (hl : ∀ ds, g ds ≠ .bad → ds.length = 2) (hd : ∀ ds, g ds ≠ .bad → toV ((D__law_table g__law_drawn) (fm0 5 ds)) = g ds) :
    FnOk P w K mg base (L2C.CX P w) (k + 1) f fd ["more", "columns"] (spV K mg g) :=
  fn_V (d := (D__law_table g__law_drawn)) Fn sc__law_table hl hd (by
    intro cdv A outer s H E hcv hr
    have sc := sc__law_table
    have tk : L2C.Takes (cxX P w K mg base N__law_table "_law_table" st__law_table f cdv A outer s H E) (wE E) := L2C.takes_of rfl rfl rfl rfl
    have hp : PassesOwn (model P w) (cxX P w K mg base N__law_table "_law_table" st__law_table f cdv A outer s H E).A (cxX P w K mg base N__law_table "_law_table" st__law_table f cdv A outer s H E).env (cxX P w K mg base N__law_table "_law_table" st__law_table f cdv A outer s H E).xe := passes_of rfl
    exact (Pv.s_cons (Pv.s_setF (i := 2) sc.nd (Pv.f_lst Pv.aVnil)) (Pv.s_cons (Pv.s_for [3] hp rfl (Pv.i_rg1 T.n_range (Pv.aRcons (Pv.rV (Pv.v_add (Pv.rV Pv.kInt) (Pv.rV (Pv.v_mod (Pv.rV (Pv.pe_V 0 (pv 0))) (Pv.rV Pv.kInt))))) Pv.aRnil)) (pg_name (i := 3) sc.nd rfl (by first | exact Or.inl rfl | exact Or.inr rfl)) (Pv.tg_name 3) (Pv.s_one (Pv.s_app 2 (pv 2) (Pv.v_tuple T.n_tuple (Pv.aRcons (Pv.rF (Pv.f_lc [(Str.ofString "n", 4)] rfl rfl sc.nd (Pv.iR (Pv.i_rg1 T.n_range (Pv.aRcons (Pv.rV (Pv.v_len T.n_len (Pv.aRcons (Pv.rV (Pv.pe_V 1 (pv 1))) Pv.aRnil))) Pv.aRnil))) (blkOk_by (N := N__law_table) (sc := defScope st__law_table) (by decide +kernel)) (fun _ _ _ _ _ => (pg_name (i := 4) sc.nd rfl (by first | exact Or.inl rfl | exact Or.inr rfl))) (Pv.tg_name 4) (by decide) (fun _ _ _ _ _ => Pv.tests_nil) (fun _ _ _ _ _ => (Pv.v_mod (Pv.rV (Pv.v_call C__law_drawn Pv.takes0 hr (Pv.aVcons (Pv.pe_V 0 (pv 0)) (Pv.aVcons (Pv.v_add (Pv.rV (Pv.v_mul (Pv.rV Pv.kInt) (Pv.rV (Pv.pe_V 3 (pv 3))))) (Pv.rV (Pv.pe_V 4 (pv 4)))) Pv.aVnil)) h__law_drawn)) (Pv.rV Pv.kInt))))) Pv.aRnil))))) (Pv.s_one (Pv.s_ret (Pv.v_tup (Pv.aVcons (Pv.pe_V 1 (pv 1)) (Pv.aVcons (Pv.v_tuple T.n_tuple (Pv.aRcons (Pv.pe_R 2 (pv 2)) Pv.aRnil)) Pv.aVnil))))))))
abbrev st__law_try : Stmt := topS 86
abbrev N__law_try : List Str := ["more", "name", "known", "tables", "columns", "wants", "n", "here", "names", "table", "body", "j", "one", "some", "marks", "mark"]
theorem sc__law_try : FnScope N__law_try ["more", "name", "known"] (defScope st__law_try) := ⟨rfl, rfl, rfl, by decide +kernel, rfl, by decide +kernel, by decide +kernel⟩
theorem b__law_try {f : Addr} {fd : FuncData} {k : Nat} {g : List PV → R PV} (T : Top w K mg) (Fn : Fun K "_law_try" "_law_try" st__law_try f fd) {k__law_table : Nat} {g__law_table : List PV → R PV} (C__law_table : CaV P w K mg base k__law_table "_law_table" g__law_table) (h__law_table : k__law_table ≤ k) {k__law_drawn : Nat} {g__law_drawn : List PV → R PV} (C__law_drawn : CaV P w K mg base k__law_drawn "_law_drawn" g__law_drawn) (h__law_drawn : k__law_drawn ≤ k) (hl : ∀ ds, g ds ≠ .bad → ds.length = 3) (hd : ∀ ds, g ds ≠ .bad → toV ((D__law_try g__law_table g__law_drawn) (fm0 16 ds)) = g ds) :
    FnOk P w K mg base (L2C.CX P w) (k + 1) f fd ["more", "name", "known"] (spV K mg g) :=
  fn_V (d := (D__law_try g__law_table g__law_drawn)) Fn sc__law_try hl hd (by
    intro cdv A outer s H E hcv hr
    have sc := sc__law_try
    have tk : L2C.Takes (cxX P w K mg base N__law_try "_law_try" st__law_try f cdv A outer s H E) (wE E) := L2C.takes_of rfl rfl rfl rfl
    have hp : PassesOwn (model P w) (cxX P w K mg base N__law_try "_law_try" st__law_try f cdv A outer s H E).A (cxX P w K mg base N__law_try "_law_try" st__law_try f cdv A outer s H E).env (cxX P w K mg base N__law_try "_law_try" st__law_try f cdv A outer s H E).xe := passes_of rfl
    exact (Pv.s_cons (Pv.s_setF (i := 3) sc.nd (Pv.f_lst Pv.aVnil)) (Pv.s_cons (Pv.s_for [4] hp rfl (Pv.i_lst (Pv.vF (Pv.f_slice (Pv.rF (Pv.f_lst (Pv.aVcons (Pv.v_slice (Pv.rV (Pv.v_tup (Pv.aVcons Pv.kStr (Pv.aVcons Pv.kStr Pv.aVnil)))) Pv.o_no (Pv.o_so (Pv.v_add (Pv.rV Pv.kInt) (Pv.rV (Pv.v_mod (Pv.rV (Pv.v_div (Pv.rV (Pv.pe_V 0 (pv 0))) (Pv.rV Pv.kInt))) (Pv.rV Pv.kInt)))))) (Pv.aVcons (Pv.v_tup (Pv.aVcons Pv.kStr Pv.aVnil)) Pv.aVnil)))) Pv.o_no (Pv.o_so (Pv.v_idx (Pv.rF (Pv.f_lst (Pv.aVcons Pv.kInt (Pv.aVcons Pv.kInt (Pv.aVcons Pv.kInt (Pv.aVcons Pv.kInt Pv.aVnil)))))) (Pv.rV (Pv.v_mod (Pv.rV (Pv.pe_V 0 (pv 0))) (Pv.rV Pv.kInt)))))))) (pg_name (i := 4) sc.nd rfl (by first | exact Or.inl rfl | exact Or.inr rfl)) (Pv.tg_name 4) (Pv.s_one (Pv.s_app 3 (pv 3) (Pv.v_call C__law_table tk hr (Pv.aVcons (Pv.v_call C__law_drawn tk hr (Pv.aVcons (Pv.pe_V 0 (pv 0)) (Pv.aVcons (Pv.v_len T.n_len (Pv.aRcons (Pv.rV (Pv.pe_V 4 (pv 4))) Pv.aRnil)) Pv.aVnil)) h__law_drawn) (Pv.aVcons (Pv.pe_V 4 (pv 4)) Pv.aVnil)) h__law_table)))) (Pv.s_cons (Pv.s_setF (i := 5) sc.nd (Pv.f_lst Pv.aVnil)) (Pv.s_cons (Pv.s_for [6, 7] hp rfl (Pv.i_rg1 T.n_range (Pv.aRcons (Pv.rV (Pv.v_mod (Pv.rV (Pv.v_div (Pv.rV (Pv.pe_V 0 (pv 0))) (Pv.rV Pv.kInt))) (Pv.rV Pv.kInt))) Pv.aRnil)) (pg_name (i := 6) sc.nd rfl (by first | exact Or.inl rfl | exact Or.inr rfl)) (Pv.tg_name 6) (Pv.s_cons (Pv.s_set (i := 7) sc.nd (Pv.v_call C__law_drawn tk hr (Pv.aVcons (Pv.pe_V 0 (pv 0)) (Pv.aVcons (Pv.v_add (Pv.rV Pv.kInt) (Pv.rV (Pv.pe_V 6 (pv 6)))) Pv.aVnil)) h__law_drawn)) (Pv.s_one (Pv.s_if (PW.pt (Pv.w_and (Pv.t_cmp (Pv.c_neNil hr) (Pv.rV (Pv.pe_V 2 (pv 2))) (Pv.rF (Pv.f_lst Pv.aVnil))) (pw_and1 (Pv.t_cmp (Pv.c_notIn hr) (Pv.rV (Pv.v_idx (Pv.rV (Pv.v_idx (Pv.rV (Pv.pe_V 2 (pv 2))) (Pv.rV (Pv.v_mod (Pv.rV (Pv.pe_V 7 (pv 7))) (Pv.rV (Pv.v_len T.n_len (Pv.aRcons (Pv.rV (Pv.pe_V 2 (pv 2))) Pv.aRnil))))))) (Pv.rV Pv.kInt))) (Pv.pe_R 5 (pv 5)))))) (Pv.s_one (Pv.s_app 5 (pv 5) (Pv.v_idx (Pv.rV (Pv.v_idx (Pv.rV (Pv.pe_V 2 (pv 2))) (Pv.rV (Pv.v_mod (Pv.rV (Pv.pe_V 7 (pv 7))) (Pv.rV (Pv.v_len T.n_len (Pv.aRcons (Pv.rV (Pv.pe_V 2 (pv 2))) Pv.aRnil))))))) (Pv.rV Pv.kInt)))) Pv.s_nil)))) (Pv.s_cons (Pv.s_set (i := 8) sc.nd (Pv.vF (Pv.f_list T.n_list (Pv.aRcons (Pv.pe_R 5 (pv 5)) Pv.aRnil)))) (Pv.s_frz 3 (Pv.s_cons (Pv.s_for [9] hp rfl (Pv.i_lst (Pv.pe_V 3 (pv 3))) (pg_name (i := 9) sc.nd rfl (by first | exact Or.inl rfl | exact Or.inr rfl)) (Pv.tg_name 9) (Pv.s_one (Pv.s_set (i := 8) sc.nd (Pv.vF (Pv.f_cat (Pv.rV (Pv.pe_V 8 (pv 8))) (Pv.rF (Pv.f_list T.n_list (Pv.aRcons (Pv.rV (Pv.v_idx (Pv.rV (Pv.pe_V 9 (pv 9))) (Pv.rV Pv.kInt))) Pv.aRnil)))))))) (Pv.s_cons (Pv.s_setLc (i := 10) [(Str.ofString "one", 12)] rfl rfl sc.nd rfl rfl (sw_true rfl rfl rfl (by decide +kernel)) (Pv.iR (Pv.i_lst (Pv.pe_V 8 (pv 8)))) (blkOk_by (N := N__law_try) (sc := defScope st__law_try) (by decide +kernel)) (fun _ _ _ _ _ => (pg_name (i := 12) sc.nd rfl (by first | exact Or.inl rfl | exact Or.inr rfl))) (Pv.tg_name 12) (by decide) (fun _ _ _ _ _ => Pv.tests_nil) (fun _ _ _ _ _ => (Pv.v_tup (Pv.aVcons Pv.kStr (Pv.aVcons (Pv.v_tup (Pv.aVcons Pv.kStr (Pv.aVcons (Pv.pe_V 12 (pv 12)) Pv.aVnil))) Pv.aVnil))))) (Pv.s_cons (Pv.s_for [11, 12] hp rfl (Pv.i_enum T.n_enumerate (Pv.aVcons (Pv.vF (Pv.f_slice (Pv.rF (Pv.f_rev (Pv.rV (Pv.pe_V 8 (pv 8))))) Pv.o_no (Pv.o_so Pv.kInt))) Pv.aVnil)) (pg_tup rfl (pgs_cons (pg_name (i := 11) sc.nd rfl (by first | exact Or.inl rfl | exact Or.inr rfl)) (pgs_cons (pg_name (i := 12) sc.nd rfl (by first | exact Or.inl rfl | exact Or.inr rfl)) pgs_nil))) (Pv.tg_tup [11, 12]) (Pv.s_one (Pv.s_app 10 (pv 10) (Pv.v_tup (Pv.aVcons Pv.kStr (Pv.aVcons (Pv.v_tup (Pv.aVcons Pv.kStr (Pv.aVcons (Pv.v_tup (Pv.aVcons Pv.kStr (Pv.aVcons (Pv.pe_V 12 (pv 12)) Pv.aVnil))) (Pv.aVcons (Pv.v_tup (Pv.aVcons Pv.kStr (Pv.aVcons (Pv.v_idx (Pv.rF (Pv.f_lst (Pv.aVcons Pv.kInt (Pv.aVcons Pv.kInt (Pv.aVcons Pv.kInt Pv.aVnil))))) (Pv.rV (Pv.v_mod (Pv.rV (Pv.v_div (Pv.rV (Pv.pe_V 0 (pv 0))) (Pv.rV (Pv.v_add (Pv.rV Pv.kInt) (Pv.rV (Pv.pe_V 11 (pv 11))))))) (Pv.rV Pv.kInt)))) Pv.aVnil))) Pv.aVnil)))) Pv.aVnil)))))) (Pv.s_cons (Pv.s_set (i := 13) sc.nd (Pv.vF (Pv.f_lst (Pv.aVcons (Pv.v_tup Pv.aVnil) (Pv.aVcons (Pv.v_tup Pv.aVnil) (Pv.aVcons (Pv.v_tup (Pv.aVcons (Pv.v_tup (Pv.aVcons Pv.kStr (Pv.aVcons (Pv.v_tup (Pv.aVcons Pv.kStr (Pv.aVcons (Pv.v_tup (Pv.aVcons Pv.kInt (Pv.aVcons Pv.kStr Pv.aVnil))) Pv.aVnil))) (Pv.aVcons (Pv.v_tup (Pv.aVcons Pv.kStr (Pv.aVcons (Pv.v_tup (Pv.aVcons Pv.kInt (Pv.aVcons Pv.kStr Pv.aVnil))) Pv.aVnil))) Pv.aVnil)))) Pv.aVnil)) (Pv.aVcons (Pv.v_tup (Pv.aVcons (Pv.v_tup (Pv.aVcons Pv.kStr (Pv.aVcons (Pv.v_tup (Pv.aVcons Pv.kStr (Pv.aVcons Pv.kInt Pv.aVnil))) Pv.aVnil))) Pv.aVnil)) Pv.aVnil))))))) (Pv.s_cons (Pv.s_set (i := 10) sc.nd (Pv.v_add (Pv.rV (Pv.v_tuple T.n_tuple (Pv.aRcons (Pv.pe_R 10 (pv 10)) Pv.aRnil))) (Pv.rV (Pv.v_idx (Pv.rV (Pv.pe_V 13 (pv 13))) (Pv.rV (Pv.v_div (Pv.rV (Pv.v_mod (Pv.rV (Pv.v_div (Pv.rV (Pv.pe_V 0 (pv 0))) (Pv.rV Pv.kInt))) (Pv.rV Pv.kInt))) (Pv.rV Pv.kInt))))))) (Pv.s_cons (Pv.s_setF (i := 14) sc.nd (Pv.f_lst Pv.aVnil)) (Pv.s_cons (Pv.s_for [11, 15] hp rfl (Pv.i_enum T.n_enumerate (Pv.aVcons (Pv.vF (Pv.f_lst (Pv.aVcons Pv.kStr (Pv.aVcons Pv.kStr (Pv.aVcons Pv.kStr (Pv.aVcons Pv.kStr Pv.aVnil)))))) Pv.aVnil)) (pg_tup rfl (pgs_cons (pg_name (i := 11) sc.nd rfl (by first | exact Or.inl rfl | exact Or.inr rfl)) (pgs_cons (pg_name (i := 15) sc.nd rfl (by first | exact Or.inl rfl | exact Or.inr rfl)) pgs_nil))) (Pv.tg_tup [11, 15]) (Pv.s_one (Pv.s_if (Pv.t_cmp (Pv.c_eq hr) (Pv.rV (Pv.v_mod (Pv.rV (Pv.v_call C__law_drawn tk hr (Pv.aVcons (Pv.pe_V 0 (pv 0)) (Pv.aVcons (Pv.v_add (Pv.rV Pv.kInt) (Pv.rV (Pv.pe_V 11 (pv 11)))) Pv.aVnil)) h__law_drawn)) (Pv.rV (Pv.v_idx (Pv.rF (Pv.f_lst (Pv.aVcons Pv.kInt (Pv.aVcons Pv.kInt (Pv.aVcons Pv.kInt (Pv.aVcons Pv.kInt Pv.aVnil)))))) (Pv.rV (Pv.pe_V 11 (pv 11))))))) (Pv.rV Pv.kInt)) (Pv.s_one (Pv.s_app 14 (pv 14) (Pv.pe_V 15 (pv 15)))) Pv.s_nil))) (Pv.s_one (Pv.s_ret (Pv.v_tup (Pv.aVcons Pv.kStr (Pv.aVcons (Pv.pe_V 1 (pv 1)) (Pv.aVcons (Pv.v_tuple T.n_tuple (Pv.aRcons (Pv.pe_R 14 (pv 14)) Pv.aRnil)) (Pv.aVcons (Pv.v_tuple T.n_tuple (Pv.aRcons (Pv.rV (Pv.pe_V 3 (pv 3))) Pv.aRnil)) (Pv.aVcons (Pv.v_tuple T.n_tuple (Pv.aRcons (Pv.pe_R 5 (pv 5)) Pv.aRnil)) (Pv.aVcons (Pv.pe_V 10 (pv 10)) Pv.aVnil)))))))))))))))))))))))
abbrev st__law_group : Stmt := topS 87
abbrev N__law_group : List Str := ["more", "name", "deep", "known", "makers", "members", "j", "here", "inner", "marks"]
theorem sc__law_group : FnScope N__law_group ["more", "name", "deep", "known"] (defScope st__law_group) := ⟨rfl, rfl, rfl, by decide +kernel, rfl, by decide +kernel, by decide +kernel⟩
theorem b__law_group {f : Addr} {fd : FuncData} {k : Nat} {g : List PV → R PV} (T : Top w K mg) (Fn : Fun K "_law_group" "_law_group" st__law_group f fd) {k__law_makers : Nat} {g__law_makers : List PV → R PV} (C__law_makers : CaV P w K mg base k__law_makers "_law_makers" g__law_makers) (h__law_makers : k__law_makers ≤ k) {k__law_drawn : Nat} {g__law_drawn : List PV → R PV} (C__law_drawn : CaV P w K mg base k__law_drawn "_law_drawn" g__law_drawn) (h__law_drawn : k__law_drawn ≤ k) {k__law_group : Nat} {g__law_group : List PV → R PV} (C__law_group : CaV P w K mg base k__law_group "_law_group" g__law_group) (h__law_group : k__law_group ≤ k) {k__law_try : Nat} {g__law_try : List PV → R PV} (C__law_try : CaV P w K mg base k__law_try "_law_try" g__law_try) (h__law_try : k__law_try ≤ k) (hl : ∀ ds, g ds ≠ .bad → ds.length = 4) (hd : ∀ ds, g ds ≠ .bad → toV ((D__law_group g__law_makers g__law_drawn g__law_group g__law_try) (fm0 10 ds)) = g ds) :
    FnOk P w K mg base (L2C.CX P w) (k + 1) f fd ["more", "name", "deep", "known"] (spV K mg g) :=
  fn_V (d := (D__law_group g__law_makers g__law_drawn g__law_group g__law_try)) Fn sc__law_group hl hd (by
    intro cdv A outer s H E hcv hr
    have sc := sc__law_group
    have tk : L2C.Takes (cxX P w K mg base N__law_group "_law_group" st__law_group f cdv A outer s H E) (wE E) := L2C.takes_of rfl rfl rfl rfl
    have hp : PassesOwn (model P w) (cxX P w K mg base N__law_group "_law_group" st__law_group f cdv A outer s H E).A (cxX P w K mg base N__law_group "_law_group" st__law_group f cdv A outer s H E).env (cxX P w K mg base N__law_group "_law_group" st__law_group f cdv A outer s H E).xe := passes_of rfl
    exact (Pv.s_cons (Pv.s_setT [4, 3] (Pv.v_call C__law_makers tk hr (Pv.aVcons (Pv.v_call C__law_drawn tk hr (Pv.aVcons (Pv.pe_V 0 (pv 0)) (Pv.aVcons Pv.kInt Pv.aVnil)) h__law_drawn) (Pv.aVcons (Pv.pe_V 3 (pv 3)) Pv.aVnil)) h__law_makers) (pg_tup rfl (pgs_cons (pg_name (i := 4) sc.nd rfl (by first | exact Or.inl rfl | exact Or.inr rfl)) (pgs_cons (pg_name (i := 3) sc.nd rfl (by first | exact Or.inl rfl | exact Or.inr rfl)) pgs_nil)))) (Pv.s_cons (Pv.s_setF (i := 5) sc.nd (Pv.f_lst Pv.aVnil)) (Pv.s_cons (Pv.s_for [6, 7, 8] hp rfl (Pv.i_rg1 T.n_range (Pv.aRcons (Pv.rV (Pv.v_add (Pv.rV Pv.kInt) (Pv.rV (Pv.v_mod (Pv.rV (Pv.pe_V 0 (pv 0))) (Pv.rV Pv.kInt))))) Pv.aRnil)) (pg_name (i := 6) sc.nd rfl (by first | exact Or.inl rfl | exact Or.inr rfl)) (Pv.tg_name 6) (Pv.s_cons (Pv.s_set (i := 7) sc.nd (Pv.v_call C__law_drawn tk hr (Pv.aVcons (Pv.pe_V 0 (pv 0)) (Pv.aVcons (Pv.v_add (Pv.rV Pv.kInt) (Pv.rV (Pv.pe_V 6 (pv 6)))) Pv.aVnil)) h__law_drawn)) (Pv.s_cons (Pv.s_set (i := 8) sc.nd (Pv.v_add (Pv.rV (Pv.v_idx (Pv.rV (Pv.v_idx (Pv.rF (Pv.f_lst (Pv.aVcons (Pv.vF (Pv.f_lst (Pv.aVcons Pv.kStr (Pv.aVcons Pv.kStr (Pv.aVcons Pv.kStr Pv.aVnil))))) (Pv.aVcons (Pv.vF (Pv.f_lst (Pv.aVcons Pv.kStr (Pv.aVcons Pv.kStr (Pv.aVcons Pv.kStr Pv.aVnil))))) Pv.aVnil)))) (Pv.rV (Pv.v_mod (Pv.rV (Pv.v_div (Pv.rV (Pv.pe_V 0 (pv 0))) (Pv.rV Pv.kInt))) (Pv.rV Pv.kInt))))) (Pv.rV (Pv.pe_V 6 (pv 6))))) (Pv.rV (Pv.v_idx (Pv.rF (Pv.f_lst (Pv.aVcons Pv.kStr (Pv.aVcons Pv.kStr Pv.aVnil)))) (Pv.rV (Pv.v_mod (Pv.rV (Pv.pe_V 7 (pv 7))) (Pv.rV Pv.kInt))))))) (Pv.s_one (Pv.s_if (PW.pt (Pv.w_and (Pv.t_cmp Pv.c_gt (Pv.rV (Pv.pe_V 2 (pv 2))) (Pv.rV Pv.kInt)) (pw_and1 (Pv.t_cmp (Pv.c_eq hr) (Pv.rV (Pv.v_mod (Pv.rV (Pv.v_div (Pv.rV (Pv.pe_V 7 (pv 7))) (Pv.rV Pv.kInt))) (Pv.rV Pv.kInt))) (Pv.rV Pv.kInt))))) (Pv.s_one (Pv.s_app 5 (pv 5) (Pv.v_call C__law_group tk hr (Pv.aVcons (Pv.v_call C__law_drawn tk hr (Pv.aVcons (Pv.pe_V 7 (pv 7)) (Pv.aVcons Pv.kInt Pv.aVnil)) h__law_drawn) (Pv.aVcons (Pv.pe_V 8 (pv 8)) (Pv.aVcons (Pv.v_sub (Pv.rV (Pv.pe_V 2 (pv 2))) (Pv.rV Pv.kInt)) (Pv.aVcons (Pv.pe_V 3 (pv 3)) Pv.aVnil)))) h__law_group))) (Pv.s_one (Pv.s_app 5 (pv 5) (Pv.v_call C__law_try tk hr (Pv.aVcons (Pv.v_call C__law_drawn tk hr (Pv.aVcons (Pv.pe_V 7 (pv 7)) (Pv.aVcons Pv.kInt Pv.aVnil)) h__law_drawn) (Pv.aVcons (Pv.pe_V 8 (pv 8)) (Pv.aVcons (Pv.pe_V 3 (pv 3)) Pv.aVnil))) h__law_try)))))))) (Pv.s_cons (Pv.s_set (i := 9) sc.nd (Pv.v_idx (Pv.rF (Pv.f_lst (Pv.aVcons (Pv.v_tup Pv.aVnil) (Pv.aVcons (Pv.v_tup Pv.aVnil) (Pv.aVcons (Pv.v_tup (Pv.aVcons Pv.kStr Pv.aVnil)) (Pv.aVcons (Pv.v_tup (Pv.aVcons Pv.kStr (Pv.aVcons Pv.kStr Pv.aVnil))) Pv.aVnil)))))) (Pv.rV (Pv.v_mod (Pv.rV (Pv.v_div (Pv.rV (Pv.pe_V 0 (pv 0))) (Pv.rV Pv.kInt))) (Pv.rV Pv.kInt))))) (Pv.s_one (Pv.s_ret (Pv.v_tup (Pv.aVcons Pv.kStr (Pv.aVcons (Pv.pe_V 1 (pv 1)) (Pv.aVcons (Pv.pe_V 9 (pv 9)) (Pv.aVcons (Pv.pe_V 4 (pv 4)) (Pv.aVcons (Pv.v_tuple T.n_tuple (Pv.aRcons (Pv.pe_R 5 (pv 5)) Pv.aRnil)) Pv.aVnil)))))))))))))
abbrev st__law_bad_makers : Stmt := topS 88
abbrev N__law_bad_makers : List Str := ["one", "good", "found", "some", "at", "thing"]
theorem sc__law_bad_makers : FnScope N__law_bad_makers [] (defScope st__law_bad_makers) := ⟨rfl, rfl, rfl, by decide +kernel, rfl, by decide +kernel, by decide +kernel⟩
theorem b__law_bad_makers {f : Addr} {fd : FuncData} {k : Nat} {g : List PV → R (List PV)} (T : Top w K mg) (Fn : Fun K "_law_bad_makers" "_law_bad_makers" st__law_bad_makers f fd) (hl : ∀ ds, g ds ≠ .bad → ds.length = 0) (hd : ∀ ds, g ds ≠ .bad → toF (D__law_bad_makers (fm0 6 ds)) = g ds) :
    FnOk P w K mg base (L2C.CX P w) (k + 1) f fd [] (spF K mg g) :=
  fn_F (d := D__law_bad_makers) Fn sc__law_bad_makers hl hd (by
    intro cdv A outer s H E hcv hr
    have sc := sc__law_bad_makers
    have tk : L2C.Takes (cxX P w K mg base N__law_bad_makers "_law_bad_makers" st__law_bad_makers f cdv A outer s H E) (wE E) := L2C.takes_of rfl rfl rfl rfl
    have hp : PassesOwn (model P w) (cxX P w K mg base N__law_bad_makers "_law_bad_makers" st__law_bad_makers f cdv A outer s H E).A (cxX P w K mg base N__law_bad_makers "_law_bad_makers" st__law_bad_makers f cdv A outer s H E).env (cxX P w K mg base N__law_bad_makers "_law_bad_makers" st__law_bad_makers f cdv A outer s H E).xe := passes_of rfl
    exact (Pv.s_cons (Pv.s_set (i := 0) sc.nd (Pv.v_tup (Pv.aVcons Pv.kStr (Pv.aVcons Pv.kInt Pv.aVnil)))) (Pv.s_cons (Pv.s_set (i := 1) sc.nd (Pv.vF (Pv.f_lst (Pv.aVcons Pv.kStr (Pv.aVcons Pv.kStr (Pv.aVcons Pv.kStr (Pv.aVcons (Pv.v_tup Pv.aVnil) (Pv.aVcons (Pv.v_tup (Pv.aVcons Pv.kInt Pv.aVnil)) (Pv.aVcons (Pv.v_tup Pv.aVnil) (Pv.aVcons (Pv.pe_V 0 (pv 0)) (Pv.aVcons (Pv.v_tup Pv.aVnil) Pv.aVnil))))))))))) (Pv.s_cons (Pv.s_setF (i := 2) sc.nd (Pv.f_lst (Pv.aVcons Pv.kNon (Pv.aVcons (Pv.v_tup Pv.aVnil) (Pv.aVcons (Pv.v_tuple T.n_tuple (Pv.aRcons (Pv.rF (Pv.f_slice (Pv.rV (Pv.pe_V 1 (pv 1))) Pv.o_no (Pv.o_so Pv.kInt))) Pv.aRnil)) (Pv.aVcons (Pv.v_tuple T.n_tuple (Pv.aRcons (Pv.rF (Pv.f_cat (Pv.rV (Pv.pe_V 1 (pv 1))) (Pv.rF (Pv.f_lst (Pv.aVcons Pv.kInt Pv.aVnil))))) Pv.aRnil)) (Pv.aVcons (Pv.vF (Pv.f_list T.n_list (Pv.aRcons (Pv.rV (Pv.pe_V 1 (pv 1))) Pv.aRnil))) Pv.aVnil))))))) (Pv.s_cons (Pv.s_set (i := 3) sc.nd (Pv.vF (Pv.f_lst (Pv.aVcons (Pv.v_tup (Pv.aVcons Pv.kInt (Pv.aVcons Pv.kStr Pv.aVnil))) (Pv.aVcons (Pv.v_tup (Pv.aVcons Pv.kInt (Pv.aVcons Pv.kInt Pv.aVnil))) (Pv.aVcons (Pv.v_tup (Pv.aVcons Pv.kInt (Pv.aVcons Pv.kStr Pv.aVnil))) (Pv.aVcons (Pv.v_tup (Pv.aVcons Pv.kInt (Pv.aVcons Pv.kStr Pv.aVnil))) (Pv.aVcons (Pv.v_tup (Pv.aVcons Pv.kInt (Pv.aVcons Pv.kNon Pv.aVnil))) (Pv.aVcons (Pv.v_tup (Pv.aVcons Pv.kInt (Pv.aVcons Pv.kStr Pv.aVnil))) (Pv.aVcons (Pv.v_tup (Pv.aVcons Pv.kInt (Pv.aVcons Pv.kInt Pv.aVnil))) Pv.aVnil)))))))))) (Pv.s_cons (Pv.s_set (i := 3) sc.nd (Pv.vF (Pv.f_cat (Pv.rV (Pv.pe_V 3 (pv 3))) (Pv.rF (Pv.f_lst (Pv.aVcons (Pv.v_tup (Pv.aVcons Pv.kInt (Pv.aVcons (Pv.vF (Pv.f_lst (Pv.aVcons Pv.kStr Pv.aVnil))) Pv.aVnil))) (Pv.aVcons (Pv.v_tup (Pv.aVcons Pv.kInt (Pv.aVcons (Pv.v_tup (Pv.aVcons Pv.kStr (Pv.aVcons Pv.kStr Pv.aVnil))) Pv.aVnil))) Pv.aVnil))))))) (Pv.s_cons (Pv.s_for [4, 5] hp rfl (Pv.i_lst (Pv.pe_V 3 (pv 3))) (pg_tup rfl (pgs_cons (pg_name (i := 4) sc.nd rfl (by first | exact Or.inl rfl | exact Or.inr rfl)) (pgs_cons (pg_name (i := 5) sc.nd rfl (by first | exact Or.inl rfl | exact Or.inr rfl)) pgs_nil))) (Pv.tg_tup [4, 5]) (Pv.s_one (Pv.s_app 2 (pv 2) (Pv.v_tuple T.n_tuple (Pv.aRcons (Pv.rF (Pv.f_cat (Pv.rF (Pv.f_cat (Pv.rF (Pv.f_slice (Pv.rV (Pv.pe_V 1 (pv 1))) Pv.o_no (Pv.o_so (Pv.pe_V 4 (pv 4))))) (Pv.rF (Pv.f_lst (Pv.aVcons (Pv.pe_V 5 (pv 5)) Pv.aVnil))))) (Pv.rF (Pv.f_slice (Pv.rV (Pv.pe_V 1 (pv 1))) (Pv.o_so (Pv.v_add (Pv.rV (Pv.pe_V 4 (pv 4))) (Pv.rV Pv.kInt))) Pv.o_no)))) Pv.aRnil))))) (Pv.s_cons (Pv.s_set (i := 3) sc.nd (Pv.vF (Pv.f_lst (Pv.aVcons (Pv.v_tup (Pv.aVcons Pv.kInt (Pv.aVcons (Pv.v_tup (Pv.aVcons Pv.kStr (Pv.aVcons Pv.kStr (Pv.aVcons Pv.kStr (Pv.aVcons Pv.kStr (Pv.aVcons Pv.kStr Pv.aVnil)))))) Pv.aVnil))) (Pv.aVcons (Pv.v_tup (Pv.aVcons Pv.kInt (Pv.aVcons (Pv.v_tup (Pv.aVcons Pv.kStr Pv.aVnil)) Pv.aVnil))) (Pv.aVcons (Pv.v_tup (Pv.aVcons Pv.kInt (Pv.aVcons (Pv.v_tup Pv.aVnil) Pv.aVnil))) (Pv.aVcons (Pv.v_tup (Pv.aVcons Pv.kInt (Pv.aVcons (Pv.v_repT (Pv.rV (Pv.v_tup (Pv.aVcons Pv.kInt Pv.aVnil))) (Pv.rV Pv.kInt)) Pv.aVnil))) (Pv.aVcons (Pv.v_tup (Pv.aVcons Pv.kInt (Pv.aVcons (Pv.vF (Pv.f_lst (Pv.aVcons Pv.kInt Pv.aVnil))) Pv.aVnil))) Pv.aVnil)))))))) (Pv.s_cons (Pv.s_set (i := 3) sc.nd (Pv.vF (Pv.f_cat (Pv.rV (Pv.pe_V 3 (pv 3))) (Pv.rF (Pv.f_lst (Pv.aVcons (Pv.v_tup (Pv.aVcons Pv.kInt (Pv.aVcons (Pv.v_tup (Pv.aVcons Pv.kNon Pv.aVnil)) Pv.aVnil))) (Pv.aVcons (Pv.v_tup (Pv.aVcons Pv.kInt (Pv.aVcons Pv.kInt Pv.aVnil))) Pv.aVnil))))))) (Pv.s_cons (Pv.s_for [4, 5] hp rfl (Pv.i_lst (Pv.pe_V 3 (pv 3))) (pg_tup rfl (pgs_cons (pg_name (i := 4) sc.nd rfl (by first | exact Or.inl rfl | exact Or.inr rfl)) (pgs_cons (pg_name (i := 5) sc.nd rfl (by first | exact Or.inl rfl | exact Or.inr rfl)) pgs_nil))) (Pv.tg_tup [4, 5]) (Pv.s_one (Pv.s_app 2 (pv 2) (Pv.v_tuple T.n_tuple (Pv.aRcons (Pv.rF (Pv.f_cat (Pv.rF (Pv.f_cat (Pv.rF (Pv.f_slice (Pv.rV (Pv.pe_V 1 (pv 1))) Pv.o_no (Pv.o_so (Pv.pe_V 4 (pv 4))))) (Pv.rF (Pv.f_lst (Pv.aVcons (Pv.pe_V 5 (pv 5)) Pv.aVnil))))) (Pv.rF (Pv.f_slice (Pv.rV (Pv.pe_V 1 (pv 1))) (Pv.o_so (Pv.v_add (Pv.rV (Pv.pe_V 4 (pv 4))) (Pv.rV Pv.kInt))) Pv.o_no)))) Pv.aRnil))))) (Pv.s_cons (Pv.s_set (i := 3) sc.nd (Pv.vF (Pv.f_lst (Pv.aVcons (Pv.v_tup (Pv.aVcons Pv.kInt (Pv.aVcons Pv.kNon Pv.aVnil))) (Pv.aVcons (Pv.v_tup (Pv.aVcons Pv.kInt (Pv.aVcons (Pv.v_tup (Pv.aVcons (Pv.v_tup (Pv.aVcons Pv.kStr Pv.aVnil)) Pv.aVnil)) Pv.aVnil))) (Pv.aVcons (Pv.v_tup (Pv.aVcons Pv.kInt (Pv.aVcons (Pv.v_tup (Pv.aVcons Pv.kStr Pv.aVnil)) Pv.aVnil))) (Pv.aVcons (Pv.v_tup (Pv.aVcons Pv.kInt (Pv.aVcons (Pv.v_tup Pv.aVnil) Pv.aVnil))) (Pv.aVcons (Pv.v_tup (Pv.aVcons Pv.kInt (Pv.aVcons (Pv.vF (Pv.f_lst (Pv.aVcons (Pv.v_tup (Pv.aVcons Pv.kStr (Pv.aVcons (Pv.pe_V 0 (pv 0)) Pv.aVnil))) Pv.aVnil))) Pv.aVnil))) Pv.aVnil)))))))) (Pv.s_cons (Pv.s_set (i := 3) sc.nd (Pv.vF (Pv.f_cat (Pv.rV (Pv.pe_V 3 (pv 3))) (Pv.rF (Pv.f_lst (Pv.aVcons (Pv.v_tup (Pv.aVcons Pv.kInt (Pv.aVcons (Pv.v_tup (Pv.aVcons (Pv.v_tup (Pv.aVcons Pv.kStr (Pv.aVcons Pv.kStr Pv.aVnil))) Pv.aVnil)) Pv.aVnil))) Pv.aVnil)))))) (Pv.s_cons (Pv.s_for [4, 5] hp rfl (Pv.i_lst (Pv.pe_V 3 (pv 3))) (pg_tup rfl (pgs_cons (pg_name (i := 4) sc.nd rfl (by first | exact Or.inl rfl | exact Or.inr rfl)) (pgs_cons (pg_name (i := 5) sc.nd rfl (by first | exact Or.inl rfl | exact Or.inr rfl)) pgs_nil))) (Pv.tg_tup [4, 5]) (Pv.s_one (Pv.s_app 2 (pv 2) (Pv.v_tuple T.n_tuple (Pv.aRcons (Pv.rF (Pv.f_cat (Pv.rF (Pv.f_cat (Pv.rF (Pv.f_slice (Pv.rV (Pv.pe_V 1 (pv 1))) Pv.o_no (Pv.o_so (Pv.pe_V 4 (pv 4))))) (Pv.rF (Pv.f_lst (Pv.aVcons (Pv.pe_V 5 (pv 5)) Pv.aVnil))))) (Pv.rF (Pv.f_slice (Pv.rV (Pv.pe_V 1 (pv 1))) (Pv.o_so (Pv.v_add (Pv.rV (Pv.pe_V 4 (pv 4))) (Pv.rV Pv.kInt))) Pv.o_no)))) Pv.aRnil))))) (Pv.s_one (Pv.s_retO 2 (pv 2))))))))))))))))
abbrev st__law_bad_tries : Stmt := topS 89
abbrev N__law_bad_tries : List Str := ["good", "found", "some", "at", "thing", "table"]
theorem sc__law_bad_tries : FnScope N__law_bad_tries [] (defScope st__law_bad_tries) := ⟨rfl, rfl, rfl, by decide +kernel, rfl, by decide +kernel, by decide +kernel⟩
theorem b__law_bad_tries {f : Addr} {fd : FuncData} {k : Nat} {g : List PV → R PV} (T : Top w K mg) (Fn : Fun K "_law_bad_tries" "_law_bad_tries" st__law_bad_tries f fd) (hl : ∀ ds, g ds ≠ .bad → ds.length = 0) (hd : ∀ ds, g ds ≠ .bad → toV (D__law_bad_tries (fm0 6 ds)) = g ds) :
    FnOk P w K mg base (L2C.CX P w) (k + 1) f fd [] (spV K mg g) :=
  fn_V (d := D__law_bad_tries) Fn sc__law_bad_tries hl hd (by
    intro cdv A outer s H E hcv hr
    have sc := sc__law_bad_tries
    have tk : L2C.Takes (cxX P w K mg base N__law_bad_tries "_law_bad_tries" st__law_bad_tries f cdv A outer s H E) (wE E) := L2C.takes_of rfl rfl rfl rfl
    have hp : PassesOwn (model P w) (cxX P w K mg base N__law_bad_tries "_law_bad_tries" st__law_bad_tries f cdv A outer s H E).A (cxX P w K mg base N__law_bad_tries "_law_bad_tries" st__law_bad_tries f cdv A outer s H E).env (cxX P w K mg base N__law_bad_tries "_law_bad_tries" st__law_bad_tries f cdv A outer s H E).xe := passes_of rfl
    exact (Pv.s_cons (Pv.s_set (i := 0) sc.nd (Pv.vF (Pv.f_lst (Pv.aVcons Pv.kStr (Pv.aVcons Pv.kStr (Pv.aVcons (Pv.v_tup Pv.aVnil) (Pv.aVcons (Pv.v_tup Pv.aVnil) (Pv.aVcons (Pv.v_tup Pv.aVnil) (Pv.aVcons (Pv.v_tup Pv.aVnil) Pv.aVnil))))))))) (Pv.s_cons (Pv.s_setF (i := 1) sc.nd (Pv.f_lst (Pv.aVcons Pv.kNon (Pv.aVcons (Pv.v_tup Pv.aVnil) (Pv.aVcons (Pv.v_tuple T.n_tuple (Pv.aRcons (Pv.rF (Pv.f_slice (Pv.rV (Pv.pe_V 0 (pv 0))) Pv.o_no (Pv.o_so Pv.kInt))) Pv.aRnil)) (Pv.aVcons (Pv.v_tuple T.n_tuple (Pv.aRcons (Pv.rF (Pv.f_cat (Pv.rV (Pv.pe_V 0 (pv 0))) (Pv.rF (Pv.f_lst (Pv.aVcons (Pv.v_tup Pv.aVnil) Pv.aVnil))))) Pv.aRnil)) (Pv.aVcons (Pv.vF (Pv.f_list T.n_list (Pv.aRcons (Pv.rV (Pv.pe_V 0 (pv 0))) Pv.aRnil))) Pv.aVnil))))))) (Pv.s_cons (Pv.s_set (i := 2) sc.nd (Pv.vF (Pv.f_lst (Pv.aVcons (Pv.v_tup (Pv.aVcons Pv.kInt (Pv.aVcons Pv.kStr Pv.aVnil))) (Pv.aVcons (Pv.v_tup (Pv.aVcons Pv.kInt (Pv.aVcons Pv.kNon Pv.aVnil))) (Pv.aVcons (Pv.v_tup (Pv.aVcons Pv.kInt (Pv.aVcons Pv.kStr Pv.aVnil))) (Pv.aVcons (Pv.v_tup (Pv.aVcons Pv.kInt (Pv.aVcons Pv.kInt Pv.aVnil))) (Pv.aVcons (Pv.v_tup (Pv.aVcons Pv.kInt (Pv.aVcons (Pv.vF (Pv.f_lst (Pv.aVcons Pv.kStr Pv.aVnil))) Pv.aVnil))) (Pv.aVcons (Pv.v_tup (Pv.aVcons Pv.kInt (Pv.aVcons (Pv.v_tup (Pv.aVcons Pv.kStr (Pv.aVcons Pv.kStr Pv.aVnil))) Pv.aVnil))) Pv.aVnil))))))))) (Pv.s_cons (Pv.s_set (i := 2) sc.nd (Pv.vF (Pv.f_cat (Pv.rV (Pv.pe_V 2 (pv 2))) (Pv.rF (Pv.f_lst (Pv.aVcons (Pv.v_tup (Pv.aVcons Pv.kInt (Pv.aVcons (Pv.v_tup (Pv.aVcons Pv.kStr (Pv.aVcons Pv.kStr (Pv.aVcons Pv.kStr (Pv.aVcons Pv.kStr (Pv.aVcons Pv.kStr Pv.aVnil)))))) Pv.aVnil))) Pv.aVnil)))))) (Pv.s_cons (Pv.s_for [3, 4] hp rfl (Pv.i_lst (Pv.pe_V 2 (pv 2))) (pg_tup rfl (pgs_cons (pg_name (i := 3) sc.nd rfl (by first | exact Or.inl rfl | exact Or.inr rfl)) (pgs_cons (pg_name (i := 4) sc.nd rfl (by first | exact Or.inl rfl | exact Or.inr rfl)) pgs_nil))) (Pv.tg_tup [3, 4]) (Pv.s_one (Pv.s_app 1 (pv 1) (Pv.v_tuple T.n_tuple (Pv.aRcons (Pv.rF (Pv.f_cat (Pv.rF (Pv.f_cat (Pv.rF (Pv.f_slice (Pv.rV (Pv.pe_V 0 (pv 0))) Pv.o_no (Pv.o_so (Pv.pe_V 3 (pv 3))))) (Pv.rF (Pv.f_lst (Pv.aVcons (Pv.pe_V 4 (pv 4)) Pv.aVnil))))) (Pv.rF (Pv.f_slice (Pv.rV (Pv.pe_V 0 (pv 0))) (Pv.o_so (Pv.v_add (Pv.rV (Pv.pe_V 3 (pv 3))) (Pv.rV Pv.kInt))) Pv.o_no)))) Pv.aRnil))))) (Pv.s_cons (Pv.s_set (i := 5) sc.nd (Pv.v_tup (Pv.aVcons (Pv.v_tup (Pv.aVcons Pv.kStr Pv.aVnil)) (Pv.aVcons (Pv.v_tup (Pv.aVcons (Pv.v_tup (Pv.aVcons Pv.kInt Pv.aVnil)) Pv.aVnil)) Pv.aVnil)))) (Pv.s_cons (Pv.s_set (i := 2) sc.nd (Pv.vF (Pv.f_lst (Pv.aVcons Pv.kNon (Pv.aVcons (Pv.v_tup (Pv.aVcons Pv.kNon Pv.aVnil)) (Pv.aVcons (Pv.v_repT (Pv.rV (Pv.v_tup (Pv.aVcons (Pv.pe_V 5 (pv 5)) Pv.aVnil))) (Pv.rV Pv.kInt)) (Pv.aVcons (Pv.v_tup (Pv.aVcons (Pv.v_tup (Pv.aVcons (Pv.v_tup (Pv.aVcons Pv.kStr Pv.aVnil)) Pv.aVnil)) Pv.aVnil)) (Pv.aVcons (Pv.v_tup (Pv.aVcons (Pv.v_tup (Pv.aVcons (Pv.v_tup Pv.aVnil) (Pv.aVcons (Pv.v_tup (Pv.aVcons (Pv.v_tup Pv.aVnil) Pv.aVnil)) Pv.aVnil))) Pv.aVnil)) (Pv.aVcons (Pv.v_tup (Pv.aVcons (Pv.v_tup (Pv.aVcons (Pv.v_tup (Pv.aVcons Pv.kStr Pv.aVnil)) (Pv.aVcons (Pv.v_tup Pv.aVnil) Pv.aVnil))) Pv.aVnil)) Pv.aVnil))))))))) (Pv.s_cons (Pv.s_set (i := 2) sc.nd (Pv.vF (Pv.f_cat (Pv.rV (Pv.pe_V 2 (pv 2))) (Pv.rF (Pv.f_lst (Pv.aVcons (Pv.v_tup (Pv.aVcons (Pv.v_tup (Pv.aVcons (Pv.v_tup (Pv.aVcons Pv.kStr Pv.aVnil)) (Pv.aVcons (Pv.v_repT (Pv.rV (Pv.v_tup (Pv.aVcons (Pv.v_tup (Pv.aVcons Pv.kInt Pv.aVnil)) Pv.aVnil))) (Pv.rV Pv.kInt)) Pv.aVnil))) Pv.aVnil)) Pv.aVnil)))))) (Pv.s_cons (Pv.s_for [4] hp rfl (Pv.i_lst (Pv.pe_V 2 (pv 2))) (pg_name (i := 4) sc.nd rfl (by first | exact Or.inl rfl | exact Or.inr rfl)) (Pv.tg_name 4) (Pv.s_one (Pv.s_app 1 (pv 1) (Pv.v_tuple T.n_tuple (Pv.aRcons (Pv.rF (Pv.f_cat (Pv.rF (Pv.f_cat (Pv.rF (Pv.f_slice (Pv.rV (Pv.pe_V 0 (pv 0))) Pv.o_no (Pv.o_so Pv.kInt))) (Pv.rF (Pv.f_lst (Pv.aVcons (Pv.pe_V 4 (pv 4)) Pv.aVnil))))) (Pv.rF (Pv.f_slice (Pv.rV (Pv.pe_V 0 (pv 0))) (Pv.o_so Pv.kInt) Pv.o_no)))) Pv.aRnil))))) (Pv.s_cons (Pv.s_set (i := 2) sc.nd (Pv.vF (Pv.f_lst (Pv.aVcons (Pv.v_tup (Pv.aVcons (Pv.v_tup (Pv.aVcons (Pv.v_tup (Pv.aVcons Pv.kStr Pv.aVnil)) (Pv.aVcons (Pv.v_tup (Pv.aVcons (Pv.v_tup (Pv.aVcons Pv.kInt (Pv.aVcons Pv.kInt Pv.aVnil))) Pv.aVnil)) Pv.aVnil))) Pv.aVnil)) (Pv.aVcons (Pv.v_tup (Pv.aVcons (Pv.v_tup (Pv.aVcons (Pv.v_tup (Pv.aVcons Pv.kStr (Pv.aVcons Pv.kStr Pv.aVnil))) (Pv.aVcons (Pv.v_tup (Pv.aVcons (Pv.v_tup (Pv.aVcons Pv.kInt Pv.aVnil)) Pv.aVnil)) Pv.aVnil))) Pv.aVnil)) (Pv.aVcons (Pv.v_tup (Pv.aVcons (Pv.v_tup (Pv.aVcons (Pv.v_tup (Pv.aVcons Pv.kStr Pv.aVnil)) (Pv.aVcons (Pv.vF (Pv.f_lst (Pv.aVcons (Pv.v_tup (Pv.aVcons Pv.kInt Pv.aVnil)) Pv.aVnil))) Pv.aVnil))) Pv.aVnil)) Pv.aVnil)))))) (Pv.s_cons (Pv.s_set (i := 2) sc.nd (Pv.vF (Pv.f_cat (Pv.rV (Pv.pe_V 2 (pv 2))) (Pv.rF (Pv.f_lst (Pv.aVcons (Pv.v_tup (Pv.aVcons (Pv.v_tup (Pv.aVcons (Pv.v_tup (Pv.aVcons Pv.kStr Pv.aVnil)) (Pv.aVcons (Pv.v_tup (Pv.aVcons (Pv.vF (Pv.f_lst (Pv.aVcons Pv.kInt Pv.aVnil))) Pv.aVnil)) Pv.aVnil))) Pv.aVnil)) (Pv.aVcons (Pv.v_tup (Pv.aVcons (Pv.v_tup (Pv.aVcons (Pv.vF (Pv.f_lst (Pv.aVcons Pv.kStr Pv.aVnil))) (Pv.aVcons (Pv.v_tup (Pv.aVcons (Pv.v_tup (Pv.aVcons Pv.kInt Pv.aVnil)) Pv.aVnil)) Pv.aVnil))) Pv.aVnil)) Pv.aVnil))))))) (Pv.s_cons (Pv.s_for [4] hp rfl (Pv.i_lst (Pv.pe_V 2 (pv 2))) (pg_name (i := 4) sc.nd rfl (by first | exact Or.inl rfl | exact Or.inr rfl)) (Pv.tg_name 4) (Pv.s_one (Pv.s_app 1 (pv 1) (Pv.v_tuple T.n_tuple (Pv.aRcons (Pv.rF (Pv.f_cat (Pv.rF (Pv.f_cat (Pv.rF (Pv.f_slice (Pv.rV (Pv.pe_V 0 (pv 0))) Pv.o_no (Pv.o_so Pv.kInt))) (Pv.rF (Pv.f_lst (Pv.aVcons (Pv.pe_V 4 (pv 4)) Pv.aVnil))))) (Pv.rF (Pv.f_slice (Pv.rV (Pv.pe_V 0 (pv 0))) (Pv.o_so Pv.kInt) Pv.o_no)))) Pv.aRnil))))) (Pv.s_cons (Pv.s_set (i := 2) sc.nd (Pv.vF (Pv.f_lst (Pv.aVcons (Pv.v_tup (Pv.aVcons (Pv.v_tup (Pv.aVcons (Pv.v_tup (Pv.aVcons Pv.kStr Pv.aVnil)) (Pv.aVcons (Pv.v_tup (Pv.aVcons (Pv.v_tup (Pv.aVcons Pv.kNon Pv.aVnil)) Pv.aVnil)) Pv.aVnil))) Pv.aVnil)) (Pv.aVcons (Pv.v_tup (Pv.aVcons (Pv.v_tup (Pv.aVcons (Pv.v_tup (Pv.aVcons Pv.kStr Pv.aVnil)) (Pv.aVcons (Pv.v_tup (Pv.aVcons (Pv.v_tup (Pv.aVcons Pv.kInt Pv.aVnil)) Pv.aVnil)) Pv.aVnil))) Pv.aVnil)) Pv.aVnil))))) (Pv.s_cons (Pv.s_set (i := 2) sc.nd (Pv.vF (Pv.f_cat (Pv.rV (Pv.pe_V 2 (pv 2))) (Pv.rF (Pv.f_lst (Pv.aVcons (Pv.v_tup (Pv.aVcons (Pv.v_tup (Pv.aVcons (Pv.v_tup (Pv.aVcons Pv.kStr (Pv.aVcons Pv.kStr (Pv.aVcons Pv.kStr (Pv.aVcons Pv.kStr Pv.aVnil))))) (Pv.aVcons (Pv.v_tup (Pv.aVcons (Pv.v_tup (Pv.aVcons Pv.kInt (Pv.aVcons Pv.kInt (Pv.aVcons Pv.kInt (Pv.aVcons Pv.kInt Pv.aVnil))))) Pv.aVnil)) Pv.aVnil))) Pv.aVnil)) Pv.aVnil)))))) (Pv.s_cons (Pv.s_for [4] hp rfl (Pv.i_lst (Pv.pe_V 2 (pv 2))) (pg_name (i := 4) sc.nd rfl (by first | exact Or.inl rfl | exact Or.inr rfl)) (Pv.tg_name 4) (Pv.s_one (Pv.s_app 1 (pv 1) (Pv.v_tuple T.n_tuple (Pv.aRcons (Pv.rF (Pv.f_cat (Pv.rF (Pv.f_cat (Pv.rF (Pv.f_slice (Pv.rV (Pv.pe_V 0 (pv 0))) Pv.o_no (Pv.o_so Pv.kInt))) (Pv.rF (Pv.f_lst (Pv.aVcons (Pv.pe_V 4 (pv 4)) Pv.aVnil))))) (Pv.rF (Pv.f_slice (Pv.rV (Pv.pe_V 0 (pv 0))) (Pv.o_so Pv.kInt) Pv.o_no)))) Pv.aRnil))))) (Pv.s_cons (Pv.s_setF (i := 1) sc.nd (Pv.f_cat (Pv.pe_R 1 (pv 1)) (Pv.rF (Pv.f_lst (Pv.aVcons (Pv.v_tup (Pv.aVcons Pv.kStr (Pv.aVcons Pv.kStr (Pv.aVcons (Pv.v_tup Pv.aVnil) (Pv.aVcons (Pv.v_tup Pv.aVnil) (Pv.aVcons (Pv.v_tup (Pv.aVcons Pv.kStr (Pv.aVcons Pv.kStr Pv.aVnil))) (Pv.aVcons (Pv.v_tup Pv.aVnil) Pv.aVnil))))))) (Pv.aVcons (Pv.v_tup (Pv.aVcons Pv.kStr (Pv.aVcons Pv.kStr (Pv.aVcons (Pv.v_tup Pv.aVnil) (Pv.aVcons (Pv.v_tup Pv.aVnil) (Pv.aVcons (Pv.v_tup Pv.aVnil) (Pv.aVcons Pv.kNon Pv.aVnil))))))) Pv.aVnil)))))) (Pv.s_one (Pv.s_ret (Pv.vF (Pv.f_cat (Pv.pe_R 1 (pv 1)) (Pv.rF (Pv.f_lst (Pv.aVcons (Pv.v_tup (Pv.aVcons Pv.kStr (Pv.aVcons Pv.kStr (Pv.aVcons (Pv.v_tup Pv.aVnil) (Pv.aVcons (Pv.v_tup Pv.aVnil) (Pv.aVcons (Pv.v_tup Pv.aVnil) (Pv.aVcons (Pv.v_tup (Pv.aVcons Pv.kInt Pv.aVnil)) Pv.aVnil))))))) Pv.aVnil))))))))))))))))))))))))
abbrev st__law_nest : Stmt := topS 91
abbrev N__law_nest : List Str := ["many", "found", "j"]
theorem sc__law_nest : FnScope N__law_nest ["many"] (defScope st__law_nest) := ⟨rfl, rfl, rfl, by decide +kernel, rfl, by decide +kernel, by decide +kernel⟩
theorem b__law_nest {f : Addr} {fd : FuncData} {k : Nat} {g : List PV → R PV} (T : Top w K mg) (Fn : Fun K "_law_nest" "_law_nest" st__law_nest f fd) (hl : ∀ ds, g ds ≠ .bad → ds.length = 1) (hd : ∀ ds, g ds ≠ .bad → toV (D__law_nest (fm0 3 ds)) = g ds) :
    FnOk P w K mg base (L2C.CX P w) (k + 1) f fd ["many"] (spV K mg g) :=
  fn_V (d := D__law_nest) Fn sc__law_nest hl hd (by
    intro cdv A outer s H E hcv hr
    have sc := sc__law_nest
    have tk : L2C.Takes (cxX P w K mg base N__law_nest "_law_nest" st__law_nest f cdv A outer s H E) (wE E) := L2C.takes_of rfl rfl rfl rfl
    have hp : PassesOwn (model P w) (cxX P w K mg base N__law_nest "_law_nest" st__law_nest f cdv A outer s H E).A (cxX P w K mg base N__law_nest "_law_nest" st__law_nest f cdv A outer s H E).env (cxX P w K mg base N__law_nest "_law_nest" st__law_nest f cdv A outer s H E).xe := passes_of rfl
    exact (Pv.s_cons (Pv.s_set (i := 1) sc.nd (Pv.v_tup (Pv.aVcons Pv.kStr (Pv.aVcons Pv.kStr (Pv.aVcons (Pv.v_tup Pv.aVnil) (Pv.aVcons (Pv.v_tup Pv.aVnil) (Pv.aVcons (Pv.v_tup Pv.aVnil) Pv.aVnil))))))) (Pv.s_cons (Pv.s_for [2] hp rfl (Pv.i_rg1 T.n_range (Pv.aRcons (Pv.rV (Pv.pe_V 0 (pv 0))) Pv.aRnil)) (pg_name (i := 2) sc.nd rfl (by first | exact Or.inl rfl | exact Or.inr rfl)) (Pv.tg_name 2) (Pv.s_one (Pv.s_set (i := 1) sc.nd (Pv.v_tup (Pv.aVcons Pv.kStr (Pv.aVcons Pv.kStr (Pv.aVcons (Pv.v_tup Pv.aVnil) (Pv.aVcons (Pv.v_tup Pv.aVnil) (Pv.aVcons (Pv.v_tup (Pv.aVcons (Pv.pe_V 1 (pv 1)) Pv.aVnil)) Pv.aVnil))))))))) (Pv.s_one (Pv.s_ret (Pv.pe_V 1 (pv 1)))))))
abbrev st__law_bad_groups : Stmt := topS 90
abbrev N__law_bad_groups : List Str := ["one", "maker", "found", "makers", "tries", "name"]
theorem sc__law_bad_groups : FnScope N__law_bad_groups [] (defScope st__law_bad_groups) := ⟨rfl, rfl, rfl, by decide +kernel, rfl, by decide +kernel, by decide +kernel⟩
theorem b__law_bad_groups {f : Addr} {fd : FuncData} {k : Nat} {g : List PV → R PV} (T : Top w K mg) (Fn : Fun K "_law_bad_groups" "_law_bad_groups" st__law_bad_groups f fd) {k__law_nest : Nat} {g__law_nest : List PV → R PV} (C__law_nest : CaV P w K mg base k__law_nest "_law_nest" g__law_nest) (h__law_nest : k__law_nest ≤ k) (hl : ∀ ds, g ds ≠ .bad → ds.length = 0) (hd : ∀ ds, g ds ≠ .bad → toV ((D__law_bad_groups g__law_nest) (fm0 6 ds)) = g ds) :
    FnOk P w K mg base (L2C.CX P w) (k + 1) f fd [] (spV K mg g) :=
  fn_V (d := (D__law_bad_groups g__law_nest)) Fn sc__law_bad_groups hl hd (by
    intro cdv A outer s H E hcv hr
    have sc := sc__law_bad_groups
    have tk : L2C.Takes (cxX P w K mg base N__law_bad_groups "_law_bad_groups" st__law_bad_groups f cdv A outer s H E) (wE E) := L2C.takes_of rfl rfl rfl rfl
    have hp : PassesOwn (model P w) (cxX P w K mg base N__law_bad_groups "_law_bad_groups" st__law_bad_groups f cdv A outer s H E).A (cxX P w K mg base N__law_bad_groups "_law_bad_groups" st__law_bad_groups f cdv A outer s H E).env (cxX P w K mg base N__law_bad_groups "_law_bad_groups" st__law_bad_groups f cdv A outer s H E).xe := passes_of rfl
    exact (Pv.s_cons (Pv.s_set (i := 0) sc.nd (Pv.v_tup (Pv.aVcons Pv.kStr (Pv.aVcons Pv.kStr (Pv.aVcons (Pv.v_tup Pv.aVnil) (Pv.aVcons (Pv.v_tup Pv.aVnil) (Pv.aVcons (Pv.v_tup Pv.aVnil) (Pv.aVcons (Pv.v_tup Pv.aVnil) Pv.aVnil)))))))) (Pv.s_cons (Pv.s_set (i := 1) sc.nd (Pv.v_tup (Pv.aVcons Pv.kStr (Pv.aVcons Pv.kStr (Pv.aVcons Pv.kStr (Pv.aVcons (Pv.v_tup Pv.aVnil) (Pv.aVcons (Pv.v_tup (Pv.aVcons Pv.kInt Pv.aVnil)) (Pv.aVcons (Pv.v_tup Pv.aVnil) (Pv.aVcons (Pv.v_tup (Pv.aVcons Pv.kStr (Pv.aVcons Pv.kInt Pv.aVnil))) (Pv.aVcons (Pv.v_tup Pv.aVnil) Pv.aVnil)))))))))) (Pv.s_cons (Pv.s_set (i := 2) sc.nd (Pv.vF (Pv.f_lst (Pv.aVcons Pv.kNon (Pv.aVcons (Pv.v_tup Pv.aVnil) (Pv.aVcons (Pv.v_tup (Pv.aVcons Pv.kStr Pv.aVnil)) (Pv.aVcons (Pv.v_tup (Pv.aVcons Pv.kStr (Pv.aVcons Pv.kStr (Pv.aVcons (Pv.v_tup Pv.aVnil) (Pv.aVcons (Pv.v_tup Pv.aVnil) (Pv.aVcons (Pv.v_tup Pv.aVnil) (Pv.aVcons (Pv.v_tup Pv.aVnil) Pv.aVnil))))))) Pv.aVnil))))))) (Pv.s_cons (Pv.s_set (i := 2) sc.nd (Pv.vF (Pv.f_cat (Pv.rV (Pv.pe_V 2 (pv 2))) (Pv.rF (Pv.f_lst (Pv.aVcons (Pv.vF (Pv.f_lst (Pv.aVcons Pv.kStr (Pv.aVcons Pv.kStr (Pv.aVcons (Pv.v_tup Pv.aVnil) (Pv.aVcons (Pv.v_tup Pv.aVnil) (Pv.aVcons (Pv.v_tup Pv.aVnil) Pv.aVnil))))))) (Pv.aVcons (Pv.v_tup (Pv.aVcons Pv.kStr (Pv.aVcons Pv.kStr (Pv.aVcons (Pv.v_tup Pv.aVnil) (Pv.aVcons (Pv.v_tup Pv.aVnil) (Pv.aVcons (Pv.v_tup Pv.aVnil) Pv.aVnil)))))) Pv.aVnil))))))) (Pv.s_cons (Pv.s_set (i := 2) sc.nd (Pv.vF (Pv.f_cat (Pv.rV (Pv.pe_V 2 (pv 2))) (Pv.rF (Pv.f_lst (Pv.aVcons (Pv.v_tup (Pv.aVcons Pv.kStr (Pv.aVcons Pv.kStr (Pv.aVcons (Pv.v_tup Pv.aVnil) (Pv.aVcons (Pv.v_tup Pv.aVnil) (Pv.aVcons (Pv.v_tup Pv.aVnil) Pv.aVnil)))))) (Pv.aVcons (Pv.v_tup (Pv.aVcons Pv.kStr (Pv.aVcons Pv.kStr (Pv.aVcons Pv.kNon (Pv.aVcons (Pv.v_tup Pv.aVnil) (Pv.aVcons (Pv.v_tup Pv.aVnil) Pv.aVnil)))))) Pv.aVnil))))))) (Pv.s_cons (Pv.s_set (i := 2) sc.nd (Pv.vF (Pv.f_cat (Pv.rV (Pv.pe_V 2 (pv 2))) (Pv.rF (Pv.f_lst (Pv.aVcons (Pv.v_tup (Pv.aVcons Pv.kStr (Pv.aVcons Pv.kStr (Pv.aVcons (Pv.v_tup (Pv.aVcons Pv.kStr (Pv.aVcons Pv.kStr Pv.aVnil))) (Pv.aVcons (Pv.v_tup Pv.aVnil) (Pv.aVcons (Pv.v_tup Pv.aVnil) Pv.aVnil)))))) Pv.aVnil)))))) (Pv.s_cons (Pv.s_set (i := 2) sc.nd (Pv.vF (Pv.f_cat (Pv.rV (Pv.pe_V 2 (pv 2))) (Pv.rF (Pv.f_lst (Pv.aVcons (Pv.v_tup (Pv.aVcons Pv.kStr (Pv.aVcons Pv.kStr (Pv.aVcons (Pv.v_tup Pv.aVnil) (Pv.aVcons Pv.kNon (Pv.aVcons (Pv.v_tup Pv.aVnil) Pv.aVnil)))))) (Pv.aVcons (Pv.v_tup (Pv.aVcons Pv.kStr (Pv.aVcons Pv.kStr (Pv.aVcons (Pv.v_tup Pv.aVnil) (Pv.aVcons (Pv.v_tup (Pv.aVcons (Pv.pe_V 1 (pv 1)) (Pv.aVcons (Pv.pe_V 1 (pv 1)) Pv.aVnil))) (Pv.aVcons (Pv.v_tup Pv.aVnil) Pv.aVnil)))))) Pv.aVnil))))))) (Pv.s_cons (Pv.s_set (i := 2) sc.nd (Pv.vF (Pv.f_cat (Pv.rV (Pv.pe_V 2 (pv 2))) (Pv.rF (Pv.f_lst (Pv.aVcons (Pv.v_tup (Pv.aVcons Pv.kStr (Pv.aVcons Pv.kStr (Pv.aVcons (Pv.v_tup Pv.aVnil) (Pv.aVcons (Pv.v_tup Pv.aVnil) (Pv.aVcons Pv.kNon Pv.aVnil)))))) Pv.aVnil)))))) (Pv.s_cons (Pv.s_set (i := 2) sc.nd (Pv.vF (Pv.f_cat (Pv.rV (Pv.pe_V 2 (pv 2))) (Pv.rF (Pv.f_lst (Pv.aVcons (Pv.v_tup (Pv.aVcons Pv.kStr (Pv.aVcons Pv.kStr (Pv.aVcons (Pv.v_tup Pv.aVnil) (Pv.aVcons (Pv.v_tup Pv.aVnil) (Pv.aVcons (Pv.v_tup (Pv.aVcons (Pv.pe_V 0 (pv 0)) (Pv.aVcons (Pv.pe_V 0 (pv 0)) Pv.aVnil))) Pv.aVnil)))))) (Pv.aVcons (Pv.v_tup (Pv.aVcons Pv.kStr (Pv.aVcons Pv.kStr (Pv.aVcons (Pv.v_tup Pv.aVnil) (Pv.aVcons (Pv.v_tup Pv.aVnil) (Pv.aVcons (Pv.v_tup (Pv.aVcons (Pv.pe_V 1 (pv 1)) Pv.aVnil)) Pv.aVnil)))))) Pv.aVnil))))))) (Pv.s_cons (Pv.s_set (i := 2) sc.nd (Pv.vF (Pv.f_cat (Pv.rV (Pv.pe_V 2 (pv 2))) (Pv.rF (Pv.f_lst (Pv.aVcons (Pv.v_tup (Pv.aVcons Pv.kStr (Pv.aVcons Pv.kStr (Pv.aVcons (Pv.v_tup Pv.aVnil) (Pv.aVcons (Pv.v_tup (Pv.aVcons (Pv.pe_V 0 (pv 0)) Pv.aVnil)) (Pv.aVcons (Pv.v_tup Pv.aVnil) Pv.aVnil)))))) Pv.aVnil)))))) (Pv.s_cons (Pv.s_set (i := 2) sc.nd (Pv.vF (Pv.f_cat (Pv.rV (Pv.pe_V 2 (pv 2))) (Pv.rF (Pv.f_lst (Pv.aVcons (Pv.v_tup (Pv.aVcons Pv.kStr (Pv.aVcons Pv.kStr (Pv.aVcons (Pv.v_tup Pv.aVnil) (Pv.aVcons (Pv.v_tup Pv.aVnil) (Pv.aVcons (Pv.v_tup (Pv.aVcons (Pv.pe_V 0 (pv 0)) (Pv.aVcons (Pv.v_tup (Pv.aVcons Pv.kStr (Pv.aVcons Pv.kStr (Pv.aVcons (Pv.v_tup Pv.aVnil) (Pv.aVcons (Pv.v_tup Pv.aVnil) (Pv.aVcons (Pv.v_tup Pv.aVnil) Pv.aVnil)))))) Pv.aVnil))) Pv.aVnil)))))) (Pv.aVcons (Pv.v_call C__law_nest tk hr (Pv.aVcons Pv.kInt Pv.aVnil) h__law_nest) Pv.aVnil))))))) (Pv.s_cons (Pv.s_set (i := 3) sc.nd (Pv.v_tuple T.n_tuple (Pv.aRcons (Pv.rF (Pv.f_lc [(Str.ofString "name", 5)] rfl rfl sc.nd (Pv.iR (Pv.i_str Pv.kStr)) (blkOk_by (N := N__law_bad_groups) (sc := defScope st__law_bad_groups) (by decide +kernel)) (fun _ _ _ _ _ => (pg_name (i := 5) sc.nd rfl (by first | exact Or.inl rfl | exact Or.inr rfl))) (Pv.tg_name 5) (by decide) (fun _ _ _ _ _ => Pv.tests_nil) (fun _ _ _ _ _ => (Pv.v_tup (Pv.aVcons Pv.kStr (Pv.aVcons (Pv.pe_V 5 (pv 5)) (Pv.aVcons Pv.kStr (Pv.aVcons (Pv.v_tup Pv.aVnil) (Pv.aVcons (Pv.v_tup (Pv.aVcons Pv.kInt Pv.aVnil)) (Pv.aVcons (Pv.v_tup Pv.aVnil) (Pv.aVcons (Pv.v_tup (Pv.aVcons Pv.kStr (Pv.aVcons Pv.kInt Pv.aVnil))) (Pv.aVcons (Pv.v_tup Pv.aVnil) Pv.aVnil)))))))))))) Pv.aRnil))) (Pv.s_cons (Pv.s_set (i := 4) sc.nd (Pv.v_tuple T.n_tuple (Pv.aRcons (Pv.rF (Pv.f_lc [(Str.ofString "name", 5)] rfl rfl sc.nd (Pv.iR (Pv.i_str Pv.kStr)) (blkOk_by (N := N__law_bad_groups) (sc := defScope st__law_bad_groups) (by decide +kernel)) (fun _ _ _ _ _ => (pg_name (i := 5) sc.nd rfl (by first | exact Or.inl rfl | exact Or.inr rfl))) (Pv.tg_name 5) (by decide) (fun _ _ _ _ _ => Pv.tests_nil) (fun _ _ _ _ _ => (Pv.v_tup (Pv.aVcons Pv.kStr (Pv.aVcons (Pv.pe_V 5 (pv 5)) (Pv.aVcons (Pv.v_tup Pv.aVnil) (Pv.aVcons (Pv.v_tup Pv.aVnil) (Pv.aVcons (Pv.v_tup Pv.aVnil) (Pv.aVcons (Pv.v_tup Pv.aVnil) Pv.aVnil)))))))))) Pv.aRnil))) (Pv.s_one (Pv.s_ret (Pv.vF (Pv.f_cat (Pv.rV (Pv.pe_V 2 (pv 2))) (Pv.rF (Pv.f_lst (Pv.aVcons (Pv.v_tup (Pv.aVcons Pv.kStr (Pv.aVcons Pv.kStr (Pv.aVcons (Pv.v_tup Pv.aVnil) (Pv.aVcons (Pv.pe_V 3 (pv 3)) (Pv.aVcons (Pv.v_tup Pv.aVnil) Pv.aVnil)))))) (Pv.aVcons (Pv.v_tup (Pv.aVcons Pv.kStr (Pv.aVcons Pv.kStr (Pv.aVcons (Pv.v_tup Pv.aVnil) (Pv.aVcons (Pv.v_tup Pv.aVnil) (Pv.aVcons (Pv.pe_V 4 (pv 4)) Pv.aVnil)))))) Pv.aVnil))))))))))))))))))))))
abbrev st__law_with : Stmt := topS 92
abbrev N__law_with : List Str := ["house", "more", "makers", "tries", "groups", "way", "sort", "name", "marks", "own", "members", "here", "bad"]
theorem sc__law_with : FnScope N__law_with ["house", "more"] (defScope st__law_with) := ⟨rfl, rfl, rfl, by decide +kernel, rfl, by decide +kernel, by decide +kernel⟩
theorem b__law_with {f : Addr} {fd : FuncData} {k : Nat} {g : List PV → R PV} (T : Top w K mg) (Fn : Fun K "_law_with" "_law_with" st__law_with f fd) {k__law_bad_groups : Nat} {g__law_bad_groups : List PV → R PV} (C__law_bad_groups : CaV P w K mg base k__law_bad_groups "_law_bad_groups" g__law_bad_groups) (h__law_bad_groups : k__law_bad_groups ≤ k) {k__law_bad_tries : Nat} {g__law_bad_tries : List PV → R PV} (C__law_bad_tries : CaV P w K mg base k__law_bad_tries "_law_bad_tries" g__law_bad_tries) (h__law_bad_tries : k__law_bad_tries ≤ k) {k__law_bad_makers : Nat} {g__law_bad_makers : List PV → R (List PV)} (C__law_bad_makers : CaF P w K mg base k__law_bad_makers "_law_bad_makers" g__law_bad_makers) (h__law_bad_makers : k__law_bad_makers ≤ k) (hl : ∀ ds, g ds ≠ .bad → ds.length = 2) (hd : ∀ ds, g ds ≠ .bad → toV ((D__law_with g__law_bad_groups g__law_bad_tries g__law_bad_makers) (fm0 13 ds)) = g ds) :
    FnOk P w K mg base (L2C.CX P w) (k + 1) f fd ["house", "more"] (spV K mg g) :=
  fn_V (d := (D__law_with g__law_bad_groups g__law_bad_tries g__law_bad_makers)) Fn sc__law_with hl hd (by
    intro cdv A outer s H E hcv hr
    have sc := sc__law_with
    have tk : L2C.Takes (cxX P w K mg base N__law_with "_law_with" st__law_with f cdv A outer s H E) (wE E) := L2C.takes_of rfl rfl rfl rfl
    have hp : PassesOwn (model P w) (cxX P w K mg base N__law_with "_law_with" st__law_with f cdv A outer s H E).A (cxX P w K mg base N__law_with "_law_with" st__law_with f cdv A outer s H E).env (cxX P w K mg base N__law_with "_law_with" st__law_with f cdv A outer s H E).xe := passes_of rfl
    exact (Pv.s_cons (Pv.s_par3 (i := 2) (j := 3) (l := 4) rfl sc.nd rfl rfl rfl (by decide) (by decide) (by decide) rfl rfl rfl (Pv.aVcons (Pv.vF (Pv.f_call0 C__law_bad_makers tk hr h__law_bad_makers)) (Pv.aVcons (Pv.v_call0 C__law_bad_tries tk hr h__law_bad_tries) (Pv.aVcons (Pv.v_call0 C__law_bad_groups tk hr h__law_bad_groups) Pv.aVnil))) rfl) (Pv.s_cons (Pv.s_set (i := 5) sc.nd (Pv.v_mod (Pv.rV (Pv.pe_V 1 (pv 1))) (Pv.rV Pv.kInt))) (Pv.s_cons (Pv.s_setT [6, 7, 8, 9, 10] (Pv.pe_V 0 (pv 0)) (pg_tup rfl (pgs_cons (pg_name (i := 6) sc.nd rfl (by first | exact Or.inl rfl | exact Or.inr rfl)) (pgs_cons (pg_name (i := 7) sc.nd rfl (by first | exact Or.inl rfl | exact Or.inr rfl)) (pgs_cons (pg_name (i := 8) sc.nd rfl (by first | exact Or.inl rfl | exact Or.inr rfl)) (pgs_cons (pg_name (i := 9) sc.nd rfl (by first | exact Or.inl rfl | exact Or.inr rfl)) (pgs_cons (pg_name (i := 10) sc.nd rfl (by first | exact Or.inl rfl | exact Or.inr rfl)) pgs_nil))))))) (Pv.s_cons (Pv.s_set (i := 11) sc.nd (Pv.v_div (Pv.rV (Pv.pe_V 1 (pv 1))) (Pv.rV Pv.kInt))) (Pv.s_cons (Pv.s_if (Pv.t_cmp (Pv.c_eq hr) (Pv.rV (Pv.pe_V 5 (pv 5))) (Pv.rV Pv.kInt)) (Pv.s_one (Pv.s_ret (Pv.v_tup (Pv.aVcons (Pv.pe_V 6 (pv 6)) (Pv.aVcons (Pv.pe_V 7 (pv 7)) (Pv.aVcons (Pv.pe_V 8 (pv 8)) (Pv.aVcons (Pv.v_add (Pv.rV (Pv.pe_V 9 (pv 9))) (Pv.rV (Pv.v_tup (Pv.aVcons (Pv.v_idx (Pv.rV (Pv.pe_V 2 (pv 2))) (Pv.rV (Pv.v_mod (Pv.rV (Pv.pe_V 11 (pv 11))) (Pv.rV (Pv.v_len T.n_len (Pv.aRcons (Pv.rV (Pv.pe_V 2 (pv 2))) Pv.aRnil)))))) Pv.aVnil)))) (Pv.aVcons (Pv.pe_V 10 (pv 10)) Pv.aVnil)))))))) Pv.s_nil) (Pv.s_cons (Pv.s_set (i := 12) sc.nd (Pv.pe_ifS Pv.stGV (Pv.t_cmp (Pv.c_eq hr) (Pv.rV (Pv.pe_V 5 (pv 5))) (Pv.rV Pv.kInt)) (Pv.v_idx (Pv.rV (Pv.pe_V 3 (pv 3))) (Pv.rV (Pv.v_mod (Pv.rV (Pv.pe_V 11 (pv 11))) (Pv.rV (Pv.v_len T.n_len (Pv.aRcons (Pv.rV (Pv.pe_V 3 (pv 3))) Pv.aRnil)))))) (Pv.v_idx (Pv.rV (Pv.pe_V 4 (pv 4))) (Pv.rV (Pv.v_mod (Pv.rV (Pv.pe_V 11 (pv 11))) (Pv.rV (Pv.v_len T.n_len (Pv.aRcons (Pv.rV (Pv.pe_V 4 (pv 4))) Pv.aRnil)))))))) (Pv.s_cons (Pv.s_if (Pv.t_cmp (Pv.c_eq hr) (Pv.rV (Pv.v_mod (Pv.rV (Pv.v_div (Pv.rV (Pv.pe_V 11 (pv 11))) (Pv.rV Pv.kInt))) (Pv.rV Pv.kInt))) (Pv.rV Pv.kInt)) (Pv.s_one (Pv.s_ret (Pv.v_tup (Pv.aVcons (Pv.pe_V 6 (pv 6)) (Pv.aVcons (Pv.pe_V 7 (pv 7)) (Pv.aVcons (Pv.pe_V 8 (pv 8)) (Pv.aVcons (Pv.pe_V 9 (pv 9)) (Pv.aVcons (Pv.v_add (Pv.rV (Pv.v_tup (Pv.aVcons (Pv.pe_V 12 (pv 12)) Pv.aVnil))) (Pv.rV (Pv.pe_V 10 (pv 10)))) Pv.aVnil)))))))) Pv.s_nil) (Pv.s_one (Pv.s_ret (Pv.v_tup (Pv.aVcons (Pv.pe_V 6 (pv 6)) (Pv.aVcons (Pv.pe_V 7 (pv 7)) (Pv.aVcons (Pv.pe_V 8 (pv 8)) (Pv.aVcons (Pv.pe_V 9 (pv 9)) (Pv.aVcons (Pv.v_add (Pv.rV (Pv.v_tup (Pv.aVcons (Pv.v_tup (Pv.aVcons Pv.kStr (Pv.aVcons Pv.kStr (Pv.aVcons (Pv.v_tup Pv.aVnil) (Pv.aVcons (Pv.v_tup Pv.aVnil) (Pv.aVcons (Pv.v_tup (Pv.aVcons (Pv.pe_V 12 (pv 12)) Pv.aVnil)) Pv.aVnil)))))) Pv.aVnil))) (Pv.rV (Pv.v_slice (Pv.rV (Pv.pe_V 10 (pv 10))) Pv.o_no (Pv.o_so Pv.kInt)))) Pv.aVnil))))))))))))))))
abbrev st_law : Stmt := topS 93
abbrev N_law : List Str := ["script", "k", "more", "house", "j", "bad", "groups"]
theorem sc_law : FnScope N_law ["script"] (defScope st_law) := ⟨rfl, rfl, rfl, by decide +kernel, rfl, by decide +kernel, by decide +kernel⟩
theorem b_law {f : Addr} {fd : FuncData} {k : Nat} {g : List PV → R PV} (T : Top w K mg) (Fn : Fun K "law" "law" st_law f fd) {kt : Nat} (ht : kt + 2 ≤ k) (TD : Told P w K mg base 1 "_law_told") (LA0 : LamAt base mg fd.code (qn "law")) {k__law_drawn : Nat} {g__law_drawn : List PV → R PV} (C__law_drawn : CaV P w K mg base k__law_drawn "_law_drawn" g__law_drawn) (h__law_drawn : k__law_drawn ≤ k) {k__law_cell : Nat} {g__law_cell : List PV → R PV} (C__law_cell : CaV P w K mg base k__law_cell "_law_cell" g__law_cell) (h__law_cell : k__law_cell ≤ k) {k__law_group : Nat} {g__law_group : List PV → R PV} (C__law_group : CaV P w K mg base k__law_group "_law_group" g__law_group) (h__law_group : k__law_group ≤ k) {k_need_house : Nat} {g_need_house : List PV → R PV} (C_need_house : CaV P w K mg base k_need_house "need_house" g_need_house) (h_need_house : k_need_house ≤ k) (hl_need_house : k_need_house ≤ kt) {k__law_nest : Nat} {g__law_nest : List PV → R PV} (C__law_nest : CaV P w K mg base k__law_nest "_law_nest" g__law_nest) (h__law_nest : k__law_nest ≤ k) {k__law_with : Nat} {g__law_with : List PV → R PV} (C__law_with : CaV P w K mg base k__law_with "_law_with" g__law_with) (h__law_with : k__law_with ≤ k) {k_wrong : Nat} {g_wrong : List PV → R PV} (C_wrong : CaV P w K mg base k_wrong "wrong" g_wrong) (hl_wrong : k_wrong ≤ kt) {k__law_bad_groups : Nat} {g__law_bad_groups : List PV → R PV} (C__law_bad_groups : CaV P w K mg base k__law_bad_groups "_law_bad_groups" g__law_bad_groups) (h__law_bad_groups : k__law_bad_groups ≤ k) (hl : ∀ ds, g ds ≠ .bad → ds.length = 1) (hd : ∀ ds, g ds ≠ .bad → toV ((D_law g__law_drawn g__law_cell g__law_group g_need_house g__law_nest g__law_with g_wrong g__law_bad_groups) (fm0 7 ds)) = g ds) :
    FnOk P w K mg base (L2C.CX P w) (k + 1) f fd ["script"] (spV K mg g) :=
  fn_V (d := (D_law g__law_drawn g__law_cell g__law_group g_need_house g__law_nest g__law_with g_wrong g__law_bad_groups)) Fn sc_law hl hd (by
    intro cdv A outer s H E hcv hr
    have sc := sc_law
    have LA : LamAt base mg cdv (qn "law") := hcv ▸ LA0
    have tk : L2C.Takes (cxX P w K mg base N_law "law" st_law f cdv A outer s H E) (wE E) := L2C.takes_of rfl rfl rfl rfl
    have hp : PassesOwn (model P w) (cxX P w K mg base N_law "law" st_law f cdv A outer s H E).A (cxX P w K mg base N_law "law" st_law f cdv A outer s H E).env (cxX P w K mg base N_law "law" st_law f cdv A outer s H E).xe := passes_of rfl
    exact (Pv.s_cons (Pv.s_for [1, 2, 3, 4, 5, 6] hp rfl (Pv.i_rg1 T.n_range (Pv.aRcons (Pv.rV (Pv.v_max2 rfl T.n_max (Pv.aRcons (Pv.rV Pv.kInt) (Pv.aRcons (Pv.rV (Pv.v_min2 rfl T.n_min (Pv.aRcons (Pv.rV Pv.kInt) (Pv.aRcons (Pv.rV (Pv.v_len T.n_len (Pv.aRcons (Pv.rV (Pv.pe_V 0 (pv 0))) Pv.aRnil))) Pv.aRnil)))) Pv.aRnil)))) Pv.aRnil)) (pg_name (i := 1) sc.nd rfl (by first | exact Or.inl rfl | exact Or.inr rfl)) (Pv.tg_name 1) (Pv.s_cons (Pv.s_set (i := 2) sc.nd (Pv.v_call C__law_drawn tk hr (Pv.aVcons (Pv.v_call C__law_cell tk hr (Pv.aVcons (Pv.pe_V 0 (pv 0)) (Pv.aVcons (Pv.pe_V 1 (pv 1)) Pv.aVnil)) h__law_cell) (Pv.aVcons (Pv.pe_V 1 (pv 1)) Pv.aVnil)) h__law_drawn)) (Pv.s_cons (Pv.s_set (i := 3) sc.nd (Pv.v_call C__law_group tk hr (Pv.aVcons (Pv.v_call C__law_drawn tk hr (Pv.aVcons (Pv.pe_V 2 (pv 2)) (Pv.aVcons Pv.kInt Pv.aVnil)) h__law_drawn) (Pv.aVcons Pv.kStr (Pv.aVcons Pv.kInt (Pv.aVcons (Pv.vF (Pv.f_lst Pv.aVnil)) Pv.aVnil)))) h__law_group)) (Pv.s_cons (Pv.s_if (PW.pt (Pv.w_or (Pv.t_notN (Pv.rV (Pv.v_told (k := kt) TD LA hr (LamX.lamS_by (sc := defScope st_law) (by decide +kernel)) (fun A outer s H E f c' hr => (Pv.v_call C_need_house Pv.lamN_takes hr (Pv.aVcons (Pv.pe_V 3 (pv 3)) Pv.aVnil) hl_need_house)) ht))) (pw_or1 (Pv.t_notN (Pv.rV (Pv.v_call C_need_house tk hr (Pv.aVcons (Pv.v_call C__law_nest tk hr (Pv.aVcons Pv.kInt Pv.aVnil) h__law_nest) Pv.aVnil) h_need_house)))))) (Pv.s_one (Pv.s_ret Pv.kBl)) Pv.s_nil) (Pv.s_cons (Pv.s_for [4, 5] hp rfl (Pv.i_rg1 T.n_range (Pv.aRcons (Pv.rV Pv.kInt) Pv.aRnil)) (pg_name (i := 4) sc.nd rfl (by first | exact Or.inl rfl | exact Or.inr rfl)) (Pv.tg_name 4) (Pv.s_cons (Pv.s_set (i := 5) sc.nd (Pv.v_call C__law_with tk hr (Pv.aVcons (Pv.pe_V 3 (pv 3)) (Pv.aVcons (Pv.v_call C__law_drawn tk hr (Pv.aVcons (Pv.pe_V 2 (pv 2)) (Pv.aVcons (Pv.v_add (Pv.rV Pv.kInt) (Pv.rV (Pv.pe_V 4 (pv 4)))) Pv.aVnil)) h__law_drawn) Pv.aVnil)) h__law_with)) (Pv.s_cons (Pv.s_if (Pv.t_cmp (Pv.c_ne hr) (Pv.rV (Pv.v_told (k := kt) TD LA hr (LamX.lamS_by (sc := defScope st_law) (by decide +kernel)) (fun A outer s H E f c' hr => (Pv.v_call C_need_house Pv.lamN_takes hr (Pv.aVcons (Pv.pe_V 5 (pv 5)) Pv.aVnil) hl_need_house)) ht)) (Pv.rV (Pv.v_tup (Pv.aVcons Pv.kStr (Pv.aVcons Pv.kStr Pv.aVnil))))) (Pv.s_one (Pv.s_ret Pv.kBl)) Pv.s_nil) (Pv.s_one (Pv.s_if (Pv.t_cmp (Pv.c_ne hr) (Pv.rV (Pv.v_told (k := kt) TD LA hr (LamX.lamS_by (sc := defScope st_law) (by decide +kernel)) (fun A outer s H E f c' hr => (Pv.v_call C_wrong Pv.lamN_takes hr (Pv.aVcons (Pv.pe_V 5 (pv 5)) Pv.aVnil) hl_wrong)) ht)) (Pv.rV (Pv.v_tup (Pv.aVcons Pv.kStr (Pv.aVcons Pv.kStr Pv.aVnil))))) (Pv.s_one (Pv.s_ret Pv.kBl)) Pv.s_nil))))) (Pv.s_cons (Pv.s_set (i := 6) sc.nd (Pv.v_call0 C__law_bad_groups tk hr h__law_bad_groups)) (Pv.s_cons (Pv.s_set (i := 5) sc.nd (Pv.v_idx (Pv.rV (Pv.pe_V 6 (pv 6))) (Pv.rV (Pv.v_mod (Pv.rV (Pv.v_div (Pv.rV (Pv.pe_V 2 (pv 2))) (Pv.rV Pv.kInt))) (Pv.rV (Pv.v_len T.n_len (Pv.aRcons (Pv.rV (Pv.pe_V 6 (pv 6))) Pv.aRnil))))))) (Pv.s_cons (Pv.s_if (Pv.t_cmp (Pv.c_ne hr) (Pv.rV (Pv.v_told (k := kt) TD LA hr (LamX.lamS_by (sc := defScope st_law) (by decide +kernel)) (fun A outer s H E f c' hr => (Pv.v_call C_need_house Pv.lamN_takes hr (Pv.aVcons (Pv.pe_V 5 (pv 5)) Pv.aVnil) hl_need_house)) ht)) (Pv.rV (Pv.v_tup (Pv.aVcons Pv.kStr (Pv.aVcons Pv.kStr Pv.aVnil))))) (Pv.s_one (Pv.s_ret Pv.kBl)) Pv.s_nil) (Pv.s_one (Pv.s_if (Pv.t_cmp (Pv.c_ne hr) (Pv.rV (Pv.v_told (k := kt) TD LA hr (LamX.lamS_by (sc := defScope st_law) (by decide +kernel)) (fun A outer s H E f c' hr => (Pv.v_call C_need_house Pv.lamN_takes hr (Pv.aVcons (Pv.v_tup (Pv.aVcons Pv.kStr (Pv.aVcons Pv.kStr (Pv.aVcons (Pv.v_tup Pv.aVnil) (Pv.aVcons (Pv.v_tup Pv.aVnil) (Pv.aVcons (Pv.v_tup Pv.aVnil) (Pv.aVcons (Pv.v_tup Pv.aVnil) Pv.aVnil))))))) Pv.aVnil) hl_need_house)) ht)) (Pv.rV (Pv.v_tup (Pv.aVcons Pv.kStr (Pv.aVcons Pv.kStr Pv.aVnil))))) (Pv.s_one (Pv.s_ret Pv.kBl)) Pv.s_nil)))))))))) (Pv.s_one (Pv.s_ret Pv.kBl))))
abbrev st__law_word : Stmt := topS 79
abbrev N__law_word : List Str := ["e", "flags", "words", "flag"]
theorem sc__law_word : FnScope N__law_word ["e"] (defScope st__law_word) := ⟨rfl, rfl, rfl, by decide +kernel, rfl, by decide +kernel, by decide +kernel⟩
theorem word_ok {f : Addr} {fd : FuncData} (T : Top w K mg) (Fn : Fun K "_law_word" "_law_word" st__law_word f fd) (hm : mg "_law_word" = some (.ref f)) (hb : Binds K fd ["e"] []) : Word P w K mg base 1 "_law_word" :=
  fn_word (k := 0) (Dw := D_word) (fun h => word_pure h) Fn sc__law_word rfl hm hb (by
    intro cdv A outer s H p pn e C d hc HE hmC hge hr
    have sc := sc__law_word
    exact (Pv.s_cons (Pv.s_set (i := 1) sc.nd (Pv.vF (Pv.f_lst (Pv.aVcons (Pv.v_isO T.wf hge hmC HE T.n_isinstance (pv 0) (by decide +kernel) rfl) (Pv.aVcons (Pv.v_isO T.wf hge hmC HE T.n_isinstance (pv 0) (by decide +kernel) rfl) (Pv.aVcons (Pv.v_isO T.wf hge hmC HE T.n_isinstance (pv 0) (by decide +kernel) rfl) (Pv.aVcons (Pv.v_isO T.wf hge hmC HE T.n_isinstance (pv 0) (by decide +kernel) rfl) Pv.aVnil))))))) (Pv.s_cons (Pv.s_set (i := 1) sc.nd (Pv.vF (Pv.f_cat (Pv.rV (Pv.pe_V 1 (pv 1))) (Pv.rF (Pv.f_lst (Pv.aVcons (Pv.v_isO T.wf hge hmC HE T.n_isinstance (pv 0) (by decide +kernel) rfl) (Pv.aVcons (Pv.v_isO T.wf hge hmC HE T.n_isinstance (pv 0) (by decide +kernel) rfl) (Pv.aVcons (Pv.v_isO T.wf hge hmC HE T.n_isinstance (pv 0) (by decide +kernel) rfl) Pv.aVnil)))))))) (Pv.s_cons (Pv.s_if (PW.pt (Pv.w_or (Pv.t_cmp (Pv.c_neH hr) (Pv.rV (Pv.v_sumH hc T.n_sum (Pv.aRcons (Pv.rF (Pv.f_lcH [(Str.ofString "flag", 3)] rfl hc sc.nd (Pv.rV (Pv.pe_V 1 (pv 1))) (blkOk_by (N := N__law_word) (sc := defScope st__law_word) (by decide +kernel)) (fun _ _ _ _ _ => (pg_name (i := 3) sc.nd rfl (by first | exact Or.inl rfl | exact Or.inr rfl))) (Pv.tg_name 3) (by decide) (fun _ _ _ _ _ => Pv.tests_nil) (fun _ _ _ _ _ => (Pv.v_int1 T.n_int (Pv.aRcons (Pv.rV (Pv.pe_V 3 (pv 3))) Pv.aRnil))))) Pv.aRnil))) (Pv.rV Pv.kInt)) (pw_or1 (Pv.t_not (Pv.tV_test (Pv.v_isVE T.wf hge hmC HE T.n_isinstance T.n_ValueError (pv 0))))))) (Pv.s_one (Pv.s_ret (Pv.v_tup (Pv.aVcons Pv.kStr (Pv.aVcons Pv.kStr Pv.aVnil))))) Pv.s_nil) (Pv.s_cons (Pv.s_if (Pv.tV_test (Pv.v_isO T.wf hge hmC HE T.n_isinstance (pv 0) (by decide +kernel) rfl)) (Pv.s_one (Pv.s_ret (Pv.v_tup (Pv.aVcons Pv.kStr (Pv.aVcons (Pv.v_xfT true rfl T.wf hge hmC HE (pv 0)) (Pv.aVcons (Pv.v_xfT false rfl T.wf hge hmC HE (pv 0)) Pv.aVnil)))))) Pv.s_nil) (Pv.s_cons (Pv.s_set (i := 2) sc.nd (Pv.vF (Pv.f_lst (Pv.aVcons Pv.kStr (Pv.aVcons Pv.kStr (Pv.aVcons Pv.kStr (Pv.aVcons Pv.kStr (Pv.aVcons Pv.kStr (Pv.aVcons Pv.kStr Pv.aVnil))))))))) (Pv.s_one (Pv.s_ret (Pv.v_tup (Pv.aVcons Pv.kStr (Pv.aVcons (Pv.v_idx (Pv.rV (Pv.pe_V 2 (pv 2))) (Pv.rV (Pv.v_indexH hr (Pv.rV (Pv.pe_V 1 (pv 1))) (Pv.rV Pv.kBl)))) Pv.aVnil)))))))))))
abbrev st__law_told : Stmt := topS 80
theorem sc__law_told : FnScope ["deed", "e"] ["deed"] (defScope st__law_told) := ⟨rfl, rfl, rfl, by decide +kernel, rfl, by decide +kernel, by decide +kernel⟩
theorem told_ok {f : Addr} {fd : FuncData} (T : Top w K mg) (Wd : Word P w K mg base 1 "_law_word") (Fn : Fun K "_law_told" "_law_told" st__law_told f fd) (hm : mg "_law_told" = some (.ref f)) (hb : Binds K fd ["deed"] []) : Told P w K mg base 1 "_law_told" :=
  told_mk Fn hm hb sc__law_told (.inl rfl) (by decide) (by decide) fun cdv => told_gives Wd (by decide +kernel) rfl rfl rfl T.wf.glT (by decide) (fun e C hg hC => T.wf.exm hg hC) (by decide) (by decide) (by decide)
end
theorem len_if {α : Type} {ds : List PV} {n : Nat} {r : R α} (h : (if ds.length = n then r else .bad) ≠ .bad) : ds.length = n := Decidable.byContradiction fun z => h (if_neg z)
section
structure Funs (P : Program) (w : World) (K : PySem.W.Frag) (mg : Str → Option Value) (base : Heap) : Prop where
  e_is_number : ∃ f fd, Fun K "is_number" "is_number" st_is_number f fd ∧ mg "is_number" = some (.ref f) ∧ Binds K fd ["thing"] []
  e_are_signs : ∃ f fd, Fun K "are_signs" "are_signs" st_are_signs f fd ∧ mg "are_signs" = some (.ref f) ∧ Binds K fd ["text"] []
  e_is_value : ∃ f fd, Fun K "is_value" "is_value" st_is_value f fd ∧ mg "is_value" = some (.ref f) ∧ Binds K fd ["thing", "deep"] []
  e_need_terms : ∃ f fd, Fun K "need" "need" st_need_terms f fd ∧ mg "need_terms" = some (.ref f) ∧ Binds K fd ["good"] []
  e_is_name : ∃ f fd, Fun K "is_name" "is_name" st_is_name f fd ∧ mg "is_name" = some (.ref f) ∧ Binds K fd ["thing"] []
  e_need_deep : ∃ f fd, Fun K "need_deep" "need_deep" st_need_deep f fd ∧ mg "need_deep" = some (.ref f) ∧ Binds K fd ["term", "deep"] []
  e_need_term : ∃ f fd, Fun K "need_term" "need_term" st_need_term f fd ∧ mg "need_term" = some (.ref f) ∧ Binds K fd ["term"] []
  e_need_step : ∃ f fd, Fun K "need_step" "need_step" st_need_step f fd ∧ mg "need_step" = some (.ref f) ∧ Binds K fd ["step", "deep"] []
  e_need_deep_body : ∃ f fd, Fun K "need_deep_body" "need_deep_body" st_need_deep_body f fd ∧ mg "need_deep_body" = some (.ref f) ∧ Binds K fd ["body", "deep"] []
  e_need_body : ∃ f fd, Fun K "need_body" "need_body" st_need_body f fd ∧ mg "need_body" = some (.ref f) ∧ Binds K fd ["body"] []
  e_need_houses : ∃ f fd, Fun K "need" "need" st_need_houses f fd ∧ mg "need_houses" = some (.ref f) ∧ Binds K fd ["good"] []
  e_is_text : ∃ f fd, Fun K "is_text" "is_text" st_is_text f fd ∧ mg "is_text" = some (.ref f) ∧ Binds K fd ["thing"] []
  e_need_steps : ∃ f fd, Fun K "need_steps" "need_steps" st_need_steps f fd ∧ mg "need_steps" = some (.ref f) ∧ Binds K fd ["body"] []
  e_need_worth : ∃ f fd, Fun K "need_worth" "need_worth" st_need_worth f fd ∧ mg "need_worth" = some (.ref f) ∧ Binds K fd ["term"] []
  e_need_names : ∃ f fd, Fun K "need_names" "need_names" st_need_names f fd ∧ mg "need_names" = some (.ref f) ∧ Binds K fd ["names", "least", "most"] []
  e_need_once : ∃ f fd, Fun K "need_once" "need_once" st_need_once f fd ∧ mg "need_once" = some (.ref f) ∧ Binds K fd ["names", "most"] []
  e_need_values : ∃ f fd, Fun K "need_values" "need_values" st_need_values f fd ∧ mg "need_values" = some (.ref f) ∧ Binds K fd ["values", "least", "most"] []
  e_need_maker : ∃ f fd, Fun K "need_maker" "need_maker" st_need_maker f fd ∧ mg "need_maker" = some (.ref f) ∧ Binds K fd ["maker"] []
  e_need_table : ∃ f fd, Fun K "need_table" "need_table" st_need_table f fd ∧ mg "need_table" = some (.ref f) ∧ Binds K fd ["table"] []
  e_need_try : ∃ f fd, Fun K "need_try" "need_try" st_need_try f fd ∧ mg "need_try" = some (.ref f) ∧ Binds K fd ["one"] []
  e_need_group : ∃ f fd, Fun K "need_group" "need_group" st_need_group f fd ∧ mg "need_group" = some (.ref f) ∧ Binds K fd ["group", "deep"] []
  e_need_member : ∃ f fd, Fun K "need_member" "need_member" st_need_member f fd ∧ mg "need_member" = some (.ref f) ∧ Binds K fd ["member", "deep"] []
  e_need_house : ∃ f fd, Fun K "need_house" "need_house" st_need_house f fd ∧ mg "need_house" = some (.ref f) ∧ Binds K fd ["house"] []
  e_wrong : ∃ f fd, Fun K "wrong" "wrong" st_wrong f fd ∧ mg "wrong" = some (.ref f) ∧ Binds K fd ["house"] []
  e__law_cell : ∃ f fd, Fun K "_law_cell" "_law_cell" st__law_cell f fd ∧ mg "_law_cell" = some (.ref f) ∧ Binds K fd ["script", "k"] []
  e__law_drawn : ∃ f fd, Fun K "_law_drawn" "_law_drawn" st__law_drawn f fd ∧ mg "_law_drawn" = some (.ref f) ∧ Binds K fd ["cell", "k"] []
  e__law_names : ∃ f fd, Fun K "_law_names" "_law_names" st__law_names f fd ∧ mg "_law_names" = some (.ref f) ∧ Binds K fd [] []
  e__law_up : ∃ f fd, Fun K "_law_up" "_law_up" st__law_up f fd ∧ mg "_law_up" = some (.ref f) ∧ Binds K fd ["more", "wants"] []
  e__law_maker : ∃ f fd, Fun K "_law_maker" "_law_maker" st__law_maker f fd ∧ mg "_law_maker" = some (.ref f) ∧ Binds K fd ["more", "name", "scope", "wants"] []
  e__law_makers : ∃ f fd, Fun K "_law_makers" "_law_makers" st__law_makers f fd ∧ mg "_law_makers" = some (.ref f) ∧ Binds K fd ["more", "known"] []
  e__law_table : ∃ f fd, Fun K "_law_table" "_law_table" st__law_table f fd ∧ mg "_law_table" = some (.ref f) ∧ Binds K fd ["more", "columns"] []
  e__law_try : ∃ f fd, Fun K "_law_try" "_law_try" st__law_try f fd ∧ mg "_law_try" = some (.ref f) ∧ Binds K fd ["more", "name", "known"] []
  e__law_group : ∃ f fd, Fun K "_law_group" "_law_group" st__law_group f fd ∧ mg "_law_group" = some (.ref f) ∧ Binds K fd ["more", "name", "deep", "known"] []
  e__law_bad_makers : ∃ f fd, Fun K "_law_bad_makers" "_law_bad_makers" st__law_bad_makers f fd ∧ mg "_law_bad_makers" = some (.ref f) ∧ Binds K fd [] []
  e__law_bad_tries : ∃ f fd, Fun K "_law_bad_tries" "_law_bad_tries" st__law_bad_tries f fd ∧ mg "_law_bad_tries" = some (.ref f) ∧ Binds K fd [] []
  e__law_nest : ∃ f fd, Fun K "_law_nest" "_law_nest" st__law_nest f fd ∧ mg "_law_nest" = some (.ref f) ∧ Binds K fd ["many"] []
  e__law_bad_groups : ∃ f fd, Fun K "_law_bad_groups" "_law_bad_groups" st__law_bad_groups f fd ∧ mg "_law_bad_groups" = some (.ref f) ∧ Binds K fd [] []
  e__law_with : ∃ f fd, Fun K "_law_with" "_law_with" st__law_with f fd ∧ mg "_law_with" = some (.ref f) ∧ Binds K fd ["house", "more"] []
  e_law : ∃ f fd, Fun K "law" "law" st_law f fd ∧ mg "law" = some (.ref f) ∧ Binds K fd ["script"] [] ∧ LamAt base mg fd.code (qn "law")
  td : Told P w K mg base 1 "_law_told"
variable {P : Program} {w : World} {K : PySem.W.Frag} {mg : Str → Option Value} {base : Heap}
theorem ok_is_number (T : Top w K mg) (U : Funs P w K mg base) : CaV P w K mg base 1 "is_number" G_is_number := by
  obtain ⟨f, fd, Fn, m, b⟩ := U.e_is_number
  exact ⟨f, fd, _, b_is_number (k := 0) T Fn (fun ds h => len_if h) (fun ds h => by unfold G_is_number at h ⊢; rw [if_pos (len_if h)]), m, Fn.kp, b⟩
theorem ok_are_signs (T : Top w K mg) (U : Funs P w K mg base) : CaV P w K mg base 1 "are_signs" G_are_signs := by
  obtain ⟨f, fd, Fn, m, b⟩ := U.e_are_signs
  exact ⟨f, fd, _, b_are_signs (k := 0) T Fn (fun ds h => len_if h) (fun ds h => by unfold G_are_signs at h ⊢; rw [if_pos (len_if h)]), m, Fn.kp, b⟩
theorem okg_is_value (T : Top w K mg) (U : Funs P w K mg base) : ∀ n : Nat, (CaV P w K mg base (1 + 1 * n) "is_value" (G_is_value n))
  | 0 => (by obtain ⟨f, fd, Fn, m, b⟩ := U.e_is_value; exact ⟨f, fd, _, fn_badV ["thing", "deep"], m, Fn.kp, b⟩)
  | n + 1 => by
    have ih := okg_is_value T U n
    exact (by obtain ⟨f, fd, Fn, m, b⟩ := U.e_is_value; exact ⟨f, fd, _, (b_is_value (k := 1 + 1 * n + 0) T Fn (ok_are_signs T U) (by omega) ih (by omega) (ok_is_number T U) (by omega) (fun ds h => len_if (n := 2) (by unfold G_is_value at h; exact h)) (fun ds h => by unfold G_is_value at h ⊢; rw [if_pos (len_if h)])).mono (by omega), m, Fn.kp, b⟩)
theorem ok_is_value (T : Top w K mg) (U : Funs P w K mg base) (n : Nat) : CaV P w K mg base (1 + 1 * n) "is_value" (G_is_value n) := okg_is_value T U n
theorem ok_need_terms (T : Top w K mg) (U : Funs P w K mg base) : CaV P w K mg base 1 "need_terms" G_need_terms := by
  obtain ⟨f, fd, Fn, m, b⟩ := U.e_need_terms
  exact ⟨f, fd, _, b_need_terms (k := 0) T Fn (fun ds h => len_if h) (fun ds h => by unfold G_need_terms at h ⊢; rw [if_pos (len_if h)]), m, Fn.kp, b⟩
theorem ok_is_name (T : Top w K mg) (U : Funs P w K mg base) : CaV P w K mg base 1 "is_name" G_is_name := by
  obtain ⟨f, fd, Fn, m, b⟩ := U.e_is_name
  exact ⟨f, fd, _, b_is_name (k := 0) T Fn (fun ds h => len_if h) (fun ds h => by unfold G_is_name at h ⊢; rw [if_pos (len_if h)]), m, Fn.kp, b⟩
theorem okg_need_deep (T : Top w K mg) (U : Funs P w K mg base) : ∀ n : Nat, (CaV P w K mg base (7 + 1 * n) "need_deep" (G_need_deep n))
  | 0 => (by obtain ⟨f, fd, Fn, m, b⟩ := U.e_need_deep; exact ⟨f, fd, _, fn_badV ["term", "deep"], m, Fn.kp, b⟩)
  | n + 1 => by
    have ih := okg_need_deep T U n
    exact (by obtain ⟨f, fd, Fn, m, b⟩ := U.e_need_deep; exact ⟨f, fd, _, (b_need_deep (k := 7 + 1 * n + 0) T Fn (ok_need_terms T U) (by omega) (ok_is_value T U 6) (by omega) (ok_is_name T U) (by omega) ih (by omega) (fun ds h => len_if (n := 2) (by unfold G_need_deep at h; exact h)) (fun ds h => by unfold G_need_deep at h ⊢; rw [if_pos (len_if h)])).mono (by omega), m, Fn.kp, b⟩)
theorem ok_need_deep (T : Top w K mg) (U : Funs P w K mg base) (n : Nat) : CaV P w K mg base (7 + 1 * n) "need_deep" (G_need_deep n) := okg_need_deep T U n
theorem ok_need_term (T : Top w K mg) (U : Funs P w K mg base) : CaV P w K mg base 20 "need_term" G_need_term := by
  obtain ⟨f, fd, Fn, m, b⟩ := U.e_need_term
  exact ⟨f, fd, _, b_need_term (k := 19) T Fn (ok_need_deep T U 12) (by omega) (fun ds h => len_if h) (fun ds h => by unfold G_need_term at h ⊢; rw [if_pos (len_if h)]), m, Fn.kp, b⟩
theorem okg_need_step (T : Top w K mg) (U : Funs P w K mg base) : ∀ n : Nat, (CaV P w K mg base (20 + 1 * n) "need_step" (G_need_step n)) ∧ (CaV P w K mg base (20 + 1 * n) "need_deep_body" (G_need_deep_body n))
  | 0 => ⟨(by obtain ⟨f, fd, Fn, m, b⟩ := U.e_need_step; exact ⟨f, fd, _, fn_badV ["step", "deep"], m, Fn.kp, b⟩), (by obtain ⟨f, fd, Fn, m, b⟩ := U.e_need_deep_body; exact ⟨f, fd, _, fn_badV ["body", "deep"], m, Fn.kp, b⟩)⟩
  | n + 1 => by
    have ih := okg_need_step T U n
    exact ⟨(by obtain ⟨f, fd, Fn, m, b⟩ := U.e_need_step; exact ⟨f, fd, _, (b_need_step (k := 20 + 1 * n + 0) T Fn (ok_need_terms T U) (by omega) (ok_is_name T U) (by omega) (ok_need_term T U) (by omega) (ih.2) (by omega) (fun ds h => len_if (n := 2) (by unfold G_need_step at h; exact h)) (fun ds h => by unfold G_need_step at h ⊢; rw [if_pos (len_if h)])).mono (by omega), m, Fn.kp, b⟩), (by obtain ⟨f, fd, Fn, m, b⟩ := U.e_need_deep_body; exact ⟨f, fd, _, (b_need_deep_body (k := 20 + 1 * n + 0) T Fn (ok_need_terms T U) (by omega) (ih.1) (by omega) (fun ds h => len_if (n := 2) (by unfold G_need_deep_body at h; exact h)) (fun ds h => by unfold G_need_deep_body at h ⊢; rw [if_pos (len_if h)])).mono (by omega), m, Fn.kp, b⟩)⟩
theorem ok_need_deep_body (T : Top w K mg) (U : Funs P w K mg base) (n : Nat) : CaV P w K mg base (20 + 1 * n) "need_deep_body" (G_need_deep_body n) := (okg_need_step T U n).2
theorem ok_need_body (T : Top w K mg) (U : Funs P w K mg base) : CaV P w K mg base 33 "need_body" G_need_body := by
  obtain ⟨f, fd, Fn, m, b⟩ := U.e_need_body
  exact ⟨f, fd, _, b_need_body (k := 32) T Fn (ok_need_deep_body T U 12) (by omega) (fun ds h => len_if h) (fun ds h => by unfold G_need_body at h ⊢; rw [if_pos (len_if h)]), m, Fn.kp, b⟩
theorem ok_need_houses (T : Top w K mg) (U : Funs P w K mg base) : CaV P w K mg base 1 "need_houses" G_need_houses := by
  obtain ⟨f, fd, Fn, m, b⟩ := U.e_need_houses
  exact ⟨f, fd, _, b_need_houses (k := 0) T Fn (fun ds h => len_if h) (fun ds h => by unfold G_need_houses at h ⊢; rw [if_pos (len_if h)]), m, Fn.kp, b⟩
theorem ok_is_text (T : Top w K mg) (U : Funs P w K mg base) : CaV P w K mg base 1 "is_text" G_is_text := by
  obtain ⟨f, fd, Fn, m, b⟩ := U.e_is_text
  exact ⟨f, fd, _, b_is_text (k := 0) T Fn (fun ds h => len_if h) (fun ds h => by unfold G_is_text at h ⊢; rw [if_pos (len_if h)]), m, Fn.kp, b⟩
theorem ok_need_steps (T : Top w K mg) (U : Funs P w K mg base) : CaV P w K mg base 34 "need_steps" G_need_steps := by
  obtain ⟨f, fd, Fn, m, b⟩ := U.e_need_steps
  exact ⟨f, fd, _, b_need_steps (k := 33) T Fn (ok_need_body T U) (by omega) (fun ds h => len_if h) (fun ds h => by unfold G_need_steps at h ⊢; rw [if_pos (len_if h)]), m, Fn.kp, b⟩
theorem ok_need_worth (T : Top w K mg) (U : Funs P w K mg base) : CaV P w K mg base 21 "need_worth" G_need_worth := by
  obtain ⟨f, fd, Fn, m, b⟩ := U.e_need_worth
  exact ⟨f, fd, _, b_need_worth (k := 20) T Fn (ok_need_term T U) (by omega) (fun ds h => len_if h) (fun ds h => by unfold G_need_worth at h ⊢; rw [if_pos (len_if h)]), m, Fn.kp, b⟩
theorem ok_need_names (T : Top w K mg) (U : Funs P w K mg base) : CaV P w K mg base 2 "need_names" G_need_names := by
  obtain ⟨f, fd, Fn, m, b⟩ := U.e_need_names
  exact ⟨f, fd, _, b_need_names (k := 1) T Fn (ok_need_houses T U) (by omega) (ok_is_name T U) (by omega) (fun ds h => len_if h) (fun ds h => by unfold G_need_names at h ⊢; rw [if_pos (len_if h)]), m, Fn.kp, b⟩
theorem ok_need_once (T : Top w K mg) (U : Funs P w K mg base) : CaV P w K mg base 3 "need_once" G_need_once := by
  obtain ⟨f, fd, Fn, m, b⟩ := U.e_need_once
  exact ⟨f, fd, _, b_need_once (k := 2) T Fn (ok_need_names T U) (by omega) (ok_need_houses T U) (by omega) (fun ds h => len_if h) (fun ds h => by unfold G_need_once at h ⊢; rw [if_pos (len_if h)]), m, Fn.kp, b⟩
theorem ok_need_values (T : Top w K mg) (U : Funs P w K mg base) : CaV P w K mg base 8 "need_values" G_need_values := by
  obtain ⟨f, fd, Fn, m, b⟩ := U.e_need_values
  exact ⟨f, fd, _, b_need_values (k := 7) T Fn (ok_need_houses T U) (by omega) (ok_is_value T U 6) (by omega) (fun ds h => len_if h) (fun ds h => by unfold G_need_values at h ⊢; rw [if_pos (len_if h)]), m, Fn.kp, b⟩
theorem ok_need_maker (T : Top w K mg) (U : Funs P w K mg base) : CaV P w K mg base 35 "need_maker" G_need_maker := by
  obtain ⟨f, fd, Fn, m, b⟩ := U.e_need_maker
  exact ⟨f, fd, _, b_need_maker (k := 34) T Fn (ok_need_houses T U) (by omega) (ok_is_text T U) (by omega) (ok_is_name T U) (by omega) (ok_need_once T U) (by omega) (ok_need_values T U) (by omega) (ok_need_steps T U) (by omega) (ok_need_worth T U) (by omega) (fun ds h => len_if h) (fun ds h => by unfold G_need_maker at h ⊢; rw [if_pos (len_if h)]), m, Fn.kp, b⟩
theorem ok_need_table (T : Top w K mg) (U : Funs P w K mg base) : CaV P w K mg base 9 "need_table" G_need_table := by
  obtain ⟨f, fd, Fn, m, b⟩ := U.e_need_table
  exact ⟨f, fd, _, b_need_table (k := 8) T Fn (ok_need_houses T U) (by omega) (ok_need_names T U) (by omega) (ok_need_values T U) (by omega) (fun ds h => len_if h) (fun ds h => by unfold G_need_table at h ⊢; rw [if_pos (len_if h)]), m, Fn.kp, b⟩
theorem ok_need_try (T : Top w K mg) (U : Funs P w K mg base) : CaV P w K mg base 35 "need_try" G_need_try := by
  obtain ⟨f, fd, Fn, m, b⟩ := U.e_need_try
  exact ⟨f, fd, _, b_need_try (k := 34) T Fn (ok_need_houses T U) (by omega) (ok_is_name T U) (by omega) (ok_need_once T U) (by omega) (ok_need_table T U) (by omega) (ok_need_steps T U) (by omega) (fun ds h => len_if h) (fun ds h => by unfold G_need_try at h ⊢; rw [if_pos (len_if h)]), m, Fn.kp, b⟩
theorem okg_need_group (T : Top w K mg) (U : Funs P w K mg base) : ∀ n : Nat, (CaV P w K mg base (35 + 1 * n) "need_group" (G_need_group n)) ∧ (CaV P w K mg base (35 + 1 * n) "need_member" (G_need_member n))
  | 0 => ⟨(by obtain ⟨f, fd, Fn, m, b⟩ := U.e_need_group; exact ⟨f, fd, _, fn_badV ["group", "deep"], m, Fn.kp, b⟩), (by obtain ⟨f, fd, Fn, m, b⟩ := U.e_need_member; exact ⟨f, fd, _, fn_badV ["member", "deep"], m, Fn.kp, b⟩)⟩
  | n + 1 => by
    have ih := okg_need_group T U n
    exact ⟨(by obtain ⟨f, fd, Fn, m, b⟩ := U.e_need_group; exact ⟨f, fd, _, (b_need_group (k := 35 + 1 * n + 0) T Fn (ok_need_houses T U) (by omega) (ok_is_name T U) (by omega) (ok_need_once T U) (by omega) (ok_need_maker T U) (by omega) (ih.2) (by omega) (fun ds h => len_if (n := 2) (by unfold G_need_group at h; exact h)) (fun ds h => by unfold G_need_group at h ⊢; rw [if_pos (len_if h)])).mono (by omega), m, Fn.kp, b⟩), (by obtain ⟨f, fd, Fn, m, b⟩ := U.e_need_member; exact ⟨f, fd, _, (b_need_member (k := 35 + 1 * n + 0) T Fn (ok_need_houses T U) (by omega) (ok_is_text T U) (by omega) (ih.1) (by omega) (ok_need_try T U) (by omega) (fun ds h => len_if (n := 2) (by unfold G_need_member at h; exact h)) (fun ds h => by unfold G_need_member at h ⊢; rw [if_pos (len_if h)])).mono (by omega), m, Fn.kp, b⟩)⟩
theorem ok_need_group (T : Top w K mg) (U : Funs P w K mg base) (n : Nat) : CaV P w K mg base (35 + 1 * n) "need_group" (G_need_group n) := (okg_need_group T U n).1
theorem ok_need_house (T : Top w K mg) (U : Funs P w K mg base) : CaV P w K mg base 48 "need_house" G_need_house := by
  obtain ⟨f, fd, Fn, m, b⟩ := U.e_need_house
  exact ⟨f, fd, _, b_need_house (k := 47) T Fn (ok_need_houses T U) (by omega) (ok_is_text T U) (by omega) (ok_need_group T U 12) (by omega) (fun ds h => len_if h) (fun ds h => by unfold G_need_house at h ⊢; rw [if_pos (len_if h)]), m, Fn.kp, b⟩
theorem ok_wrong (T : Top w K mg) (U : Funs P w K mg base) : CaV P w K mg base 49 "wrong" G_wrong := by
  obtain ⟨f, fd, Fn, m, b⟩ := U.e_wrong
  exact ⟨f, fd, _, b_wrong (k := 48) T Fn (ok_need_house T U) (by omega) (fun ds h => len_if h) (fun ds h => by unfold G_wrong at h ⊢; rw [if_pos (len_if h)]), m, Fn.kp, b⟩
theorem ok__law_cell (T : Top w K mg) (U : Funs P w K mg base) : CaV P w K mg base 1 "_law_cell" G__law_cell := by
  obtain ⟨f, fd, Fn, m, b⟩ := U.e__law_cell
  exact ⟨f, fd, _, b__law_cell (k := 0) T Fn (fun ds h => len_if h) (fun ds h => by unfold G__law_cell at h ⊢; rw [if_pos (len_if h)]), m, Fn.kp, b⟩
theorem ok__law_drawn (T : Top w K mg) (U : Funs P w K mg base) : CaV P w K mg base 1 "_law_drawn" G__law_drawn := by
  obtain ⟨f, fd, Fn, m, b⟩ := U.e__law_drawn
  exact ⟨f, fd, _, b__law_drawn (k := 0) T Fn (fun ds h => len_if h) (fun ds h => by unfold G__law_drawn at h ⊢; rw [if_pos (len_if h)]), m, Fn.kp, b⟩
theorem ok__law_names (T : Top w K mg) (U : Funs P w K mg base) : CaF P w K mg base 1 "_law_names" G__law_names := by
  obtain ⟨f, fd, Fn, m, b⟩ := U.e__law_names
  exact ⟨f, fd, _, b__law_names (k := 0) T Fn (fun ds h => len_if h) (fun ds h => by unfold G__law_names at h ⊢; rw [if_pos (len_if h)]), m, Fn.kp, b⟩
theorem ok__law_up (T : Top w K mg) (U : Funs P w K mg base) : CaV P w K mg base 1 "_law_up" G__law_up := by
  obtain ⟨f, fd, Fn, m, b⟩ := U.e__law_up
  exact ⟨f, fd, _, b__law_up (k := 0) T Fn (fun ds h => len_if h) (fun ds h => by unfold G__law_up at h ⊢; rw [if_pos (len_if h)]), m, Fn.kp, b⟩
theorem ok__law_maker (T : Top w K mg) (U : Funs P w K mg base) : CaV P w K mg base 2 "_law_maker" G__law_maker := by
  obtain ⟨f, fd, Fn, m, b⟩ := U.e__law_maker
  exact ⟨f, fd, _, b__law_maker (k := 1) T Fn (ok__law_drawn T U) (by omega) (ok__law_up T U) (by omega) (fun ds h => len_if h) (fun ds h => by unfold G__law_maker at h ⊢; rw [if_pos (len_if h)]), m, Fn.kp, b⟩
theorem ok__law_makers (T : Top w K mg) (U : Funs P w K mg base) : CaV P w K mg base 3 "_law_makers" G__law_makers := by
  obtain ⟨f, fd, Fn, m, b⟩ := U.e__law_makers
  exact ⟨f, fd, _, b__law_makers (k := 2) T Fn (ok__law_names T U) (by omega) (ok__law_drawn T U) (by omega) (ok__law_maker T U) (by omega) (fun ds h => len_if h) (fun ds h => by unfold G__law_makers at h ⊢; rw [if_pos (len_if h)]), m, Fn.kp, b⟩
theorem ok__law_table (T : Top w K mg) (U : Funs P w K mg base) : CaV P w K mg base 2 "_law_table" G__law_table := by
  obtain ⟨f, fd, Fn, m, b⟩ := U.e__law_table
  exact ⟨f, fd, _, b__law_table (k := 1) T Fn (ok__law_drawn T U) (by omega) (fun ds h => len_if h) (fun ds h => by unfold G__law_table at h ⊢; rw [if_pos (len_if h)]), m, Fn.kp, b⟩
theorem ok__law_try (T : Top w K mg) (U : Funs P w K mg base) : CaV P w K mg base 3 "_law_try" G__law_try := by
  obtain ⟨f, fd, Fn, m, b⟩ := U.e__law_try
  exact ⟨f, fd, _, b__law_try (k := 2) T Fn (ok__law_table T U) (by omega) (ok__law_drawn T U) (by omega) (fun ds h => len_if h) (fun ds h => by unfold G__law_try at h ⊢; rw [if_pos (len_if h)]), m, Fn.kp, b⟩
theorem okg__law_group (T : Top w K mg) (U : Funs P w K mg base) : ∀ n : Nat, (CaV P w K mg base (3 + 1 * n) "_law_group" (G__law_group n))
  | 0 => (by obtain ⟨f, fd, Fn, m, b⟩ := U.e__law_group; exact ⟨f, fd, _, fn_badV ["more", "name", "deep", "known"], m, Fn.kp, b⟩)
  | n + 1 => by
    have ih := okg__law_group T U n
    exact (by obtain ⟨f, fd, Fn, m, b⟩ := U.e__law_group; exact ⟨f, fd, _, (b__law_group (k := 3 + 1 * n + 0) T Fn (ok__law_makers T U) (by omega) (ok__law_drawn T U) (by omega) ih (by omega) (ok__law_try T U) (by omega) (fun ds h => len_if (n := 4) (by unfold G__law_group at h; exact h)) (fun ds h => by unfold G__law_group at h ⊢; rw [if_pos (len_if h)])).mono (by omega), m, Fn.kp, b⟩)
theorem ok__law_group (T : Top w K mg) (U : Funs P w K mg base) (n : Nat) : CaV P w K mg base (3 + 1 * n) "_law_group" (G__law_group n) := okg__law_group T U n
theorem ok__law_bad_makers (T : Top w K mg) (U : Funs P w K mg base) : CaF P w K mg base 1 "_law_bad_makers" G__law_bad_makers := by
  obtain ⟨f, fd, Fn, m, b⟩ := U.e__law_bad_makers
  exact ⟨f, fd, _, b__law_bad_makers (k := 0) T Fn (fun ds h => len_if h) (fun ds h => by unfold G__law_bad_makers at h ⊢; rw [if_pos (len_if h)]), m, Fn.kp, b⟩
theorem ok__law_bad_tries (T : Top w K mg) (U : Funs P w K mg base) : CaV P w K mg base 1 "_law_bad_tries" G__law_bad_tries := by
  obtain ⟨f, fd, Fn, m, b⟩ := U.e__law_bad_tries
  exact ⟨f, fd, _, b__law_bad_tries (k := 0) T Fn (fun ds h => len_if h) (fun ds h => by unfold G__law_bad_tries at h ⊢; rw [if_pos (len_if h)]), m, Fn.kp, b⟩
theorem ok__law_nest (T : Top w K mg) (U : Funs P w K mg base) : CaV P w K mg base 1 "_law_nest" G__law_nest := by
  obtain ⟨f, fd, Fn, m, b⟩ := U.e__law_nest
  exact ⟨f, fd, _, b__law_nest (k := 0) T Fn (fun ds h => len_if h) (fun ds h => by unfold G__law_nest at h ⊢; rw [if_pos (len_if h)]), m, Fn.kp, b⟩
theorem ok__law_bad_groups (T : Top w K mg) (U : Funs P w K mg base) : CaV P w K mg base 2 "_law_bad_groups" G__law_bad_groups := by
  obtain ⟨f, fd, Fn, m, b⟩ := U.e__law_bad_groups
  exact ⟨f, fd, _, b__law_bad_groups (k := 1) T Fn (ok__law_nest T U) (by omega) (fun ds h => len_if h) (fun ds h => by unfold G__law_bad_groups at h ⊢; rw [if_pos (len_if h)]), m, Fn.kp, b⟩
theorem ok__law_with (T : Top w K mg) (U : Funs P w K mg base) : CaV P w K mg base 3 "_law_with" G__law_with := by
  obtain ⟨f, fd, Fn, m, b⟩ := U.e__law_with
  exact ⟨f, fd, _, b__law_with (k := 2) T Fn (ok__law_bad_groups T U) (by omega) (ok__law_bad_tries T U) (by omega) (ok__law_bad_makers T U) (by omega) (fun ds h => len_if h) (fun ds h => by unfold G__law_with at h ⊢; rw [if_pos (len_if h)]), m, Fn.kp, b⟩
theorem ok_law (T : Top w K mg) (U : Funs P w K mg base) {f : Addr} {fd : FuncData} (Fn : Fun K "law" "law" st_law f fd) (LA : LamAt base mg fd.code (qn "law")) : FnOk P w K mg base (L2C.CX P w) 52 f fd ["script"] (spV K mg G_law) :=
  b_law (k := 51) T Fn (kt := 49) (by omega) U.td LA (ok__law_drawn T U) (by omega) (ok__law_cell T U) (by omega) (ok__law_group T U 4) (by omega) (ok_need_house T U) (by omega) (by omega) (ok__law_nest T U) (by omega) (ok__law_with T U) (by omega) (ok_wrong T U) (by omega) (ok__law_bad_groups T U) (by omega) (fun ds h => len_if h) (fun ds h => by unfold G_law at h ⊢; rw [if_pos (len_if h)])
end
omit [TabCx] in
theorem facts (hpure : ∀ ns : List Int, ns.length ≤ 63 → (∀ z ∈ ns, Builtin.Int.intBits z ≤ 1048576) → G_law [.scr ns] = .ok (.bl true)) {l : PySem.W.OpenLaw} {w : World} {K : PySem.W.Frag} {h : Heap} {mg : Str → Option Value} {fa : Addr} (X : K.In h) (G : h.Ns mainGlobals mg) (hfa : mg "law" = some (.ref fa)) (c : He.SaysX faS fnS tsS tfS exS w h K) : LamX.LawAtS l w K (Pv.CXq l.prog w) 52 63 "script" mg fa h := by
  letI : TabCx := tabK tfS clS K
  have D := c.t.d
  obtain ⟨fd0, E0⟩ := D.def_ 0 (d := dd ("is_number", none) "is_number" "is_number" (topS 15)) rfl
  have F0 : Fun K "is_number" "is_number" st_is_number (He.fAd K ("is_number", none)) fd0 := fun_ofD E0
  have b0 := F0.binds (ps := ["thing"]) fun _ _ _ _ _ _ us hl => match us, hl with | [_], _ => rfl
  have g0 : mg "is_number" = some (.ref (He.fAd K ("is_number", none))) := He.glo_ok X G (D.fact 0 (f := .glo "is_number") rfl)
  obtain ⟨fd1, E1⟩ := D.def_ 1 (d := dd ("are_signs", none) "are_signs" "are_signs" (topS 16)) rfl
  have F1 : Fun K "are_signs" "are_signs" st_are_signs (He.fAd K ("are_signs", none)) fd1 := fun_ofD E1
  have b1 := F1.binds (ps := ["text"]) fun _ _ _ _ _ _ us hl => match us, hl with | [_], _ => rfl
  have g1 : mg "are_signs" = some (.ref (He.fAd K ("are_signs", none))) := He.glo_ok X G (D.fact 1 (f := .glo "are_signs") rfl)
  obtain ⟨fd2, E2⟩ := D.def_ 2 (d := dd ("is_value", none) "is_value" "is_value" (topS 17)) rfl
  have F2 : Fun K "is_value" "is_value" st_is_value (He.fAd K ("is_value", none)) fd2 := fun_ofD E2
  have b2 := F2.binds (ps := ["thing", "deep"]) fun _ _ _ _ _ _ us hl => match us, hl with | [_, _], _ => rfl
  have g2 : mg "is_value" = some (.ref (He.fAd K ("is_value", none))) := He.glo_ok X G (D.fact 2 (f := .glo "is_value") rfl)
  obtain ⟨fd3, E3⟩ := D.def_ 3 (d := dd ("need_terms", none) "need" "need" (topS 25)) rfl
  have F3 : Fun K "need" "need" st_need_terms (He.fAd K ("need_terms", none)) fd3 := fun_ofD E3
  have b3 := F3.binds (ps := ["good"]) fun _ _ _ _ _ _ us hl => match us, hl with | [_], _ => rfl
  have g3 : mg "need_terms" = some (.ref (He.fAd K ("need_terms", none))) := He.glo_ok X G (D.fact 3 (f := .glo "need_terms") rfl)
  obtain ⟨fd4, E4⟩ := D.def_ 4 (d := dd ("is_name", none) "is_name" "is_name" (topS 27)) rfl
  have F4 : Fun K "is_name" "is_name" st_is_name (He.fAd K ("is_name", none)) fd4 := fun_ofD E4
  have b4 := F4.binds (ps := ["thing"]) fun _ _ _ _ _ _ us hl => match us, hl with | [_], _ => rfl
  have g4 : mg "is_name" = some (.ref (He.fAd K ("is_name", none))) := He.glo_ok X G (D.fact 4 (f := .glo "is_name") rfl)
  obtain ⟨fd5, E5⟩ := D.def_ 5 (d := dd ("need_deep", none) "need_deep" "need_deep" (topS 28)) rfl
  have F5 : Fun K "need_deep" "need_deep" st_need_deep (He.fAd K ("need_deep", none)) fd5 := fun_ofD E5
  have b5 := F5.binds (ps := ["term", "deep"]) fun _ _ _ _ _ _ us hl => match us, hl with | [_, _], _ => rfl
  have g5 : mg "need_deep" = some (.ref (He.fAd K ("need_deep", none))) := He.glo_ok X G (D.fact 5 (f := .glo "need_deep") rfl)
  obtain ⟨fd6, E6⟩ := D.def_ 6 (d := dd ("need_term", none) "need_term" "need_term" (topS 29)) rfl
  have F6 : Fun K "need_term" "need_term" st_need_term (He.fAd K ("need_term", none)) fd6 := fun_ofD E6
  have b6 := F6.binds (ps := ["term"]) fun _ _ _ _ _ _ us hl => match us, hl with | [_], _ => rfl
  have g6 : mg "need_term" = some (.ref (He.fAd K ("need_term", none))) := He.glo_ok X G (D.fact 6 (f := .glo "need_term") rfl)
  obtain ⟨fd7, E7⟩ := D.def_ 7 (d := dd ("need_step", none) "need_step" "need_step" (topS 34)) rfl
  have F7 : Fun K "need_step" "need_step" st_need_step (He.fAd K ("need_step", none)) fd7 := fun_ofD E7
  have b7 := F7.binds (ps := ["step", "deep"]) fun _ _ _ _ _ _ us hl => match us, hl with | [_, _], _ => rfl
  have g7 : mg "need_step" = some (.ref (He.fAd K ("need_step", none))) := He.glo_ok X G (D.fact 7 (f := .glo "need_step") rfl)
  obtain ⟨fd8, E8⟩ := D.def_ 8 (d := dd ("need_deep_body", none) "need_deep_body" "need_deep_body" (topS 35)) rfl
  have F8 : Fun K "need_deep_body" "need_deep_body" st_need_deep_body (He.fAd K ("need_deep_body", none)) fd8 := fun_ofD E8
  have b8 := F8.binds (ps := ["body", "deep"]) fun _ _ _ _ _ _ us hl => match us, hl with | [_, _], _ => rfl
  have g8 : mg "need_deep_body" = some (.ref (He.fAd K ("need_deep_body", none))) := He.glo_ok X G (D.fact 8 (f := .glo "need_deep_body") rfl)
  obtain ⟨fd9, E9⟩ := D.def_ 9 (d := dd ("need_body", none) "need_body" "need_body" (topS 36)) rfl
  have F9 : Fun K "need_body" "need_body" st_need_body (He.fAd K ("need_body", none)) fd9 := fun_ofD E9
  have b9 := F9.binds (ps := ["body"]) fun _ _ _ _ _ _ us hl => match us, hl with | [_], _ => rfl
  have g9 : mg "need_body" = some (.ref (He.fAd K ("need_body", none))) := He.glo_ok X G (D.fact 9 (f := .glo "need_body") rfl)
  obtain ⟨fd10, E10⟩ := D.def_ 10 (d := dd ("need_houses", none) "need" "need" (topS 45)) rfl
  have F10 : Fun K "need" "need" st_need_houses (He.fAd K ("need_houses", none)) fd10 := fun_ofD E10
  have b10 := F10.binds (ps := ["good"]) fun _ _ _ _ _ _ us hl => match us, hl with | [_], _ => rfl
  have g10 : mg "need_houses" = some (.ref (He.fAd K ("need_houses", none))) := He.glo_ok X G (D.fact 10 (f := .glo "need_houses") rfl)
  obtain ⟨fd11, E11⟩ := D.def_ 11 (d := dd ("is_text", none) "is_text" "is_text" (topS 47)) rfl
  have F11 : Fun K "is_text" "is_text" st_is_text (He.fAd K ("is_text", none)) fd11 := fun_ofD E11
  have b11 := F11.binds (ps := ["thing"]) fun _ _ _ _ _ _ us hl => match us, hl with | [_], _ => rfl
  have g11 : mg "is_text" = some (.ref (He.fAd K ("is_text", none))) := He.glo_ok X G (D.fact 11 (f := .glo "is_text") rfl)
  obtain ⟨fd12, E12⟩ := D.def_ 12 (d := dd ("need_steps", none) "need_steps" "need_steps" (topS 48)) rfl
  have F12 : Fun K "need_steps" "need_steps" st_need_steps (He.fAd K ("need_steps", none)) fd12 := fun_ofD E12
  have b12 := F12.binds (ps := ["body"]) fun _ _ _ _ _ _ us hl => match us, hl with | [_], _ => rfl
  have g12 : mg "need_steps" = some (.ref (He.fAd K ("need_steps", none))) := He.glo_ok X G (D.fact 12 (f := .glo "need_steps") rfl)
  obtain ⟨fd13, E13⟩ := D.def_ 13 (d := dd ("need_worth", none) "need_worth" "need_worth" (topS 49)) rfl
  have F13 : Fun K "need_worth" "need_worth" st_need_worth (He.fAd K ("need_worth", none)) fd13 := fun_ofD E13
  have b13 := F13.binds (ps := ["term"]) fun _ _ _ _ _ _ us hl => match us, hl with | [_], _ => rfl
  have g13 : mg "need_worth" = some (.ref (He.fAd K ("need_worth", none))) := He.glo_ok X G (D.fact 13 (f := .glo "need_worth") rfl)
  obtain ⟨fd14, E14⟩ := D.def_ 14 (d := dd ("need_names", none) "need_names" "need_names" (topS 50)) rfl
  have F14 : Fun K "need_names" "need_names" st_need_names (He.fAd K ("need_names", none)) fd14 := fun_ofD E14
  have b14 := F14.binds (ps := ["names", "least", "most"]) fun _ _ _ _ _ _ us hl => match us, hl with | [_, _, _], _ => rfl
  have g14 : mg "need_names" = some (.ref (He.fAd K ("need_names", none))) := He.glo_ok X G (D.fact 14 (f := .glo "need_names") rfl)
  obtain ⟨fd15, E15⟩ := D.def_ 15 (d := dd ("need_once", none) "need_once" "need_once" (topS 51)) rfl
  have F15 : Fun K "need_once" "need_once" st_need_once (He.fAd K ("need_once", none)) fd15 := fun_ofD E15
  have b15 := F15.binds (ps := ["names", "most"]) fun _ _ _ _ _ _ us hl => match us, hl with | [_, _], _ => rfl
  have g15 : mg "need_once" = some (.ref (He.fAd K ("need_once", none))) := He.glo_ok X G (D.fact 15 (f := .glo "need_once") rfl)
  obtain ⟨fd16, E16⟩ := D.def_ 16 (d := dd ("need_values", none) "need_values" "need_values" (topS 52)) rfl
  have F16 : Fun K "need_values" "need_values" st_need_values (He.fAd K ("need_values", none)) fd16 := fun_ofD E16
  have b16 := F16.binds (ps := ["values", "least", "most"]) fun _ _ _ _ _ _ us hl => match us, hl with | [_, _, _], _ => rfl
  have g16 : mg "need_values" = some (.ref (He.fAd K ("need_values", none))) := He.glo_ok X G (D.fact 16 (f := .glo "need_values") rfl)
  obtain ⟨fd17, E17⟩ := D.def_ 17 (d := dd ("need_maker", none) "need_maker" "need_maker" (topS 53)) rfl
  have F17 : Fun K "need_maker" "need_maker" st_need_maker (He.fAd K ("need_maker", none)) fd17 := fun_ofD E17
  have b17 := F17.binds (ps := ["maker"]) fun _ _ _ _ _ _ us hl => match us, hl with | [_], _ => rfl
  have g17 : mg "need_maker" = some (.ref (He.fAd K ("need_maker", none))) := He.glo_ok X G (D.fact 17 (f := .glo "need_maker") rfl)
  obtain ⟨fd18, E18⟩ := D.def_ 18 (d := dd ("need_table", none) "need_table" "need_table" (topS 54)) rfl
  have F18 : Fun K "need_table" "need_table" st_need_table (He.fAd K ("need_table", none)) fd18 := fun_ofD E18
  have b18 := F18.binds (ps := ["table"]) fun _ _ _ _ _ _ us hl => match us, hl with | [_], _ => rfl
  have g18 : mg "need_table" = some (.ref (He.fAd K ("need_table", none))) := He.glo_ok X G (D.fact 18 (f := .glo "need_table") rfl)
  obtain ⟨fd19, E19⟩ := D.def_ 19 (d := dd ("need_try", none) "need_try" "need_try" (topS 55)) rfl
  have F19 : Fun K "need_try" "need_try" st_need_try (He.fAd K ("need_try", none)) fd19 := fun_ofD E19
  have b19 := F19.binds (ps := ["one"]) fun _ _ _ _ _ _ us hl => match us, hl with | [_], _ => rfl
  have g19 : mg "need_try" = some (.ref (He.fAd K ("need_try", none))) := He.glo_ok X G (D.fact 19 (f := .glo "need_try") rfl)
  obtain ⟨fd20, E20⟩ := D.def_ 20 (d := dd ("need_group", none) "need_group" "need_group" (topS 56)) rfl
  have F20 : Fun K "need_group" "need_group" st_need_group (He.fAd K ("need_group", none)) fd20 := fun_ofD E20
  have b20 := F20.binds (ps := ["group", "deep"]) fun _ _ _ _ _ _ us hl => match us, hl with | [_, _], _ => rfl
  have g20 : mg "need_group" = some (.ref (He.fAd K ("need_group", none))) := He.glo_ok X G (D.fact 20 (f := .glo "need_group") rfl)
  obtain ⟨fd21, E21⟩ := D.def_ 21 (d := dd ("need_member", none) "need_member" "need_member" (topS 57)) rfl
  have F21 : Fun K "need_member" "need_member" st_need_member (He.fAd K ("need_member", none)) fd21 := fun_ofD E21
  have b21 := F21.binds (ps := ["member", "deep"]) fun _ _ _ _ _ _ us hl => match us, hl with | [_, _], _ => rfl
  have g21 : mg "need_member" = some (.ref (He.fAd K ("need_member", none))) := He.glo_ok X G (D.fact 21 (f := .glo "need_member") rfl)
  obtain ⟨fd22, E22⟩ := D.def_ 22 (d := dd ("need_house", none) "need_house" "need_house" (topS 58)) rfl
  have F22 : Fun K "need_house" "need_house" st_need_house (He.fAd K ("need_house", none)) fd22 := fun_ofD E22
  have b22 := F22.binds (ps := ["house"]) fun _ _ _ _ _ _ us hl => match us, hl with | [_], _ => rfl
  have g22 : mg "need_house" = some (.ref (He.fAd K ("need_house", none))) := He.glo_ok X G (D.fact 22 (f := .glo "need_house") rfl)
  obtain ⟨fd23, E23⟩ := D.def_ 23 (d := dd ("wrong", none) "wrong" "wrong" (topS 75)) rfl
  have F23 : Fun K "wrong" "wrong" st_wrong (He.fAd K ("wrong", none)) fd23 := fun_ofD E23
  have b23 := F23.binds (ps := ["house"]) fun _ _ _ _ _ _ us hl => match us, hl with | [_], _ => rfl
  have g23 : mg "wrong" = some (.ref (He.fAd K ("wrong", none))) := He.glo_ok X G (D.fact 23 (f := .glo "wrong") rfl)
  obtain ⟨fd24, E24⟩ := D.def_ 24 (d := dd ("_law_cell", none) "_law_cell" "_law_cell" (topS 77)) rfl
  have F24 : Fun K "_law_cell" "_law_cell" st__law_cell (He.fAd K ("_law_cell", none)) fd24 := fun_ofD E24
  have b24 := F24.binds (ps := ["script", "k"]) fun _ _ _ _ _ _ us hl => match us, hl with | [_, _], _ => rfl
  have g24 : mg "_law_cell" = some (.ref (He.fAd K ("_law_cell", none))) := He.glo_ok X G (D.fact 24 (f := .glo "_law_cell") rfl)
  obtain ⟨fd25, E25⟩ := D.def_ 25 (d := dd ("_law_drawn", none) "_law_drawn" "_law_drawn" (topS 78)) rfl
  have F25 : Fun K "_law_drawn" "_law_drawn" st__law_drawn (He.fAd K ("_law_drawn", none)) fd25 := fun_ofD E25
  have b25 := F25.binds (ps := ["cell", "k"]) fun _ _ _ _ _ _ us hl => match us, hl with | [_, _], _ => rfl
  have g25 : mg "_law_drawn" = some (.ref (He.fAd K ("_law_drawn", none))) := He.glo_ok X G (D.fact 25 (f := .glo "_law_drawn") rfl)
  obtain ⟨fd26, E26⟩ := D.def_ 26 (d := dd ("_law_names", none) "_law_names" "_law_names" (topS 81)) rfl
  have F26 : Fun K "_law_names" "_law_names" st__law_names (He.fAd K ("_law_names", none)) fd26 := fun_ofD E26
  have b26 := F26.binds (ps := []) fun _ _ _ _ _ _ us hl => match us, hl with | [], _ => rfl
  have g26 : mg "_law_names" = some (.ref (He.fAd K ("_law_names", none))) := He.glo_ok X G (D.fact 26 (f := .glo "_law_names") rfl)
  obtain ⟨fd27, E27⟩ := D.def_ 27 (d := dd ("_law_up", none) "_law_up" "_law_up" (topS 82)) rfl
  have F27 : Fun K "_law_up" "_law_up" st__law_up (He.fAd K ("_law_up", none)) fd27 := fun_ofD E27
  have b27 := F27.binds (ps := ["more", "wants"]) fun _ _ _ _ _ _ us hl => match us, hl with | [_, _], _ => rfl
  have g27 : mg "_law_up" = some (.ref (He.fAd K ("_law_up", none))) := He.glo_ok X G (D.fact 27 (f := .glo "_law_up") rfl)
  obtain ⟨fd28, E28⟩ := D.def_ 28 (d := dd ("_law_maker", none) "_law_maker" "_law_maker" (topS 83)) rfl
  have F28 : Fun K "_law_maker" "_law_maker" st__law_maker (He.fAd K ("_law_maker", none)) fd28 := fun_ofD E28
  have b28 := F28.binds (ps := ["more", "name", "scope", "wants"]) fun _ _ _ _ _ _ us hl => match us, hl with | [_, _, _, _], _ => rfl
  have g28 : mg "_law_maker" = some (.ref (He.fAd K ("_law_maker", none))) := He.glo_ok X G (D.fact 28 (f := .glo "_law_maker") rfl)
  obtain ⟨fd29, E29⟩ := D.def_ 29 (d := dd ("_law_makers", none) "_law_makers" "_law_makers" (topS 84)) rfl
  have F29 : Fun K "_law_makers" "_law_makers" st__law_makers (He.fAd K ("_law_makers", none)) fd29 := fun_ofD E29
  have b29 := F29.binds (ps := ["more", "known"]) fun _ _ _ _ _ _ us hl => match us, hl with | [_, _], _ => rfl
  have g29 : mg "_law_makers" = some (.ref (He.fAd K ("_law_makers", none))) := He.glo_ok X G (D.fact 29 (f := .glo "_law_makers") rfl)
  obtain ⟨fd30, E30⟩ := D.def_ 30 (d := dd ("_law_table", none) "_law_table" "_law_table" (topS 85)) rfl
  have F30 : Fun K "_law_table" "_law_table" st__law_table (He.fAd K ("_law_table", none)) fd30 := fun_ofD E30
  have b30 := F30.binds (ps := ["more", "columns"]) fun _ _ _ _ _ _ us hl => match us, hl with | [_, _], _ => rfl
  have g30 : mg "_law_table" = some (.ref (He.fAd K ("_law_table", none))) := He.glo_ok X G (D.fact 30 (f := .glo "_law_table") rfl)
  obtain ⟨fd31, E31⟩ := D.def_ 31 (d := dd ("_law_try", none) "_law_try" "_law_try" (topS 86)) rfl
  have F31 : Fun K "_law_try" "_law_try" st__law_try (He.fAd K ("_law_try", none)) fd31 := fun_ofD E31
  have b31 := F31.binds (ps := ["more", "name", "known"]) fun _ _ _ _ _ _ us hl => match us, hl with | [_, _, _], _ => rfl
  have g31 : mg "_law_try" = some (.ref (He.fAd K ("_law_try", none))) := He.glo_ok X G (D.fact 31 (f := .glo "_law_try") rfl)
  obtain ⟨fd32, E32⟩ := D.def_ 32 (d := dd ("_law_group", none) "_law_group" "_law_group" (topS 87)) rfl
  have F32 : Fun K "_law_group" "_law_group" st__law_group (He.fAd K ("_law_group", none)) fd32 := fun_ofD E32
  have b32 := F32.binds (ps := ["more", "name", "deep", "known"]) fun _ _ _ _ _ _ us hl => match us, hl with | [_, _, _, _], _ => rfl
  have g32 : mg "_law_group" = some (.ref (He.fAd K ("_law_group", none))) := He.glo_ok X G (D.fact 32 (f := .glo "_law_group") rfl)
  obtain ⟨fd33, E33⟩ := D.def_ 33 (d := dd ("_law_bad_makers", none) "_law_bad_makers" "_law_bad_makers" (topS 88)) rfl
  have F33 : Fun K "_law_bad_makers" "_law_bad_makers" st__law_bad_makers (He.fAd K ("_law_bad_makers", none)) fd33 := fun_ofD E33
  have b33 := F33.binds (ps := []) fun _ _ _ _ _ _ us hl => match us, hl with | [], _ => rfl
  have g33 : mg "_law_bad_makers" = some (.ref (He.fAd K ("_law_bad_makers", none))) := He.glo_ok X G (D.fact 33 (f := .glo "_law_bad_makers") rfl)
  obtain ⟨fd34, E34⟩ := D.def_ 34 (d := dd ("_law_bad_tries", none) "_law_bad_tries" "_law_bad_tries" (topS 89)) rfl
  have F34 : Fun K "_law_bad_tries" "_law_bad_tries" st__law_bad_tries (He.fAd K ("_law_bad_tries", none)) fd34 := fun_ofD E34
  have b34 := F34.binds (ps := []) fun _ _ _ _ _ _ us hl => match us, hl with | [], _ => rfl
  have g34 : mg "_law_bad_tries" = some (.ref (He.fAd K ("_law_bad_tries", none))) := He.glo_ok X G (D.fact 34 (f := .glo "_law_bad_tries") rfl)
  obtain ⟨fd35, E35⟩ := D.def_ 35 (d := dd ("_law_nest", none) "_law_nest" "_law_nest" (topS 91)) rfl
  have F35 : Fun K "_law_nest" "_law_nest" st__law_nest (He.fAd K ("_law_nest", none)) fd35 := fun_ofD E35
  have b35 := F35.binds (ps := ["many"]) fun _ _ _ _ _ _ us hl => match us, hl with | [_], _ => rfl
  have g35 : mg "_law_nest" = some (.ref (He.fAd K ("_law_nest", none))) := He.glo_ok X G (D.fact 35 (f := .glo "_law_nest") rfl)
  obtain ⟨fd36, E36⟩ := D.def_ 36 (d := dd ("_law_bad_groups", none) "_law_bad_groups" "_law_bad_groups" (topS 90)) rfl
  have F36 : Fun K "_law_bad_groups" "_law_bad_groups" st__law_bad_groups (He.fAd K ("_law_bad_groups", none)) fd36 := fun_ofD E36
  have b36 := F36.binds (ps := []) fun _ _ _ _ _ _ us hl => match us, hl with | [], _ => rfl
  have g36 : mg "_law_bad_groups" = some (.ref (He.fAd K ("_law_bad_groups", none))) := He.glo_ok X G (D.fact 36 (f := .glo "_law_bad_groups") rfl)
  obtain ⟨fd37, E37⟩ := D.def_ 37 (d := dd ("_law_with", none) "_law_with" "_law_with" (topS 92)) rfl
  have F37 : Fun K "_law_with" "_law_with" st__law_with (He.fAd K ("_law_with", none)) fd37 := fun_ofD E37
  have b37 := F37.binds (ps := ["house", "more"]) fun _ _ _ _ _ _ us hl => match us, hl with | [_, _], _ => rfl
  have g37 : mg "_law_with" = some (.ref (He.fAd K ("_law_with", none))) := He.glo_ok X G (D.fact 37 (f := .glo "_law_with") rfl)
  obtain ⟨fd38, E38⟩ := D.def_ 38 (d := dd ("law", none) "law" "law" (topS 93)) rfl
  have F38 : Fun K "law" "law" st_law (He.fAd K ("law", none)) fd38 := fun_ofD E38
  have b38 := F38.binds (ps := ["script"]) fun _ _ _ _ _ _ us hl => match us, hl with | [_], _ => rfl
  have g38 : mg "law" = some (.ref (He.fAd K ("law", none))) := He.glo_ok X G (D.fact 38 (f := .glo "law") rfl)
  obtain ⟨fd39, E39⟩ := D.def_ 39 (d := dd ("_law_word", none) "_law_word" "_law_word" (topS 79)) rfl
  have F39 : Fun K "_law_word" "_law_word" st__law_word (He.fAd K ("_law_word", none)) fd39 := fun_ofD E39
  have b39 := F39.binds (ps := ["e"]) fun _ _ _ _ _ _ us hl => match us, hl with | [_], _ => rfl
  have g39 : mg "_law_word" = some (.ref (He.fAd K ("_law_word", none))) := He.glo_ok X G (D.fact 39 (f := .glo "_law_word") rfl)
  obtain ⟨fd40, E40⟩ := D.def_ 40 (d := dd ("_law_told", none) "_law_told" "_law_told" (topS 80)) rfl
  have F40 : Fun K "_law_told" "_law_told" st__law_told (He.fAd K ("_law_told", none)) fd40 := fun_ofD E40
  have b40 := F40.binds (ps := ["deed"]) fun _ _ _ _ _ _ us hl => match us, hl with | [_], _ => rfl
  have g40 : mg "_law_told" = some (.ref (He.fAd K ("_law_told", none))) := He.glo_ok X G (D.fact 40 (f := .glo "_law_told") rfl)
  have hwf : WordF K mg := ⟨fun n hn => by
    have hn : n ∈ (["BadValue", "BadSteps", "BadHouse", "BadName", "BadChoice", "BadRecord", "Trouble"] : List Str) := hn
    simp only [List.mem_cons, List.not_mem_nil, or_false] at hn
    rcases hn with rfl | rfl | rfl | rfl | rfl | rfl | rfl
    · exact He.glo_ok X G (D.fact 85 (f := .glo "BadValue") rfl)
    · exact He.glo_ok X G (D.fact 81 (f := .glo "BadSteps") rfl)
    · exact He.glo_ok X G (D.fact 79 (f := .glo "BadHouse") rfl)
    · exact He.glo_ok X G (D.fact 86 (f := .glo "BadName") rfl)
    · exact He.glo_ok X G (D.fact 87 (f := .glo "BadChoice") rfl)
    · exact He.glo_ok X G (D.fact 88 (f := .glo "BadRecord") rfl)
    · exact He.glo_ok X G (D.fact 89 (f := .glo "Trouble") rfl), He.glo_ok X G (D.fact 90 (f := .glo "TryError") rfl), (He.ba c.more).1⟩
  have T : Top w K mg := ⟨trivial, He.free_ok X G (D.fact 41 (f := .free "ValueError") rfl), He.free_ok X G (D.fact 42 (f := .free "abs") rfl), He.free_ok X G (D.fact 43 (f := .free "all") rfl), He.free_ok X G (D.fact 44 (f := .free "bool") rfl), He.free_ok X G (D.fact 45 (f := .free "enumerate") rfl), He.free_ok X G (D.fact 46 (f := .free "int") rfl), He.free_ok X G (D.fact 47 (f := .free "isinstance") rfl), He.free_ok X G (D.fact 48 (f := .free "len") rfl), He.free_ok X G (D.fact 49 (f := .free "list") rfl), He.free_ok X G (D.fact 50 (f := .free "max") rfl), He.free_ok X G (D.fact 51 (f := .free "min") rfl), He.free_ok X G (D.fact 52 (f := .free "ord") rfl), He.free_ok X G (D.fact 53 (f := .free "range") rfl), He.free_ok X G (D.fact 54 (f := .free "set") rfl), He.free_ok X G (D.fact 55 (f := .free "str") rfl), He.free_ok X G (D.fact 56 (f := .free "sum") rfl), He.free_ok X G (D.fact 57 (f := .free "tuple") rfl), gtup_of X G (D.fact 58 (f := .glo "BARRED_terms") rfl) (He.ba (He.ba (He.ba c.more).2).2).1, He.int_ok X G (D.fact 59 (f := .int "BARRED_values" 37) rfl), He.str_ok X G (D.fact 60 (f := .str "LETTERS" (Str.ofString "abcdefghijklmnopqrstuvwxyz")) rfl), He.int_ok X G (D.fact 61 (f := .int "MOST_COLUMNS" 3) rfl), He.int_ok X G (D.fact 62 (f := .int "MOST_DEEP" 8) rfl), He.int_ok X G (D.fact 63 (f := .int "MOST_FOUR" 4) rfl), He.int_ok X G (D.fact 64 (f := .int "MOST_MAKERS" 6) rfl), He.int_ok X G (D.fact 65 (f := .int "MOST_MEMBERS" 8) rfl), He.int_ok X G (D.fact 66 (f := .int "MOST_NAME" 10) rfl), He.int_ok X G (D.fact 67 (f := .int "MOST_NUMBER" 999999) rfl), He.int_ok X G (D.fact 68 (f := .int "MOST_PARTS" 6) rfl), He.int_ok X G (D.fact 69 (f := .int "MOST_SIGNS" 20) rfl), He.int_ok X G (D.fact 70 (f := .int "MOST_STEPS" 10) rfl), He.int_ok X G (D.fact 71 (f := .int "MOST_TABLES" 2) rfl), He.int_ok X G (D.fact 72 (f := .int "MOST_WITHIN_bodies" 3) rfl), He.int_ok X G (D.fact 73 (f := .int "MOST_WITHIN_houses" 4) rfl), He.int_ok X G (D.fact 74 (f := .int "MOST_WITHIN_values" 3) rfl), gtup_of X G (D.fact 75 (f := .glo "ONE") rfl) (He.ba (He.ba (He.ba (He.ba c.more).2).2).2).1, gtup_of X G (D.fact 76 (f := .glo "SCOPES") rfl) (He.ba (He.ba (He.ba (He.ba (He.ba c.more).2).2).2).2).1, gtup_of X G (D.fact 77 (f := .glo "TWO") rfl) (He.ba (He.ba (He.ba (He.ba (He.ba (He.ba c.more).2).2).2).2).2).1, gdct_of X G (D.fact 78 (f := .glo "LENGTHS") rfl) (c.t.tab 0 (t := (fun K => He.ga K "LENGTHS", [(Str.ofString "let"), (Str.ofString "note"), (Str.ofString "check"), (Str.ofString "alike"), (Str.ofString "fail"), (Str.ofString "skip"), (Str.ofString "when"), (Str.ofString "each")])) rfl) (He.ba (He.ba (He.ba (He.ba (He.ba (He.ba (He.ba c.more).2).2).2).2).2).2).1, exc1_of X G (D.fact 79 (f := .glo "BadHouse") rfl) (D.fact 80 (f := .exc "BadHouse") rfl), exc1_of X G (D.fact 81 (f := .glo "BadSteps") rfl) (D.fact 82 (f := .exc "BadSteps") rfl), tryF_of X G rfl (D.fact 81 (f := .glo "BadSteps") rfl) (D.fact 79 (f := .glo "BadHouse") rfl) (D.fact 83 (f := .exm "BadSteps" "BadSteps" true) rfl) (D.fact 84 (f := .exm "BadHouse" "BadSteps" false) rfl), hwf⟩
  have e := hfa.symm.trans g38
  cases e
  have bA := FunD.bindsA (ps := ["script"]) E38 fun _ _ _ _ _ _ us hl => match us, hl with | [_], _ => rfl
  refine lawAt_of (cl := clS) X c (fun s u => bA s [u] rfl) fun base KX NS TB => ?_
  have LA_law := lamAt_of (tf := tfS) (cl := clS) (x := "law") (by decide +kernel) F38 TB (He.ba (He.ba c.more).2).1
  have U : Funs l.prog w K mg base := ⟨⟨_, _, F0, g0, b0⟩, ⟨_, _, F1, g1, b1⟩, ⟨_, _, F2, g2, b2⟩, ⟨_, _, F3, g3, b3⟩, ⟨_, _, F4, g4, b4⟩, ⟨_, _, F5, g5, b5⟩, ⟨_, _, F6, g6, b6⟩, ⟨_, _, F7, g7, b7⟩, ⟨_, _, F8, g8, b8⟩, ⟨_, _, F9, g9, b9⟩, ⟨_, _, F10, g10, b10⟩, ⟨_, _, F11, g11, b11⟩, ⟨_, _, F12, g12, b12⟩, ⟨_, _, F13, g13, b13⟩, ⟨_, _, F14, g14, b14⟩, ⟨_, _, F15, g15, b15⟩, ⟨_, _, F16, g16, b16⟩, ⟨_, _, F17, g17, b17⟩, ⟨_, _, F18, g18, b18⟩, ⟨_, _, F19, g19, b19⟩, ⟨_, _, F20, g20, b20⟩, ⟨_, _, F21, g21, b21⟩, ⟨_, _, F22, g22, b22⟩, ⟨_, _, F23, g23, b23⟩, ⟨_, _, F24, g24, b24⟩, ⟨_, _, F25, g25, b25⟩, ⟨_, _, F26, g26, b26⟩, ⟨_, _, F27, g27, b27⟩, ⟨_, _, F28, g28, b28⟩, ⟨_, _, F29, g29, b29⟩, ⟨_, _, F30, g30, b30⟩, ⟨_, _, F31, g31, b31⟩, ⟨_, _, F32, g32, b32⟩, ⟨_, _, F33, g33, b33⟩, ⟨_, _, F34, g34, b34⟩, ⟨_, _, F35, g35, b35⟩, ⟨_, _, F36, g36, b36⟩, ⟨_, _, F37, g37, b37⟩, ⟨_, _, F38, g38, b38, LA_law⟩, told_ok T (word_ok T F39 g39 b39) F40 g40 b40⟩
  exact (ok_law T U F38 LA_law).imp fun vs H Q E z => spLaw_imp hpure z
end Tw
set_option Elab.async false
set_option linter.all false
set_option maxRecDepth 100000
open PySem PySem.W PySem.Calls PyProof.Rows
set_option maxHeartbeats 0 in
theorem PySem.Challenge.cw_trywright_k30_houses_refused_holds : PySem.Challenge.rw_trywright_k30_houses_refused.Holds := by
  w_on; o_law
  refine HandSHeadRun.head_any (r := OpenLaw.row PySem.Challenge.rw_trywright_k30_houses_refused) (q := view (OpenLaw.row PySem.Challenge.rw_trywright_k30_houses_refused).prog [93]) (H := Tw.hkS) (ob := Tw.obS) (M := 8000) (loose := Tw.looseS) (d := HandSHeadRun.topDef (OpenLaw.row PySem.Challenge.rw_trywright_k30_houses_refused).prog 93) (kwd := []) Tw.obS_eq
    (by kernel_rfl) (fun s => by kernel_rfl) Tw.runS (by kernel_rfl) (by kernel_rfl) (by kernel_rfl) (by rfl) (by first | assumption | decide +kernel) (by decide +kernel) ⟨rfl, rfl, rfl, rfl, rfl, by decide +kernel⟩ ?hw ?hc
  case hw => w_witness2
  case hc =>
    refine LamX.walk_ofTsE (l := PySem.Challenge.rw_trywright_k30_houses_refused) (n := 63) (k := 52) (x := "script") (CX := fun w => Pv.CXq PySem.Challenge.rw_trywright_k30_houses_refused.prog w) rfl (by decide) (by kernel_rfl) ⟨rfl, by decide, by decide⟩ ?F (fun _ _ _ _ _ z => Pv.cxN_false z)
    intro w mg fa h Y G hmg0
    obtain ⟨K, KX, c⟩ := Y
    have hmg : mg ("law" : PySem.Str) = some (.ref fa) := by
      have e : (HandSHeadRun.topDef (OpenLaw.row PySem.Challenge.rw_trywright_k30_houses_refused).prog 93).name = ("law" : PySem.Str) := by kernel_rfl
      rw [← e]
      exact hmg0
    exact ⟨K, KX, Tw.facts Tw.pure KX G hmg c⟩
