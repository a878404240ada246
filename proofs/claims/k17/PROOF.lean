import PyProof.Rows.All
import Wide.All
import OpenK.AllK
import Wide.FinOn
import KE.KStateDown
import HandS.ForMost
import HandS.More
import HandS.Defaults
import HandS.IsInst
import HandS.Wide
import HandS.TupAny
import HandS.Style
import HandS.Flow
import HandS.TupLe
import HandS.Exc
import HandS.TryOnly
import HandS.TryMany
import HandS.ExcOwn
import HandS.ExcIs
import HandS.RaiseMore
import HandS.Walk
import HandS.Deep
import HandS.WordsExc
import HandS.Head0
import HandS.Head1
import HandS.Head2
import HandS.HeadEnd
import HandS.HeadHook1
import HandS.HeadHook2
import KE.KExcInit
import KE.KExcIs
import HandS.Small
import HandS.HeadHook3
import HandS.HeadHook4
import HandS.Lambda
import HandS.EndTab
import KE.GoesEnum
import HandS.Zip
import HandS.TupMul
import HandS.Conv
import HandS.SortInts
import HandS.Strs
import KE.SortData
import PySem.Challenge.RW_rulertrees_k17_forms_led_and_reduced
set_option Elab.async false
set_option linter.all false
set_option maxRecDepth 100000
/-! what the run of the head asks: told first, so that the run comes first in the joined text -/
namespace DL
open PySem PySem.Spec L2
inductive D where
  | non | bl (b : Bool) | int (i : Int) | str (s : Str)
  | tup (l : List D) | lst (l : List D) | dic (l : List (Key × D))
  | raw (v : V) | deck (n : Nat) | scr (ns : List Int)
/-- a function's code object, its table, its name, if K leaves the table out -/
def tabOne (K : PySem.W.Frag) (q : Addr × Obj) : Option (Addr × Addr × Str) := match q.2.data with
  | .func fd => (match fd.code with
    | .ref c => if PySem.W.codeHdIn K c (He.tabOf K c) && (K.lookup (He.tabOf K c)).isNone then some (c, He.tabOf K c, fd.qualname) else none
    | _ => none)
  | _ => none
/-- f's table is told -/
def hasTab (K : PySem.W.Frag) (f : Addr) : Bool := match K.lookup f with
  | some o => (tabOne K (f, o)).isSome
  | none => false
def tabC (K : PySem.W.Frag) : List (Addr × Addr × Str) := K.filterMap (tabOne K)
/-- the tables of code objects of the defs that K holds, with the name that a lambda of theirs bears -/
def tabK (K : PySem.W.Frag) : List (Addr × Str) := (tabC K).map fun q => (q.2.1, (q.2.2 ++ ".<locals>.") ++ "<lambda>")
def tkB (g : Addr → Option Obj) (K : PySem.W.Frag) : Bool := (tabC K).all fun q => (match g q.2.1 with
  | some o => He.emptyTab o
  | none => false) && (tabC K).all fun r => r.2.1 != q.2.1 || decide (r.2.2 = q.2.2)
/-- the tables are empty at the head, and told apart -/
structure TabsAt (h : Heap) (K : PySem.W.Frag) : Prop where
  empty : ∀ q ∈ tabC K, h.get? q.2.1 = some { cls := .none, data := .fields #[] }
  uni : ∀ q ∈ tabC K, ∀ r ∈ tabC K, r.2.1 = q.2.1 → r.2.2 = q.2.2
theorem tabsAt_of {h : Heap} {K : PySem.W.Frag} (e : tkB h.get? K = true) : TabsAt h K := by
  have key := List.all_eq_true.mp e
  refine ⟨fun q hq => ?_, fun q hq r hr z => ?_⟩
  · have h1 := key q hq
    rw [Bool.and_eq_true] at h1
    have h2 := h1.1
    cases e2 : h.get? q.2.1 with
    | none => rw [e2] at h2; cases h2
    | some o => rw [e2] at h2; rw [He.emptyTab_eq h2]
  · have h1 := key q hq
    rw [Bool.and_eq_true] at h1
    have h2 := List.all_eq_true.mp h1.2 r hr
    rw [Bool.or_eq_true] at h2
    rcases h2 with h2 | h2
    · rw [z] at h2; simp at h2
    · exact of_decide_eq_true h2
def sysB (K : PySem.W.Frag) : Bool := match K.lookup sysModules with
  | some ⟨_, _, .dict _ _, _⟩ => true
  | _ => false
abbrev eTail : List Value := [.type "Exception", .type "BaseException", .type "object"]
def xcB (K : PySem.W.Frag) (C : Addr) : Bool :=
  (PySem.W.clsIn K C).isSome && (He.eqO (PySem.W.findIn K (.ref C) "__getattribute__") (some (some (.builtin "BaseException.__getattribute__"))) && (He.eqO (PySem.W.findIn K (.ref C) "__getattr__") (some none) &&
  (decide (PySem.W.subIn K (.ref C) (.type "BaseException") = some true) && (He.eqO (PySem.W.findIn K (.ref C) "__class__") (some (some (.builtin "object.__class__"))) && (He.eqO (PySem.W.specialIn K (.builtin "object.__class__") "__get__") (some (some (.builtin "getset_descriptor.__get__"))) &&
  (decide (PySem.W.takesIn K (.builtin "object.__class__") = some true) && (decide (PySem.W.mroIn K C (.type "object") = some true) && (decide (PySem.W.typeIn K (.ref C) = some (.type "type")) && (PySem.W.keepIn K (.ref C) && PySem.W.hasDictIn K C)))))))))
def subX (x c : Str) : Bool := decide (x = c) || decide (c = "RulerError")
def xpB (K : PySem.W.Frag) (xn fs : List Str) : Bool := (xn.all fun x => xcB K (He.ga K x) && (fs.all fun f => He.eqO (PySem.W.findIn K (.ref (He.ga K x)) f) (some none))) &&
  (xn.all fun x => xn.all fun c => decide (PySem.W.exmOne K (.ref (He.ga K x)) (.ref (He.ga K c)) = some (subX x c)) && decide (PySem.W.kitOne K (.ref (He.ga K x)) (.ref (He.ga K c)) = some (subX x c)))
def xiB (K : PySem.W.Frag) (C : Addr) (f : Str) : Bool :=
  He.eqO (PySem.W.findIn K (.ref C) f) (some none) && (He.eqO (PySem.W.findIn K (.ref C) "__setattr__") (some (some (.builtin "object.__setattr__"))) && (PySem.W.excOver K C eTail && (PySem.W.excInitIn K C eTail "Exception.__new__" &&
  (He.eqO (PySem.W.findIn K (.ref C) "__init__") (some (some (.ref (He.ma K C "__init__")))) && decide (PySem.W.typeIn K (.ref (He.ma K C "__init__")) = some (.type "function"))))))
mutual
def conB (K : PySem.W.Frag) : D → Value → Bool
  | .non, .none => true
  | .bl b, .bool c => b == c
  | .int i, .int j _ => decide (i = j)
  | .str x, .str y _ => decide (x = y)
  | .tup l, .ref a => (match K.lookup a with
    | some ⟨.type c, _, .seq its _, _⟩ => decide (c = "tuple") && (decide (its.size ≤ sizeLine) && conBs K l its.toList)
    | _ => false)
  | _, _ => false
def conBs (K : PySem.W.Frag) : List D → List Value → Bool
  | [], [] => true
  | d :: l, u :: us => conB K d u && conBs K l us
  | _, _ => false
end
def cgB (K : PySem.W.Frag) (x : Str) (d : D) : Bool := match PySem.W.nsIn K mainGlobals x with
  | some (some u) => conB K d u
  | _ => false
def obsS (n : Nat) (fa : List He.Fa) (fn : List He.DefD) (ex : PySem.W.Frag → Bool) (g : Addr → Option Obj) : He.AlX :=
  let K := He.frT g (sysModules :: He.asD g n)
  (He.obsT fa fn [] K, ex K && tkB g K)
structure SaysS (fa : List He.Fa) (fn : List He.DefD) (ex : PySem.W.Frag → Bool) (w : World) (h : Heap) (K : PySem.W.Frag) : Prop extends He.SaysX fa fn [] [] ex w h K where
  tabs : TabsAt h K
theorem saysS_of {n : Nat} {fa : List He.Fa} {fn : List He.DefD} {ex : PySem.W.Frag → Bool} {w : World} {h : Heap} (e : obsS n fa fn ex h.get? = He.valX fn [] w) : SaysS fa fn ex w h (He.frT h.get? (sysModules :: He.asD h.get? n)) := by
  have e2 : (ex (He.frT h.get? (sysModules :: He.asD h.get? n)) && tkB h.get? (He.frT h.get? (sysModules :: He.asD h.get? n))) = true := congrArg (fun z : He.AlX => z.2) e
  rw [Bool.and_eq_true] at e2
  exact ⟨⟨congrArg (fun z : He.AlX => z.1) e, e2.1, fun _ m => absurd m List.not_mem_nil, fun _ m => absurd m List.not_mem_nil, fun _ m => absurd m List.not_mem_nil⟩, tabsAt_of e2.2⟩
def hookS (n : Nat) (fa : List He.Fa) (fn : List He.DefD) (ex : PySem.W.Frag → Bool) : PySem.W.Hook where
  α := He.AlX
  obs := fun s => obsS n fa fn ex s.heap.get?
  val := fun w => He.valX fn [] w
  says := fun w h => ∃ K : PySem.W.Frag, K.In h ∧ SaysS fa fn ex w h K
  of := fun _ _ e => ⟨_, He.frT_in, saysS_of e⟩
  keeps := fun _ _ _ ⟨K, hK, c⟩ k => ⟨K, PySem.W.Frag.In.keeps hK k, ⟨⟨c.t, c.more, c.hd, c.out, fun _ m => absurd m List.not_mem_nil⟩, fun q hq => k _ _ (c.tabs.empty q hq), c.tabs.uni⟩⟩
theorem obsS_eq {n : Nat} {fa : List He.Fa} {fn : List He.DefD} {ex : PySem.W.Frag → Bool} {g : Addr → Option Obj} {s : Shared} (h : ∀ a, g a = s.heap.get? a) : obsS n fa fn ex g = (hookS n fa fn ex).obs s := by
  have e : g = s.heap.get? := funext h
  subst e
  rfl
end DL
namespace K17
open PySem PySem.Spec L2 DL
/-! ### the run of the head -/
def top (i : Nat) : Stmt := PySem.Challenge.pw_rulertrees_k17_forms_led_and_reduced.main.body.getD i (.Pass ⟨0, 0, 0, 0⟩)
abbrev s_is_integer : Stmt := top 6
abbrev s_are_integers : Stmt := top 7
abbrev s_common_divisor : Stmt := top 8
abbrev s_product : Stmt := top 10
abbrev s_discriminant_of : Stmt := top 13
abbrev s_is_positive : Stmt := top 14
abbrev s_is_whole_change : Stmt := top 15
abbrev s_check_forms : Stmt := top 16
abbrev s_lead : Stmt := top 17
abbrev s_reduction : Stmt := top 18
abbrev s_led_form : Stmt := top 19
abbrev s_class_of : Stmt := top 20
abbrev s_reducing : Stmt := top 21
abbrev s__law_deck : Stmt := top 23
abbrev s__law_draw : Stmt := top 24
abbrev s__law_pick : Stmt := top 25
abbrev s__law_common : Stmt := top 26
abbrev s__law_are_integers : Stmt := top 27
abbrev s__law_is_positive : Stmt := top 28
abbrev s__law_is_whole : Stmt := top 29
abbrev s__law_led : Stmt := top 30
abbrev s__law_product : Stmt := top 31
abbrev s__law_reducing : Stmt := top 32
abbrev s__law_classes : Stmt := top 33
abbrev s__law_discriminant : Stmt := top 34
abbrev s__law_change : Stmt := top 35
abbrev s__law_form : Stmt := top 36
abbrev s__law_wide : Stmt := top 37
abbrev s__law_bent : Stmt := top 38
abbrev s__law_value : Stmt := top 39
abbrev s__law_told : Stmt := top 40
abbrev s__law_is_right : Stmt := top 41
abbrev s_law : Stmt := top 42
abbrev XN : List Str := ["RulerError", "BadChange", "BadForm", "OtherForms"]
abbrev FS : List Str := ["thing"]
abbrev i_BadChange : Stmt := inClass (top 2) 0
abbrev i_BadForm : Stmt := inClass (top 3) 0
abbrev c_NO_CHANGE : D := .tup [.int 1, .int 0, .int 0, .int 1]
def dOf (x : Str) (st : Stmt) : He.DefD := ⟨(x, none), x, x, defArgs st, defBody st, defScope st, [], []⟩
def fn : List He.DefD := [dOf "is_integer" s_is_integer, dOf "are_integers" s_are_integers, dOf "common_divisor" s_common_divisor, dOf "product" s_product, dOf "discriminant_of" s_discriminant_of, dOf "is_positive" s_is_positive, dOf "is_whole_change" s_is_whole_change, dOf "check_forms" s_check_forms, dOf "lead" s_lead, dOf "reduction" s_reduction, dOf "led_form" s_led_form, dOf "class_of" s_class_of, dOf "reducing" s_reducing, dOf "_law_deck" s__law_deck, dOf "_law_draw" s__law_draw, dOf "_law_pick" s__law_pick, dOf "_law_common" s__law_common, dOf "_law_are_integers" s__law_are_integers, dOf "_law_is_positive" s__law_is_positive, dOf "_law_is_whole" s__law_is_whole, dOf "_law_led" s__law_led, dOf "_law_product" s__law_product, dOf "_law_reducing" s__law_reducing, dOf "_law_classes" s__law_classes, dOf "_law_discriminant" s__law_discriminant, dOf "_law_change" s__law_change, dOf "_law_form" s__law_form, dOf "_law_wide" s__law_wide, dOf "_law_bent" s__law_bent, dOf "_law_value" s__law_value, dOf "_law_told" s__law_told, dOf "_law_is_right" s__law_is_right, dOf "law" s_law, ⟨("BadChange", some "__init__"), "__init__", "BadChange.__init__", defArgs i_BadChange, defBody i_BadChange, defScope i_BadChange, [], []⟩, ⟨("BadForm", some "__init__"), "__init__", "BadForm.__init__", defArgs i_BadForm, defBody i_BadForm, defScope i_BadForm, [], []⟩]
def fa : List He.Fa := [.glo "is_integer", .glo "are_integers", .glo "common_divisor", .glo "product", .glo "discriminant_of", .glo "is_positive", .glo "is_whole_change", .glo "check_forms", .glo "lead", .glo "reduction", .glo "led_form", .glo "class_of", .glo "reducing", .glo "_law_deck", .glo "_law_draw", .glo "_law_pick", .glo "_law_common", .glo "_law_are_integers", .glo "_law_is_positive", .glo "_law_is_whole", .glo "_law_led", .glo "_law_product", .glo "_law_reducing", .glo "_law_classes", .glo "_law_discriminant", .glo "_law_change", .glo "_law_form", .glo "_law_wide", .glo "_law_bent", .glo "_law_value", .glo "_law_told", .glo "_law_is_right", .glo "law", .free "abs", .free "all", .free "bool", .free "int", .free "isinstance", .free "len", .free "list", .free "max", .free "range", .free "repr", .free "str", .free "tuple", .glo "RulerError", .glo "BadChange", .glo "BadForm", .glo "OtherForms"]
abbrev R : PySem.W.OpenRow := PySem.W.OpenLaw.row PySem.Challenge.rw_rulertrees_k17_forms_led_and_reduced
def hExB (K : PySem.W.Frag) : Bool := sysB K && (xpB K XN FS && ((["OtherForms"] : List Str).all fun x => PySem.W.excIn K (He.ga K x) eTail "Exception.__new__") && (([("BadChange", "thing"), ("BadForm", "thing")] : List (Str × Str)).all fun q => xiB K (He.ga K q.1) q.2) && cgB K "NO_CHANGE" c_NO_CHANGE && hasTab K (He.fAd K ("law", none)))
abbrev hk : PySem.W.Hook := hookS 5 fa fn hExB
def ob (s : PySem.W.SharedT) : He.AlX := obsS 5 fa fn hExB (HandSHeadRun.getT s)
theorem ob_eq (s : PySem.W.SharedT) : ob s = hk.obs s.abs := obsS_eq (HandSHeadRun.getT_eq s)
def names : List Str := (["RulerError", "BadChange", "BadForm", "OtherForms", "is_integer", "are_integers", "common_divisor", "product", "NO_CHANGE", "discriminant_of", "is_positive", "is_whole_change", "check_forms", "lead", "reduction", "led_form", "class_of", "reducing", "_law_deck", "_law_draw"] : List Str) ++ (["_law_pick", "_law_common", "_law_are_integers", "_law_is_positive", "_law_is_whole", "_law_led", "_law_product", "_law_reducing", "_law_classes", "_law_discriminant", "_law_change", "_law_form", "_law_wide", "_law_bent", "_law_value", "_law_told", "_law_is_right"] : List Str)
theorem run (w : World) : HandSHeadRun.RunEq R (PySem.W.view R.prog [42]) hk ob 8000 names w := by
  intro os
  kernel_rfl
end K17
/-! The data layer: what a Python def does, told over plain data trees. -/
namespace DL
open PySem PySem.Spec L2
/-- the deck: its dict, its list, its kind -/
structure DkP where
  d : Addr
  l : Addr
  n : Nat
abbrev Dk := Option DkP
mutual
def At (K : PySem.W.Frag) (F : Hp) (k : Dk) : D → V → Prop
  | .non, v => v = .non
  | .bl b, v => v = .bl b
  | .int i, v => v = .int i
  | .str s, v => v = .str s
  | .tup l, v => ∃ a vs, v = .ref a ∧ SqT K F a vs ∧ Ats K F k l vs
  | .lst l, v => ∃ a vs, v = .ref a ∧ F a = some (.lst vs) ∧ Ats K F k l vs
  | .dic l, v => ∃ a vs, v = .ref a ∧ F a = some (.dK vs) ∧ Atk K F k l vs
  | .raw u, v => v = u
  | .deck n, v => ∃ p, k = some p ∧ p.3 = n ∧ v = .ref p.1
  | .scr ns, v => ∃ a, v = .ref a ∧ SqL K F a (ns.map V.int)
def Ats (K : PySem.W.Frag) (F : Hp) (k : Dk) : List D → List V → Prop
  | [], vs => vs = []
  | d :: ds, vs => ∃ v r, vs = v :: r ∧ At K F k d v ∧ Ats K F k ds r
def Atk (K : PySem.W.Frag) (F : Hp) (k : Dk) : List (Key × D) → List (Key × V) → Prop
  | [], vs => vs = []
  | (q, d) :: ds, vs => ∃ v r, vs = (q, v) :: r ∧ At K F k d v ∧ Atk K F k ds r
end
/-- the frozen part and the deck only grow -/
def Grow (F F' : Hp) (k k' : Dk) : Prop := (∀ a o, F a = some o → F' a = some o) ∧ ∀ p, k = some p → k' = some p
theorem Grow.refl (F : Hp) (k : Dk) : Grow F F k k := ⟨fun _ _ e => e, fun _ e => e⟩
theorem Grow.trans {F F1 F2 : Hp} {k k1 k2 : Dk} (a : Grow F F1 k k1) (b : Grow F1 F2 k1 k2) : Grow F F2 k k2 := ⟨fun c o e => b.1 c o (a.1 c o e), fun p e => b.2 p (a.2 p e)⟩
theorem rd_grow {F F' : Hp} (g : ∀ a o, F a = some o → F' a = some o) {a : Addr} {u : HO} (h : Rd F a u) : Rd F' a u := by
  rcases h with h | ⟨o, h⟩
  · exact .inl (g _ _ h)
  · exact .inr ⟨o, g _ _ h⟩
theorem sqT_grow {K : PySem.W.Frag} {F F' : Hp} (g : ∀ a o, F a = some o → F' a = some o) {a : Addr} {vs : List V} (h : SqT K F a vs) : SqT K F' a vs := by
  rcases h with h | h
  · exact .inl (rd_grow g h)
  · exact .inr h
mutual
theorem At.grow {K : PySem.W.Frag} {F F' : Hp} {k k' : Dk} (g : Grow F F' k k') : ∀ (d : D) (v : V), At K F k d v → At K F' k' d v
  | .non, v, h => by simpa only [At] using h
  | .bl _, v, h => by simpa only [At] using h
  | .int _, v, h => by simpa only [At] using h
  | .str _, v, h => by simpa only [At] using h
  | .raw _, v, h => by simpa only [At] using h
  | .tup l, v, h => by
    simp only [At] at h ⊢
    obtain ⟨a, vs, e, q, r⟩ := h
    exact ⟨a, vs, e, sqT_grow g.1 q, Ats.grow g l vs r⟩
  | .lst l, v, h => by
    simp only [At] at h ⊢
    obtain ⟨a, vs, e, q, r⟩ := h
    exact ⟨a, vs, e, g.1 _ _ q, Ats.grow g l vs r⟩
  | .dic l, v, h => by
    simp only [At] at h ⊢
    obtain ⟨a, vs, e, q, r⟩ := h
    exact ⟨a, vs, e, g.1 _ _ q, Atk.grow g l vs r⟩
  | .deck _, v, h => by
    simp only [At] at h ⊢
    obtain ⟨p, e, r⟩ := h
    exact ⟨p, g.2 _ e, r⟩
  | .scr ns, v, h => by
    simp only [At] at h ⊢
    obtain ⟨a, e, r⟩ := h
    refine ⟨a, e, ?_⟩
    rcases r with r | r
    · exact .inl (rd_grow g.1 r)
    · exact .inr r
theorem Ats.grow {K : PySem.W.Frag} {F F' : Hp} {k k' : Dk} (g : Grow F F' k k') : ∀ (ds : List D) (vs : List V), Ats K F k ds vs → Ats K F' k' ds vs
  | [], vs, h => by simpa only [Ats] using h
  | d :: ds, vs, h => by
    simp only [Ats] at h ⊢
    obtain ⟨v, r, e, q, t⟩ := h
    exact ⟨v, r, e, At.grow g d v q, Ats.grow g ds r t⟩
theorem Atk.grow {K : PySem.W.Frag} {F F' : Hp} {k k' : Dk} (g : Grow F F' k k') : ∀ (ds : List (Key × D)) (vs : List (Key × V)), Atk K F k ds vs → Atk K F' k' ds vs
  | [], vs, h => by simpa only [Atk] using h
  | (q, d) :: ds, vs, h => by
    simp only [Atk] at h ⊢
    obtain ⟨v, r, e, q, t⟩ := h
    exact ⟨v, r, e, At.grow g d v q, Atk.grow g ds r t⟩
end
theorem Ats.length {K : PySem.W.Frag} {F : Hp} {k : Dk} : ∀ {ds : List D} {vs : List V}, Ats K F k ds vs → ds.length = vs.length
  | [], vs, h => by simp only [Ats] at h; subst h; rfl
  | d :: ds, vs, h => by
    simp only [Ats] at h
    obtain ⟨v, r, rfl, _, t⟩ := h
    simp only [List.length_cons, Ats.length t]
theorem Ats.append {K : PySem.W.Frag} {F : Hp} {k : Dk} : ∀ {ds es : List D} {vs us : List V}, Ats K F k ds vs → Ats K F k es us → Ats K F k (ds ++ es) (vs ++ us)
  | [], es, vs, us, h, h' => by simp only [Ats] at h; subst h; exact h'
  | d :: ds, es, vs, us, h, h' => by
    simp only [Ats] at h
    obtain ⟨v, r, rfl, q, t⟩ := h
    show Ats K F k (d :: (ds ++ es)) (v :: (r ++ us))
    simp only [Ats]
    exact ⟨_, _, rfl, q, Ats.append t h'⟩
theorem Ats.cons {K : PySem.W.Frag} {F : Hp} {k : Dk} {d : D} {ds : List D} {v : V} {vs : List V} (a : At K F k d v) (b : Ats K F k ds vs) : Ats K F k (d :: ds) (v :: vs) := by
  simp only [Ats]
  exact ⟨_, _, rfl, a, b⟩
theorem Ats.nil {K : PySem.W.Frag} {F : Hp} {k : Dk} : Ats K F k [] [] := by simp only [Ats]
theorem Ats.get {K : PySem.W.Frag} {F : Hp} {k : Dk} : ∀ {ds : List D} {vs : List V}, Ats K F k ds vs → ∀ (i : Nat) (d : D), ds[i]? = some d → ∃ v, vs[i]? = some v ∧ At K F k d v
  | [], vs, h, i, d, e => by simp at e
  | c :: ds, vs, h, i, d, e => by
    simp only [Ats] at h
    obtain ⟨v, r, rfl, q, t⟩ := h
    cases i with
    | zero => simp only [List.getElem?_cons_zero, Option.some.injEq] at e; subst e; exact ⟨v, rfl, q⟩
    | succ j => simp only [List.getElem?_cons_succ] at e ⊢; exact Ats.get t j d e
theorem Ats.get' {K : PySem.W.Frag} {F : Hp} {k : Dk} : ∀ {ds : List D} {vs : List V}, Ats K F k ds vs → ∀ (i : Nat) (v : V), vs[i]? = some v → ∃ d, ds[i]? = some d ∧ At K F k d v
  | [], vs, h, i, v, e => by simp only [Ats] at h; subst h; simp at e
  | c :: ds, vs, h, i, u, e => by
    simp only [Ats] at h
    obtain ⟨v, r, rfl, q, t⟩ := h
    cases i with
    | zero => simp only [List.getElem?_cons_zero, Option.some.injEq] at e; subst e; exact ⟨c, rfl, q⟩
    | succ j => simp only [List.getElem?_cons_succ] at e ⊢; exact Ats.get' t j u e
theorem Ats.take {K : PySem.W.Frag} {F : Hp} {k : Dk} : ∀ {ds : List D} {vs : List V} (n : Nat), Ats K F k ds vs → Ats K F k (ds.take n) (vs.take n)
  | _, _, 0, _ => by simp only [List.take_zero]; exact .nil
  | [], vs, n + 1, h => by simp only [Ats] at h; subst h; exact .nil
  | d :: ds, vs, n + 1, h => by
    simp only [Ats] at h
    obtain ⟨v, r, rfl, q, t⟩ := h
    exact .cons q (Ats.take n t)
theorem Ats.drop {K : PySem.W.Frag} {F : Hp} {k : Dk} : ∀ {ds : List D} {vs : List V} (n : Nat), Ats K F k ds vs → Ats K F k (ds.drop n) (vs.drop n)
  | ds, vs, 0, h => h
  | [], vs, n + 1, h => by simp only [Ats] at h; subst h; exact .nil
  | d :: ds, vs, n + 1, h => by
    simp only [Ats] at h
    obtain ⟨v, r, rfl, q, t⟩ := h
    exact Ats.drop n t
/-! ### the law's deck -/
def DeckIs : Nat → Addr → List (Key × V) → List Int → Prop
  | 0, l, kvs, cs => cs.length ≤ 63 ∧ ∃ m t : Int, kvs = [(.inr "cells", .ref l), (.inr "mixed", .int m), (.inr "turn", .int t)] ∧ 0 ≤ m ∧ m < 2147483648
  | 1, l, kvs, cs => cs.length ≤ 63 ∧ ∃ m t : Int, kvs = [(.inr "rest", .ref l), (.inr "mixed", .int m), (.inr "turn", .int t)] ∧ 0 ≤ m ∧ m < 2147483648
  | 2, l, kvs, cs => cs.length ≤ 63 ∧ ∃ m t : Int, kvs = [(.inr "left", .ref l), (.inr "mixed", .int m), (.inr "draws", .int t)] ∧ 0 ≤ m ∧ m < 2147483648
  | _, l, kvs, cs => cs.length ≤ 63 ∧ ∃ m : Int, kvs = [(.inr "cells", .ref l), (.inr "mixed", .int m)] ∧ 0 ≤ m ∧ m < 2147483648
def DeckAt (H : Hp) (p : DkP) : Prop := ∃ (kvs : List (Key × V)) (cs : List Int), H p.1 = some (.dK kvs) ∧ H p.2 = some (.lst (cs.map V.int)) ∧ DeckIs p.3 p.2 kvs cs
/-- the entry that all is told against: its heap, its frozen part, its deck -/
structure Ent where
  H0 : Hp
  F0 : Hp
  k0 : Dk
/-- the tables of code objects stay good, and may grow; nothing else of the entry changes but the deck -/
structure Wd (T : List (Addr × Str)) (e : Ent) (F H : Hp) (k : Dk) : Prop where
  sub : ∀ a o, F a = some o → H a = some o
  ini : ∀ a o, e.F0 a = some o → F a = some o
  new : ∀ a o, F a = some o → e.F0 a = some o ∨ e.H0 a = none
  fr : ∀ a o, e.H0 a = some o → (∀ p, e.k0 = some p → a ≠ p.1 ∧ a ≠ p.2) → (∀ q ∈ T, a ≠ q.1) → H a = some o
  kk1 : ∀ p, e.k0 = some p → k = some p
  kk2 : e.k0 = none → ∀ p, k = some p → e.H0 p.1 = none ∧ e.H0 p.2 = none
  dk : ∀ p, k = some p → DeckAt H p ∧ F p.1 = none ∧ F p.2 = none
  tb : LamX.Tabs T H
  tbf : ∀ q ∈ T, F q.1 = none
theorem ite_none {α : Type} {c : Prop} [Decidable c] {x : Option α} (h : x = none) : (if c then none else x) = none := by split <;> first | rfl | exact h
theorem tabs_no {T : List (Addr × Str)} {H : Hp} (t : LamX.Tabs T H) {a : Addr} {o : Option HO} (h : H a = o) (n : ∀ ps, o ≠ some (.tbl ps)) : ∀ q ∈ T, a ≠ q.1 := fun q hq z => by
  obtain ⟨ps, h1, _⟩ := t q hq
  rw [z, h1] at h
  exact n ps h.symm
theorem tabs_none {T : List (Addr × Str)} {H : Hp} (t : LamX.Tabs T H) {a : Addr} (h : H a = none) : ∀ q ∈ T, a ≠ q.1 := tabs_no t h fun _ z => by cases z
theorem tabs_nlst {T : List (Addr × Str)} {H : Hp} (t : LamX.Tabs T H) {a : Addr} {xs : List V} (h : H a = some (.lst xs)) : ∀ q ∈ T, a ≠ q.1 := tabs_no t h fun _ z => by cases z
theorem tabs_ndic {T : List (Addr × Str)} {H : Hp} (t : LamX.Tabs T H) {a : Addr} {xs : List (Key × V)} (h : H a = some (.dK xs)) : ∀ q ∈ T, a ≠ q.1 := tabs_no t h fun _ z => by cases z
theorem tabs_mono {T : List (Addr × Str)} {H H' : Hp} (t : LamX.Tabs T H) (k : ∀ a u, H a = some u → (∃ ps, u = .tbl ps) ∨ (∃ c q, u = LamX.CodeO c q) → H' a = some u) : LamX.Tabs T H' := fun p hp => by
  obtain ⟨ps, h1, h2, h3⟩ := t p hp
  refine ⟨ps, k _ _ h1 (.inl ⟨_, rfl⟩), h2, fun pos cv hc => ?_⟩
  obtain ⟨c, e1, e2⟩ := h3 pos cv hc
  exact ⟨c, e1, k _ _ e2 (.inr ⟨_, _, rfl⟩)⟩
theorem tabs_upd {T : List (Addr × Str)} {H : Hp} {p : Addr} {o : HO} (t : LamX.Tabs T H) (hp : H p = none) : LamX.Tabs T (upd H p o) :=
  tabs_mono t fun a u e _ => by rw [upd_ne (ne_of_none e hp)]; exact e
theorem tabs_at {T : List (Addr × Str)} {H : Hp} {p : Addr} {o : HO} (t : LamX.Tabs T H) (n : ∀ q ∈ T, p ≠ q.1) (hc : ∀ c q, H p ≠ some (LamX.CodeO c q)) : LamX.Tabs T (upd H p o) := fun q hq => by
  obtain ⟨ps, h1, h2, h3⟩ := t q hq
  refine ⟨ps, by rw [upd_ne (Ne.symm (n q hq))]; exact h1, h2, fun pos cv hcv => ?_⟩
  obtain ⟨c, e1, e2⟩ := h3 pos cv hcv
  exact ⟨c, e1, by rw [upd_ne (fun z => hc _ _ (by rw [← z]; exact e2))]; exact e2⟩
theorem tabs_lst {T : List (Addr × Str)} {H : Hp} {p : Addr} {o : HO} {xs : List V} (t : LamX.Tabs T H) (hp : H p = some (.lst xs)) : LamX.Tabs T (upd H p o) :=
  tabs_mono t fun a u e z => by
    by_cases ha : a = p
    · subst ha
      rw [hp] at e
      cases e
      rcases z with ⟨_, z⟩ | ⟨_, _, z⟩
      · cases z
      · unfold LamX.CodeO at z
        cases z
    · rw [upd_ne ha]; exact e
theorem tabs_dic {T : List (Addr × Str)} {H : Hp} {p : Addr} {o : HO} {xs : List (Key × V)} (t : LamX.Tabs T H) (hp : H p = some (.dK xs)) : LamX.Tabs T (upd H p o) :=
  tabs_mono t fun a u e z => by
    by_cases ha : a = p
    · subst ha
      rw [hp] at e
      cases e
      rcases z with ⟨_, z⟩ | ⟨_, _, z⟩
      · cases z
      · unfold LamX.CodeO at z
        cases z
    · rw [upd_ne ha]; exact e
inductive Slot where
  | no | val (d : D) | own (ds : List D)
abbrev Evn := List Slot
structure Rel0 (K : PySem.W.Frag) (e : Ent) (env : Evn) (oa : Nat → Addr) (σ : St) (F H : Hp) (k : Dk) : Prop where
  wd : Wd (tabK K) e F H k
  len : env.length = σ.length
  val : ∀ (i : Nat) (d : D), env[i]? = some (.val d) → ∃ v, σ[i]? = some (some v) ∧ At K F k d v
  own : ∀ (i : Nat) (ds : List D), env[i]? = some (.own ds) → σ[i]? = some (some (.ref (oa i))) ∧ (∃ vs, H (oa i) = some (.lst vs) ∧ Ats K F k ds vs) ∧ F (oa i) = none ∧ e.H0 (oa i) = none ∧ ∀ p, k = some p → oa i ≠ p.1 ∧ oa i ≠ p.2
  inj : ∀ (i j : Nat) (ds es : List D), env[i]? = some (.own ds) → env[j]? = some (.own es) → oa i = oa j → i = j
/-- an exception: its class by name, its fields -/
abbrev Ex := Str × List (Str × D)
abbrev DX := Ex → Evn → Prop
/-- what stays true of the frozen part -/
structure Fz where
  p : Hp → Dk → Prop
  mono : ∀ {F F' : Hp} {k k' : Dk}, Grow F F' k k' → p F k → p F' k'
abbrev Fz.tt : Fz := ⟨fun _ _ => True, fun _ _ => trivial⟩
structure Kx where
  f : PySem.W.Frag
  mg : Str → Option Value
  w : DX
  W : WX
  z : Fz
instance : Coe Kx PySem.W.Frag := ⟨Kx.f⟩
abbrev _root_.L2.Cx.kx (X : Cx) (w : DX) (W : WX) (z : Fz) : Kx := ⟨X.K, X.mg, w, W, z⟩
def XAt (K : PySem.W.Frag) (mg : Str → Option Value) (F : Hp) (k : Dk) (x : Ex) (cls : Value) (d : Option Addr) : Prop := mg x.1 = some cls ∧ match x.2 with
  | [] => d = none
  | l => ∃ p vs, d = some p ∧ F p = some (.xd (l.zipWith (fun q v => (q.1, v)) vs)) ∧ Ats K F k (l.map (·.2)) vs
theorem XAt.grow {K : PySem.W.Frag} {mg : Str → Option Value} {F F' : Hp} {k k' : Dk} {x : Ex} {cls : Value} {d : Option Addr} (h : XAt K mg F k x cls d) (g : Grow F F' k k') : XAt K mg F' k' x cls d := by
  obtain ⟨h1, h2⟩ := h
  refine ⟨h1, ?_⟩
  obtain ⟨n, l⟩ := x
  cases l with
  | nil => exact h2
  | cons q l =>
    obtain ⟨p, vs, e, h3, h4⟩ := h2
    exact ⟨p, vs, e, g.1 _ _ h3, Ats.grow g _ _ h4⟩
/-- what leaves is wished for -/
def Lnk (K : Kx) (e : Ent) (F : Hp) (k : Dk) : Prop := ∀ (x : Ex) (env : Evn) (oa : Nat → Addr) (σ : St) (F' H' : Hp) (k' : Dk) (cls : Value) (d : Option Addr), K.w x env → Rel0 K.f e env oa σ F' H' k' → Grow F F' k k' → XAt K.f K.mg F' k' x cls d → K.W cls d σ H'
theorem Lnk.grow {K : Kx} {e : Ent} {F F1 : Hp} {k k1 : Dk} (h : Lnk K e F k) (g : Grow F F1 k k1) : Lnk K e F1 k1 := fun x env oa σ F' H' k' cls d hw R g' hx => h x env oa σ F' H' k' cls d hw R (g.trans g') hx
structure Rel (K : Kx) (e : Ent) (env : Evn) (oa : Nat → Addr) (σ : St) (F H : Hp) (k : Dk) : Prop extends Rel0 K.f e env oa σ F H k where
  lnk : Lnk K e F k
  pz : K.z.p F k
theorem Rel.up {K : Kx} {e : Ent} {env env' : Evn} {oa oa' : Nat → Addr} {σ σ' : St} {F H F' H' : Hp} {k k' : Dk} (R : Rel K e env oa σ F H k) (R0 : Rel0 K.f e env' oa' σ' F' H' k') (g : Grow F F' k k') : Rel K e env' oa' σ' F' H' k' := ⟨R0, R.lnk.grow g, K.z.mono g R.pz⟩
abbrev DE := Evn → (D → Evn → Prop) → Prop
abbrev DA := Evn → (List D → Evn → Prop) → Prop
abbrev DT := Evn → (Bool → Evn → Prop) → Prop
structure DEnd where
  nx : Evn → Prop
  rt : D → Prop
  bk : Evn → Prop := fun _ => False
  ct : Evn → Prop := fun _ => False
abbrev DS := DEnd → Evn → Prop
abbrev DG := D → Evn → (Evn → Prop) → Prop
def lift (K : Kx) (f : DE) : TE := fun σ H Q => ∃ e env oa F k, ∃ P : D → Evn → Prop, Rel K e env oa σ F H k ∧ f env P ∧ ∀ d env' v oa' F' H' k', P d env' → Rel K e env' oa' σ F' H' k' → Grow F F' k k' → At K F' k' d v → Q v H'
def liftA (K : Kx) (f : DA) : TA := fun σ H Q => ∃ e env oa F k, ∃ P : List D → Evn → Prop, Rel K e env oa σ F H k ∧ f env P ∧ ∀ ds env' vs oa' F' H' k', P ds env' → Rel K e env' oa' σ F' H' k' → Grow F F' k k' → Ats K F' k' ds vs → Q vs H'
def liftT (K : Kx) (f : DT) : TT := fun σ H Q => ∃ e env oa F k, ∃ P : Bool → Evn → Prop, Rel K e env oa σ F H k ∧ f env P ∧ ∀ b env' oa' F' H' k', P b env' → Rel K e env' oa' σ F' H' k' → Grow F F' k k' → Q b H'
/-- a value handed back: what stands behind it -/
def Out (K : PySem.W.Frag) (e : Ent) (d : D) (v : V) (H' : Hp) : Prop := ∃ F' k', Wd (tabK K) e F' H' k' ∧ At K F' k' d v
def liftS (K : Kx) (f : DS) : TS := fun E σ H => ∃ e env oa F k, ∃ B : DEnd, Rel K e env oa σ F H k ∧ f B env ∧ (∀ env' oa' σ' F' H' k', B.nx env' → Rel K e env' oa' σ' F' H' k' → Grow F F' k k' → E.nx σ' H') ∧ (∀ d v H', B.rt d → Out K e d v H' → E.rt v H') ∧
  (∀ env' oa' σ' F' H' k', B.bk env' → Rel K e env' oa' σ' F' H' k' → Grow F F' k k' → E.bk σ' H') ∧ (∀ env' oa' σ' F' H' k', B.ct env' → Rel K e env' oa' σ' F' H' k' → Grow F F' k k' → E.ct σ' H')
/-- L: the slots that the target stores -/
def liftG (K : Kx) (L : List Nat) (g : DG) : TG := fun v σ H Q => ∃ e env oa F k d, ∃ P : Evn → Prop, Rel K e env oa σ F H k ∧ At K F k d v ∧ g d env P ∧ ∀ env' oa' σ' F' H' k', P env' → Rel K e env' oa' σ' F' H' k' → Grow F F' k k' → σ'.length = σ.length → (∀ j, j ∉ L → σ'[j]? = σ[j]?) → Q σ' H'
abbrev DGs := List D → Evn → (Evn → Prop) → Prop
def liftGs (K : Kx) (L : List Nat) (g : DGs) : TGs := fun vs σ H Q => ∃ e env oa F k ds, ∃ P : Evn → Prop, Rel K e env oa σ F H k ∧ Ats K F k ds vs ∧ g ds env P ∧ ∀ env' oa' σ' F' H' k', P env' → Rel K e env' oa' σ' F' H' k' → Grow F F' k k' → σ'.length = σ.length → (∀ j, j ∉ L → σ'[j]? = σ[j]?) → Q σ' H'
/-- what a loop walks: J hands out the data ds -/
def Runs (K : PySem.W.Frag) (J : It) (ds : List D) (F : Hp) (k : Dk) : Prop := ∀ (e : Ent) (env : Evn) (oa : Nat → Addr) (σ : St) (F' H : Hp) (k' : Dk) (i : Nat), Rel0 K e env oa σ F' H k' → Grow F F' k k' →
  (ds.length ≤ i → J.stop i H) ∧ ∀ d, ds[i]? = some d → J.go i H ∧ ∀ y H', J.yld i H y H' → ∃ F'', Rel0 K e env oa σ F'' H' k' ∧ Grow F' F'' k' k' ∧ At K F'' k' d y
def liftI (K : Kx) (f : DA) : TI := fun σ H R => ∃ e env oa F k, ∃ P : List D → Evn → Prop, Rel K e env oa σ F H k ∧ f env P ∧ ∀ ds env' oa' F' H' k' J, P ds env' → Rel K e env' oa' σ F' H' k' → Grow F F' k k' → Runs K J ds F' k' → R J H'
/-! ### weakening -/
theorem _root_.L2.PE.w {X : Cx} {a : Expr} {t t' : TE} (h : PE X a t) (w : ∀ σ H Q, t' σ H Q → t σ H Q) : PE X a t' := ⟨fun pins s σ H Q I q => h.run pins s σ H Q I (w _ _ _ q)⟩
theorem _root_.L2.PT.w {X : Cx} {a : Expr} {t t' : TT} (h : PT X a t) (w : ∀ σ H Q, t' σ H Q → t σ H Q) : PT X a t' := ⟨fun pins s σ H Q I q => h.run pins s σ H Q I (w _ _ _ q)⟩
theorem _root_.L2.PW.w {X : Cx} {a : Expr} {t t' : TT} (h : PW X a t) (w : ∀ σ H Q, t' σ H Q → t σ H Q) : PW X a t' := ⟨fun wh pins s σ H Q I q => h.run wh pins s σ H Q I (w _ _ _ q)⟩
theorem _root_.L2.PA.w {X : Cx} {a : List Expr} {t t' : TA} (h : PA X a t) (w : ∀ σ H Q, t' σ H Q → t σ H Q) : PA X a t' := ⟨fun pos pins s σ H Q I q => h.run pos pins s σ H Q I (w _ _ _ q)⟩
theorem _root_.L2.PS.w {X : Cx} {a : Stmt} {t t' : TS} (h : PS X a t) (w : ∀ E σ H, t' E σ H → t E σ H) : PS X a t' := ⟨fun pins s σ H E I q => h.run pins s σ H E I (w _ _ _ q)⟩
theorem _root_.L2.PG.w {X : Cx} {a : Expr} {t t' : TG} (h : PG X a t) (w : ∀ v σ H Q, t' v σ H Q → t v σ H Q) : PG X a t' := ⟨fun pins s σ H x u Q I r q => h.run pins s σ H x u Q I r (w _ _ _ _ q)⟩
theorem _root_.L2.PGs.w {X : Cx} {a : List Expr} {t t' : TGs} (h : PGs X a t) (w : ∀ v σ H Q, t' v σ H Q → t v σ H Q) : PGs X a t' := ⟨fun pins s σ H x u Q I r q => h.run pins s σ H x u Q I r (w _ _ _ _ q)⟩
theorem _root_.L2.PI.w {X : Cx} {g a : Expr} {t t' : TI} (h : PI X g a t) (w : ∀ σ H Q, t' σ H Q → t σ H Q) : PI X g a t' := ⟨fun pins s σ H Q I q => h.run pins s σ H Q I (w _ _ _ q)⟩
theorem _root_.L2.PSs.w {X : Cx} {a : List Stmt} {t t' : TS} (h : PSs X a t) (w : ∀ E σ H, t' E σ H → t E σ H) : PSs X a t' := ⟨fun pins s σ H E I q => h.run pins s σ H E I (w _ _ _ q)⟩
/-! ### moves of the relation -/
section
variable {K : PySem.W.Frag} {e : Ent} {env : Evn} {oa : Nat → Addr} {σ : St} {F H : Hp} {k : Dk}
theorem Rel0.val_at (R : Rel0 K e env oa σ F H k) {i : Nat} {d : D} (h : env[i]? = some (.val d)) : ∃ v, σ[i]? = some (some v) ∧ At K F k d v := R.val i d h
theorem Wd.grow0 {T : List (Addr × Str)} (W : Wd T e F H k) : Grow e.F0 F e.k0 k := ⟨W.ini, W.kk1⟩
/-- a new object is laid, frozen -/
theorem Rel0.laid (R : Rel0 K e env oa σ F H k) {p : Addr} (hp : H p = none) (o : HO) : Rel0 K e env oa σ (upd F p o) (upd H p o) k ∧ Grow F (upd F p o) k k := by
  have W := R.wd
  have hF : F p = none := by
    cases q : F p with
    | none => rfl
    | some u => rw [W.sub _ _ q] at hp; cases hp
  have g : Grow F (upd F p o) k k := ⟨fun a u q => by rw [upd_ne (ne_of_none q hF)]; exact q, fun _ q => q⟩
  have keep : ∀ a u, H a = some u → upd H p o a = some u := fun a u q => by rw [upd_ne (ne_of_none q hp)]; exact q
  have h0 : (∀ q, e.k0 = some q → p ≠ q.1 ∧ p ≠ q.2) := fun q hq => by
    obtain ⟨⟨kv, cs, h1, h2, _⟩, _⟩ := W.dk q (W.kk1 q hq)
    exact ⟨fun z => by (rw [z, h1] at hp; cases hp), fun z => by (rw [z, h2] at hp; cases hp)⟩
  have e0 : e.H0 p = none := by
    cases q : e.H0 p with
    | none => rfl
    | some u => rw [W.fr p u q h0 (tabs_none W.tb hp)] at hp; cases hp
  refine ⟨⟨⟨fun a u q => ?_, fun a u q => g.1 _ _ (W.ini a u q), fun a u q => ?_, fun a u q z z2 => keep _ _ (W.fr a u q z z2), W.kk1, W.kk2, fun q hq => ?_, tabs_upd W.tb hp, fun q hq => by rw [upd_ne (Ne.symm (tabs_none W.tb hp q hq))]; exact W.tbf q hq⟩, R.len, fun i d hi => ?_, fun i ds hi => ?_, R.inj⟩, g⟩
  · by_cases ha : a = p
    · subst ha; rw [upd_same] at q ⊢; exact q
    · rw [upd_ne ha] at q ⊢; exact W.sub a u q
  · by_cases ha : a = p
    · subst ha; exact .inr e0
    · rw [upd_ne ha] at q; exact W.new a u q
  · obtain ⟨⟨kv, cs, h1, h2, h3⟩, h4, h5⟩ := W.dk q hq
    have n1 : q.1 ≠ p := ne_of_none h1 hp
    have n2 : q.2 ≠ p := ne_of_none h2 hp
    exact ⟨⟨kv, cs, keep _ _ h1, keep _ _ h2, h3⟩, by rw [upd_ne n1]; exact h4, by rw [upd_ne n2]; exact h5⟩
  · obtain ⟨v, h1, h2⟩ := R.val i d hi
    exact ⟨v, h1, At.grow g d v h2⟩
  · obtain ⟨h1, ⟨vs, h2, h3⟩, h4, h5, h6⟩ := R.own i ds hi
    exact ⟨h1, ⟨vs, keep _ _ h2, Ats.grow g ds vs h3⟩, by rw [upd_ne (ne_of_none h2 hp)]; exact h4, h5, h6⟩
/-- an own list is frozen -/
theorem Rel0.freeze (R : Rel0 K e env oa σ F H k) {i : Nat} {ds : List D} (hi : env[i]? = some (.own ds)) :
    ∃ F' v, Rel0 K e (env.set i (.val (.lst ds))) oa σ F' H k ∧ Grow F F' k k ∧ σ[i]? = some (some v) ∧ At K F' k (.lst ds) v := by
  have W := R.wd
  obtain ⟨h1, ⟨vs, h2, h3⟩, h4, h5, h6⟩ := R.own i ds hi
  have g : Grow F (upd F (oa i) (.lst vs)) k k := ⟨fun a u q => by rw [upd_ne (ne_of_none q h4)]; exact q, fun _ q => q⟩
  have hA : At K (upd F (oa i) (.lst vs)) k (.lst ds) (.ref (oa i)) := by
    simp only [At]
    exact ⟨_, vs, rfl, upd_same, Ats.grow g ds vs h3⟩
  have hlt : i < env.length := (List.getElem?_eq_some_iff.mp hi).1
  refine ⟨upd F (oa i) (.lst vs), .ref (oa i), ⟨⟨fun a u q => ?_, fun a u q => g.1 _ _ (W.ini a u q), fun a u q => ?_, W.fr, W.kk1, W.kk2, fun q hq => ?_, W.tb, fun q hq => by rw [upd_ne (Ne.symm (tabs_nlst W.tb h2 q hq))]; exact W.tbf q hq⟩, by rw [List.length_set]; exact R.len, fun j d hj => ?_, fun j es hj => ?_, fun j j' es es' hj hj' => ?_⟩, g, h1, hA⟩
  · by_cases ha : a = oa i
    · subst ha; rw [upd_same] at q; cases q; exact h2
    · rw [upd_ne ha] at q; exact W.sub a u q
  · by_cases ha : a = oa i
    · subst ha; exact .inr h5
    · rw [upd_ne ha] at q; exact W.new a u q
  · obtain ⟨d1, d2, d3⟩ := W.dk q hq
    obtain ⟨n1, n2⟩ := h6 q hq
    exact ⟨d1, by rw [upd_ne (Ne.symm n1)]; exact d2, by rw [upd_ne (Ne.symm n2)]; exact d3⟩
  · by_cases hji : j = i
    · subst hji
      rw [List.getElem?_set_self hlt] at hj
      cases hj
      exact ⟨_, h1, hA⟩
    · rw [List.getElem?_set_ne (Ne.symm hji)] at hj
      obtain ⟨v, a1, a2⟩ := R.val j d hj
      exact ⟨v, a1, At.grow g d v a2⟩
  · by_cases hji : j = i
    · subst hji
      rw [List.getElem?_set_self hlt] at hj
      cases hj
    · rw [List.getElem?_set_ne (Ne.symm hji)] at hj
      obtain ⟨b1, ⟨us, b2, b3⟩, b4, b5, b6⟩ := R.own j es hj
      have nj : oa j ≠ oa i := fun z => hji (R.inj j i es ds hj hi z)
      exact ⟨b1, ⟨us, b2, Ats.grow g es us b3⟩, by rw [upd_ne nj]; exact b4, b5, b6⟩
  · have nj : ∀ m (es : List D), (env.set i (.val (.lst ds)))[m]? = some (Slot.own es) → env[m]? = some (Slot.own es) := fun m es hm => by
      by_cases hmi : m = i
      · subst hmi
        rw [List.getElem?_set_self hlt] at hm
        cases hm
      · rw [List.getElem?_set_ne (Ne.symm hmi)] at hm
        exact hm
    exact R.inj j j' es es' (nj _ _ hj) (nj _ _ hj')
/-- a slot is set to a value -/
theorem Rel0.put (R : Rel0 K e env oa σ F H k) {i : Nat} {d : D} {v : V} (a : At K F k d v) : Rel0 K e (env.set i (.val d)) oa (σ.set i (some v)) F H k := by
  refine ⟨R.wd, by rw [List.length_set, List.length_set]; exact R.len, fun j d' hj => ?_, fun j es hj => ?_, fun j j' es es' hj hj' => ?_⟩
  · by_cases hji : j = i
    · subst hji
      have hlt : j < env.length := by
        by_cases h : j < env.length
        · exact h
        · rw [List.getElem?_eq_none (by rw [List.length_set]; omega)] at hj; cases hj
      rw [List.getElem?_set_self hlt] at hj
      cases hj
      exact ⟨v, List.getElem?_set_self (by rw [← R.len]; exact hlt), a⟩
    · rw [List.getElem?_set_ne (Ne.symm hji)] at hj
      obtain ⟨u, a1, a2⟩ := R.val j d' hj
      exact ⟨u, by rw [List.getElem?_set_ne (Ne.symm hji)]; exact a1, a2⟩
  · by_cases hji : j = i
    · subst hji
      have hlt : j < env.length := by
        by_cases h : j < env.length
        · exact h
        · rw [List.getElem?_eq_none (by rw [List.length_set]; omega)] at hj; cases hj
      rw [List.getElem?_set_self hlt] at hj
      cases hj
    · rw [List.getElem?_set_ne (Ne.symm hji)] at hj
      obtain ⟨b1, b2⟩ := R.own j es hj
      exact ⟨by rw [List.getElem?_set_ne (Ne.symm hji)]; exact b1, b2⟩
  · have nj : ∀ m (es : List D), (env.set i (.val d))[m]? = some (Slot.own es) → env[m]? = some (Slot.own es) := fun m es hm => by
      by_cases hmi : m = i
      · subst hmi
        have hlt : m < env.length := by
          by_cases h : m < env.length
          · exact h
          · rw [List.getElem?_eq_none (by rw [List.length_set]; omega)] at hm; cases hm
        rw [List.getElem?_set_self hlt] at hm
        cases hm
      · rw [List.getElem?_set_ne (Ne.symm hmi)] at hm
        exact hm
    exact R.inj j j' es es' (nj _ _ hj) (nj _ _ hj')
end
section
variable {K : Kx} {e : Ent} {env : Evn} {oa : Nat → Addr} {σ : St} {F H : Hp} {k : Dk}
theorem Rel.val_at (R : Rel K e env oa σ F H k) {i : Nat} {d : D} (h : env[i]? = some (.val d)) : ∃ v, σ[i]? = some (some v) ∧ At K F k d v := R.val i d h
theorem Rel.laid (R : Rel K e env oa σ F H k) {p : Addr} (hp : H p = none) (o : HO) : Rel K e env oa σ (upd F p o) (upd H p o) k ∧ Grow F (upd F p o) k k := by
  obtain ⟨a, g⟩ := R.toRel0.laid hp o
  exact ⟨R.up a g, g⟩
theorem Rel.freeze (R : Rel K e env oa σ F H k) {i : Nat} {ds : List D} (hi : env[i]? = some (.own ds)) :
    ∃ F' v, Rel K e (env.set i (.val (.lst ds))) oa σ F' H k ∧ Grow F F' k k ∧ σ[i]? = some (some v) ∧ At K F' k (.lst ds) v := by
  obtain ⟨F', v, a, g, h⟩ := R.toRel0.freeze hi
  exact ⟨F', v, R.up a g, g, h⟩
theorem Rel.put (R : Rel K e env oa σ F H k) {i : Nat} {d : D} {v : V} (a : At K F k d v) : Rel K e (env.set i (.val d)) oa (σ.set i (some v)) F H k := R.up (R.toRel0.put a) (Grow.refl _ _)
end
end DL
namespace DL
open PySem PySem.Spec L2
section
variable {wx : DX} {WW : WX} {ZZ : Fz} {X : Cx} {a b c : Expr} {es : List Expr} {pos : Pos} {f g : DE} {fa : DA}
/-! ### constants, names -/
def dC (d : D) : DE := fun env Q => Q d env
theorem dl_C {d : D} {v : V} (h : PE X a (tC v)) (hd : ∀ F k, At X.K F k d v) : PE X a (lift (X.kx wx WW ZZ) (dC d)) :=
  h.w fun σ H Q ⟨e, env, oa, F, k, P, R, p, q⟩ => q d env v oa F H k p R (Grow.refl _ _) (hd F k)
theorem dl_int {i : Int} {j} : PE X (.Constant (.int i) j pos) (lift (X.kx wx WW ZZ) (dC (.int i))) := dl_C pe_int fun _ _ => by simp only [At]
theorem dl_bl {i : Bool} {j} : PE X (.Constant (.bool i) j pos) (lift (X.kx wx WW ZZ) (dC (.bl i))) := dl_C pe_bl fun _ _ => by simp only [At]
theorem dl_non {j} : PE X (.Constant .none j pos) (lift (X.kx wx WW ZZ) (dC .non)) := dl_C pe_non fun _ _ => by simp only [At]
theorem dl_str {x : Str} {j} : PE X (.Constant (.str x) j pos) (lift (X.kx wx WW ZZ) (dC (.str x))) := dl_C pe_str fun _ _ => by simp only [At]
theorem dl_raw {v : V} (h : PE X a (tC v)) : PE X a (lift (X.kx wx WW ZZ) (dC (.raw v))) := dl_C h fun _ _ => by simp only [At]
def dVar (i : Nat) : DE := fun env Q => match env[i]? with
  | some (.val d) => Q d env
  | some (.own ds) => Q (.lst ds) (env.set i (.val (.lst ds)))
  | _ => False
theorem dl_var {i : Nat} (h : PE X a (tVar i)) : PE X a (lift (X.kx wx WW ZZ) (dVar i)) :=
  h.w fun σ H Q ⟨e, env, oa, F, k, P, R, p, q⟩ => by
    unfold dVar at p
    split at p
    · rename_i d hd
      obtain ⟨v, h1, h2⟩ := R.val i d hd
      exact ⟨v, h1, q d env v oa F H k p R (Grow.refl _ _) h2⟩
    · rename_i ds hd
      obtain ⟨F', v, R', g', h1, h2⟩ := R.freeze hd
      exact ⟨v, h1, q _ _ v oa F' H k p R' g' h2⟩
    · exact p.elim
/-! ### operators -/
abbrev DO := D → D → (D → Prop) → Prop
def OpL (K : PySem.W.Frag) (r : R2) (o : DO) : Prop := ∀ (e : Ent) (env : Evn) (oa : Nat → Addr) (σ : St) (F H : Hp) (k : Dk) (x y : V) (dx dy : D) (Q : VK) (G : D → Prop), Rel0 K e env oa σ F H k → At K F k dx x → At K F k dy y → o dx dy G →
  (∀ d v oa' F' H' k', G d → Rel0 K e env oa' σ F' H' k' → Grow F F' k k' → At K F' k' d v → Q v H') → r x y H Q
def dBin (o : DO) (f g : DE) : DE := fun env Q => f env fun x env1 => g env1 fun y env2 => o x y fun d => Q d env2
theorem lift_bin {K : Kx} {r : R2} {o : DO} (L : OpL K.f r o) : ∀ σ H Q, lift K (dBin o f g) σ H Q → tOp r (lift K f) (lift K g) σ H Q := fun σ H Q ⟨e, env, oa, F, k, P, R, p, q⟩ =>
  ⟨e, env, oa, F, k, _, R, p, fun x env1 vx oa1 F1 H1 k1 p1 R1 g1 a1 => ⟨e, env1, oa1, F1, k1, _, R1, p1, fun y env2 vy oa2 F2 H2 k2 p2 R2 g2 a2 =>
    L e env2 oa2 σ F2 H2 k2 vx vy x y Q _ R2.toRel0 (At.grow g2 _ _ a1) a2 p2 fun d v oa3 F3 H3 k3 p3 R3 g3 a3 => q d env2 v oa3 F3 H3 k3 p3 (R2.up R3 g3) (g1.trans (g2.trans g3)) a3⟩⟩
theorem dl_op {op : Operator} {r : R2} {o : DO} (ho : OpR X (binaryOp op) r) (L : OpL X.K r o) (ha : PE X a (lift (X.kx wx WW ZZ) f)) (hb : PE X b (lift (X.kx wx WW ZZ) g)) : PE X (.BinOp a op b pos) (lift (X.kx wx WW ZZ) (dBin o f g)) := (pe_op ho ha hb).w (lift_bin L)
theorem dl_cmp {op : CmpOp} {r : R2} {o : DO} (ho : OpR X (compareOp op) r) (L : OpL X.K r o) (ha : PE X a (lift (X.kx wx WW ZZ) f)) (hb : PE X b (lift (X.kx wx WW ZZ) g)) (hm : behindInMarks op b = false) : PE X (.Compare a [op] [b] pos) (lift (X.kx wx WW ZZ) (dBin o f g)) := (pe_cmpR ho ha hb hm).w (lift_bin L)
/-- a value that is a bool, as a test -/
def dTest (f : DE) : DT := fun env Q => f env fun d env1 => match d with
  | .bl b => Q b env1
  | _ => False
theorem lift_test {K : Kx} : ∀ σ H Q, liftT K (dTest f) σ H Q → tTest (lift K f) σ H Q := fun σ H Q ⟨e, env, oa, F, k, P, R, p, q⟩ =>
  ⟨e, env, oa, F, k, _, R, p, fun d env1 v oa1 F1 H1 k1 p1 R1 g1 a1 => by
    cases d with
    | bl b => exact ⟨b, by simpa only [At] using a1, q b env1 oa1 F1 H1 k1 p1 R1 g1⟩
    | _ => exact p1.elim⟩
theorem dt_cmp {op : CmpOp} {r : R2} {o : DO} (ho : OpR X (compareOp op) r) (L : OpL X.K r o) (ha : PE X a (lift (X.kx wx WW ZZ) f)) (hb : PE X b (lift (X.kx wx WW ZZ) g)) (hm : behindInMarks op b = false) : PT X (.Compare a [op] [b] pos) (liftT (X.kx wx WW ZZ) (dTest (dBin o f g))) :=
  (pt_cmpR ho ha hb hm).w fun σ H Q h => by
    obtain ⟨e, env, oa, F, k, P, R, p, q⟩ := lift_test σ H Q h
    exact lift_bin L σ H _ ⟨e, env, oa, F, k, P, R, p, q⟩
/-- a value's truth -/
def truD : D → Option Bool
  | .non => some false
  | .bl b => some b
  | .int i => some (i != 0)
  | .str s => some ((s.length : Int) != 0)
  | .tup l => some (!l.isEmpty)
  | .lst l => some (!l.isEmpty)
  | .dic l => some (!l.isEmpty)
  | .raw _ => none
  | .deck _ => none
  | .scr _ => none
/-! ### and, or, not, if-else as tests -/
def dAnd (p q : DT) : DT := fun env Q => p env fun b env1 => if b = true then q env1 Q else Q false env1
def dOr (p q : DT) : DT := fun env Q => p env fun b env1 => if b = true then Q true env1 else q env1 Q
def dNot (p : DT) : DT := fun env Q => p env fun b env1 => Q (!b) env1
variable {ta tb : DT} {rest : List Expr}
theorem dw_and1 (h : PT X a (liftT (X.kx wx WW ZZ) ta)) : PW X (.BoolOp .And [a] pos) (liftT (X.kx wx WW ZZ) ta) := pw_and1 h
theorem dw_or1 (h : PT X a (liftT (X.kx wx WW ZZ) ta)) : PW X (.BoolOp .Or [a] pos) (liftT (X.kx wx WW ZZ) ta) := pw_or1 h
theorem dw_and (h : PT X a (liftT (X.kx wx WW ZZ) ta)) (h2 : PW X (.BoolOp .And (b :: rest) pos) (liftT (X.kx wx WW ZZ) tb)) : PW X (.BoolOp .And (a :: b :: rest) pos) (liftT (X.kx wx WW ZZ) (dAnd ta tb)) :=
  (pw_and h h2).w fun σ H Q ⟨e, env, oa, F, k, P, R, p, q⟩ => ⟨e, env, oa, F, k, _, R, p, fun c env1 oa1 F1 H1 k1 p1 R1 g1 => by
    cases c with
    | true => exact ⟨e, env1, oa1, F1, k1, P, R1, p1, fun d env2 oa2 F2 H2 k2 p2 R2 g2 => q d env2 oa2 F2 H2 k2 p2 R2 (g1.trans g2)⟩
    | false => exact q false env1 oa1 F1 H1 k1 p1 R1 g1⟩
theorem dw_or (h : PT X a (liftT (X.kx wx WW ZZ) ta)) (h2 : PW X (.BoolOp .Or (b :: rest) pos) (liftT (X.kx wx WW ZZ) tb)) : PW X (.BoolOp .Or (a :: b :: rest) pos) (liftT (X.kx wx WW ZZ) (dOr ta tb)) :=
  (pw_or h h2).w fun σ H Q ⟨e, env, oa, F, k, P, R, p, q⟩ => ⟨e, env, oa, F, k, _, R, p, fun c env1 oa1 F1 H1 k1 p1 R1 g1 => by
    cases c with
    | false => exact ⟨e, env1, oa1, F1, k1, P, R1, p1, fun d env2 oa2 F2 H2 k2 p2 R2 g2 => q d env2 oa2 F2 H2 k2 p2 R2 (g1.trans g2)⟩
    | true => exact q true env1 oa1 F1 H1 k1 p1 R1 g1⟩
theorem dt_not (h : PT X a (liftT (X.kx wx WW ZZ) ta)) : PT X (.UnaryOp .Not a pos) (liftT (X.kx wx WW ZZ) (dNot ta)) :=
  (pt_not h).w fun σ H Q ⟨e, env, oa, F, k, P, R, p, q⟩ => ⟨e, env, oa, F, k, _, R, p, fun c env1 oa1 F1 H1 k1 p1 R1 g1 => q _ env1 oa1 F1 H1 k1 p1 R1 g1⟩
/-- a bool-valued expression as a test -/
theorem dt_val (h : PE X a (lift (X.kx wx WW ZZ) f)) (he : ∀ whole, isTrue a X.env whole = (do let v ← whole; standAt a.pos; holding [v] (truthy v)) := by intro _; rfl) : PT X a (liftT (X.kx wx WW ZZ) (dTest f)) :=
  (pt_val h he).w fun σ H Q h => by
    obtain ⟨e, env, oa, F, k, P, R, p, q⟩ := lift_test σ H Q h
    exact ⟨e, env, oa, F, k, P, R, p, q⟩
theorem At.tru {K : PySem.W.Frag} {e : Ent} {F H : Hp} {k : Dk} {T : List (Addr × Str)} (W : Wd T e F H k) : ∀ {d : D} {v : V} {b : Bool}, At K F k d v → truD d = some b → (∀ s, d = .str s → s.length ≤ sizeLine) → TruV K v H b
  | .non, v, b, h, t, z => by simp only [At] at h; subst h; simp only [truD, Option.some.injEq] at t; exact t.symm
  | .bl c, v, b, h, t, z => by simp only [At] at h; subst h; simp only [truD, Option.some.injEq] at t; exact t.symm
  | .int i, v, b, h, t, z => by simp only [At] at h; subst h; simp only [truD, Option.some.injEq] at t; exact t.symm
  | .str s, v, b, h, t, z => by simp only [At] at h; subst h; simp only [truD, Option.some.injEq] at t; exact ⟨z s rfl, t.symm⟩
  | .raw _, v, b, h, t, z => by simp [truD] at t
  | .deck _, v, b, h, t, z => by simp [truD] at t
  | .scr _, v, b, h, t, z => by simp [truD] at t
  | .tup l, v, b, h, t, z => by
    simp only [At] at h
    obtain ⟨a, vs, rfl, q, r⟩ := h
    simp only [truD, Option.some.injEq] at t
    refine .inr (.inl ⟨vs, ?_, ?_⟩)
    · exact sqT_grow W.sub q
    · have e := Ats.length r
      rw [← t]
      cases l with
      | nil => cases vs with
        | nil => rfl
        | cons _ _ => simp at e
      | cons _ _ => cases vs with
        | nil => simp at e
        | cons _ _ => rfl
  | .lst l, v, b, h, t, z => by
    simp only [At] at h
    obtain ⟨a, vs, rfl, q, r⟩ := h
    simp only [truD, Option.some.injEq] at t
    refine .inl ⟨vs, SqL.of (W.sub _ _ q), ?_⟩
    have e := Ats.length r
    rw [← t]
    cases l with
    | nil => cases vs with
      | nil => rfl
      | cons _ _ => simp at e
    | cons _ _ => cases vs with
      | nil => simp at e
      | cons _ _ => rfl
  | .dic l, v, b, h, t, z => by
    simp only [At] at h
    obtain ⟨a, vs, rfl, q, r⟩ := h
    simp only [truD, Option.some.injEq] at t
    refine .inr (.inr ⟨vs, W.sub _ _ q, ?_⟩)
    rw [← t]
    cases l with
    | nil => simp only [Atk] at r; subst r; rfl
    | cons x y => obtain ⟨x1, x2⟩ := x; simp only [Atk] at r; obtain ⟨_, _, rfl, _⟩ := r; rfl
/-- any value by its truth, as a test -/
def dTru (f : DE) : DT := fun env Q => f env fun d env1 => ∃ b, truD d = some b ∧ (∀ s, d = .str s → s.length ≤ sizeLine) ∧ Q b env1
theorem dt_tru (h : PE X a (lift (X.kx wx WW ZZ) f)) (he : ∀ whole, isTrue a X.env whole = (do let v ← whole; standAt a.pos; holding [v] (truthy v)) := by intro _; rfl) : PT X a (liftT (X.kx wx WW ZZ) (dTru f)) :=
  (pt_truth h he).w fun σ H Q ⟨e, env, oa, F, k, P, R, p, q⟩ => ⟨e, env, oa, F, k, _, R, p, fun d env1 v oa1 F1 H1 k1 ⟨c, p1, p2, p3⟩ R1 g1 a1 => ⟨c, At.tru R1.wd a1 p1 p2, q c env1 oa1 F1 H1 k1 p3 R1 g1⟩⟩
/-! ### .. as values: and, or of bools, not, if-else -/
def dAndV (f g : DE) : DE := fun env Q => f env fun d env1 => match d with
  | .bl b => if b = true then g env1 Q else Q (.bl false) env1
  | _ => False
def dOrV (f g : DE) : DE := fun env Q => f env fun d env1 => match d with
  | .bl b => if b = true then Q (.bl true) env1 else g env1 Q
  | _ => False
def dNotV (f : DE) : DE := fun env Q => f env fun d env1 => match d with
  | .bl b => Q (.bl (!b)) env1
  | _ => False
theorem dl_one {op} (h : PE X a (lift (X.kx wx WW ZZ) f)) : PE X (.BoolOp op [a] pos) (lift (X.kx wx WW ZZ) f) := pe_one h
theorem dl_and (h : PE X a (lift (X.kx wx WW ZZ) f)) (h2 : PE X (.BoolOp .And (b :: rest) pos) (lift (X.kx wx WW ZZ) g)) : PE X (.BoolOp .And (a :: b :: rest) pos) (lift (X.kx wx WW ZZ) (dAndV f g)) :=
  (pe_and h h2).w fun σ H Q ⟨e, env, oa, F, k, P, R, p, q⟩ => ⟨e, env, oa, F, k, _, R, p, fun d env1 v oa1 F1 H1 k1 p1 R1 g1 a1 => by
    cases d with
    | bl c =>
      refine ⟨c, by simpa only [At] using a1, ?_⟩
      cases c with
      | true => exact ⟨e, env1, oa1, F1, k1, P, R1, p1, fun d env2 v2 oa2 F2 H2 k2 p2 R2 g2 a2 => q d env2 v2 oa2 F2 H2 k2 p2 R2 (g1.trans g2) a2⟩
      | false => exact q (.bl false) env1 _ oa1 F1 H1 k1 p1 R1 g1 (by simp only [At])
    | _ => exact p1.elim⟩
theorem dl_or (h : PE X a (lift (X.kx wx WW ZZ) f)) (h2 : PE X (.BoolOp .Or (b :: rest) pos) (lift (X.kx wx WW ZZ) g)) : PE X (.BoolOp .Or (a :: b :: rest) pos) (lift (X.kx wx WW ZZ) (dOrV f g)) :=
  (pe_or h h2).w fun σ H Q ⟨e, env, oa, F, k, P, R, p, q⟩ => ⟨e, env, oa, F, k, _, R, p, fun d env1 v oa1 F1 H1 k1 p1 R1 g1 a1 => by
    cases d with
    | bl c =>
      refine ⟨c, by simpa only [At] using a1, ?_⟩
      cases c with
      | false => exact ⟨e, env1, oa1, F1, k1, P, R1, p1, fun d env2 v2 oa2 F2 H2 k2 p2 R2 g2 a2 => q d env2 v2 oa2 F2 H2 k2 p2 R2 (g1.trans g2) a2⟩
      | true => exact q (.bl true) env1 _ oa1 F1 H1 k1 p1 R1 g1 (by simp only [At])
    | _ => exact p1.elim⟩
theorem dl_not (h : PE X a (lift (X.kx wx WW ZZ) f)) : PE X (.UnaryOp .Not a pos) (lift (X.kx wx WW ZZ) (dNotV f)) :=
  (pe_not h).w fun σ H Q ⟨e, env, oa, F, k, P, R, p, q⟩ => ⟨e, env, oa, F, k, _, R, p, fun d env1 v oa1 F1 H1 k1 p1 R1 g1 a1 => by
    cases d with
    | bl c => exact ⟨c, by simpa only [At] using a1, q (.bl (!c)) env1 _ oa1 F1 H1 k1 p1 R1 g1 (by simp only [At])⟩
    | _ => exact p1.elim⟩
def dIfE (t : DT) (f g : DE) : DE := fun env Q => t env fun b env1 => if b = true then f env1 Q else g env1 Q
theorem dl_ife (hc : PT X c (liftT (X.kx wx WW ZZ) ta)) (ha : PE X a (lift (X.kx wx WW ZZ) f)) (hb : PE X b (lift (X.kx wx WW ZZ) g)) : PE X (.IfExp c a b pos) (lift (X.kx wx WW ZZ) (dIfE ta f g)) :=
  (pe_ifExp hc ha hb).w fun σ H Q ⟨e, env, oa, F, k, P, R, p, q⟩ => ⟨e, env, oa, F, k, _, R, p, fun c env1 oa1 F1 H1 k1 p1 R1 g1 => by
    cases c with
    | true => exact ⟨e, env1, oa1, F1, k1, P, R1, p1, fun d env2 v2 oa2 F2 H2 k2 p2 R2 g2 a2 => q d env2 v2 oa2 F2 H2 k2 p2 R2 (g1.trans g2) a2⟩
    | false => exact ⟨e, env1, oa1, F1, k1, P, R1, p1, fun d env2 v2 oa2 F2 H2 k2 p2 R2 g2 a2 => q d env2 v2 oa2 F2 H2 k2 p2 R2 (g1.trans g2) a2⟩⟩
/-! ### argument lists, displays -/
def dNil : DA := fun env Q => Q [] env
def dCons (f : DE) (r : DA) : DA := fun env Q => f env fun d env1 => r env1 fun ds env2 => Q (d :: ds) env2
theorem da_nil : PA X [] (liftA (X.kx wx WW ZZ) dNil) := pa_nil.w fun σ H Q ⟨e, env, oa, F, k, P, R, p, q⟩ => q [] env [] oa F H k p R (Grow.refl _ _) .nil
theorem da_cons (ha : PE X a (lift (X.kx wx WW ZZ) f)) (hr : PA X es (liftA (X.kx wx WW ZZ) fa)) (hs : starEach (a :: es) X.env = (false, eval a X.env) :: starEach es X.env := by rfl) : PA X (a :: es) (liftA (X.kx wx WW ZZ) (dCons f fa)) :=
  (pa_cons ha hr hs).w fun σ H Q ⟨e, env, oa, F, k, P, R, p, q⟩ => ⟨e, env, oa, F, k, _, R, p, fun d env1 v oa1 F1 H1 k1 p1 R1 g1 a1 => ⟨e, env1, oa1, F1, k1, _, R1, p1, fun ds env2 vs oa2 F2 H2 k2 p2 R2 g2 a2 =>
    q (d :: ds) env2 (v :: vs) oa2 F2 H2 k2 p2 R2 (g1.trans g2) (.cons (At.grow g2 _ _ a1) a2)⟩⟩
def dTup (r : DA) : DE := fun env Q => r env fun ds env1 => ds.length ≤ 10000000 ∧ Q (.tup ds) env1
def dLst (r : DA) : DE := fun env Q => r env fun ds env1 => ds.length ≤ 10000000 ∧ Q (.lst ds) env1
theorem size10 {n : Nat} (h : n ≤ 10000000) : n ≤ sizeLine := Nat.le_trans h (by rw [sizeLine_eq]; decide)
theorem dl_tup {x1} (h : PA X es (liftA (X.kx wx WW ZZ) fa)) : PE X (.Tuple es x1 pos) (lift (X.kx wx WW ZZ) (dTup fa)) :=
  (pe_tup h).w fun σ H Q ⟨e, env, oa, F, k, P, R, p, q⟩ => ⟨e, env, oa, F, k, _, R, p, fun ds env1 vs oa1 F1 H1 k1 ⟨z, p1⟩ R1 g1 a1 => ⟨by rw [← Ats.length a1]; exact size10 z, fun t ht => by
    obtain ⟨R2, g2⟩ := R1.laid ht (.tup vs)
    refine q (.tup ds) env1 _ oa1 _ _ k1 p1 R2 (g1.trans g2) ?_
    simp only [At]
    exact ⟨t, vs, rfl, SqT.of upd_same, Ats.grow g2 _ _ a1⟩⟩⟩
theorem dl_lst (h : PA X es (liftA (X.kx wx WW ZZ) fa)) : PE X (.List es pos) (lift (X.kx wx WW ZZ) (dLst fa)) :=
  (pe_lst h).w fun σ H Q ⟨e, env, oa, F, k, P, R, p, q⟩ => ⟨e, env, oa, F, k, _, R, p, fun ds env1 vs oa1 F1 H1 k1 ⟨z, p1⟩ R1 g1 a1 => ⟨by rw [← Ats.length a1]; exact size10 z, fun t ht => by
    obtain ⟨R2, g2⟩ := R1.laid ht (.lst vs)
    refine q (.lst ds) env1 _ oa1 _ _ k1 p1 R2 (g1.trans g2) ?_
    simp only [At]
    exact ⟨t, vs, rfl, upd_same, Ats.grow g2 _ _ a1⟩⟩⟩
end
end DL
namespace DL
open PySem PySem.Spec L2
/-! ### a def's promise, where it is known that no container is being shown around it -/
structure FnG (P : Program) (w : World) (K : PySem.W.Frag) (mg : Str → Option Value) (base : Heap) (CX : CXT) (n : Nat) (f : Addr) (fd : FuncData) (ps : List Str) (sp : Sp) : Prop where
  arity : ∀ {vs : List V} {H : Hp} {Q : VK} {E : XK}, sp vs H Q E → vs.length = ps.length
  go : ∀ {A : Around} {outer : List PySem.Env} {s : Shared} {H : Hp} {args : Args} {us : List Value} {vs : List V} {Q : VK} {E : XK}, A.guards = some [] → Room n A → Env0 P w K mg base A outer s H →
    BindsTo s fd args (ps.zip us) → Vals vs us → sp vs H Q E → codeAny (model P w) A (.call (.ref f) args) (CR CX outer P w H s Q E) s
section
variable {P : Program} {w : World} {K : PySem.W.Frag} {mg : Str → Option Value} {base : Heap} {CX : CXT}
theorem FnG.up {j k : Nat} {f : Addr} {fd : FuncData} {ps : List Str} {sp : Sp} (F : FnG P w K mg base CX j f fd ps sp) (h : j ≤ k) : FnG P w K mg base CX k f fd ps sp :=
  ⟨F.arity, fun hg hr he hb hv hs => F.go hg (hr.mono h) he hb hv hs⟩
theorem FnG.weak {k : Nat} {f : Addr} {fd : FuncData} {ps : List Str} {sp sp' : Sp} (F : FnG P w K mg base CX k f fd ps sp) (h : ∀ vs H Q E, sp' vs H Q E → sp vs H Q E) : FnG P w K mg base CX k f fd ps sp' :=
  ⟨fun q => F.arity (h _ _ _ _ q), fun hg hr he hb hv hs => F.go hg hr he hb hv (h _ _ _ _ hs)⟩
/-- a def of the text, by its body -/
theorem fnGc {x qual : Str} {params : Arguments} {body : List Stmt} {scope : Scope} {dvs : List V} {kws : List (Str × V)} {f : Addr} {fd : FuncData} {N ps : List Str} {k : Nat} {sp : Sp}
    (F : FunD K x qual params body scope dvs kws f fd) (S : FnScope N ps scope) (len : ∀ vs H Q E, sp vs H Q E → vs.length = ps.length)
    (walk : ∀ (cdv : Value) (A : Around) (outer : List PySem.Env) (s : Shared) (H : Hp) (vs : List V) (Q : VK) (E : XK), fd.code = cdv → A.guards = some [] → Room k (A.deeper (PyProof.Rows.envOfC qual scope s.heap.objs.size f cdv)) → sp vs H Q E →
      ∃ t, PSs (cxOf CX P w K mg base N qual scope f cdv A outer s H E) body t ∧ t { nx := fun _ H' => Q .non H', rt := Q } (start N vs) H) : FnG P w K mg base CX (k + 1) f fd ps sp := by
  obtain ⟨oc, od, dV, kV, doc, pm, an, cdv, ct, osl, rfl, lk, hcd, _, _⟩ := F.ex
  refine ⟨fun {vs H Q E} h => len vs H Q E h, fun {A outer s H args us vs Q E} gd hr e0 hb rv hsp => ?_⟩
  have nvs := len vs H Q E hsp
  have sameB : ∀ b o, base.get? b = some o → s.heap.get? b = some o := fun b o q => (e0.bs b o q).1
  have inS : K.In s.heap := e0.mod.kin.keeps sameB
  have kinds : ∀ y ∈ ps.zip us, scope.names.lookup y.1 = some .local ∨ (scope.names.lookup y.1 = some .cell ∧ ((cellsFrom (s.heap.objs.size + 1) scope.names []).lookup y.1).isSome = true) := by
    rintro ⟨n, v⟩ hy
    cases S.par n (List.of_mem_zip hy).1 with
    | inl q => exact .inl q
    | inr q => exact .inr ⟨q, PySem.W.cellsFrom_some _ _ _ (.inl q)⟩
  apply codeAny_call_function hr.depth (inS _ _ lk) rfl S.co S.gen rfl (PySem.W.codeRec_of inS hcd)
  apply hb
  refine PySem.wpAny_newFunctionEnv_cells S.kind kinds ?_
  intro env he s1 ic
  cases he
  refine ⟨(e0.mod.nolimit.keeps sameB).keeps ic.toInCall.keep, codeAny_func ?_⟩
  obtain ⟨t, ht, hq⟩ := walk cdv A outer s H vs Q E rfl gd (hr.deeper _) hsp
  have J0 := inv_start (CX := CX) (E := E) (qual := qual) (f := f) (cd := cdv) S hr.hd e0 nvs rv ic
  apply wpAny_mono (ht.run [] s1 (start N vs) H _ J0 hq)
  · intro fl s' hs
    cases fl with
    | brk => obtain ⟨_, _, _, z⟩ := hs; exact z.elim
    | cont => obtain ⟨_, _, _, z⟩ := hs; exact z.elim
    | next => obtain ⟨σ', H', J, q⟩ := hs; exact ⟨V.non, H', J.os, J.bare, J.base, J.hok, rfl, q⟩
    | ret u => obtain ⟨v, σ', H', J, r, q⟩ := hs; exact ⟨v, H', J.os, J.bare, J.base, J.hok, r, q⟩
  · intro _ _ z; exact z
theorem fnG {x qual : Str} {params : Arguments} {body : List Stmt} {scope : Scope} {dvs : List V} {kws : List (Str × V)} {f : Addr} {fd : FuncData} {N ps : List Str} {k : Nat} {sp : Sp}
    (F : FunD K x qual params body scope dvs kws f fd) (S : FnScope N ps scope) (len : ∀ vs H Q E, sp vs H Q E → vs.length = ps.length)
    (walk : ∀ (cdv : Value) (A : Around) (outer : List PySem.Env) (s : Shared) (H : Hp) (vs : List V) (Q : VK) (E : XK), A.guards = some [] → Room k (A.deeper (PyProof.Rows.envOfC qual scope s.heap.objs.size f cdv)) → sp vs H Q E →
      ∃ t, PSs (cxOf CX P w K mg base N qual scope f cdv A outer s H E) body t ∧ t { nx := fun _ H' => Q .non H', rt := Q } (start N vs) H) : FnG P w K mg base CX (k + 1) f fd ps sp :=
  fnGc F S len fun cdv A outer s H vs Q E _ gd hr hsp => walk cdv A outer s H vs Q E gd hr hsp
end
section
variable {wx : DX} {WW : WX} {ZZ : Fz} {X : Cx} {CX : CXT} {k : Nat} {f : Addr} {fd : FuncData} {ps ks : List Str} {sp : Sp} {dvs : List V} {ds : List Value} {E : XK} {x : Str} {p pos : Pos} {e : Expr} {es : List Expr} {kws : List Keyword} {t tk : TA}
theorem ranG {pins : List (Addr × Obj)} {σ : L2.St} {H : Hp} {s : Shared} {Q : VK} {args : Args} {us : List Value} {vs : List V} (F : FnG X.prog X.w X.K X.mg X.base CX k f fd ps sp) (gd : X.A.guards = some []) (hr : Room k X.A)
    (hx : Passes CX X E) (I : Inv X pins σ H s) (hb : BindsTo s fd args (ps.zip us)) (rv : Vals vs us) (h : sp vs H Q E) : codeAny (model X.prog X.w) X.A (.call (.ref f) args) (fun r s' => match r with | .ok (.ret u) => EP X pins σ Q u s' | .ok _ => False | .error z => X.xe z s') s := by
  refine codeAny_mono (F.go gd hr I.env0 hb rv h) ?_
  intro r s' hq
  rcases r with z | fl
  · exact hx pins σ H s _ s' I hq
  · cases fl
    case ret u => exact I.after hq
    all_goals exact False.elim hq
theorem callG (F : FnG X.prog X.w X.K X.mg X.base CX k f fd ps sp) (gd : X.A.guards = some []) (hr : Room k X.A) (hg : Gl X x) (hm : X.mg x = some (.ref f)) (hk : PySem.W.keepIn X.K (.ref f) = true) (hb : Binds X.K fd ps ds) (hd : Vals dvs ds) (hx : Passes CX X E)
    (ha : PA X (e :: es) t) (hdb : (x == ("__debug__" : Str)) = false := by decide) (he : starEach (e :: es) X.env = (false, eval e X.env) :: starEach es X.env := by rfl) (hpl : (backTo pos (starEach es X.env)).any (·.1) = false := by rfl) :
    PE X (.Call (.Name x p) (e :: es) [] pos) (tCall sp dvs E t) := by
  constructor
  intro pins s σ H Q I h
  apply wpAny_Call_Name_kw (ld_glob I hg hm _ hdb)
  refine PySem.W.callWith_K I.ok.mod.kin hk (thn (ha.run pos pins s σ H _ I h) ?_) he hpl
  intro us s1 ⟨vs, H1, I1, r, q⟩
  have r2 : Vals (vs ++ dvs) (us ++ ds) := r.append hd
  refine ⟨I1.kIn, PySem.wpAny_call (codeAny_mono (ranG F gd hr hx I1 (hb s1 us I1.kIn (by rw [← r2.length]; exact F.arity q)) r2 q) ?_)⟩
  intro r s' z
  rcases r with z' | fl
  · exact z
  · cases fl <;> exact z
theorem callG0 (F : FnG X.prog X.w X.K X.mg X.base CX k f fd ps sp) (gd : X.A.guards = some []) (hr : Room k X.A) (hg : Gl X x) (hm : X.mg x = some (.ref f)) (hk : PySem.W.keepIn X.K (.ref f) = true) (hb : Binds X.K fd ps ds) (hd : Vals dvs ds) (hx : Passes CX X E)
    (hdb : (x == ("__debug__" : Str)) = false := by decide) : PE X (.Call (.Name x p) [] [] pos) (tCall sp dvs E tNil) := by
  constructor
  intro pins s σ H Q I h
  apply wpAny_Call_Name_kw (ld_glob I hg hm _ hdb)
  have q : sp ([] ++ dvs) H Q E := h
  have r2 : Vals ([] ++ dvs) ([] ++ ds) := Vals.append .nil hd
  refine PySem.W.callWith_K0 I.kIn hk (PySem.wpAny_call (codeAny_mono (ranG F gd hr hx I (hb s [] I.kIn (by rw [← r2.length]; exact F.arity q)) r2 q) ?_))
  intro r s' z
  rcases r with z' | fl
  · exact z
  · cases fl <;> exact z
end
end DL
namespace DL
open PySem PySem.Spec L2
/-! ### promises over data -/
abbrev SD := List D → (D → Prop) → (Ex → Prop) → Prop
/-- an exception that leaves -/
def XOut (K : PySem.W.Frag) (mg : Str → Option Value) (e : Ent) (x : Ex) (cls : Value) (a : Option Addr) (H' : Hp) : Prop := ∃ F' k', Wd (tabK K) e F' H' k' ∧ XAt K mg F' k' x cls a
def spD (K : PySem.W.Frag) (mg : Str → Option Value) (S : SD) : Sp := fun vs H Q E => ∃ ds F k, ∃ P : D → Prop, ∃ PX : Ex → Prop, Wd (tabK K) ⟨H, F, k⟩ F H k ∧ Ats K F k ds vs ∧ S ds P PX ∧ (∀ d v H', P d → Out K ⟨H, F, k⟩ d v H' → Q v H') ∧
  ∀ x cls a H', PX x → XOut K mg ⟨H, F, k⟩ x cls a H' → E cls a H'
section
variable {K : PySem.W.Frag} {e : Ent} {env : Evn} {oa : Nat → Addr} {σ : St} {F H F' H' : Hp} {k k' : Dk}
theorem Wd.old {T : List (Addr × Str)} (W : Wd T e F H k) {a : Addr} (h : H a = none) : e.H0 a = none := by
  cases q : e.H0 a with
  | none => rfl
  | some u =>
    exfalso
    by_cases hd : ∃ p, e.k0 = some p ∧ (a = p.1 ∨ a = p.2)
    · obtain ⟨p, hp, z⟩ := hd
      obtain ⟨⟨kv, cs, h1, h2, _⟩, _⟩ := W.dk p (W.kk1 p hp)
      rcases z with rfl | rfl
      · rw [h1] at h; cases h
      · rw [h2] at h; cases h
    · have := W.fr a u q (fun p hp => ⟨fun z => hd ⟨p, hp, .inl z⟩, fun z => hd ⟨p, hp, .inr z⟩⟩) (tabs_none W.tb h)
      rw [this] at h; cases h
theorem Wd.trans {T : List (Addr × Str)} (W : Wd T e F H k) (V : Wd T ⟨H, F, k⟩ F' H' k') : Wd T e F' H' k' := by
  refine ⟨V.sub, fun a o q => V.ini a o (W.ini a o q), fun a o q => ?_, fun a o q z z2 => ?_, fun p q => V.kk1 p (W.kk1 p q), fun z p q => ?_, V.dk, V.tb, V.tbf⟩
  · rcases V.new a o q with r | r
    · exact W.new a o r
    · exact .inr (W.old r)
  · refine V.fr a o (W.fr a o q z z2) (fun p hp => ?_) z2
    cases hk : e.k0 with
    | some p' =>
      have y := W.kk1 p' hk
      have hp' : k = some p := hp
      rw [hp'] at y; cases y
      exact z p hk
    | none =>
      obtain ⟨n1, n2⟩ := W.kk2 hk p hp
      exact ⟨fun y => (by rw [y, n1] at q; cases q), fun y => (by rw [y, n2] at q; cases q)⟩
  · cases hk : k with
    | some p1 =>
      have := V.kk1 p1 hk
      rw [q] at this; cases this
      exact W.kk2 z p hk
    | none =>
      obtain ⟨n1, n2⟩ := V.kk2 hk p q
      exact ⟨W.old n1, W.old n2⟩
theorem Rel0.after (R : Rel0 K e env oa σ F H k) (V : Wd (tabK K) ⟨H, F, k⟩ F' H' k') : Rel0 K e env oa σ F' H' k' ∧ Grow F F' k k' := by
  have g : Grow F F' k k' := ⟨V.ini, V.kk1⟩
  refine ⟨⟨R.wd.trans V, R.len, fun i d hi => ?_, fun i ds hi => ?_, R.inj⟩, g⟩
  · obtain ⟨v, h1, h2⟩ := R.val i d hi
    exact ⟨v, h1, At.grow g d v h2⟩
  · obtain ⟨h1, ⟨vs, h2, h3⟩, h4, h5, h6⟩ := R.own i ds hi
    refine ⟨h1, ⟨vs, V.fr _ _ h2 h6 (tabs_nlst R.wd.tb h2), Ats.grow g ds vs h3⟩, ?_, h5, fun p hp => ?_⟩
    · cases q : F' (oa i) with
      | none => rfl
      | some u =>
        rcases V.new _ _ q with r | r
        · have r' : F (oa i) = some u := r
          rw [h4] at r'; cases r'
        · have r' : H (oa i) = none := r
          rw [h2] at r'; cases r'
    · cases hk : k with
      | some p1 =>
        have := V.kk1 p1 hk
        rw [hp] at this; cases this
        exact h6 p hk
      | none =>
        obtain ⟨n1, n2⟩ := V.kk2 hk p hp
        exact ⟨ne_of_none h2 n1, ne_of_none h2 n2⟩
theorem Rel0.self (R : Rel0 K e env oa σ F H k) : Wd (tabK K) ⟨H, F, k⟩ F H k :=
  ⟨R.wd.sub, fun _ _ q => q, fun _ _ q => .inl q, fun _ _ q _ _ => q, fun _ q => q, fun z p q => (by have z' : k = none := z; rw [z'] at q; cases q), R.wd.dk, R.wd.tb, R.wd.tbf⟩
end
theorem Rel.after {K : Kx} {e : Ent} {env : Evn} {oa : Nat → Addr} {σ : St} {F H F' H' : Hp} {k k' : Dk} (R : Rel K e env oa σ F H k) (V : Wd (tabK K.f) ⟨H, F, k⟩ F' H' k') : Rel K e env oa σ F' H' k' ∧ Grow F F' k k' := by
  obtain ⟨a, g⟩ := R.toRel0.after V
  exact ⟨R.up a g, g⟩
theorem Rel.self {K : Kx} {e : Ent} {env : Evn} {oa : Nat → Addr} {σ : St} {F H : Hp} {k : Dk} (R : Rel K e env oa σ F H k) : Wd (tabK K.f) ⟨H, F, k⟩ F H k := R.toRel0.self
def dCall (S : SD) (fa : DA) : DE := fun env Q => fa env fun ds env' => S ds (fun d => Q d env') fun _ => False
theorem lift_call {K : Kx} {S : SD} {fa : DA} : ∀ σ H Q, lift K (dCall S fa) σ H Q → tCall (spD K.f K.mg S) [] E0 (liftA K fa) σ H Q := fun σ H Q ⟨e, env, oa, F, k, P, R, p, q⟩ =>
  ⟨e, env, oa, F, k, _, R, p, fun ds env1 vs oa1 F1 H1 k1 p1 R1 g1 a1 => ⟨ds, F1, k1, _, _, R1.self, by rw [List.append_nil]; exact a1, p1, fun d v H' pd ⟨F', k', W, a⟩ => by
    obtain ⟨R2, g2⟩ := R1.after W
    exact q d env1 v oa1 F' H' k' pd R2 (g1.trans g2) a, fun _ _ _ _ z _ => z.elim⟩⟩
section
variable {wx : DX} {WW : WX} {ZZ : Fz} {X : Cx} {k : Nat} {f : Addr} {fd : FuncData} {ps ks : List Str} {S : SD} {x : Str} {p pos : Pos} {e : Expr} {es : List Expr} {kws : List Keyword} {fa fk : DA}
theorem dl_call (F : FnG X.prog X.w X.K X.mg X.base (L2.CX X.prog X.w) k f fd ps (spD X.K X.mg S)) (gd : X.A.guards = some []) (hr : Room k X.A) (hg : Gl X x) (hm : X.mg x = some (.ref f)) (hk : PySem.W.keepIn X.K (.ref f) = true) (hb : Binds X.K fd ps [])
    (ha : PA X (e :: es) (liftA (X.kx wx WW ZZ) fa)) (hdb : (x == ("__debug__" : Str)) = false := by decide) (he : starEach (e :: es) X.env = (false, eval e X.env) :: starEach es X.env := by rfl) (hpl : (backTo pos (starEach es X.env)).any (·.1) = false := by rfl) :
    PE X (.Call (.Name x p) (e :: es) [] pos) (lift (X.kx wx WW ZZ) (dCall S fa)) := (callG F gd hr hg hm hk hb .nil passL ha hdb he hpl).w lift_call
theorem dl_call0 (F : FnG X.prog X.w X.K X.mg X.base (L2.CX X.prog X.w) k f fd ps (spD X.K X.mg S)) (gd : X.A.guards = some []) (hr : Room k X.A) (hg : Gl X x) (hm : X.mg x = some (.ref f)) (hk : PySem.W.keepIn X.K (.ref f) = true) (hb : Binds X.K fd ps [])
    (hdb : (x == ("__debug__" : Str)) = false := by decide) : PE X (.Call (.Name x p) [] [] pos) (lift (X.kx wx WW ZZ) (dCall S dNil)) := (callG0 F gd hr hg hm hk hb .nil passL hdb).w fun σ H Q h => by
  obtain ⟨e, env, oa, F, k, P, R, p, q⟩ := lift_call σ H Q h
  exact q [] env [] oa F H k p R (Grow.refl _ _) .nil
end
/-- nothing is let out -/
abbrev k0 (K : PySem.W.Frag) (mg : Str → Option Value) : Kx := ⟨K, mg, fun _ _ => False, fun _ _ _ _ => False, Fz.tt⟩
/-! ### a def -/
def slots (n : Nat) (ds : List D) : Evn := ds.map Slot.val ++ List.replicate (n - ds.length) Slot.no
theorem rel_start {K : PySem.W.Frag} {N : List Str} {ds : List D} {vs : List V} {F H : Hp} {k : Dk} (W : Wd (tabK K) ⟨H, F, k⟩ F H k) (a : Ats K F k ds vs) : Rel0 K ⟨H, F, k⟩ (slots N.length ds) (fun _ => 0) (start N vs) F H k := by
  have l := Ats.length a
  have noown : ∀ i es, (slots N.length ds)[i]? ≠ some (Slot.own es) := fun i es h => by
    unfold slots at h
    by_cases hi : i < ds.length
    · rw [List.getElem?_append_left (by simpa using hi), List.getElem?_map] at h
      cases q : ds[i]? with
      | none => rw [q] at h; cases h
      | some d => rw [q] at h; cases h
    · rw [List.getElem?_append_right (by simpa using hi), List.getElem?_replicate] at h
      split at h <;> cases h
  refine ⟨W, ?_, fun i d h => ?_, fun i es h => absurd h (noown i es), fun i _ es _ h => absurd h (noown i es)⟩
  · unfold slots L2.start
    simp [l]
  · unfold slots at h
    by_cases hi : i < ds.length
    · rw [List.getElem?_append_left (by simpa using hi), List.getElem?_map] at h
      cases q : ds[i]? with
      | none => rw [q] at h; cases h
      | some c =>
        rw [q] at h
        cases h
        obtain ⟨v, h1, h2⟩ := Ats.get a i d q
        refine ⟨v, ?_, h2⟩
        unfold L2.start
        rw [List.getElem?_append_left (by simpa [← l] using hi), List.getElem?_map, h1]
        rfl
    · rw [List.getElem?_append_right (by simpa using hi), List.getElem?_replicate] at h
      split at h <;> cases h
section
variable {P : Program} {w : World} {K : PySem.W.Frag} {mg : Str → Option Value} {base : Heap}
theorem dl_defL {x qual : Str} {params : Arguments} {body : List Stmt} {scope : Scope} {f : Addr} {fd : FuncData} {N ps : List Str} {k : Nat} {S : SD} {g : DS}
    (F : FunD K x qual params body scope [] [] f fd) (C : FnScope N ps scope) (arity : ∀ ds P PX, S ds P PX → ds.length = ps.length)
    (walk : ∀ (cdv : Value) (A : Around) (outer : List PySem.Env) (s : Shared) (H : Hp) (E : XK), fd.code = cdv → A.guards = some [] → Room k (A.deeper (PyProof.Rows.envOfC qual scope s.heap.objs.size f cdv)) →
      PSs (cxOf (L2.CX P w) P w K mg base N qual scope f cdv A outer s H E).nox body (liftS (k0 K mg) g))
    (sem : ∀ ds (P : D → Prop) PX, S ds P PX → g { nx := fun _ => P .non, rt := P } (slots N.length ds)) : FnG P w K mg base (L2.CX P w) (k + 1) f fd ps (spD K mg S) := by
  refine fnGc F C (fun vs H Q E ⟨ds, F, k, P, PX, W, a, h, _⟩ => by rw [← Ats.length a]; exact arity ds P PX h) fun cdv A outer s H vs Q E hc gd hr hsp => ⟨liftS (k0 K mg) g, (walk cdv A outer s H E hc gd hr).nox, ?_⟩
  obtain ⟨ds, F, k, P, PX, W, a, h, q, _⟩ := hsp
  refine ⟨⟨H, F, k⟩, _, _, F, k, _, ⟨rel_start (N := N) W a, fun _ _ _ _ _ _ _ _ _ z => False.elim z, trivial⟩, sem ds P PX h, fun env' oa' σ' F' H' k' p R _ => ?_, q, fun env' _ _ _ _ _ z _ _ => z.elim, fun env' _ _ _ _ _ z _ _ => z.elim⟩
  exact q .non .non H' p ⟨F', k', R.wd, by simp only [At]⟩
theorem dl_def {x qual : Str} {params : Arguments} {body : List Stmt} {scope : Scope} {f : Addr} {fd : FuncData} {N ps : List Str} {k : Nat} {S : SD} {g : DS}
    (F : FunD K x qual params body scope [] [] f fd) (C : FnScope N ps scope) (arity : ∀ ds P PX, S ds P PX → ds.length = ps.length)
    (walk : ∀ (cdv : Value) (A : Around) (outer : List PySem.Env) (s : Shared) (H : Hp) (E : XK), A.guards = some [] → Room k (A.deeper (PyProof.Rows.envOfC qual scope s.heap.objs.size f cdv)) →
      PSs (cxOf (L2.CX P w) P w K mg base N qual scope f cdv A outer s H E).nox body (liftS (k0 K mg) g))
    (sem : ∀ ds (P : D → Prop) PX, S ds P PX → g { nx := fun _ => P .non, rt := P } (slots N.length ds)) : FnG P w K mg base (L2.CX P w) (k + 1) f fd ps (spD K mg S) :=
  dl_defL F C arity (fun cdv A outer s H E _ gd hr => walk cdv A outer s H E gd hr) sem
/-- a def that may raise -/
theorem dl_defXL {x qual : Str} {params : Arguments} {body : List Stmt} {scope : Scope} {f : Addr} {fd : FuncData} {N ps : List Str} {k : Nat} {S : SD} {g : DX → DS}
    (F : FunD K x qual params body scope [] [] f fd) (C : FnScope N ps scope) (arity : ∀ ds P PX, S ds P PX → ds.length = ps.length)
    (walk : ∀ (cdv : Value) (A : Around) (outer : List PySem.Env) (s : Shared) (H : Hp) (E : XK) (wx : DX), fd.code = cdv → A.guards = some [] → Room k (A.deeper (PyProof.Rows.envOfC qual scope s.heap.objs.size f cdv)) →
      PSs (cxOf (L2.CX P w) P w K mg base N qual scope f cdv A outer s H E) body (liftS ⟨K, mg, wx, fun cls d _ H' => E cls d H', Fz.tt⟩ (g wx)))
    (sem : ∀ ds (P : D → Prop) PX, S ds P PX → g (fun x _ => PX x) { nx := fun _ => P .non, rt := P } (slots N.length ds)) : FnG P w K mg base (L2.CX P w) (k + 1) f fd ps (spD K mg S) := by
  refine fnGc F C (fun vs H Q E ⟨ds, F, k, P, PX, W, a, h, _⟩ => by rw [← Ats.length a]; exact arity ds P PX h) fun cdv A outer s H vs Q E hc gd hr hsp => ?_
  obtain ⟨ds, F, k, P, PX, W, a, h, q, q2⟩ := hsp
  refine ⟨_, walk cdv A outer s H E (fun x _ => PX x) hc gd hr, ?_⟩
  refine ⟨⟨H, F, k⟩, _, _, F, k, _, ⟨rel_start (N := N) W a, fun x env' oa' σ' F' H' k' cls d hw R _ hx => q2 x cls d H' hw ⟨F', k', R.wd, hx⟩, trivial⟩, sem ds P PX h, fun env' oa' σ' F' H' k' p R _ => ?_, q, fun env' _ _ _ _ _ z _ _ => z.elim, fun env' _ _ _ _ _ z _ _ => z.elim⟩
  exact q .non .non H' p ⟨F', k', R.wd, by simp only [At]⟩
theorem dl_defX {x qual : Str} {params : Arguments} {body : List Stmt} {scope : Scope} {f : Addr} {fd : FuncData} {N ps : List Str} {k : Nat} {S : SD} {g : DX → DS}
    (F : FunD K x qual params body scope [] [] f fd) (C : FnScope N ps scope) (arity : ∀ ds P PX, S ds P PX → ds.length = ps.length)
    (walk : ∀ (cdv : Value) (A : Around) (outer : List PySem.Env) (s : Shared) (H : Hp) (E : XK) (wx : DX), A.guards = some [] → Room k (A.deeper (PyProof.Rows.envOfC qual scope s.heap.objs.size f cdv)) →
      PSs (cxOf (L2.CX P w) P w K mg base N qual scope f cdv A outer s H E) body (liftS ⟨K, mg, wx, fun cls d _ H' => E cls d H', Fz.tt⟩ (g wx)))
    (sem : ∀ ds (P : D → Prop) PX, S ds P PX → g (fun x _ => PX x) { nx := fun _ => P .non, rt := P } (slots N.length ds)) : FnG P w K mg base (L2.CX P w) (k + 1) f fd ps (spD K mg S) :=
  dl_defXL F C arity (fun cdv A outer s H E wx _ gd hr => walk cdv A outer s H E wx gd hr) sem
end
end DL
namespace DL
open PySem PySem.Spec L2
section
variable {wx : DX} {WW : WX} {ZZ : Fz} {X : Cx} {a b c : Expr} {es : List Expr} {st : Stmt} {rest bs : List Stmt} {pos : Pos} {f g : DE} {fa : DA} {u v : DS} {t : DT}
/-! ### statements -/
def dNext : DS := fun B env => B.nx env
def dSeq (f g : DS) : DS := fun B env => f { B with nx := g B } env
def dBrk : DS := fun B env => B.bk env
def dCnt : DS := fun B env => B.ct env
theorem ds_nil : PSs X [] (liftS (X.kx wx WW ZZ) dNext) := pss_nil.w fun E σ H ⟨e, env, oa, F, k, B, R, p, n, r, b, c⟩ => n env oa σ F H k p R (Grow.refl _ _)
theorem ds_pass : PS X (.Pass pos) (liftS (X.kx wx WW ZZ) dNext) := ps_pass.w fun E σ H ⟨e, env, oa, F, k, B, R, p, n, r, b, c⟩ => n env oa σ F H k p R (Grow.refl _ _)
theorem ds_break : PS X (.Break pos) (liftS (X.kx wx WW ZZ) dBrk) := ps_break.w fun E σ H ⟨e, env, oa, F, k, B, R, p, n, r, b, c⟩ => b env oa σ F H k p R (Grow.refl _ _)
theorem ds_continue : PS X (.Continue pos) (liftS (X.kx wx WW ZZ) dCnt) := ps_continue.w fun E σ H ⟨e, env, oa, F, k, B, R, p, n, r, b, c⟩ => c env oa σ F H k p R (Grow.refl _ _)
theorem ds_one (h : PS X st (liftS (X.kx wx WW ZZ) u)) : PSs X [st] (liftS (X.kx wx WW ZZ) u) := pss_one h
theorem ds_cons (h1 : PS X st (liftS (X.kx wx WW ZZ) u)) (h2 : PSs X rest (liftS (X.kx wx WW ZZ) v)) : PSs X (st :: rest) (liftS (X.kx wx WW ZZ) (dSeq u v)) :=
  (pss_cons h1 h2).w fun E σ H ⟨e, env, oa, F, k, B, R, p, n, r, b, c⟩ => ⟨e, env, oa, F, k, { B with nx := v B }, R, p,
    fun env' oa' σ' F' H' k' q R' g' => ⟨e, env', oa', F', k', B, R', q, fun env2 oa2 σ2 F2 H2 k2 q2 R2 g2 => n env2 oa2 σ2 F2 H2 k2 q2 R2 (g'.trans g2), r, fun env2 oa2 σ2 F2 H2 k2 q2 R2 g2 => b env2 oa2 σ2 F2 H2 k2 q2 R2 (g'.trans g2),
      fun env2 oa2 σ2 F2 H2 k2 q2 R2 g2 => c env2 oa2 σ2 F2 H2 k2 q2 R2 (g'.trans g2)⟩, r, b, c⟩
def dIf (t : DT) (u v : DS) : DS := fun B env => t env fun b env1 => if b = true then u B env1 else v B env1
theorem ds_if (hc : PT X c (liftT (X.kx wx WW ZZ) t)) (h1 : PSs X bs (liftS (X.kx wx WW ZZ) u)) (h2 : PSs X rest (liftS (X.kx wx WW ZZ) v)) : PS X (.If c bs rest pos) (liftS (X.kx wx WW ZZ) (dIf t u v)) :=
  (ps_if hc h1 h2).w fun E σ H ⟨e, env, oa, F, k, B, R, p, n, r, b, c⟩ => ⟨e, env, oa, F, k, _, R, p, fun x env1 oa1 F1 H1 k1 p1 R1 g1 => by
    have q : ∀ w : DS, w B env1 → liftS (X.kx wx WW ZZ) w E σ H1 := fun w hw => ⟨e, env1, oa1, F1, k1, B, R1, hw, fun env2 oa2 σ2 F2 H2 k2 q2 R2 g2 => n env2 oa2 σ2 F2 H2 k2 q2 R2 (g1.trans g2), r, fun env2 oa2 σ2 F2 H2 k2 q2 R2 g2 => b env2 oa2 σ2 F2 H2 k2 q2 R2 (g1.trans g2),
      fun env2 oa2 σ2 F2 H2 k2 q2 R2 g2 => c env2 oa2 σ2 F2 H2 k2 q2 R2 (g1.trans g2)⟩
    cases x with
    | true => exact q u p1
    | false => exact q v p1⟩
def dRet (f : DE) : DS := fun B env => f env fun d _ => B.rt d
theorem ds_ret (h : PE X a (lift (X.kx wx WW ZZ) f)) : PS X (.Return (some a) pos) (liftS (X.kx wx WW ZZ) (dRet f)) :=
  (ps_ret h).w fun E σ H ⟨e, env, oa, F, k, B, R, p, n, r, b, c⟩ => ⟨e, env, oa, F, k, _, R, p, fun d env1 w oa1 F1 H1 k1 p1 R1 g1 a1 => r d w H1 p1 ⟨F1, k1, R1.wd, a1⟩⟩
def dRetN : DS := fun B _ => B.rt .non
theorem ds_retN : PS X (.Return none pos) (liftS (X.kx wx WW ZZ) dRetN) := ps_retN.w fun E σ H ⟨e, env, oa, F, k, B, R, p, n, r, b, c⟩ => r .non .non H p ⟨F, k, R.wd, by simp only [At]⟩
def dDrop (f : DE) : DS := fun B env => f env fun _ env1 => B.nx env1
theorem ds_expr (h : PE X a (lift (X.kx wx WW ZZ) f)) (hs : swapsWith a none pos.line X.env = pure false := by rfl) : PS X (.Expr a pos) (liftS (X.kx wx WW ZZ) (dDrop f)) :=
  (ps_expr h hs).w fun E σ H ⟨e, env, oa, F, k, B, R, p, n, r, b, c⟩ => ⟨e, env, oa, F, k, _, R, p, fun d env1 w oa1 F1 H1 k1 p1 R1 g1 a1 => n env1 oa1 σ F1 H1 k1 p1 R1 g1⟩
theorem ds_doc {x : Str} {j pos'} : PS X (.Expr (.Constant (.str x) j pos) pos') (liftS (X.kx wx WW ZZ) dNext) := ps_doc.w fun E σ H ⟨e, env, oa, F, k, B, R, p, n, r, b, c⟩ => n env oa σ F H k p R (Grow.refl _ _)
/-! ### targets, assignments -/
def gName (i : Nat) : DG := fun d env Q => Q (env.set i (.val d))
theorem dg_name {i : Nat} (h : PG X a (L2.gName i)) : PG X a (liftG (X.kx wx WW ZZ) [i] (gName i)) :=
  h.w fun v σ H Q ⟨e, env, oa, F, k, d, P, R, hA, p, q⟩ => q _ oa _ F H k p (R.put hA) (Grow.refl _ _) (List.length_set ..) fun j hj => List.getElem?_set_ne (fun z => hj (by simp [z]))
def gNil : DGs := fun ds env Q => match ds with
  | [] => Q env
  | _ => False
def gCons (g : DG) (r : DGs) : DGs := fun ds env Q => match ds with
  | d :: l => g d env fun env1 => r l env1 Q
  | _ => False
variable {L L' : List Nat} {tg : DG} {tr : DGs}
theorem dg_nil : PGs X [] (liftGs (X.kx wx WW ZZ) [] gNil) := pgs_nil.w fun vs σ H Q ⟨e, env, oa, F, k, ds, P, R, hA, p, q⟩ => by
  cases ds with
  | nil =>
    simp only [Ats] at hA
    exact ⟨hA, q env oa σ F H k p R (Grow.refl _ _) rfl fun _ _ => rfl⟩
  | cons _ _ => exact p.elim
theorem dg_cons (h : PG X a (liftG (X.kx wx WW ZZ) L tg)) (h2 : PGs X es (liftGs (X.kx wx WW ZZ) L' tr)) (he : (assignEach (a :: es) X.env).map (·.2) = assign a X.env :: (assignEach es X.env).map (·.2) := by rfl) : PGs X (a :: es) (liftGs (X.kx wx WW ZZ) (L ++ L') (gCons tg tr)) :=
  (pgs_cons h h2 he).w fun vs σ H Q ⟨e, env, oa, F, k, ds, P, R, hA, p, q⟩ => by
    cases ds with
    | nil => exact p.elim
    | cons d l =>
      simp only [Ats] at hA
      obtain ⟨v, r, rfl, h1, h2⟩ := hA
      refine ⟨v, r, rfl, e, env, oa, F, k, d, _, R, h1, p, fun env1 oa1 σ1 F1 H1 k1 p1 R1 g1 l1 s1 => ⟨e, env1, oa1, F1, k1, l, P, R1, Ats.grow g1 _ _ h2, p1, fun env2 oa2 σ2 F2 H2 k2 p2 R2 g2 l2 s2 => ?_⟩⟩
      refine q env2 oa2 σ2 F2 H2 k2 p2 R2 (g1.trans g2) (l2.trans l1) fun j hj => ?_
      rw [List.mem_append, not_or] at hj
      rw [s2 j hj.2, s1 j hj.1]
def gTup (n : Nat) (r : DGs) : DG := fun d env Q => match d with
  | .tup l => l.length = n ∧ r l env Q
  | _ => False
theorem dg_tup {kk : Nat} {n : Nat} (hc : X.calm = true) (h : PGs X es (liftGs (X.kx wx WW ZZ) L tr)) (hn : (assignEach es X.env).length = n := by rfl) (hst : (assignEach es X.env).findIdx? (·.1) = none := by rfl) : PG X (.Tuple es kk pos) (liftG (X.kx wx WW ZZ) L (gTup n tr)) :=
  (pg_tup hc h hn hst).w fun v σ H Q ⟨e, env, oa, F, k, d, P, R, hA, p, q⟩ => by
    cases d with
    | tup l =>
      obtain ⟨p1, p2⟩ := p
      simp only [At] at hA
      obtain ⟨x, vs, rfl, h1, h2⟩ := hA
      exact ⟨x, vs, rfl, sqT_grow R.wd.sub h1, by rw [← Ats.length h2]; exact p1, e, env, oa, F, k, l, P, R, h2, p2, q⟩
    | _ => exact p.elim
def dAsg (f : DE) (g : DG) : DS := fun B env => f env fun d env1 => g d env1 B.nx
theorem ds_asg {te : Expr} (h : PE X a (lift (X.kx wx WW ZZ) f)) (hg : PG X te (liftG (X.kx wx WW ZZ) L tg)) (hs : swapsWithSole [te] a pos.line X.env = pure false := by rfl) (hw : swappedStores [te] a X.env = pure none := by rfl)
    (h1 : (assignEach [te] X.env).map (·.2) = [assign te X.env] := by rfl) : PS X (.Assign [te] a pos) (liftS (X.kx wx WW ZZ) (dAsg f tg)) :=
  (ps_asg h hg hs hw h1).w fun E σ H ⟨e, env, oa, F, k, B, R, p, n, r, b, c⟩ => ⟨e, env, oa, F, k, _, R, p, fun d env1 w oa1 F1 H1 k1 p1 R1 g1 a1 => ⟨e, env1, oa1, F1, k1, d, _, R1, a1, p1, fun env2 oa2 σ2 F2 H2 k2 p2 R2 g2 _ _ => n env2 oa2 σ2 F2 H2 k2 p2 R2 (g1.trans g2)⟩⟩
theorem ds_set {i : Nat} {x : Str} {pos' : Pos} (hN : X.N.Nodup) (hi : X.N[i]? = some x) (hx : Loc X.env.scope x) (h : PE X a (lift (X.kx wx WW ZZ) f)) (hs : swapsWith a (some (.Name x pos')) pos.line X.env = pure false := by rfl)
    (hf : X.fn x = true ∨ X.env.scope.names.lookup x = some .local := by first | exact .inl rfl | exact .inr rfl | assumption) : PS X (.Assign [.Name x pos'] a pos) (liftS (X.kx wx WW ZZ) (dAsg f (gName i))) :=
  (ps_set hN hi hx h hs hf).w fun E σ H ⟨e, env, oa, F, k, B, R, p, n, r, b, c⟩ => ⟨e, env, oa, F, k, _, R, p, fun d env1 w oa1 F1 H1 k1 p1 R1 g1 a1 => n _ oa1 _ F1 H1 k1 p1 (R1.put a1) g1⟩
def dPar (i j : Nat) (fa : DA) : DS := fun B env => fa env fun ds env1 => match ds with
  | [d, d'] => B.nx ((env1.set i (.val d)).set j (.val d'))
  | _ => False
theorem lift_par {K : Kx} {i j : Nat} : ∀ E σ H, liftS K (dPar i j fa) E σ H → tPar i j (liftA K fa) E σ H := fun E σ H ⟨e, env, oa, F, k, B, R, p, n, r, b, c⟩ => ⟨e, env, oa, F, k, _, R, p, fun ds env1 vs oa1 F1 H1 k1 p1 R1 g1 a1 => by
  match ds, p1, a1 with
  | [d, d'], p1, a1 =>
    simp only [Ats] at a1
    obtain ⟨v1, _, rfl, b1, v2, _, rfl, b2, rfl⟩ := a1
    exact ⟨v1, v2, rfl, n _ oa1 _ F1 H1 k1 p1 ((R1.put b1).put b2) g1⟩⟩
def dPar3 (i j l : Nat) (fa : DA) : DS := fun B env => fa env fun ds env1 => match ds with
  | [d, d', d''] => B.nx (((env1.set i (.val d)).set j (.val d')).set l (.val d''))
  | _ => False
theorem lift_par3 {K : Kx} {i j l : Nat} : ∀ E σ H, liftS K (dPar3 i j l fa) E σ H → tPar3 i j l (liftA K fa) E σ H := fun E σ H ⟨e, env, oa, F, k, B, R, p, n, r, b, c⟩ => ⟨e, env, oa, F, k, _, R, p, fun ds env1 vs oa1 F1 H1 k1 p1 R1 g1 a1 => by
  match ds, p1, a1 with
  | [d, d', d''], p1, a1 =>
    simp only [Ats] at a1
    obtain ⟨v1, _, rfl, b1, v2, _, rfl, b2, v3, _, rfl, b3, rfl⟩ := a1
    exact ⟨v1, v2, v3, rfl, n _ oa1 _ F1 H1 k1 p1 (((R1.put b1).put b2).put b3) g1⟩⟩
/-! ### while -/
def whl (t : DT) (u : DS) : Nat → DEnd → Evn → Prop
  | 0, _, _ => False
  | n + 1, B, env => t env fun b env1 => if b = true then u { B with nx := whl t u n B, ct := whl t u n B, bk := B.nx } env1 else B.nx env1
def dWhile (t : DT) (u : DS) : DS := fun B env => ∃ n, whl t u n B env
theorem lift_while {K : Kx} : ∀ E σ H, liftS K (dWhile t u) E σ H → tWhile (liftT K t) (liftS K u) E σ H := fun E σ H ⟨e, env, oa, F, k, B, R, ⟨m, p⟩, n, r, b, c⟩ => by
  refine ⟨fun m σ' H' => ∃ env' oa' F' k', Rel K e env' oa' σ' F' H' k' ∧ Grow F F' k k' ∧ whl t u m B env', ⟨m, env, oa, F, k, R, Grow.refl _ _, p⟩, ?_⟩
  rintro m σ1 H1 ⟨env1, oa1, F1, k1, R1, g1, w1⟩
  cases m with
  | zero => exact w1.elim
  | succ m =>
    refine ⟨e, env1, oa1, F1, k1, _, R1, w1, fun x env2 oa2 F2 H2 k2 p2 R2 g2 => ?_⟩
    cases x with
    | false => exact n env2 oa2 σ1 F2 H2 k2 p2 R2 (g1.trans g2)
    | true =>
      refine ⟨fun σ' H' => ∃ env' oa' F' k', Rel K e env' oa' σ' F' H' k' ∧ Grow F F' k k' ∧ whl t u m B env', fun σ' H' h => ⟨m, Nat.lt_succ_self _, h⟩, ?_⟩
      have back : ∀ env3 oa3 σ3 F3 H3 k3, whl t u m B env3 → Rel K e env3 oa3 σ3 F3 H3 k3 → Grow F2 F3 k2 k3 → ∃ env' oa' F' k', Rel K e env' oa' σ3 F' H3 k' ∧ Grow F F' k k' ∧ whl t u m B env' :=
        fun env3 oa3 σ3 F3 H3 k3 p3 R3 g3 => ⟨env3, oa3, F3, k3, R3, g1.trans (g2.trans g3), p3⟩
      exact ⟨e, env2, oa2, F2, k2, _, R2, p2, back, r, fun env3 oa3 σ3 F3 H3 k3 p3 R3 g3 => n env3 oa3 σ3 F3 H3 k3 p3 R3 (g1.trans (g2.trans g3)), back⟩
theorem ds_while (hp : PassesOwn (model X.prog X.w) X.A X.env X.xe) (hc : PT X c (liftT (X.kx wx WW ZZ) t)) (hb : PSs X bs (liftS (X.kx wx WW ZZ) u)) : PS X (.While c bs [] pos) (liftS (X.kx wx WW ZZ) (dWhile t u)) := (ps_while hp hc hb).w lift_while
/-! ### for -/
def forL (g : DG) (u : DS) : List D → DEnd → Evn → Prop
  | [], B, env => B.nx env
  | d :: l, B, env => g d env fun env1 => u { B with nx := forL g u l B, ct := forL g u l B, bk := B.nx } env1
def dFor (fi : DA) (g : DG) (u : DS) : DS := fun B env => fi env fun ds env1 => forL g u ds B env1
theorem lift_for {K : Kx} {fi : DA} : ∀ E σ H, liftS K (dFor fi tg u) E σ H → tFor (liftI K fi) (liftG K L tg) (liftS K u) E σ H := fun E σ H ⟨e, env, oa, F, k, B, R, p, n, r, b, c⟩ =>
  ⟨e, env, oa, F, k, _, R, p, fun ds env1 oa1 F1 H1 k1 J p1 R1 g1 runs => by
    refine ⟨fun i m σ' H' => m = ds.length - i ∧ i ≤ ds.length ∧ ∃ env' oa' F' k', Rel K e env' oa' σ' F' H' k' ∧ Grow F1 F' k1 k' ∧ forL tg u (ds.drop i) B env', ⟨ds.length, by simp, Nat.zero_le _, env1, oa1, F1, k1, R1, Grow.refl _ _, p1⟩, ?_⟩
    rintro i m σ2 H2 ⟨rfl, hi, env2, oa2, F2, k2, R2, g2, p2⟩
    obtain ⟨hs, hg⟩ := runs e env2 oa2 σ2 F2 H2 k2 i R2.toRel0 g2
    by_cases hlt : i < ds.length
    · refine .inr ⟨(hg ds[i] (by simp [hlt])).1, fun σ' H' => ∃ env' oa' F' k', Rel K e env' oa' σ' F' H' k' ∧ Grow F1 F' k1 k' ∧ forL tg u (ds.drop (i + 1)) B env', fun σ' H' h => ⟨ds.length - (i + 1), by omega, rfl, hlt, h⟩, fun y H' hy => ?_⟩
      obtain ⟨F3, R30, g3, a3⟩ := (hg ds[i] (by simp [hlt])).2 y H' hy
      have R3 := R2.up R30 g3
      rw [List.drop_eq_getElem_cons hlt] at p2
      refine ⟨e, env2, oa2, F3, k2, ds[i], _, R3, a3, p2, fun env4 oa4 σ4 F4 H4 k4 p4 R4 g4 _ _ => ?_⟩
      have back : ∀ env5 oa5 σ5 F5 H5 k5, forL tg u (ds.drop (i + 1)) B env5 → Rel K e env5 oa5 σ5 F5 H5 k5 → Grow F4 F5 k4 k5 → ∃ env' oa' F' k', Rel K e env' oa' σ5 F' H5 k' ∧ Grow F1 F' k1 k' ∧ forL tg u (ds.drop (i + 1)) B env' :=
        fun env5 oa5 σ5 F5 H5 k5 p5 R5 g5 => ⟨env5, oa5, F5, k5, R5, g2.trans (g3.trans (g4.trans g5)), p5⟩
      exact ⟨e, env4, oa4, F4, k4, _, R4, p4, back, r, fun env5 oa5 σ5 F5 H5 k5 p5 R5 g5 => n env5 oa5 σ5 F5 H5 k5 p5 R5 (g1.trans (g2.trans (g3.trans (g4.trans g5)))), back⟩
    · have ei : i = ds.length := by omega
      subst ei
      rw [List.drop_length] at p2
      exact .inl ⟨hs (Nat.le_refl _), n env2 oa2 σ2 F2 H2 k2 p2 R2 (g1.trans g2)⟩⟩
theorem ds_for {iter te : Expr} {fi : DA} (hp : PassesOwn (model X.prog X.w) X.A X.env X.xe) (hc : X.calm = true) (hi : PI X te iter (liftI (X.kx wx WW ZZ) fi)) (hg : PG X te (liftG (X.kx wx WW ZZ) L tg)) (hb : PSs X bs (liftS (X.kx wx WW ZZ) u))
    (hs : ∀ x, foldedSetIterable iter X.env x = pure x := by intro _; rfl) : PS X (.For te iter bs [] pos) (liftS (X.kx wx WW ZZ) (dFor fi tg u)) := (ps_for hp hc hi hg hb hs).w lift_for
/-- a list or a tuple walked -/
def dItems (f : DE) : DA := fun env Q => f env fun d env1 => match d with
  | .tup l => Q l env1
  | .lst l => Q l env1
  | _ => False
theorem runs_list {K : PySem.W.Frag} {x : Addr} {vs : List V} {l : List D} {F : Hp} {k : Dk} (h : F x = some (.lst vs)) (hA : Ats K F k l vs) : Runs K (Itl K x) l F k := fun e env oa σ F' H k' i R g' => by
  have h' : H x = some (.lst vs) := R.wd.sub _ _ (g'.1 _ _ h)
  refine ⟨fun hl => ⟨vs, SqL.of h', by rw [← Ats.length hA]; exact hl⟩, fun d hd => ?_⟩
  obtain ⟨v, h1, h2⟩ := Ats.get hA i d hd
  refine ⟨⟨vs, v, SqL.of h', h1⟩, fun y H' ⟨e1, hy⟩ => ?_⟩
  have e2 := hy vs (SqL.of h')
  rw [h1] at e2
  cases e2
  subst e1
  exact ⟨F', R, Grow.refl _ _, At.grow g' d v h2⟩
theorem runs_tup {K : PySem.W.Frag} {x : Addr} {vs : List V} {l : List D} {F : Hp} {k : Dk} (h : SqT K F x vs) (hA : Ats K F k l vs) : Runs K (Itt K x) l F k := fun e env oa σ F' H k' i R g' => by
  have h' : SqT K H x vs := sqT_grow R.wd.sub (sqT_grow g'.1 h)
  refine ⟨fun hl => ⟨vs, h', by rw [← Ats.length hA]; exact hl⟩, fun d hd => ?_⟩
  obtain ⟨v, h1, h2⟩ := Ats.get hA i d hd
  refine ⟨⟨vs, v, h', h1⟩, fun y H' ⟨e1, hy⟩ => ?_⟩
  have e2 := hy vs h'
  rw [h1] at e2
  cases e2
  subst e1
  exact ⟨F', R, Grow.refl _ _, At.grow g' d v h2⟩
theorem di_items {te : Expr} (h : PE X a (lift (X.kx wx WW ZZ) f)) : PI X te a (liftI (X.kx wx WW ZZ) (dItems f)) := by
  refine ⟨fun pins s σ H Rr I ⟨e, env, oa, F, k, P, R, p, q⟩ => ?_⟩
  refine thn (h.run pins s σ H (fun v H1 => ∃ env1 oa1 F1 k1 d, dItems (fun _ Q => Q d env1) env1 P ∧ Rel (X.kx wx WW ZZ) e env1 oa1 σ F1 H1 k1 ∧ Grow F F1 k k1 ∧ At X.K F1 k1 d v) I ⟨e, env, oa, F, k, _, R, p, fun d env1 v oa1 F1 H1 k1 p1 R1 g1 a1 => ⟨env1, oa1, F1, k1, d, p1, R1, g1, a1⟩⟩) ?_
  rintro v s1 ⟨x, H1, I1, r1, env1, oa1, F1, k1, d, p1, R1, g1, a1⟩
  have new : s1.heap.objs.size ∉ ([] : List Addr) := by simp
  have fp : ∀ b ∈ [s1.heap.objs.size], FpOk X pins H1 b := fun b hb => by
    rw [List.mem_singleton] at hb
    subst hb
    exact I1.fpOk (Nat.le_refl _) (I1.hok.fresh (Nat.le_refl _))
  cases d with
  | lst l =>
    simp only [At] at a1
    obtain ⟨ad, vs, rfl, h1, h2⟩ := a1
    cases r1
    obtain ⟨its, rv, pl, hz⟩ := I1.list (SqL.of (R1.wd.sub _ _ h1))
    refine PySem.wpAny_pyIter_list pl.isList ?_
    exact ⟨s1.heap.objs.size, _, _, _, H1, rfl, I1.kept (t' := s1.toks) fun b o e => Heap.get?_push_of_some _ e, turn_list ad _, ⟨_, Heap.get?_push_size _ rfl, rfl, rfl⟩, fp, q l env1 oa1 F1 H1 k1 _ p1 R1 g1 (runs_list h1 h2)⟩
  | tup l =>
    simp only [At] at a1
    obtain ⟨ad, vs, rfl, h1, h2⟩ := a1
    cases r1
    obtain ⟨its, rv, pl, hz⟩ := I1.tuple (sqT_grow R1.wd.sub h1)
    refine PySem.wpAny_pyIter_tuple (show s1.heap.IsTuple ad its.toArray from pl) ?_
    exact ⟨s1.heap.objs.size, _, _, _, H1, rfl, I1.kept (t' := s1.toks) fun b o e => Heap.get?_push_of_some _ e, turn_tuple ad _, ⟨_, Heap.get?_push_size _ rfl, rfl, rfl⟩, fp, q l env1 oa1 F1 H1 k1 _ p1 R1 g1 (runs_tup h1 h2)⟩
  | _ => exact p1.elim
/-- a range walked -/
def rngD (lo : Int) (n : Nat) : List D := (List.range n).map fun (i : Nat) => .int (lo + i)
theorem runs_rng {K : PySem.W.Frag} {lo : Int} {n : Nat} {F : Hp} {k : Dk} : Runs K (Itr lo n) (rngD lo n) F k := fun e env oa σ F' H k' i R g' => by
  refine ⟨fun hl => ?_, fun d hd => ?_⟩
  · unfold rngD at hl
    have hl' : n ≤ i := by simpa using hl
    exact hl'
  · unfold rngD at hd
    rw [List.getElem?_map] at hd
    by_cases hi : i < n
    · rw [List.getElem?_range hi] at hd
      cases hd
      refine ⟨hi, fun y H' ⟨e1, e2⟩ => ?_⟩
      subst e1 e2
      exact ⟨F', R, Grow.refl _ _, by simp only [At]⟩
    · rw [List.getElem?_eq_none (by simpa using hi)] at hd; cases hd
def dRange1 (f : DE) : DA := fun env Q => f env fun d env1 => match d with
  | .int j => (-(2 ^ 62) ≤ j ∧ j < 2 ^ 62) ∧ Q (rngD 0 j.toNat) env1
  | _ => False
def dRange2 (f g : DE) : DA := fun env Q => f env fun d env1 => g env1 fun d' env2 => match d, d' with
  | .int i, .int j => (-(2 ^ 62) ≤ i ∧ i < 2 ^ 62 ∧ -(2 ^ 62) ≤ j ∧ j < 2 ^ 62) ∧ Q (rngD i (j - i).toNat) env2
  | _, _ => False
theorem di_range1 {te : Expr} {p : Pos} (hg : Gl X "range") (hm : X.mg "range" = none) (h : PE X a (lift (X.kx wx WW ZZ) f)) (hs : starEach [a] X.env = [(false, eval a X.env)] := by rfl) : PI X te (.Call (.Name "range" p) [a] [] pos) (liftI (X.kx wx WW ZZ) (dRange1 f)) :=
  (pi_range1 hg hm (pa_cons h pa_nil hs) hs).w fun σ H Rr ⟨e, env, oa, F, k, P, R, p, q⟩ => ⟨e, env, oa, F, k, _, R, p, fun d env1 v oa1 F1 H1 k1 p1 R1 g1 a1 => by
    cases d with
    | int j =>
      simp only [At] at a1
      subst a1
      exact ⟨j, rfl, p1.1.1, p1.1.2, q _ env1 oa1 F1 H1 k1 _ p1.2 R1 g1 runs_rng⟩
    | _ => exact p1.elim⟩
theorem di_range2 {te : Expr} {p : Pos} (hg : Gl X "range") (hm : X.mg "range" = none) (h : PE X a (lift (X.kx wx WW ZZ) f)) (h2 : PE X b (lift (X.kx wx WW ZZ) g)) (hs : starEach [a, b] X.env = [(false, eval a X.env), (false, eval b X.env)] := by rfl)
    (hs2 : starEach [b] X.env = [(false, eval b X.env)] := by rfl) : PI X te (.Call (.Name "range" p) [a, b] [] pos) (liftI (X.kx wx WW ZZ) (dRange2 f g)) :=
  (pi_range2 hg hm (pa_cons h (pa_cons h2 pa_nil hs2) (by rw [hs, hs2])) hs hs2).w fun σ H Rr ⟨e, env, oa, F, k, P, R, p, q⟩ => ⟨e, env, oa, F, k, _, R, p, fun d env1 v oa1 F1 H1 k1 p1 R1 g1 a1 => ⟨e, env1, oa1, F1, k1, _, R1, p1, fun d' env2 v' oa2 F2 H2 k2 p2 R2 g2 a2 => by
    cases d with
    | int i =>
      cases d' with
      | int j =>
        simp only [At] at a1 a2
        subst a1 a2
        exact ⟨i, j, rfl, p2.1, q _ env2 oa2 F2 H2 k2 _ p2.2 R2 (g1.trans g2) runs_rng⟩
      | _ => exact p2.elim
    | _ => exact p2.elim⟩⟩
end
end DL
namespace DL
open PySem PySem.Spec L2
/-! ### operators over data -/
def OpD (X : Cx) (f : Value → Value → Sem Value) (o : DO) : Prop := ∃ r, OpR X f r ∧ OpL X.K r o
theorem op_or {X : Cx} {f : Value → Value → Sem Value} {r r' : R2} (h : OpR X f r) (h' : OpR X f r') : OpR X f (fun x y H Q => r x y H Q ∨ r' x y H Q) := fun pins s σ H x y v u Q I rx ry q => by
  rcases q with q | q
  · exact h pins s σ H x y v u Q I rx ry q
  · exact h' pins s σ H x y v u Q I rx ry q
section
variable {wx : DX} {WW : WX} {ZZ : Fz} {X : Cx} {a b c : Expr} {pos : Pos} {f g h : DE}
theorem dl_bin {op : Operator} {o : DO} (O : OpD X (binaryOp op) o) (ha : PE X a (lift (X.kx wx WW ZZ) f)) (hb : PE X b (lift (X.kx wx WW ZZ) g)) : PE X (.BinOp a op b pos) (lift (X.kx wx WW ZZ) (dBin o f g)) := by
  obtain ⟨r, ho, L⟩ := O
  exact dl_op ho L ha hb
theorem dl_cm {op : CmpOp} {o : DO} (O : OpD X (compareOp op) o) (ha : PE X a (lift (X.kx wx WW ZZ) f)) (hb : PE X b (lift (X.kx wx WW ZZ) g)) (hm : behindInMarks op b = false) : PE X (.Compare a [op] [b] pos) (lift (X.kx wx WW ZZ) (dBin o f g)) := by
  obtain ⟨r, ho, L⟩ := O
  exact dl_cmp ho L ha hb hm
theorem dt_cm {op : CmpOp} {o : DO} (O : OpD X (compareOp op) o) (ha : PE X a (lift (X.kx wx WW ZZ) f)) (hb : PE X b (lift (X.kx wx WW ZZ) g)) (hm : behindInMarks op b = false) : PT X (.Compare a [op] [b] pos) (liftT (X.kx wx WW ZZ) (dTest (dBin o f g))) := by
  obtain ⟨r, ho, L⟩ := O
  exact dt_cmp ho L ha hb hm
end
/-- ints in -/
def oI (C : Int → Int → Prop) (g : Int → Int → D) : DO := fun x y G => match x, y with
  | .int i, .int j => C i j ∧ G (g i j)
  | _, _ => False
def oI0 (g : Int → Int → D) : DO := fun x y G => match x, y with
  | .int i, .int j => G (g i j)
  | _, _ => False
theorem link_I {K : PySem.W.Frag} {C : Int → Int → Prop} {g : Int → Int → D} {gv : Int → Int → V} (h : ∀ i j F k, At K F k (g i j) (gv i j)) : OpL K (rI C gv) (oI C g) := fun e env oa σ F H k x y dx dy Q G R a1 a2 p q => by
  cases dx with
  | int i =>
    cases dy with
    | int j =>
      simp only [At] at a1 a2
      exact ⟨i, j, a1, a2, p.1, q _ _ oa F H k p.2 R (Grow.refl _ _) (h i j F k)⟩
    | _ => exact p.elim
  | _ => exact p.elim
theorem link_I0 {K : PySem.W.Frag} {g : Int → Int → D} {gv : Int → Int → V} (h : ∀ i j F k, At K F k (g i j) (gv i j)) : OpL K (rI0 gv) (oI0 g) := fun e env oa σ F H k x y dx dy Q G R a1 a2 p q => by
  cases dx with
  | int i =>
    cases dy with
    | int j =>
      simp only [At] at a1 a2
      exact ⟨i, j, a1, a2, q _ _ oa F H k p R (Grow.refl _ _) (h i j F k)⟩
    | _ => exact p.elim
  | _ => exact p.elim
def oAdd : DO := fun x y G => match x, y with
  | .int i, .int j => G (.int (i + j))
  | .tup l, .tup m => l.length + m.length ≤ 10000000 ∧ G (.tup (l ++ m))
  | .lst l, .lst m => l.length + m.length ≤ 10000000 ∧ G (.lst (l ++ m))
  | .str s, .str t => s.length + t.length ≤ 10000000 ∧ G (.str (s ++ t))
  | _, _ => False
theorem opd_add {X : Cx} : OpD X (binaryOp .Add) oAdd := by
  refine ⟨_, op_or op_add (op_or op_catA (op_or op_cat op_add_str)), fun e env oa σ F H k x y dx dy Q G R a1 a2 p q => ?_⟩
  unfold oAdd at p
  split at p
  · simp only [At] at a1 a2
    subst a1 a2
    exact .inl ⟨_, _, rfl, rfl, q _ _ oa F H k p R (Grow.refl _ _) (by simp only [At])⟩
  · rename_i l m
    simp only [At] at a1 a2
    obtain ⟨ad1, v1, rfl, h1, r1⟩ := a1
    obtain ⟨ad2, v2, rfl, h2, r2⟩ := a2
    refine .inr (.inl ⟨ad1, ad2, v1, v2, rfl, rfl, sqT_grow R.wd.sub h1, sqT_grow R.wd.sub h2, by rw [← Ats.length r1, ← Ats.length r2]; exact size10 p.1, fun z => ?_, fun _ z => ?_, fun _ _ t ht => ?_⟩)
    · subst z
      have : l = [] := List.eq_nil_of_length_eq_zero (by rw [Ats.length r1]; rfl)
      subst this
      exact q _ _ oa F H k p.2 R (Grow.refl _ _) (by rw [List.nil_append]; simp only [At]; exact ⟨ad2, v2, rfl, h2, r2⟩)
    · subst z
      have : m = [] := List.eq_nil_of_length_eq_zero (by rw [Ats.length r2]; rfl)
      subst this
      exact q _ _ oa F H k p.2 R (Grow.refl _ _) (by rw [List.append_nil]; simp only [At]; exact ⟨ad1, v1, rfl, h1, r1⟩)
    · obtain ⟨R2, g2⟩ := R.laid ht (.tup (v1 ++ v2))
      exact q _ _ oa _ _ k p.2 R2 g2 (by simp only [At]; exact ⟨t, _, rfl, SqT.of upd_same, Ats.append (Ats.grow g2 _ _ r1) (Ats.grow g2 _ _ r2)⟩)
  · rename_i l m
    simp only [At] at a1 a2
    obtain ⟨ad1, v1, rfl, h1, r1⟩ := a1
    obtain ⟨ad2, v2, rfl, h2, r2⟩ := a2
    refine .inr (.inr (.inl ⟨ad1, ad2, v1, v2, rfl, rfl, R.wd.sub _ _ h1, R.wd.sub _ _ h2, by rw [← Ats.length r1, ← Ats.length r2]; exact size10 p.1, fun t ht => ?_⟩))
    obtain ⟨R2, g2⟩ := R.laid ht (.lst (v1 ++ v2))
    exact q _ _ oa _ _ k p.2 R2 g2 (by simp only [At]; exact ⟨t, _, rfl, upd_same, Ats.append (Ats.grow g2 _ _ r1) (Ats.grow g2 _ _ r2)⟩)
  · simp only [At] at a1 a2
    subst a1 a2
    exact .inr (.inr (.inr ⟨_, _, rfl, rfl, size10 p.1, q _ _ oa F H k p.2 R (Grow.refl _ _) (by simp only [At])⟩))
  · exact p.elim
def oSub : DO := oI0 fun i j => .int (i - j)
theorem opd_sub {X : Cx} : OpD X (binaryOp .Sub) oSub := ⟨_, op_sub, link_I0 fun _ _ _ _ => by simp only [At]⟩
def oMod : DO := oI (fun _ j => 0 < j) fun i j => .int (i % j)
theorem opd_mod {X : Cx} : OpD X (binaryOp .Mod) oMod := ⟨_, op_mod, link_I fun _ _ _ _ => by simp only [At]⟩
def oPow : DO := oI CPow fun i j => .int (i ^ j.toNat)
theorem opd_pow {X : Cx} : OpD X (binaryOp .Pow) oPow := ⟨_, op_pow, link_I fun _ _ _ _ => by simp only [At]⟩
/-- a product, a list or tuple repeated -/
def oMul : DO := fun x y G => match x, y with
  | .int i, .int j => CMulW i j ∧ G (.int (i * j))
  | .lst l, .int k => (-(2 ^ 63) ≤ k ∧ k < 2 ^ 63 ∧ l.length * k.toNat ≤ 10000000) ∧ G (.lst (List.replicate k.toNat l).flatten)
  | _, _ => False
theorem Ats.rep {K : PySem.W.Frag} {F : Hp} {k : Dk} {ds : List D} {vs : List V} (h : Ats K F k ds vs) : ∀ n, Ats K F k (List.replicate n ds).flatten (List.replicate n vs).flatten
  | 0 => by simp only [List.replicate_zero, List.flatten_nil]; exact .nil
  | n + 1 => by
    rw [List.replicate_succ, List.flatten_cons, List.replicate_succ, List.flatten_cons]
    exact .append h (Ats.rep h n)
theorem opd_mul {X : Cx} : OpD X (binaryOp .Mult) oMul := by
  refine ⟨_, op_or op_mulW op_rep, fun e env oa σ F H k x y dx dy Q G R a1 a2 p q => ?_⟩
  unfold oMul at p
  split at p
  · simp only [At] at a1 a2
    subst a1 a2
    exact .inl ⟨_, _, rfl, rfl, p.1, q _ _ oa F H k p.2 R (Grow.refl _ _) (by simp only [At])⟩
  · simp only [At] at a1 a2
    obtain ⟨ad1, v1, rfl, h1, r1⟩ := a1
    subst a2
    refine .inr ⟨ad1, _, v1, rfl, rfl, R.wd.sub _ _ h1, p.1.1, p.1.2.1, by rw [← Ats.length r1]; exact size10 p.1.2.2, fun t ht => ?_⟩
    obtain ⟨R2, g2⟩ := R.laid ht (.lst (List.replicate _ v1).flatten)
    exact q _ _ oa _ _ k p.2 R2 g2 (by simp only [At]; exact ⟨t, _, rfl, upd_same, (Ats.grow g2 _ _ r1).rep _⟩)
  · exact p.elim
def oDiv : DO := fun x y G => match x, y with
  | .int i, .int j => if 0 < j then j.natAbs.log2 < 9000 ∧ G (.int (i / j)) else (j < 0 ∧ j.natAbs < 1073741824) ∧ G (.int (i.fdiv j))
  | _, _ => False
theorem opd_div {X : Cx} : OpD X (binaryOp .FloorDiv) oDiv := by
  refine ⟨_, op_or op_fdivW op_fdivN, fun e env oa σ F H k x y dx dy Q G R a1 a2 p q => ?_⟩
  unfold oDiv at p
  split at p
  · simp only [At] at a1 a2
    subst a1 a2
    split at p
    · rename_i hj
      exact .inl ⟨_, _, rfl, rfl, ⟨hj, p.1⟩, q _ _ oa F H k p.2 R (Grow.refl _ _) (by simp only [At])⟩
    · exact .inr ⟨_, _, rfl, rfl, ⟨by omega, p.1.2⟩, q _ _ oa F H k p.2 R (Grow.refl _ _) (by simp only [At])⟩
  · exact p.elim
def oLt : DO := oI0 fun i j => .bl (decide (i < j))
def oLe : DO := oI0 fun i j => .bl (decide (i ≤ j))
def oGt : DO := oI0 fun i j => .bl (decide (j < i))
def oGe : DO := oI0 fun i j => .bl (decide (j ≤ i))
theorem opd_lt {X : Cx} : OpD X (compareOp .Lt) oLt := ⟨_, op_lt, link_I0 fun _ _ _ _ => by simp only [At]⟩
theorem opd_le {X : Cx} : OpD X (compareOp .LtE) oLe := ⟨_, op_le, link_I0 fun _ _ _ _ => by simp only [At]⟩
theorem opd_gt {X : Cx} : OpD X (compareOp .Gt) oGt := ⟨_, op_gt, link_I0 fun _ _ _ _ => by simp only [At]⟩
theorem opd_ge {X : Cx} : OpD X (compareOp .GtE) oGe := ⟨_, op_ge, link_I0 fun _ _ _ _ => by simp only [At]⟩
/-! ### data as the library's own -/
mutual
def py : D → PyData
  | .non => .none
  | .bl b => .bool b
  | .int i => .int i
  | .str s => .str s
  | .tup l => .tuple (pys l)
  | .lst l => .list (pys l)
  | .dic l => .dict (pyk l)
  | .raw _ => .none
  | .deck _ => .none
  | .scr _ => .none
def pys : List D → List PyData
  | [] => []
  | d :: l => py d :: pys l
def pyk : List (Key × D) → List (PyData × PyData)
  | [] => []
  | (.inl i, d) :: l => (.int i, py d) :: pyk l
  | (.inr s, d) :: l => (.str s, py d) :: pyk l
end
mutual
/-- plain data without a dict: compared -/
def flatD : D → Bool
  | .non => true
  | .bl _ => true
  | .int _ => true
  | .str s => (PyData.str s).canLay0
  | .tup l => flatDs l
  | .lst l => flatDs l
  | .dic _ => false
  | .raw _ => false
  | .deck _ => false
  | .scr _ => false
def flatDs : List D → Bool
  | [] => true
  | d :: l => flatD d && flatDs l
end
mutual
theorem dp_of {K : PySem.W.Frag} {e : Ent} {F H : Hp} {k : Dk} {T : List (Addr × Str)} (W : Wd T e F H k) : ∀ (d : D) (v : V), flatD d = true → At K F k d v → Dp K H v (py d)
  | .non, v, _, h => by simp only [At] at h; subst h; simp only [py]; exact .non
  | .bl b, v, _, h => by simp only [At] at h; subst h; simp only [py]; exact .bl b
  | .int i, v, _, h => by simp only [At] at h; subst h; simp only [py]; exact .int i
  | .str s, v, _, h => by simp only [At] at h; subst h; simp only [py]; exact .str s
  | .tup l, v, z, h => by
    simp only [At] at h
    obtain ⟨a, vs, rfl, h1, h2⟩ := h
    simp only [flatD] at z
    simp only [py]
    exact .tup (sqT_grow W.sub h1) (dps_of W l vs z h2)
  | .lst l, v, z, h => by
    simp only [At] at h
    obtain ⟨a, vs, rfl, h1, h2⟩ := h
    simp only [flatD] at z
    simp only [py]
    exact .lst (SqL.of (W.sub _ _ h1)) (dps_of W l vs z h2)
  | .dic _, v, z, h => by simp [flatD] at z
  | .raw _, v, z, h => by simp [flatD] at z
  | .deck _, v, z, h => by simp [flatD] at z
  | .scr _, v, z, h => by simp [flatD] at z
theorem dps_of {K : PySem.W.Frag} {e : Ent} {F H : Hp} {k : Dk} {T : List (Addr × Str)} (W : Wd T e F H k) : ∀ (l : List D) (vs : List V), flatDs l = true → Ats K F k l vs → DpAll K H vs (pys l)
  | [], vs, _, h => by simp only [Ats] at h; subst h; simp only [pys]; exact .nil
  | d :: l, vs, z, h => by
    simp only [Ats] at h
    obtain ⟨v, r, rfl, h1, h2⟩ := h
    simp only [flatDs, Bool.and_eq_true] at z
    simp only [pys]
    exact .cons (dp_of W d v z.1 h1) (dps_of W l r z.2 h2)
end
mutual
theorem canLay_py : ∀ d : D, flatD d = true → (py d).canLay0 = true
  | .non, _ => by simp only [py, PyData.canLay0]
  | .bl _, _ => by simp only [py, PyData.canLay0]
  | .int _, _ => by simp only [py, PyData.canLay0]
  | .str s, z => by simp only [flatD] at z; simp only [py]; exact z
  | .tup l, z => by simp only [flatD] at z; simp only [py, PyData.canLay0]; exact canLays_py l z
  | .lst l, z => by simp only [flatD] at z; simp only [py, PyData.canLay0]; exact canLays_py l z
  | .dic _, z => by simp [flatD] at z
  | .raw _, z => by simp [flatD] at z
  | .deck _, z => by simp [flatD] at z
  | .scr _, z => by simp [flatD] at z
theorem canLays_py : ∀ l : List D, flatDs l = true → PyData.canLayAll0 (pys l) = true
  | [], _ => by simp only [pys, PyData.canLayAll0]
  | d :: l, z => by
    simp only [flatDs, Bool.and_eq_true] at z
    simp only [pys, PyData.canLayAll0, canLay_py d z.1, canLays_py l z.2, Bool.and_true]
end
/-- what may be compared: plain, not too deep -/
def eqOk (d : D) : Prop := flatD d = true ∧ (py d).depth ≤ 64
theorem eqOk.sh {d : D} (h : eqOk d) : SeqAt.shaped (py d) = true := by
  show ((py d).canLay0 && decide ((py d).depth ≤ 64)) = true
  rw [canLay_py d h.1, decide_eq_true h.2] <;> rfl
def eqv (x y : D) : Bool := PyData.eqv (py x) (py y)
def oEq : DO := fun x y G => match x, y with
  | .str a, .str b => G (.bl (decide (a = b)))
  | .lst l, .lst m => (m = [] ∨ (eqOk (.lst l) ∧ eqOk (.lst m))) ∧ G (.bl (eqv (.lst l) (.lst m)))
  | .tup l, .tup m => (m = [] ∨ (eqOk (.tup l) ∧ eqOk (.tup m))) ∧ G (.bl (eqv (.tup l) (.tup m)))
  | _, _ => eqOk x ∧ eqOk y ∧ G (.bl (eqv x y))
def oNe : DO := fun x y G => match x, y with
  | .str a, .str b => G (.bl (!decide (a = b)))
  | .lst l, .lst m => (m = [] ∨ (eqOk (.lst l) ∧ eqOk (.lst m))) ∧ G (.bl (!eqv (.lst l) (.lst m)))
  | .tup l, .tup m => (m = [] ∨ (eqOk (.tup l) ∧ eqOk (.tup m))) ∧ G (.bl (!eqv (.tup l) (.tup m)))
  | _, _ => eqOk x ∧ eqOk y ∧ G (.bl (!eqv x y))
theorem eqv_ln (l : List D) : eqv (.lst l) (.lst []) = l.isEmpty := by cases l <;> simp [eqv, py, pys, PyData.eqv, PyData.eqvAll]
theorem eqv_tn (l : List D) : eqv (.tup l) (.tup []) = l.isEmpty := by cases l <;> simp [eqv, py, pys, PyData.eqv, PyData.eqvAll]
theorem eq_cases {x y : D} {G : D → Prop} (h : oEq x y G) : (∃ a b, x = .str a ∧ y = .str b ∧ G (.bl (decide (a = b)))) ∨ (eqOk x ∧ eqOk y ∧ G (.bl (eqv x y))) ∨ (∃ l, x = .lst l ∧ y = .lst [] ∧ G (.bl l.isEmpty)) ∨ ∃ l, x = .tup l ∧ y = .tup [] ∧ G (.bl l.isEmpty) := by
  unfold oEq at h
  split at h
  · exact .inl ⟨_, _, rfl, rfl, h⟩
  · obtain ⟨rfl | ⟨h1, h2⟩, h3⟩ := h
    · exact .inr (.inr (.inl ⟨_, rfl, rfl, by rw [eqv_ln] at h3; exact h3⟩))
    · exact .inr (.inl ⟨h1, h2, h3⟩)
  · obtain ⟨rfl | ⟨h1, h2⟩, h3⟩ := h
    · exact .inr (.inr (.inr ⟨_, rfl, rfl, by rw [eqv_tn] at h3; exact h3⟩))
    · exact .inr (.inl ⟨h1, h2, h3⟩)
  · exact .inr (.inl h)
theorem ne_cases {x y : D} {G : D → Prop} (h : oNe x y G) : (∃ a b, x = .str a ∧ y = .str b ∧ G (.bl (!decide (a = b)))) ∨ (eqOk x ∧ eqOk y ∧ G (.bl (!eqv x y))) ∨ (∃ l, x = .lst l ∧ y = .lst [] ∧ G (.bl (!l.isEmpty))) ∨ ∃ l, x = .tup l ∧ y = .tup [] ∧ G (.bl (!l.isEmpty)) := by
  unfold oNe at h
  split at h
  · exact .inl ⟨_, _, rfl, rfl, h⟩
  · obtain ⟨rfl | ⟨h1, h2⟩, h3⟩ := h
    · exact .inr (.inr (.inl ⟨_, rfl, rfl, by rw [eqv_ln] at h3; exact h3⟩))
    · exact .inr (.inl ⟨h1, h2, h3⟩)
  · obtain ⟨rfl | ⟨h1, h2⟩, h3⟩ := h
    · exact .inr (.inr (.inr ⟨_, rfl, rfl, by rw [eqv_tn] at h3; exact h3⟩))
    · exact .inr (.inl ⟨h1, h2, h3⟩)
  · exact .inr (.inl h)
/-- compared with an empty list, with an empty tuple: no item is looked at -/
def rEmL (K : PySem.W.Frag) (f : Bool → Bool) : R2 := fun x y H Q => ∃ a b xs, x = .ref a ∧ y = .ref b ∧ SqL K H a xs ∧ SqL K H b [] ∧ Q (.bl (f xs.isEmpty)) H
def rEmT (K : PySem.W.Frag) (f : Bool → Bool) : R2 := fun x y H Q => ∃ a b xs, x = .ref a ∧ y = .ref b ∧ SqT K H a xs ∧ SqT K H b [] ∧ Q (.bl (f xs.isEmpty)) H
section
variable {X : Cx}
theorem op_emL (hu : X.A.units < cLine) : OpR X (compareOp .Eq) (rEmL X.K id) := fun pins s σ H x y v u Q I rx ry ⟨a, b, xs, e1, e2, h1, h2, q⟩ => by
  subst e1
  subst e2
  cases (show v = Value.ref a from rx)
  cases (show u = Value.ref b from ry)
  obtain ⟨us, r1, p1, _⟩ := I.list h1
  obtain ⟨ws, r2, p2, _⟩ := I.list h2
  cases r2
  cases r1 with
  | nil => exact SeqAt.eq_listAt (e := fun _ => true) p1.isList p2.isList rfl hu (fun j k _ => absurd k (Nat.not_lt_zero j)) ⟨.bl true, H, I, rfl, q⟩
  | cons _ _ => exact SeqAt.eq_list_lengthsAt p1.isList p2.isList (by simp) hu ⟨.bl false, H, I, rfl, q⟩
theorem op_enL (hu : X.A.units < cLine) : OpR X (compareOp .NotEq) (rEmL X.K not) := fun pins s σ H x y v u Q I rx ry ⟨a, b, xs, e1, e2, h1, h2, q⟩ => by
  subst e1
  subst e2
  cases (show v = Value.ref a from rx)
  cases (show u = Value.ref b from ry)
  obtain ⟨us, r1, p1, _⟩ := I.list h1
  obtain ⟨ws, r2, p2, _⟩ := I.list h2
  cases r2
  cases r1 with
  | nil => exact SeqAt.RcNeAt.lists (e := fun _ => true) p1.isList p2.isList rfl hu (fun j k _ => absurd k (Nat.not_lt_zero j)) _ _ _ _ ⟨.bl false, H, I, rfl, q⟩
  | cons _ _ => exact SeqAt.RcNeAt.lists_lengths p1.isList p2.isList (by simp) hu _ _ _ _ ⟨.bl true, H, I, rfl, q⟩
theorem op_emT (hu : X.A.units < cLine) : OpR X (compareOp .Eq) (rEmT X.K id) := fun pins s σ H x y v u Q I rx ry ⟨a, b, xs, e1, e2, h1, h2, q⟩ => by
  subst e1
  subst e2
  cases (show v = Value.ref a from rx)
  cases (show u = Value.ref b from ry)
  obtain ⟨us, r1, p1, _⟩ := I.tuple h1
  obtain ⟨ws, r2, p2, _⟩ := I.tuple h2
  cases r2
  cases r1 with
  | nil => exact SeqAt.eq_tupleAt (e := fun _ => true) p1 p2 hu (fun j k _ => absurd k (Nat.not_lt_zero j)) ⟨.bl true, H, I, rfl, q⟩
  | cons _ _ => exact SeqAt.eq_tupleAt (e := fun _ => true) p1 p2 hu (fun j _ k => absurd k (Nat.not_lt_zero j)) ⟨.bl false, H, I, by simp; rfl, q⟩
theorem op_enT (hu : X.A.units < cLine) : OpR X (compareOp .NotEq) (rEmT X.K not) := fun pins s σ H x y v u Q I rx ry ⟨a, b, xs, e1, e2, h1, h2, q⟩ => by
  subst e1
  subst e2
  cases (show v = Value.ref a from rx)
  cases (show u = Value.ref b from ry)
  obtain ⟨us, r1, p1, _⟩ := I.tuple h1
  obtain ⟨ws, r2, p2, _⟩ := I.tuple h2
  cases r2
  cases r1 with
  | nil => exact SeqAt.RcNeAt.tuples (e := fun _ => true) p1 p2 hu (fun j k _ => absurd k (Nat.not_lt_zero j)) _ _ _ _ ⟨.bl false, H, I, rfl, q⟩
  | cons _ _ => exact SeqAt.RcNeAt.tuples (e := fun _ => true) p1 p2 hu (fun j _ k => absurd k (Nat.not_lt_zero j)) _ _ _ _ ⟨.bl true, H, I, by simp; rfl, q⟩
end
theorem emp_at {K : PySem.W.Frag} {F : Hp} {k : Dk} {l : List D} {vs : List V} (h : Ats K F k l vs) : vs.isEmpty = l.isEmpty := by
  have e := Ats.length h
  cases l <;> cases vs <;> simp at e ⊢
theorem opd_eq {X : Cx} (hu : X.A.units + 64 < cLine) : OpD X (compareOp .Eq) oEq := ⟨_, op_or (op_or op_eq (op_eqD hu)) (op_or (op_emL (by omega)) (op_emT (by omega))), fun e env oa σ F H k x y dx dy Q G R a1 a2 p q => by
  rcases eq_cases p with ⟨a, b, rfl, rfl, p⟩ | p | ⟨l, rfl, rfl, pp⟩ | ⟨l, rfl, rfl, pp⟩
  · simp only [At] at a1 a2
    subst a1
    subst a2
    exact .inl (.inl ⟨rfl, q _ _ oa F H k p R (Grow.refl _ _) (by simp only [At]; congr 1; simp)⟩)
  · exact .inl (.inr ⟨_, _, dp_of R.wd dx x p.1.1 a1, dp_of R.wd dy y p.2.1.1 a2, p.1.sh, p.2.1.sh, q _ _ oa F H k p.2.2 R (Grow.refl _ _) (by simp only [At]; rfl)⟩)
  · simp only [At] at a1 a2
    obtain ⟨c1, v1, rfl, h1, r1⟩ := a1
    obtain ⟨c2, v2, rfl, h2, r2⟩ := a2
    simp only [Ats] at r2
    subst r2
    exact .inr (.inl ⟨c1, c2, v1, rfl, rfl, SqL.of (R.wd.sub _ _ h1), SqL.of (R.wd.sub _ _ h2), q _ _ oa F H k pp R (Grow.refl _ _) (by simp only [At, id, emp_at r1])⟩)
  · simp only [At] at a1 a2
    obtain ⟨c1, v1, rfl, h1, r1⟩ := a1
    obtain ⟨c2, v2, rfl, h2, r2⟩ := a2
    simp only [Ats] at r2
    subst r2
    exact .inr (.inr ⟨c1, c2, v1, rfl, rfl, sqT_grow R.wd.sub h1, sqT_grow R.wd.sub h2, q _ _ oa F H k pp R (Grow.refl _ _) (by simp only [At, id, emp_at r1])⟩)⟩
theorem opd_ne {X : Cx} (hu : X.A.units + 64 < cLine) : OpD X (compareOp .NotEq) oNe := ⟨_, op_or (op_or op_ne (op_neD hu)) (op_or (op_enL (by omega)) (op_enT (by omega))), fun e env oa σ F H k x y dx dy Q G R a1 a2 p q => by
  rcases ne_cases p with ⟨a, b, rfl, rfl, p⟩ | p | ⟨l, rfl, rfl, pp⟩ | ⟨l, rfl, rfl, pp⟩
  · simp only [At] at a1 a2
    subst a1
    subst a2
    exact .inl (.inl ⟨rfl, q _ _ oa F H k p R (Grow.refl _ _) (by simp only [At]; congr 1; simp)⟩)
  · exact .inl (.inr ⟨_, _, dp_of R.wd dx x p.1.1 a1, dp_of R.wd dy y p.2.1.1 a2, p.1.sh, p.2.1.sh, q _ _ oa F H k p.2.2 R (Grow.refl _ _) (by simp only [At]; rfl)⟩)
  · simp only [At] at a1 a2
    obtain ⟨c1, v1, rfl, h1, r1⟩ := a1
    obtain ⟨c2, v2, rfl, h2, r2⟩ := a2
    simp only [Ats] at r2
    subst r2
    exact .inr (.inl ⟨c1, c2, v1, rfl, rfl, SqL.of (R.wd.sub _ _ h1), SqL.of (R.wd.sub _ _ h2), q _ _ oa F H k pp R (Grow.refl _ _) (by simp only [At, emp_at r1])⟩)
  · simp only [At] at a1 a2
    obtain ⟨c1, v1, rfl, h1, r1⟩ := a1
    obtain ⟨c2, v2, rfl, h2, r2⟩ := a2
    simp only [Ats] at r2
    subst r2
    exact .inr (.inr ⟨c1, c2, v1, rfl, rfl, sqT_grow R.wd.sub h1, sqT_grow R.wd.sub h2, q _ _ oa F H k pp R (Grow.refl _ _) (by simp only [At, emp_at r1])⟩)⟩
/-- is None, is not None -/
def isNon : D → Bool
  | .non => true
  | _ => false
def oIsN : DO := fun x y G => match x, y with
  | .raw _, _ => False
  | _, .non => G (.bl (isNon x))
  | _, _ => False
def oNotN : DO := fun x y G => match x, y with
  | .raw _, _ => False
  | _, .non => G (.bl (!isNon x))
  | _, _ => False
theorem isNon_at {K : PySem.W.Frag} {F : Hp} {k : Dk} {d : D} {v : V} (h : At K F k d v) (hr : ∀ u, d ≠ .raw u) : decide (v = V.non) = isNon d := by
  cases d with
  | raw u => exact absurd rfl (hr u)
  | non => simp only [At] at h; subst h; rfl
  | bl _ => simp only [At] at h; subst h; rfl
  | int _ => simp only [At] at h; subst h; rfl
  | str _ => simp only [At] at h; subst h; rfl
  | tup _ => simp only [At] at h; obtain ⟨_, _, rfl, _⟩ := h; rfl
  | lst _ => simp only [At] at h; obtain ⟨_, _, rfl, _⟩ := h; rfl
  | dic _ => simp only [At] at h; obtain ⟨_, _, rfl, _⟩ := h; rfl
  | deck _ => simp only [At] at h; obtain ⟨_, _, _, rfl⟩ := h; rfl
  | scr _ => simp only [At] at h; obtain ⟨_, rfl, _⟩ := h; rfl
theorem opd_isN {X : Cx} : OpD X (compareOp .Is) oIsN := ⟨_, op_isN, fun e env oa σ F H k x y dx dy Q G R a1 a2 p q => by
  unfold oIsN at p
  split at p
  · exact p.elim
  · rename_i hr
    simp only [At] at a2
    exact ⟨a2, q _ _ oa F H k p R (Grow.refl _ _) (by simp only [At]; rw [isNon_at a1 hr])⟩
  · exact p.elim⟩
theorem opd_notN {X : Cx} : OpD X (compareOp .IsNot) oNotN := ⟨_, op_notN, fun e env oa σ F H k x y dx dy Q G R a1 a2 p q => by
  unfold oNotN at p
  split at p
  · exact p.elim
  · rename_i hr
    simp only [At] at a2
    exact ⟨a2, q _ _ oa F H k p R (Grow.refl _ _) (by simp only [At]; rw [isNon_at a1 hr])⟩
  · exact p.elim⟩
/-- is True, is False and their nots, of bools -/
def oIsB : DO := fun x y G => match x, y with
  | .bl i, .bl j => G (.bl (decide (i = j)))
  | _, _ => False
def oNotB : DO := fun x y G => match x, y with
  | .bl i, .bl j => G (.bl (!decide (i = j)))
  | _, _ => False
theorem opd_isB {X : Cx} : OpD X (compareOp .Is) oIsB := ⟨_, op_is_bl, fun e env oa σ F H k x y dx dy Q G R a1 a2 p q => by
  unfold oIsB at p
  split at p
  · simp only [At] at a1 a2
    exact ⟨_, _, a1, a2, q _ _ oa F H k p R (Grow.refl _ _) (by simp only [At])⟩
  · exact p.elim⟩
theorem opd_notB {X : Cx} : OpD X (compareOp .IsNot) oNotB := ⟨_, op_isnot_bl, fun e env oa σ F H k x y dx dy Q G R a1 a2 p q => by
  unfold oNotB at p
  split at p
  · simp only [At] at a1 a2
    exact ⟨_, _, a1, a2, q _ _ oa F H k p R (Grow.refl _ _) (by simp only [At])⟩
  · exact p.elim⟩
/-! ### minus -/
def dNeg (f : DE) : DE := fun env Q => f env fun d env1 => match d with
  | .int i => Q (.int (-i)) env1
  | _ => False
theorem dl_neg {wx : DX} {WW : WX} {ZZ : Fz} {X : Cx} {a : Expr} {pos : Pos} {f : DE} (h : PE X a (lift (X.kx wx WW ZZ) f)) : PE X (.UnaryOp .USub a pos) (lift (X.kx wx WW ZZ) (dNeg f)) :=
  (pe_un un_neg h).w fun σ H Q ⟨e, env, oa, F, k, P, R, p, q⟩ => ⟨e, env, oa, F, k, _, R, p, fun d env1 v oa1 F1 H1 k1 p1 R1 g1 a1 => by
    cases d with
    | int i => simp only [At] at a1; exact ⟨i, a1, q _ env1 _ oa1 F1 H1 k1 p1 R1 g1 (by simp only [At])⟩
    | _ => exact p1.elim⟩
end DL
namespace DL
open PySem PySem.Spec L2
/-! ### calls of built-ins over data -/
abbrev DC := List D → (D → Prop) → Prop
def CallL (K : PySem.W.Frag) (r : List V → Hp → VK → Prop) (o : DC) : Prop := ∀ (e : Ent) (env : Evn) (oa : Nat → Addr) (σ : St) (F H : Hp) (k : Dk) (vs : List V) (ds : List D) (Q : VK) (G : D → Prop), Rel0 K e env oa σ F H k → Ats K F k ds vs → o ds G →
  (∀ d v oa' F' H' k', G d → Rel0 K e env oa' σ F' H' k' → Grow F F' k k' → At K F' k' d v → Q v H') → r vs H Q
def CallD (X : Cx) (f : Value) (o : DC) : Prop := ∃ r, CallR X f r ∧ CallL X.K r o
def dBlt (o : DC) (fa : DA) : DE := fun env Q => fa env fun ds env1 => o ds fun d => Q d env1
theorem call_or {X : Cx} {f : Value} {r r' : List V → Hp → VK → Prop} (h : CallR X f r) (h' : CallR X f r') : CallR X f (fun xs H Q => r xs H Q ∨ r' xs H Q) := fun pins s σ H xs us Q I rx q => by
  rcases q with q | q
  · exact h pins s σ H xs us Q I rx q
  · exact h' pins s σ H xs us Q I rx q
theorem lift_blt {K : Kx} {r : List V → Hp → VK → Prop} {o : DC} {fa : DA} (L : CallL K.f r o) : ∀ σ H Q, lift K (dBlt o fa) σ H Q → tCB r (liftA K fa) σ H Q := fun σ H Q ⟨e, env, oa, F, k, P, R, p, q⟩ =>
  ⟨e, env, oa, F, k, _, R, p, fun ds env1 vs oa1 F1 H1 k1 p1 R1 g1 a1 => L e env1 oa1 σ F1 H1 k1 vs ds Q _ R1.toRel0 a1 p1 fun d v oa2 F2 H2 k2 p2 R2 g2 a2 => q d env1 v oa2 F2 H2 k2 p2 (R1.up R2 g2) (g1.trans g2) a2⟩
section
variable {wx : DX} {WW : WX} {ZZ : Fz} {X : Cx} {e : Expr} {es : List Expr} {x : Str} {p pos : Pos} {fa : DA} {o : DC}
theorem dl_callB {id : String} (C : CallD X (.builtin id) o) (hg : Gl X x) (hm : X.mg x = none) (hv : bootBuiltins x = some (.builtin id)) (ha : PA X (e :: es) (liftA (X.kx wx WW ZZ) fa)) (hn : x ≠ "__name__" := by decide) (hdb : (x == ("__debug__" : Str)) = false := by decide)
    (he : starEach (e :: es) X.env = (false, eval e X.env) :: starEach es X.env := by rfl) (hpl : (backTo pos (starEach es X.env)).any (·.1) = false := by rfl) : PE X (.Call (.Name x p) (e :: es) [] pos) (lift (X.kx wx WW ZZ) (dBlt o fa)) := by
  obtain ⟨r, hc, L⟩ := C
  exact (pe_callB hc hg hm hv ha hn hdb he hpl).w (lift_blt L)
theorem dl_callT {T : String} (C : CallD X (.type T) o) (hg : Gl X x) (hm : X.mg x = none) (hv : bootBuiltins x = some (.type T)) (ha : PA X (e :: es) (liftA (X.kx wx WW ZZ) fa)) (hn : x ≠ "__name__" := by decide) (hdb : (x == ("__debug__" : Str)) = false := by decide)
    (he : starEach (e :: es) X.env = (false, eval e X.env) :: starEach es X.env := by rfl) (hpl : (backTo pos (starEach es X.env)).any (·.1) = false := by rfl) : PE X (.Call (.Name x p) (e :: es) [] pos) (lift (X.kx wx WW ZZ) (dBlt o fa)) := by
  obtain ⟨r, hc, L⟩ := C
  exact (pe_callTy hc hg hm hv ha hn hdb he hpl).w (lift_blt L)
end
/-! isinstance -/
def tyS : D → String
  | .non => "NoneType"
  | .bl _ => "bool"
  | .int _ => "int"
  | .str _ => "str"
  | .tup _ => "tuple"
  | .lst _ => "list"
  | .dic _ => "dict"
  | .raw _ => "?"
  | .deck _ => "?"
  | .scr _ => "?"
def isiS (s t : String) : Bool := s == t || (s == "bool" && t == "int")
def cIsi : DC := fun ds G => match ds with
  | [d, .raw (.ty t)] => (tyS d ≠ "?" ∧ t ∈ ["int", "bool", "tuple", "list", "dict", "str"]) ∧ G (.bl (isiS (tyS d) t))
  | _ => False
theorem kit_tab {K : PySem.W.Frag} : ∀ s ∈ ["NoneType", "bool", "int", "str", "tuple", "list", "dict"], ∀ t ∈ ["int", "bool", "tuple", "list", "dict", "str"], PySem.W.kitOne K (.type s) (.type t) = some (isiS s t) := by
  intro s hs t ht
  simp only [List.mem_cons, List.not_mem_nil, or_false] at hs ht
  rcases hs with rfl | rfl | rfl | rfl | rfl | rfl | rfl <;> rcases ht with rfl | rfl | rfl | rfl | rfl | rfl <;> kernel_rfl
theorem tyx_of {K : PySem.W.Frag} {e : Ent} {F H : Hp} {k : Dk} {T : List (Addr × Str)} (W : Wd T e F H k) {d : D} {v : V} (h : At K F k d v) (hq : tyS d ≠ "?") : TyX K H v (.type (tyS d)) := by
  cases d with
  | raw u => exact absurd rfl hq
  | deck _ => exact absurd rfl hq
  | scr _ => exact absurd rfl hq
  | non => simp only [At] at h; subst h; exact .base .non
  | bl _ => simp only [At] at h; subst h; exact .base (.bl _)
  | int _ => simp only [At] at h; subst h; exact .base (.int _)
  | str _ => simp only [At] at h; subst h; exact .base (.str _)
  | tup _ =>
    simp only [At] at h
    obtain ⟨a, vs, rfl, h1, _⟩ := h
    rcases sqT_grow W.sub h1 with (h1 | ⟨o, h1⟩) | ⟨o, its, n, h1, h2, _⟩
    · exact .base (.tup h1)
    · exact .fTuple h1
    · exact .kTuple h1 h2
  | lst _ =>
    simp only [At] at h
    obtain ⟨a, vs, rfl, h1, _⟩ := h
    exact .base (.lst (W.sub _ _ h1))
  | dic _ =>
    simp only [At] at h
    obtain ⟨a, vs, rfl, h1, _⟩ := h
    exact .base (.dK (W.sub _ _ h1))
theorem tyS_mem : ∀ d : D, tyS d ≠ "?" → tyS d ∈ ["NoneType", "bool", "int", "str", "tuple", "list", "dict"]
  | .non, _ => by simp [tyS]
  | .bl _, _ => by simp [tyS]
  | .int _, _ => by simp [tyS]
  | .str _, _ => by simp [tyS]
  | .tup _, _ => by simp [tyS]
  | .lst _, _ => by simp [tyS]
  | .dic _, _ => by simp [tyS]
  | .raw _, h => absurd rfl h
  | .deck _, h => absurd rfl h
  | .scr _, h => absurd rfl h
theorem cd_isi {X : Cx} : CallD X (.builtin "isinstance") cIsi := ⟨_, call_isi, fun e env oa σ F H k vs ds Q G R a p q => by
  unfold cIsi at p
  split at p
  · rename_i d t
    simp only [Ats] at a
    obtain ⟨v, _, rfl, a1, c, _, rfl, a2, rfl⟩ := a
    simp only [At] at a2
    subst a2
    exact ⟨v, .ty t, _, _, _, rfl, .ty t, tyx_of R.wd a1 p.1.1, kit_tab _ (tyS_mem d p.1.1) _ p.1.2, q _ _ oa F H k p.2 R (Grow.refl _ _) (by simp only [At])⟩
  · exact p.elim⟩
/-! len -/
def cLen : DC := fun ds G => match ds with
  | [.tup l] => G (.int l.length)
  | [.lst l] => G (.int l.length)
  | [.str s] => s.length ≤ 10000000 ∧ G (.int s.length)
  | _ => False
theorem cd_len {X : Cx} : CallD X (.builtin "len") cLen := ⟨_, call_len, fun e env oa σ F H k vs ds Q G R a p q => by
  unfold cLen at p
  split at p
  · simp only [Ats, At] at a
    obtain ⟨v, _, rfl, ⟨x, us, rfl, h1, h2⟩, rfl⟩ := a
    exact ⟨_, us.length, rfl, .inr ⟨us, sqT_grow R.wd.sub h1, rfl⟩, q _ _ oa F H k p R (Grow.refl _ _) (by simp only [At, Ats.length h2])⟩
  · simp only [Ats, At] at a
    obtain ⟨v, _, rfl, ⟨x, us, rfl, h1, h2⟩, rfl⟩ := a
    exact ⟨_, us.length, rfl, .inl ⟨us, SqL.of (R.wd.sub _ _ h1), rfl⟩, q _ _ oa F H k p R (Grow.refl _ _) (by simp only [At, Ats.length h2])⟩
  · rename_i z
    simp only [Ats, At] at a
    obtain ⟨v, _, rfl, rfl, rfl⟩ := a
    exact ⟨_, z.length, rfl, ⟨size10 p.1, rfl⟩, q _ _ oa F H k p.2 R (Grow.refl _ _) (by simp only [At])⟩
  · exact p.elim⟩
/-! all, any of a list of bools -/
theorem ats_bls {K : PySem.W.Frag} {F : Hp} {k : Dk} : ∀ {bs : List Bool} {vs : List V}, Ats K F k (bs.map D.bl) vs → vs = bs.map V.bl
  | [], vs, h => by simpa only [List.map_nil, Ats] using h
  | b :: bs, vs, h => by
    simp only [List.map_cons, Ats, At] at h
    obtain ⟨v, r, rfl, rfl, h⟩ := h
    rw [ats_bls h] <;> rfl
theorem ats_int {K : PySem.W.Frag} {F : Hp} {k : Dk} : ∀ {bs : List Int} {vs : List V}, Ats K F k (bs.map D.int) vs → vs = bs.map V.int
  | [], vs, h => by simpa only [List.map_nil, Ats] using h
  | b :: bs, vs, h => by
    simp only [List.map_cons, Ats, At] at h
    obtain ⟨v, r, rfl, rfl, h⟩ := h
    rw [ats_int h] <;> rfl
def cAll : DC := fun ds G => ∃ bs : List Bool, ds = [.lst (bs.map D.bl)] ∧ G (.bl (bs.all id))
def cAny : DC := fun ds G => ∃ bs : List Bool, ds = [.lst (bs.map D.bl)] ∧ G (.bl (bs.any id))
theorem cd_all {X : Cx} (hc : X.calm = true) : CallD X (.builtin "all") cAll := ⟨_, cr_all hc, fun e env oa σ F H k vs ds Q G R a p q => by
  obtain ⟨bs, rfl, p⟩ := p
  simp only [Ats, At] at a
  obtain ⟨v, _, rfl, ⟨x, us, rfl, h1, h2⟩, rfl⟩ := a
  have := ats_bls h2
  subst this
  exact ⟨x, bs, rfl, SqL.of (R.wd.sub _ _ h1), q _ _ oa F H k p R (Grow.refl _ _) (by simp only [At])⟩⟩
theorem cd_any {X : Cx} (hc : X.calm = true) : CallD X (.builtin "any") cAny := ⟨_, cr_any hc, fun e env oa σ F H k vs ds Q G R a p q => by
  obtain ⟨bs, rfl, p⟩ := p
  simp only [Ats, At] at a
  obtain ⟨v, _, rfl, ⟨x, us, rfl, h1, h2⟩, rfl⟩ := a
  have := ats_bls h2
  subst this
  exact ⟨x, bs, rfl, SqL.of (R.wd.sub _ _ h1), q _ _ oa F H k p R (Grow.refl _ _) (by simp only [At])⟩⟩
/-! abs, max, min of two, int, bool -/
def cAbs : DC := fun ds G => match ds with
  | [.int i] => G (.int i.natAbs)
  | _ => False
theorem cd_abs {X : Cx} : CallD X (.builtin "abs") cAbs := ⟨_, call_abs, fun e env oa σ F H k vs ds Q G R a p q => by
  unfold cAbs at p
  split at p
  · rename_i i
    simp only [Ats, At] at a
    obtain ⟨v, _, rfl, rfl, rfl⟩ := a
    have z : (if i < 0 then -i else i) = (i.natAbs : Int) := by split <;> omega
    exact ⟨i, rfl, by rw [z]; exact q _ _ oa F H k p R (Grow.refl _ _) (by simp only [At])⟩
  · exact p.elim⟩
def cMax2 : DC := fun ds G => match ds with
  | [.int i, .int j] => G (.int (max i j))
  | _ => False
theorem cd_max2 {X : Cx} (hc : X.calm = true) : CallD X (.builtin "max") cMax2 := ⟨_, call_max2 hc, fun e env oa σ F H k vs ds Q G R a p q => by
  unfold cMax2 at p
  split at p
  · rename_i i j
    simp only [Ats, At] at a
    obtain ⟨v, _, rfl, rfl, u, _, rfl, rfl, rfl⟩ := a
    have z : (if j > i then j else i) = max i j := by split <;> omega
    exact ⟨i, j, rfl, by rw [z]; exact q _ _ oa F H k p R (Grow.refl _ _) (by simp only [At])⟩
  · exact p.elim⟩
def cMin2 : DC := fun ds G => match ds with
  | [.int i, .int j] => G (.int (min i j))
  | _ => False
theorem cd_min2 {X : Cx} (hc : X.calm = true) : CallD X (.builtin "min") cMin2 := ⟨_, call_min2 hc, fun e env oa σ F H k vs ds Q G R a p q => by
  unfold cMin2 at p
  split at p
  · rename_i i j
    simp only [Ats, At] at a
    obtain ⟨v, _, rfl, rfl, u, _, rfl, rfl, rfl⟩ := a
    have z : (if j < i then j else i) = min i j := by split <;> omega
    exact ⟨i, j, rfl, by rw [z]; exact q _ _ oa F H k p R (Grow.refl _ _) (by simp only [At])⟩
  · exact p.elim⟩
def cInt : DC := fun ds G => match ds with
  | [.int i] => G (.int i)
  | [.bl b] => G (.int (if b then 1 else 0))
  | _ => False
theorem cd_int {X : Cx} : CallD X (.type "int") cInt := ⟨_, call_int1, fun e env oa σ F H k vs ds Q G R a p q => by
  unfold cInt at p
  split at p
  · simp only [Ats, At] at a
    obtain ⟨v, _, rfl, rfl, rfl⟩ := a
    exact .inl ⟨_, rfl, q _ _ oa F H k p R (Grow.refl _ _) (by simp only [At])⟩
  · simp only [Ats, At] at a
    obtain ⟨v, _, rfl, rfl, rfl⟩ := a
    exact .inr ⟨_, rfl, q _ _ oa F H k p R (Grow.refl _ _) (by simp only [At])⟩
  · exact p.elim⟩
/-! list(x), tuple(x), str(x), repr(x) -/
def cList : DC := fun ds G => match ds with
  | [.tup l] => G (.lst l)
  | [.lst l] => G (.lst l)
  | _ => False
theorem cd_list {X : Cx} : CallD X (.type "list") cList := ⟨_, call_list_of, fun e env oa σ F H k vs ds Q G R a p q => by
  unfold cList at p
  split at p
  · simp only [Ats, At] at a
    obtain ⟨v, _, rfl, ⟨x, us, rfl, h1, h2⟩, rfl⟩ := a
    refine ⟨x, us, rfl, .inr (sqT_grow R.wd.sub h1), fun t ht => ?_⟩
    obtain ⟨R2, g2⟩ := R.laid ht (.lst us)
    exact q _ _ oa _ _ k p R2 g2 (by simp only [At]; exact ⟨t, us, rfl, upd_same, Ats.grow g2 _ _ h2⟩)
  · simp only [Ats, At] at a
    obtain ⟨v, _, rfl, ⟨x, us, rfl, h1, h2⟩, rfl⟩ := a
    refine ⟨x, us, rfl, .inl (SqL.of (R.wd.sub _ _ h1)), fun t ht => ?_⟩
    obtain ⟨R2, g2⟩ := R.laid ht (.lst us)
    exact q _ _ oa _ _ k p R2 g2 (by simp only [At]; exact ⟨t, us, rfl, upd_same, Ats.grow g2 _ _ h2⟩)
  · exact p.elim⟩
def cTup : DC := fun ds G => match ds with
  | [.tup l] => G (.tup l)
  | [.lst l] => G (.tup l)
  | _ => False
theorem cd_tup {X : Cx} : CallD X (.type "tuple") cTup := ⟨_, call_tuple_of, fun e env oa σ F H k vs ds Q G R a p q => by
  unfold cTup at p
  split at p
  · simp only [Ats, At] at a
    obtain ⟨v, _, rfl, ⟨x, us, rfl, h1, h2⟩, rfl⟩ := a
    exact ⟨x, us, rfl, .inr ⟨sqT_grow R.wd.sub h1, q _ _ oa F H k p R (Grow.refl _ _) (by simp only [At]; exact ⟨x, us, rfl, h1, h2⟩)⟩⟩
  · simp only [Ats, At] at a
    obtain ⟨v, _, rfl, ⟨x, us, rfl, h1, h2⟩, rfl⟩ := a
    refine ⟨x, us, rfl, .inl ⟨SqL.of (R.wd.sub _ _ h1), fun t ht => ?_⟩⟩
    obtain ⟨R2, g2⟩ := R.laid ht (.tup us)
    exact q _ _ oa _ _ k p R2 g2 (by simp only [At]; exact ⟨t, us, rfl, SqT.of upd_same, Ats.grow g2 _ _ h2⟩)
  · exact p.elim⟩
def cStr : DC := fun ds G => match ds with
  | [.int i] => i.natAbs.log2 < 1920 ∧ G (.str (toString i))
  | [.str s] => G (.str s)
  | _ => False
theorem cd_str {X : Cx} : CallD X (.type "str") cStr := ⟨_, call_or call_str_int SkE.call_str_str, fun e env oa σ F H k vs ds Q G R a p q => by
  unfold cStr at p
  split at p
  · simp only [Ats, At] at a
    obtain ⟨v, _, rfl, rfl, rfl⟩ := a
    exact .inl ⟨_, rfl, p.1, q _ _ oa F H k p.2 R (Grow.refl _ _) (by simp only [At])⟩
  · simp only [Ats, At] at a
    obtain ⟨v, _, rfl, rfl, rfl⟩ := a
    exact .inr ⟨_, rfl, q _ _ oa F H k p R (Grow.refl _ _) (by simp only [At])⟩
  · exact p.elim⟩
mutual
/-- plain data (dicts among it) -/
def plainD : D → Bool
  | .non => true
  | .bl _ => true
  | .int _ => true
  | .str _ => true
  | .tup l => plainDs l
  | .lst l => plainDs l
  | .dic l => plainDk l
  | .raw _ => false
  | .deck _ => false
  | .scr _ => false
def plainDs : List D → Bool
  | [] => true
  | d :: l => plainD d && plainDs l
def plainDk : List (Key × D) → Bool
  | [] => true
  | (_, d) :: l => plainD d && plainDk l
end
/-- the module table stands as a dict -/
structure SysOk (K : PySem.W.Frag) : Prop where
  at_ : ∃ o es n, K.lookup sysModules = some o ∧ o.data = .dict es n
theorem sysB_ok {K : PySem.W.Frag} (h : sysB K = true) : SysOk K := by
  unfold sysB at h
  split at h
  · rename_i e
    exact ⟨_, _, _, e, rfl⟩
  · cases h
theorem SysOk.no {K : PySem.W.Frag} (sy : SysOk K) {h : Heap} (X : K.In h) {o : Obj} {vs : Array Value} {n : Nat} (ho : h.get? sysModules = some o) (hd : o.data = .seq vs n) : False := by
  obtain ⟨o', es, m, e1, e2⟩ := sy.at_
  have := X _ _ e1
  rw [ho] at this
  cases this
  rw [hd] at e2
  cases e2
section
variable {wx : DX} {WW : WX} {ZZ : Fz} {X : Cx} {pins : List (Addr × Obj)} {σ : St} {F H : Hp} {k : Dk} {s : Shared}
theorem keys_read {h : Heap} : ∀ {q : Key} {v : Value}, keyIs q v = true → Reads h v (match q with | .inl i => .int i | .inr x => .str x) [] := by
  intro q v h
  rcases keyIs_shape h with ⟨i, t, rfl, rfl⟩ | ⟨x, t, rfl, rfl⟩
  · exact .int i t
  · exact .str x t
mutual
theorem at_reads (sy : SysOk X.K) (I : L2.Inv X pins σ H s) (sub : ∀ a o, F a = some o → H a = some o) : ∀ (d : D) (v : V) (u : Value), plainD d = true → At X.K F k d v → RelV v u → ∃ as, Reads s.heap u (py d) as ∧ sysModules ∉ as
  | .non, v, u, _, h, r => by simp only [At] at h; subst h; cases r; exact ⟨[], by simp only [py]; exact .none, by simp⟩
  | .bl b, v, u, _, h, r => by simp only [At] at h; subst h; cases r; exact ⟨[], by simp only [py]; exact .bool b, by simp⟩
  | .int i, v, u, _, h, r => by simp only [At] at h; subst h; obtain ⟨t, rfl⟩ := r; exact ⟨[], by simp only [py]; exact .int i t, by simp⟩
  | .str x, v, u, _, h, r => by simp only [At] at h; subst h; obtain ⟨t, rfl⟩ := r; exact ⟨[], by simp only [py]; exact .str x t, by simp⟩
  | .tup l, v, u, z, h, r => by
    simp only [At] at h
    obtain ⟨a, vs, rfl, h1, h2⟩ := h
    cases r
    simp only [plainD] at z
    obtain ⟨its, rv, ⟨o, ho, hc, n, hd⟩, _⟩ := I.tuple (sqT_grow sub h1)
    obtain ⟨as, q1, q2⟩ := ats_reads sy I sub l vs its z h2 rv
    exact ⟨as, by simp only [py]; exact .tuple ho hc hd q1, q2⟩
  | .lst l, v, u, z, h, r => by
    simp only [At] at h
    obtain ⟨a, vs, rfl, h1, h2⟩ := h
    cases r
    simp only [plainD] at z
    obtain ⟨its, rv, ⟨o, n, ho, hc, _, hd⟩, _⟩ := I.list (SqL.of (sub _ _ h1))
    obtain ⟨as, q1, q2⟩ := ats_reads sy I sub l vs its z h2 rv
    exact ⟨_, by simp only [py]; exact .list ho hc hd q1, fun y => (List.mem_cons.mp y).elim (fun e => sy.no I.kIn (e ▸ ho) hd) q2⟩
  | .dic l, v, u, z, h, r => by
    simp only [At] at h
    obtain ⟨a, vs, rfl, h1, h2⟩ := h
    cases r
    simp only [plainD] at z
    obtain ⟨_, hsys, us, rv, o, es, ep, ho, hx, hd, _, hp, _⟩ := I.hok a _ (sub _ _ h1)
    obtain ⟨as, q1, q2, q3⟩ := atk_reads sy I sub l vs us es.toList z h2 rv hp
    refine ⟨_, by simp only [py]; exact .dict ho hx.1 hd q1 q2, ?_⟩
    have q4 := q3
    have hne : a ≠ sysModules := by simpa using hsys
    simp only [List.append_nil, List.cons_append, List.mem_cons, not_or, List.nil_append]
    exact ⟨fun w => hne w.symm, q4⟩
  | .raw _, _, _, z, _, _ => by simp [plainD] at z
  | .deck _, _, _, z, _, _ => by simp [plainD] at z
  | .scr _, _, _, z, _, _ => by simp [plainD] at z
theorem ats_reads (sy : SysOk X.K) (I : L2.Inv X pins σ H s) (sub : ∀ a o, F a = some o → H a = some o) : ∀ (l : List D) (vs : List V) (us : List Value), plainDs l = true → Ats X.K F k l vs → Vals vs us → ∃ as, ReadsAll s.heap us (pys l) as ∧ sysModules ∉ as
  | [], vs, us, _, h, r => by simp only [Ats] at h; subst h; cases r; exact ⟨[], by simp only [pys]; exact .nil, by simp⟩
  | d :: l, vs, us, z, h, r => by
    simp only [Ats] at h
    obtain ⟨v, vr, rfl, h1, h2⟩ := h
    cases r with
    | cons r1 r2 =>
      simp only [plainDs, Bool.and_eq_true] at z
      obtain ⟨as, q1, q2⟩ := at_reads sy I sub d v _ z.1 h1 r1
      obtain ⟨bs, q3, q4⟩ := ats_reads sy I sub l vr _ z.2 h2 r2
      refine ⟨as ++ bs, by simp only [pys]; exact .cons q1 q3, ?_⟩
      simp only [List.mem_append, not_or]
      exact ⟨q2, q4⟩
theorem atk_reads (sy : SysOk X.K) (I : L2.Inv X pins σ H s) (sub : ∀ a o, F a = some o → H a = some o) : ∀ (l : List (Key × D)) (vs : List (Key × V)) (us : List (Key × Value)) (es : List DictEntry), plainDk l = true → Atk X.K F k l vs → KV vs us → Pairs (mixKind X.prog X.w) es us →
    ∃ bs, ReadsAll s.heap (es.map (·.key)) ((pyk l).map (·.1)) [] ∧ ReadsAll s.heap (es.map (·.val)) ((pyk l).map (·.2)) bs ∧ sysModules ∉ bs
  | [], vs, us, es, _, h, r, p => by
    simp only [Atk] at h
    subst h
    cases r
    cases p
    exact ⟨[], by simp only [pyk, List.map_nil]; exact .nil, by simp only [pyk, List.map_nil]; exact .nil, by simp⟩
  | (q, d) :: l, vs, us, es, z, h, r, p => by
    simp only [Atk] at h
    obtain ⟨v, vr, rfl, h1, h2⟩ := h
    cases r with
    | cons r1 r2 =>
      cases p with
      | cons p1 p2 p3 =>
        simp only [plainDk, Bool.and_eq_true] at z
        obtain ⟨e1, e2⟩ := r1
        obtain ⟨as, q1, q2⟩ := at_reads sy I sub d v _ z.1 h1 e2
        obtain ⟨bs, q3, q4, q5⟩ := atk_reads sy I sub l vr _ _ z.2 h2 r2 p3
        have hk := keys_read (h := s.heap) p1
        rw [← e1] at hk
        refine ⟨as ++ bs, ?_, ?_, ?_⟩
        · cases q with
          | inl i => simp only [pyk, List.map_cons]; exact .cons (as := []) (bs := []) hk q3
          | inr x => simp only [pyk, List.map_cons]; exact .cons (as := []) (bs := []) hk q3
        · rw [← p2] at q1
          cases q with
          | inl i => simp only [pyk, List.map_cons]; exact .cons q1 q4
          | inr x => simp only [pyk, List.map_cons]; exact .cons q1 q4
        · simp only [List.mem_append, not_or]
          exact ⟨q2, q5⟩
end
end
/-- what may be shown -/
structure ShowOk (d : D) : Prop where
  pl : plainD d = true
  sh : (py d).showable = true
  dp : (py d).depth ≤ 60
  sz : (py d).shown.length ≤ sizeLine
def shown (d : D) : Str := (py d).shown
def cRepr : DC := fun ds G => match ds with
  | [d] => ShowOk d ∧ G (.str (shown d))
  | _ => False
theorem cd_repr {X : Cx} (sy : SysOk X.K) (gd : X.A.guards = some []) (hu : X.A.units + 64 < cLine) : CallD X (.builtin "repr") cRepr := by
  refine ⟨fun xs H Q => ∃ F k v d, xs = [v] ∧ (∀ a o, F a = some o → H a = some o) ∧ At X.K F k d v ∧ ShowOk d ∧ Q (.str (shown d)) H, ?_, fun e env oa σ F H k vs ds Q G R a p q => ?_⟩
  · rintro pins s σ H xs us Q I r ⟨F, k, v, d, rfl, sub, hA, hs, q⟩
    obtain ⟨u, rfl, ru⟩ := vals1 r
    obtain ⟨as, q1, q2⟩ := at_reads sy I sub d v u hs.pl hA ru
    have hsm : (py d).hasDict = true → sysModules ∉ as := fun _ => q2
    have fin : ∀ h' t tk, (∀ b o, s.heap.get? b = some o → h'.get? b = some o) → EP X pins σ Q (.str (py d).shown t) { s with heap := h', toks := tk } := fun h' t tk kp => ⟨.str _, H, I.kept kp, ⟨_, rfl⟩, q⟩
    have base : ∀ (T : Str), (py d).shown = T → EP X pins σ Q (.str T s.toks) { s with toks := s.toks + 1 } := fun T e => by
      subst e
      exact fin s.heap _ _ fun _ _ z => z
    cases hd : d with
    | tup l =>
      subst hd
      simp only [At] at hA
      obtain ⟨x, _, rfl, _⟩ := hA
      cases ru
      exact repr_of_reads' q1 hs.sh hsm gd (by have := hs.dp; omega) (fun _ _ z => z) fin hs.sz
    | lst l =>
      subst hd
      simp only [At] at hA
      obtain ⟨x, _, rfl, _⟩ := hA
      cases ru
      exact repr_of_reads' q1 hs.sh hsm gd (by have := hs.dp; omega) (fun _ _ z => z) fin hs.sz
    | dic l =>
      subst hd
      simp only [At] at hA
      obtain ⟨x, _, rfl, _⟩ := hA
      cases ru
      exact repr_of_reads' q1 hs.sh hsm gd (by have := hs.dp; omega) (fun _ _ z => z) fin hs.sz
    | non =>
      subst hd
      simp only [At] at hA
      subst hA
      cases ru
      exact PySem.P.repr_of_none (base _ (by simp only [py, PyData.shown]))
    | bl b =>
      subst hd
      simp only [At] at hA
      subst hA
      cases ru
      exact PySem.P.repr_of_bool (base _ (by simp only [py, PyData.shown]))
    | int i =>
      subst hd
      simp only [At] at hA
      subst hA
      obtain ⟨t, rfl⟩ := ru
      exact PySem.P.repr_of_int (by have := hs.sh; simpa only [py, PyData.showable, decide_eq_true_eq] using this) (base _ (by simp only [py, PyData.shown]))
    | str x =>
      subst hd
      simp only [At] at hA
      subst hA
      obtain ⟨t, rfl⟩ := ru
      exact PySem.P.repr_of_str (base _ (by simp only [py, PyData.shown])) (by have := hs.sz; simpa only [py, PyData.shown] using this)
    | raw _ => subst hd; exact absurd hs.pl (by simp [plainD])
    | deck _ => subst hd; exact absurd hs.pl (by simp [plainD])
    | scr _ => subst hd; exact absurd hs.pl (by simp [plainD])
  · unfold cRepr at p
    split at p
    · simp only [Ats] at a
      obtain ⟨v, _, rfl, a1, rfl⟩ := a
      exact ⟨F, k, v, _, rfl, R.wd.sub, a1, p.1, q _ _ oa F H k p.2 R (Grow.refl _ _) (by simp only [At])⟩
    · exact p.elim
end DL
namespace DL
open PySem PySem.Spec L2
/-! ### items, slices -/
def ixD (l : List D) (i : Int) : Option D := if 0 ≤ i then l[i.toNat]? else if -(l.length : Int) ≤ i then l[(i + l.length).toNat]? else none
theorem ix_at {K : PySem.W.Frag} {F : Hp} {k : Dk} {l : List D} {vs : List V} (h : Ats K F k l vs) {i : Int} {d : D} (hd : ixD l i = some d) : ∃ v, atI vs i = some v ∧ At K F k d v := by
  have hl := Ats.length h
  unfold ixD at hd
  unfold atI ixN
  split at hd
  · rename_i h0
    obtain ⟨v, h1, h2⟩ := Ats.get h _ d hd
    have hlt := (List.getElem?_eq_some_iff.mp h1).1
    refine ⟨v, ?_, h2⟩
    rw [if_pos h0, if_pos (by omega)]
    exact h1
  · rename_i h0
    split at hd
    · rename_i h1
      obtain ⟨v, e1, e2⟩ := Ats.get h _ d hd
      refine ⟨v, ?_, e2⟩
      rw [if_neg h0, if_pos (by omega)]
      rw [hl] at e1
      exact e1
    · cases hd
def oIx : DO := fun x y G => match x, y with
  | .tup l, .int i => ∃ d, ixD l i = some d ∧ G d
  | .lst l, .int i => ∃ d, ixD l i = some d ∧ G d
  | _, _ => False
section
variable {wx : DX} {WW : WX} {ZZ : Fz} {X : Cx} {a b c : Expr} {pos : Pos} {f g h : DE}
theorem dl_ix (ha : PE X a (lift (X.kx wx WW ZZ) f)) (hb : PE X b (lift (X.kx wx WW ZZ) g)) (hs : PlainIx b := by exact fun _ _ => rfl) : PE X (.Subscript a b pos) (lift (X.kx wx WW ZZ) (dBin oIx f g)) :=
  (pe_ix ix_seq ha hb hs).w (lift_bin fun e env oa σ F H k x y dx dy Q G R a1 a2 p q => by
    unfold oIx at p
    split at p
    · simp only [At] at a1 a2
      obtain ⟨ad, vs, rfl, h1, h2⟩ := a1
      subst a2
      obtain ⟨d, p1, p2⟩ := p
      obtain ⟨v, e1, e2⟩ := ix_at h2 p1
      exact .inr (.inl ⟨ad, vs, _, v, rfl, rfl, sqT_grow R.wd.sub h1, e1, q d v oa F H k p2 R (Grow.refl _ _) e2⟩)
    · simp only [At] at a1 a2
      obtain ⟨ad, vs, rfl, h1, h2⟩ := a1
      subst a2
      obtain ⟨d, p1, p2⟩ := p
      obtain ⟨v, e1, e2⟩ := ix_at h2 p1
      exact .inl ⟨ad, vs, _, v, rfl, rfl, SqL.of (R.wd.sub _ _ h1), e1, q d v oa F H k p2 R (Grow.refl _ _) e2⟩
    · exact p.elim)
abbrev DP := Evn → (Option Int → Evn → Prop) → Prop
def liftO (K : Kx) (f : DP) : TO := fun σ H Q => ∃ e env oa F k, ∃ P : Option Int → Evn → Prop, Rel K e env oa σ F H k ∧ f env P ∧ ∀ b env' oa' F' H' k', P b env' → Rel K e env' oa' σ F' H' k' → Grow F F' k k' → Q b H'
theorem _root_.L2.PO.w {X : Cx} {a : Option Expr} {t t' : TO} (h : PO X a t) (w : ∀ σ H Q, t' σ H Q → t σ H Q) : PO X a t' := ⟨fun pins s σ H Q I q => h.run pins s σ H Q I (w _ _ _ q)⟩
def dNoP : DP := fun env Q => Q none env
def dSomeP (f : DE) : DP := fun env Q => f env fun d env1 => match d with
  | .int i => Q (some i) env1
  | _ => False
theorem dp_none : PO X none (liftO (X.kx wx WW ZZ) dNoP) := po_none.w fun σ H Q ⟨e, env, oa, F, k, P, R, p, q⟩ => q none env oa F H k p R (Grow.refl _ _)
theorem dp_some (h : PE X a (lift (X.kx wx WW ZZ) f)) : PO X (some a) (liftO (X.kx wx WW ZZ) (dSomeP f)) := (po_some h).w fun σ H Q ⟨e, env, oa, F, k, P, R, p, q⟩ => ⟨e, env, oa, F, k, _, R, p, fun d env1 v oa1 F1 H1 k1 p1 R1 g1 a1 => by
  cases d with
  | int i => simp only [At] at a1; exact ⟨i, a1, q _ env1 oa1 F1 H1 k1 p1 R1 g1⟩
  | _ => exact p1.elim⟩
def cutD (l : List D) (lo hi : Option Int) : List D := (l.drop (HT.sIx l.length 0 lo)).take (HT.sIx l.length l.length hi - HT.sIx l.length 0 lo)
theorem cut_at {K : PySem.W.Frag} {F : Hp} {k : Dk} {l : List D} {vs : List V} (h : Ats K F k l vs) (lo hi : Option Int) : Ats K F k (cutD l lo hi) (cutV vs lo hi) := by
  unfold cutD cutV
  rw [Ats.length h]
  exact (h.drop _).take _
def dSlice (f : DE) (lo hi : DP) : DE := fun env Q => f env fun d env1 => lo env1 fun x env2 => hi env2 fun y env3 => match d with
  | .tup l => Q (.tup (cutD l x y)) env3
  | .lst l => Q (.lst (cutD l x y)) env3
  | .scr ns => Q (.lst (cutD (ns.map D.int) x y)) env3
  | _ => False
theorem ats_ints {K : PySem.W.Frag} {F : Hp} {k : Dk} : ∀ ns : List Int, Ats K F k (ns.map D.int) (ns.map V.int)
  | [] => .nil
  | n :: ns => .cons (by simp only [At]) (ats_ints ns)
theorem dl_slice {lo hi : Option Expr} {fl fh : DP} {p2 : Pos} (ha : PE X a (lift (X.kx wx WW ZZ) f)) (hl : PO X lo (liftO (X.kx wx WW ZZ) fl)) (hh : PO X hi (liftO (X.kx wx WW ZZ) fh)) : PE X (.Subscript a (.Slice lo hi none p2) pos) (lift (X.kx wx WW ZZ) (dSlice f fl fh)) :=
  (pe_slice (sl_list.or sl_tupA) ha hl hh).w fun σ H Q ⟨e, env, oa, F, k, P, R, p, q⟩ => ⟨e, env, oa, F, k, _, R, p, fun d env1 v oa1 F1 H1 k1 p1 R1 g1 a1 => ⟨e, env1, oa1, F1, k1, _, R1, p1, fun x env2 oa2 F2 H2 k2 p2 R2 g2 => ⟨e, env2, oa2, F2, k2, _, R2, p2, fun y env3 oa3 F3 H3 k3 p3 R3 g3 => by
    have g13 := g2.trans g3
    cases d with
    | tup l =>
      simp only [At] at a1
      obtain ⟨ad, vs, rfl, h1, h2⟩ := a1
      have h1' := sqT_grow g13.1 h1
      have h2' := Ats.grow g13 _ _ h2
      refine .inr ⟨ad, vs, rfl, sqT_grow R3.wd.sub h1', fun ⟨z1, z2⟩ => ?_, fun _ t ht => ?_⟩
      · have ec : cutD l x y = l := by
          unfold cutD
          rw [Ats.length h2, z1, z2, List.drop_zero, Nat.sub_zero, ← Ats.length h2, List.take_length]
        exact q _ env3 _ oa3 F3 H3 k3 p3 R3 (g1.trans g13) (by rw [ec]; simp only [At]; exact ⟨ad, vs, rfl, h1', h2'⟩)
      · obtain ⟨R4, g4⟩ := R3.laid ht (.tup (cutV vs x y))
        exact q _ env3 _ oa3 _ _ k3 p3 R4 (g1.trans (g13.trans g4)) (by simp only [At]; exact ⟨t, _, rfl, SqT.of upd_same, cut_at (Ats.grow g4 _ _ h2') x y⟩)
    | lst l =>
      simp only [At] at a1
      obtain ⟨ad, vs, rfl, h1, h2⟩ := a1
      have h2' := Ats.grow g13 _ _ h2
      refine .inl ⟨ad, vs, rfl, SqL.of (R3.wd.sub _ _ (g13.1 _ _ h1)), fun t ht => ?_⟩
      obtain ⟨R4, g4⟩ := R3.laid ht (.lst (cutV vs x y))
      exact q _ env3 _ oa3 _ _ k3 p3 R4 (g1.trans (g13.trans g4)) (by simp only [At]; exact ⟨t, _, rfl, upd_same, cut_at (Ats.grow g4 _ _ h2') x y⟩)
    | scr ns =>
      simp only [At] at a1
      obtain ⟨ad, rfl, h1⟩ := a1
      have h1' : SqL X.K H3 ad (ns.map V.int) := by
        rcases h1 with h1 | h1
        · exact .inl (rd_grow R3.wd.sub (rd_grow g13.1 h1))
        · exact .inr h1
      refine .inl ⟨ad, _, rfl, h1', fun t ht => ?_⟩
      obtain ⟨R4, g4⟩ := R3.laid ht (.lst (cutV (ns.map V.int) x y))
      exact q _ env3 _ oa3 _ _ k3 p3 R4 (g1.trans (g13.trans g4)) (by simp only [At]; exact ⟨t, _, rfl, upd_same, cut_at (ats_ints ns) x y⟩)
    | _ => exact p3.elim⟩⟩⟩
end
/-! ### comprehensions -/
/-- an object of ours that is not yet given out, guarded while other things run -/
def gd (e : Ent) (p : Addr) (o : HO) : Ent := ⟨upd e.H0 p o, e.F0, e.k0⟩
section
variable {K : PySem.W.Frag} {e : Ent} {env : Evn} {oa : Nat → Addr} {σ : St} {F H : Hp} {k : Dk} {p : Addr} {o u : HO}
theorem Wd.noF {T : List (Addr × Str)} (W : Wd T e F H k) (hp : H p = none) : F p = none := by
  cases q : F p with
  | none => rfl
  | some u => rw [W.sub _ _ q] at hp; cases hp
theorem Wd.noDk {T : List (Addr × Str)} (W : Wd T e F H k) (hp : H p = none) : ∀ q, k = some q → p ≠ q.1 ∧ p ≠ q.2 := fun q hq => by
  obtain ⟨⟨kv, cs, h1, h2, _⟩, _⟩ := W.dk q hq
  exact ⟨fun z => (by rw [z, h1] at hp; cases hp), fun z => (by rw [z, h2] at hp; cases hp)⟩
/-- what is known of a guarded object -/
structure Gd (T : List (Addr × Str)) (e : Ent) (p : Addr) : Prop where
  h0 : e.H0 p = none
  f0 : e.F0 p = none
  k0 : ∀ q, e.k0 = some q → p ≠ q.1 ∧ p ≠ q.2
  nt : ∀ q ∈ T, p ≠ q.1
/-- a new object is laid under guard -/
theorem Rel0.guard (R : Rel0 K e env oa σ F H k) (hp : H p = none) : Gd (tabK K) e p ∧ Rel0 K (gd e p o) env oa σ F (upd H p o) k := by
  have W := R.wd
  have hF := W.noF hp
  have hD := W.noDk hp
  have keep : ∀ a u, H a = some u → upd H p o a = some u := fun a u q => by rw [upd_ne (ne_of_none q hp)]; exact q
  refine ⟨⟨W.old hp, ?_, fun q hq => hD q (W.kk1 q hq), tabs_none W.tb hp⟩, ⟨⟨fun a u q => keep _ _ (W.sub a u q), W.ini, fun a u q => ?_, fun a u q z z2 => ?_, W.kk1, fun z q hq => ?_, fun q hq => ?_, tabs_upd W.tb hp, W.tbf⟩, R.len, R.val, fun i ds hi => ?_, R.inj⟩⟩
  · cases q : e.F0 p with
    | none => rfl
    | some u => rw [W.ini _ _ q] at hF; cases hF
  · rcases W.new a u q with z | z
    · exact .inl z
    · by_cases ha : a = p
      · subst ha; rw [hF] at q; cases q
      · exact .inr ((upd_ne ha).trans z)
  · by_cases ha : a = p
    · subst ha
      have q' : upd e.H0 a o a = some u := q
      rw [upd_same] at q' ⊢; exact q'
    · have q' : upd e.H0 p o a = some u := q
      rw [upd_ne ha] at q'
      exact keep _ _ (W.fr a u q' z z2)
  · obtain ⟨n1, n2⟩ := W.kk2 z q hq
    obtain ⟨m1, m2⟩ := hD q hq
    exact ⟨(upd_ne (Ne.symm m1)).trans n1, (upd_ne (Ne.symm m2)).trans n2⟩
  · obtain ⟨⟨kv, cs, h1, h2, h3⟩, h4, h5⟩ := W.dk q hq
    exact ⟨⟨kv, cs, keep _ _ h1, keep _ _ h2, h3⟩, h4, h5⟩
  · obtain ⟨h1, ⟨vs, h2, h3⟩, h4, h5, h6⟩ := R.own i ds hi
    exact ⟨h1, ⟨vs, keep _ _ h2, h3⟩, h4, (upd_ne (ne_of_none h2 hp)).trans h5, h6⟩
/-- what stands under guard is as it was -/
theorem Rel0.guarded (G : Gd (tabK K) e p) (R : Rel0 K (gd e p o) env oa σ F H k) : H p = some o ∧ F p = none ∧ (∀ q, k = some q → p ≠ q.1 ∧ p ≠ q.2) ∧ ∀ i ds, env[i]? = some (Slot.own ds) → oa i ≠ p := by
  have W := R.wd
  have e1 : (gd e p o).H0 p = some o := upd_same
  have hH : H p = some o := W.fr p o e1 G.k0 G.nt
  refine ⟨hH, ?_, fun q hq => ?_, fun i ds hi z => ?_⟩
  · cases q : F p with
    | none => rfl
    | some u =>
      rcases W.new p u q with z | z
      · have z' : e.F0 p = some u := z
        rw [G.f0] at z'; cases z'
      · rw [e1] at z; cases z
  · cases hk : e.k0 with
    | some q' =>
      have := W.kk1 q' hk
      rw [hq] at this; cases this
      exact G.k0 q hk
    | none =>
      obtain ⟨n1, n2⟩ := W.kk2 hk q hq
      exact ⟨fun z => (by rw [← z, e1] at n1; cases n1), fun z => (by rw [← z, e1] at n2; cases n2)⟩
  · obtain ⟨_, _, _, h5, _⟩ := R.own i ds hi
    rw [z, e1] at h5; cases h5
/-- it is written -/
theorem Rel0.gset (G : Gd (tabK K) e p) (R : Rel0 K (gd e p o) env oa σ F H k) (u : HO) (ho : ∀ c q, o ≠ LamX.CodeO c q := by intro c q z; unfold LamX.CodeO at z; cases z) : Rel0 K (gd e p u) env oa σ F (upd H p u) k := by
  obtain ⟨hH, hF, hD, hO⟩ := R.guarded G
  have W := R.wd
  refine ⟨⟨fun a v q => ?_, W.ini, fun a v q => ?_, fun a v q z z2 => ?_, W.kk1, fun z q hq => ?_, fun q hq => ?_, tabs_at W.tb G.nt (fun c q z => by rw [hH] at z; exact ho c q (Option.some.inj z)), W.tbf⟩, R.len, R.val, fun i ds hi => ?_, R.inj⟩
  · have ha : a ≠ p := fun z => by rw [z, hF] at q; cases q
    rw [upd_ne ha]; exact W.sub a v q
  · rcases W.new a v q with z | z
    · exact .inl z
    · by_cases ha : a = p
      · subst ha; rw [hF] at q; cases q
      · have z' : upd e.H0 p o a = none := z
        rw [upd_ne ha] at z'
        exact .inr ((upd_ne ha).trans z')
  · have q' : upd e.H0 p u a = some v := q
    by_cases ha : a = p
    · subst ha; rw [upd_same] at q' ⊢; exact q'
    · rw [upd_ne ha] at q' ⊢
      exact W.fr a v ((upd_ne ha).trans q') z z2
  · obtain ⟨m1, m2⟩ := hD q hq
    obtain ⟨n1, n2⟩ := W.kk2 z q hq
    have n1' : upd e.H0 p o q.1 = none := n1
    have n2' : upd e.H0 p o q.2 = none := n2
    rw [upd_ne (Ne.symm m1)] at n1'
    rw [upd_ne (Ne.symm m2)] at n2'
    exact ⟨(upd_ne (Ne.symm m1)).trans n1', (upd_ne (Ne.symm m2)).trans n2'⟩
  · obtain ⟨m1, m2⟩ := hD q hq
    obtain ⟨⟨kv, cs, h1, h2, h3⟩, h4, h5⟩ := W.dk q hq
    exact ⟨⟨kv, cs, (upd_ne (Ne.symm m1)).trans h1, (upd_ne (Ne.symm m2)).trans h2, h3⟩, h4, h5⟩
  · obtain ⟨h1, ⟨vs, h2, h3⟩, h4, h5, h6⟩ := R.own i ds hi
    have hne := hO i ds hi
    have h5' : upd e.H0 p o (oa i) = none := h5
    rw [upd_ne hne] at h5'
    exact ⟨h1, ⟨vs, (upd_ne hne).trans h2, h3⟩, h4, (upd_ne hne).trans h5', h6⟩
/-- it is given out, frozen -/
theorem Rel0.give (G : Gd (tabK K) e p) (R : Rel0 K (gd e p o) env oa σ F H k) : Rel0 K e env oa σ (upd F p o) H k ∧ Grow F (upd F p o) k k := by
  obtain ⟨hH, hF, hD, hO⟩ := R.guarded G
  have W := R.wd
  have g : Grow F (upd F p o) k k := ⟨fun a v q => by rw [upd_ne (ne_of_none q hF)]; exact q, fun _ q => q⟩
  refine ⟨⟨⟨fun a v q => ?_, fun a v q => g.1 _ _ (W.ini a v q), fun a v q => ?_, fun a v q z z2 => ?_, W.kk1, fun z q hq => ?_, fun q hq => ?_, W.tb, fun q hq => by rw [upd_ne (Ne.symm (G.nt q hq))]; exact W.tbf q hq⟩, R.len, fun i d hi => ?_, fun i ds hi => ?_, R.inj⟩, g⟩
  · by_cases ha : a = p
    · subst ha; rw [upd_same] at q; cases q; exact hH
    · rw [upd_ne ha] at q; exact W.sub a v q
  · by_cases ha : a = p
    · subst ha; exact .inr G.h0
    · rw [upd_ne ha] at q
      rcases W.new a v q with z | z
      · exact .inl z
      · exact .inr ((upd_ne ha).symm.trans z)
  · have ha : a ≠ p := fun y => by rw [y, G.h0] at q; cases q
    exact W.fr a v ((upd_ne ha).trans q) z z2
  · obtain ⟨m1, m2⟩ := hD q hq
    obtain ⟨n1, n2⟩ := W.kk2 z q hq
    exact ⟨(upd_ne (Ne.symm m1)).symm.trans n1, (upd_ne (Ne.symm m2)).symm.trans n2⟩
  · obtain ⟨m1, m2⟩ := hD q hq
    obtain ⟨d1, d2, d3⟩ := W.dk q hq
    exact ⟨d1, (upd_ne (Ne.symm m1)).trans d2, (upd_ne (Ne.symm m2)).trans d3⟩
  · obtain ⟨v, h1, h2⟩ := R.val i d hi
    exact ⟨v, h1, At.grow g d v h2⟩
  · obtain ⟨h1, ⟨vs, h2, h3⟩, h4, h5, h6⟩ := R.own i ds hi
    have hne := hO i ds hi
    exact ⟨h1, ⟨vs, h2, Ats.grow g ds vs h3⟩, (upd_ne hne).trans h4, (upd_ne hne).symm.trans h5, h6⟩
end
section
variable {K : Kx} {e : Ent} {env : Evn} {oa : Nat → Addr} {σ : St} {F H : Hp} {k : Dk} {p : Addr} {o u : HO}
theorem Lnk.gd (L : Lnk K e F k) (G : Gd (tabK K.f) e p) : Lnk K (gd e p o) F k := fun x env oa σ F' H' k' cls d hw R g hx => by
  obtain ⟨R2, g2⟩ := Rel0.give G R
  exact L x env oa σ _ H' k' cls d hw R2 (g.trans g2) (hx.grow g2)
theorem Rel.guard (R : Rel K e env oa σ F H k) (hp : H p = none) : Gd (tabK K.f) e p ∧ Rel K (gd e p o) env oa σ F (upd H p o) k := by
  obtain ⟨G, R1⟩ := R.toRel0.guard (o := o) hp
  exact ⟨G, R1, R.lnk.gd G, R.pz⟩
theorem Rel.guarded (G : Gd (tabK K.f) e p) (R : Rel K (DL.gd e p o) env oa σ F H k) : H p = some o ∧ F p = none ∧ (∀ q, k = some q → p ≠ q.1 ∧ p ≠ q.2) ∧ ∀ i ds, env[i]? = some (Slot.own ds) → oa i ≠ p := R.toRel0.guarded G
theorem Rel.gset (L : Lnk K e F k) (G : Gd (tabK K.f) e p) (R : Rel K (DL.gd e p o) env oa σ F H k) (u : HO) (ho : ∀ c q, o ≠ LamX.CodeO c q := by intro c q z; unfold LamX.CodeO at z; cases z) : Rel K (DL.gd e p u) env oa σ F (upd H p u) k := ⟨R.toRel0.gset G u ho, L.gd G, R.pz⟩
theorem Rel.give (L : Lnk K e F k) (G : Gd (tabK K.f) e p) (R : Rel K (DL.gd e p o) env oa σ F H k) : Rel K e env oa σ (upd F p o) H k ∧ Grow F (upd F p o) k k := by
  obtain ⟨a, g⟩ := Rel0.give G R.toRel0
  exact ⟨⟨a, L.grow g, K.z.mono g R.pz⟩, g⟩
end
end DL
namespace DL
open PySem PySem.Spec L2
section
variable {K : PySem.W.Frag} {e : Ent} {env : Evn} {oa : Nat → Addr} {σ : St} {F H : Hp} {k : Dk} {p : Addr} {o u : HO}
theorem Rel0.clear (R : Rel0 K e env oa σ F H k) (i : Nat) : Rel0 K e (env.set i .no) oa (σ.set i none) F H k := by
  have back : ∀ (j : Nat) (s : Slot), s ≠ .no → (env.set i Slot.no)[j]? = some s → j ≠ i ∧ env[j]? = some s := fun j s hs h => by
    by_cases hj : j = i
    · subst hj
      by_cases hl : j < env.length
      · rw [List.getElem?_set_self hl] at h; cases h; exact absurd rfl hs
      · rw [List.getElem?_eq_none (by rw [List.length_set]; omega)] at h; cases h
    · rw [List.getElem?_set_ne (Ne.symm hj)] at h
      exact ⟨hj, h⟩
  refine ⟨R.wd, by rw [List.length_set, List.length_set]; exact R.len, fun j d h => ?_, fun j ds h => ?_, fun j j' ds es h h' => ?_⟩
  · obtain ⟨hj, h⟩ := back j _ (by simp) h
    obtain ⟨v, h1, h2⟩ := R.val j d h
    exact ⟨v, by rw [List.getElem?_set_ne (Ne.symm hj)]; exact h1, h2⟩
  · obtain ⟨hj, h⟩ := back j _ (by simp) h
    obtain ⟨h1, h2⟩ := R.own j ds h
    exact ⟨by rw [List.getElem?_set_ne (Ne.symm hj)]; exact h1, h2⟩
  · exact R.inj j j' ds es (back j _ (by simp) h).2 (back j' _ (by simp) h').2
def wipeD (env : Evn) : List Nat → Evn
  | [] => env
  | v :: vs => (wipeD env vs).set v .no
theorem Rel0.wipe (R : Rel0 K e env oa σ F H k) : ∀ vs : List Nat, Rel0 K e (wipeD env vs) oa (wipe σ vs) F H k
  | [] => R
  | v :: vs => (Rel0.wipe R vs).clear v
def keepS : Option Slot → Slot
  | some (.val d) => .val d
  | _ => .no
def restD (env : Evn) : List Nat → Evn → Evn
  | [], env4 => env4
  | v :: vs, env4 => (restD env vs env4).set v (keepS env[v]?)
theorem restD_length (env : Evn) : ∀ (vs : List Nat) (env4 : Evn), (restD env vs env4).length = env4.length
  | [], _ => rfl
  | v :: vs, env4 => by unfold restD; rw [List.length_set, restD_length env vs env4]
theorem restD_at {env env4 : Evn} {i : Nat} {s : Slot} : ∀ {vs : List Nat}, (restD env vs env4)[i]? = some s → (i ∈ vs ∧ s = keepS env[i]?) ∨ (i ∉ vs ∧ env4[i]? = some s)
  | [], h => .inr ⟨by simp, h⟩
  | v :: vs, h => by
    unfold restD at h
    by_cases hi : i = v
    · subst hi
      by_cases hl : i < (restD env vs env4).length
      · rw [List.getElem?_set_self hl] at h
        exact .inl ⟨by simp, (Option.some.inj h).symm⟩
      · rw [List.getElem?_eq_none (by rw [List.length_set]; omega)] at h; cases h
    · rw [List.getElem?_set_ne (Ne.symm hi)] at h
      rcases restD_at h with ⟨a, b⟩ | ⟨a, b⟩
      · exact .inl ⟨List.mem_cons_of_mem _ a, b⟩
      · exact .inr ⟨by simp only [List.mem_cons, not_or]; exact ⟨hi, a⟩, b⟩
theorem Rel0.restore {e' : Ent} {oa4 : Nat → Addr} {env4 : Evn} {σ4 : St} {F4 H4 : Hp} {k4 : Dk} (R : Rel0 K e' env oa σ F H k) (R4 : Rel0 K e env4 oa4 σ4 F4 H4 k4) (g : Grow F F4 k k4) {vs : List Nat} (hl : σ4.length = σ.length) (hs : ∀ j, j ∉ vs → σ4[j]? = σ[j]?) :
    Rel0 K e (restD env vs env4) oa4 σ F4 H4 k4 := by
  have own : ∀ (i : Nat) (ds : List D), (restD env vs env4)[i]? = some (.own ds) → i ∉ vs ∧ env4[i]? = some (.own ds) := fun i ds h => by
    rcases restD_at h with ⟨_, b⟩ | z
    · cases q : env[i]? with
      | none => rw [q] at b; cases b
      | some s => rw [q] at b; cases s <;> cases b
    · exact z
  refine ⟨R4.wd, by rw [restD_length, R4.len, hl], fun i d h => ?_, fun i ds h => ?_, fun i j ds es h h' => R4.inj i j ds es (own i ds h).2 (own j es h').2⟩
  · rcases restD_at h with ⟨_, b⟩ | ⟨hn, z⟩
    · cases q : env[i]? with
      | none => rw [q] at b; cases b
      | some s =>
        rw [q] at b
        cases s with
        | val d' =>
          cases b
          obtain ⟨v, h1, h2⟩ := R.val i d q
          exact ⟨v, h1, At.grow g d v h2⟩
        | no => cases b
        | own _ => cases b
    · obtain ⟨v, h1, h2⟩ := R4.val i d z
      exact ⟨v, by rw [← hs i hn]; exact h1, h2⟩
  · obtain ⟨hn, z⟩ := own i ds h
    obtain ⟨h1, h2⟩ := R4.own i ds z
    exact ⟨by rw [← hs i hn]; exact h1, h2⟩
end
section
variable {K : Kx} {e : Ent} {env : Evn} {oa : Nat → Addr} {σ : St} {F H : Hp} {k : Dk} {p : Addr} {o u : HO}
theorem Rel.wipe (R : Rel K e env oa σ F H k) (vs : List Nat) : Rel K e (wipeD env vs) oa (wipe σ vs) F H k := R.up (R.toRel0.wipe vs) (Grow.refl _ _)
theorem Rel.clear (R : Rel K e env oa σ F H k) (i : Nat) : Rel K e (env.set i .no) oa (σ.set i none) F H k := R.up (R.toRel0.clear i) (Grow.refl _ _)
theorem Rel.restore {e' : Ent} {oa4 : Nat → Addr} {env4 : Evn} {σ4 : St} {F4 H4 : Hp} {k4 : Dk} (R : Rel K e' env oa σ F H k) (R4 : Rel K e env4 oa4 σ4 F4 H4 k4) (g : Grow F F4 k k4) {vs : List Nat} (hl : σ4.length = σ.length) (hs : ∀ j, j ∉ vs → σ4[j]? = σ[j]?) :
    Rel K e (restD env vs env4) oa4 σ F4 H4 k4 := R4.up (Rel0.restore R.toRel0 R4.toRel0 g hl hs) (Grow.refl _ _)
end
def compL (g : DG) (t : DT) (f : DE) (vs : List Nat) : List D → List D → Evn → (List D → Evn → Prop) → Prop
  | [], acc, env, Q => Q acc env
  | d :: l, acc, env, Q => g d (wipeD env vs) fun env2 => t env2 fun b env3 => if b = true then f env3 fun y env4 => acc.length < 10000000 ∧ compL g t f vs l (acc ++ [y]) (restD env vs env4) Q else compL g t f vs l acc (restD env vs env3) Q
def dLc (fi : DA) (g : DG) (t : DT) (f : DE) (vs : List Nat) : DE := fun env Q => fi env fun ds env1 => compL g t f vs ds [] env1 fun acc env2 => Q (.lst acc) env2
theorem wipe_ext {σ σ' : St} : ∀ {vs : List Nat}, σ'.length = σ.length → (∀ j, j ∉ vs → σ'[j]? = σ[j]?) → wipe σ' vs = wipe σ vs := by
  intro vs hl hs
  apply List.ext_getElem?
  intro i
  by_cases hi : i ∈ vs
  · have z : ∀ τ : St, τ.length = σ.length → (wipe τ vs)[i]? = if i < σ.length then some none else none := fun τ ht => by
      by_cases hlt : i < σ.length
      · rw [if_pos hlt]
        cases q : (wipe τ vs)[i]? with
        | none => exact absurd (List.getElem?_eq_none_iff.mp q) (by rw [wipe_length, ht]; omega)
        | some s =>
          cases s with
          | none => rfl
          | some v => exact absurd hi (wipe_some q).2
      · rw [if_neg hlt, List.getElem?_eq_none (by rw [wipe_length, ht]; omega)]
    rw [z σ' hl, z σ rfl]
  · rw [wipe_out hi, wipe_out hi, hs i hi]
theorem lift_lc {K : Kx} {fi : DA} {g : DG} {t : DT} {f : DE} {vs L : List Nat} (hL : ∀ i ∈ L, i ∈ vs) : ∀ σ H Q, lift K (dLc fi g t f vs) σ H Q → tLc (liftI K fi) (liftG K L g) (liftT K t) (lift K f) vs σ H Q := fun σ H Q ⟨e, env, oa, F, k, P, R, p, q⟩ =>
  ⟨e, env, oa, F, k, _, R, p, fun ds env1 oa1 F1 H1 k1 J p1 R1 g1 runs => fun Dd hD => by
    refine ⟨fun i m H' => m = ds.length - i ∧ i ≤ ds.length ∧ ∃ acc vacc env' oa' F' k', Gd (tabK K.f) e Dd ∧ Rel K (gd e Dd (.lst vacc)) env' oa' σ F' H' k' ∧ Grow F1 F' k1 k' ∧ Ats K F' k' acc vacc ∧ compL g t f vs (ds.drop i) acc env' fun acc env2 => P (.lst acc) env2, ?_, ?_⟩
    · obtain ⟨G, R2⟩ := R1.guard (o := .lst []) hD
      exact ⟨ds.length, by simp, Nat.zero_le _, [], [], env1, oa1, F1, k1, G, R2, Grow.refl _ _, .nil, p1⟩
    rintro i m H2 ⟨rfl, hi, acc, vacc, env2, oa2, F2, k2, G, R2, g2, A2, p2⟩
    obtain ⟨hs, hg⟩ := runs _ env2 oa2 σ F2 H2 k2 i R2.toRel0 g2
    by_cases hlt : i < ds.length
    · refine .inr ⟨(hg ds[i] (by simp [hlt])).1, fun H' => ∃ acc vacc env' oa' F' k', Gd (tabK K.f) e Dd ∧ Rel K (gd e Dd (.lst vacc)) env' oa' σ F' H' k' ∧ Grow F1 F' k1 k' ∧ Ats K F' k' acc vacc ∧ compL g t f vs (ds.drop (i + 1)) acc env' fun acc env2 => P (.lst acc) env2,
        fun H' h => ⟨ds.length - (i + 1), by omega, rfl, hlt, h⟩, fun y H3 hy => ?_⟩
      obtain ⟨F3, R30, g3, a3⟩ := (hg ds[i] (by simp [hlt])).2 y H3 hy
      have R3 := R2.up R30 g3
      rw [List.drop_eq_getElem_cons hlt] at p2
      refine ⟨_, wipeD env2 vs, oa2, F3, k2, ds[i], _, R3.wipe vs, a3, p2, fun env4 oa4 σ4 F4 H4 k4 p4 R4 g4 l4 s4 => ?_⟩
      have l4' : σ4.length = σ.length := l4.trans (wipe_length σ vs)
      have s4' : ∀ j, j ∉ vs → σ4[j]? = σ[j]? := fun j hj => (s4 j fun z => hj (hL j z)).trans (wipe_out hj)
      refine ⟨by
        have := wipe_ext (vs := vs) l4' s4'
        exact this, _, env4, oa4, F4, k4, _, R4, p4, fun b env5 oa5 F5 H5 k5 p5 R5 g5 => ?_⟩
      cases b with
      | false =>
        have g35 := g4.trans g5
        exact ⟨acc, vacc, _, oa5, F5, k5, G, R3.restore R5 g35 l4' s4', g2.trans (g3.trans g35), Ats.grow (g3.trans g35) _ _ A2, p5⟩
      | true =>
        refine ⟨_, env5, oa5, F5, k5, _, R5, p5, fun d env6 v oa6 F6 H6 k6 p6 R6 g6 a6 => ?_⟩
        have g36 := g4.trans (g5.trans g6)
        obtain ⟨hH, _⟩ := R6.guarded G
        have hlen : vacc.length < sizeLine := by
          rw [← Ats.length A2]
          exact Nat.lt_of_lt_of_le p6.1 (size10 (Nat.le_refl _))
        have R6' := R3.restore R6 g36 l4' s4'
        exact ⟨vacc, hH, hlen, acc ++ [d], vacc ++ [v], _, oa6, F6, k6, G, R6'.gset (R1.lnk.grow (g2.trans (g3.trans g36))) G _, g2.trans (g3.trans g36), Ats.append (Ats.grow (g3.trans g36) _ _ A2) (.cons a6 .nil), p6.2⟩
    · have ei : i = ds.length := by omega
      subst ei
      rw [List.drop_length] at p2
      obtain ⟨R3, g3⟩ := R2.give (R1.lnk.grow g2) G
      refine .inl ⟨hs (Nat.le_refl _), q _ env2 _ oa2 _ H2 k2 p2 R3 (g1.trans (g2.trans g3)) ?_⟩
      simp only [At]
      exact ⟨Dd, vacc, rfl, upd_same, Ats.grow g3 _ _ A2⟩⟩
def dYes : DT := fun env Q => Q true env
section
variable {wx : DX} {WW : WX} {ZZ : Fz} {X : Cx}
theorem dts_nil : PTs X [] (liftT (X.kx wx WW ZZ) dYes) := ⟨fun pins s σ H Q I ⟨e, env, oa, F, k, P, R, p, q⟩ => pts_nil.run pins s σ H Q I (q true env oa F H k p R (Grow.refl _ _))⟩
theorem dl_lc {elt tg iter : Expr} {ifs : List Expr} {scope : Scope} {own : List (Str × Nat)} {pos : Pos} {fi : DA} {g : DG} {t : DT} {f : DE} {L : List Nat} (hc : X.calm = true) (hN : X.N.Nodup) (hi : PI X tg iter (liftI (X.kx wx WW ZZ) fi)) (ok : BlkOk X.N X.env.scope scope own)
    (hg : ∀ (s : Shared) (H : Hp) (C : Addr) (cl : List (Str × Addr)) (fp : List Addr), PG (X.blk s H scope (compEnvC scope cl C X.env) fp) tg (liftG (X.kx wx WW ZZ) L g)) (ht : ∀ (s : Shared) (H : Hp) (C : Addr) (cl : List (Str × Addr)) (fp : List Addr), PTs (X.blk s H scope (compEnvC scope cl C X.env) fp) ifs (liftT (X.kx wx WW ZZ) t))
    (he : ∀ (s : Shared) (H : Hp) (C : Addr) (cl : List (Str × Addr)) (fp : List Addr), PE (X.blk s H scope (compEnvC scope cl C X.env) fp) elt (lift (X.kx wx WW ZZ) f)) (hL : ∀ i ∈ L, i ∈ own.map (·.2)) (hs : ∀ x, foldedSetIterable iter X.env x = pure x := by intro _; rfl) :
    PE X (.ListComp elt [⟨tg, iter, ifs, 0⟩] scope pos) (lift (X.kx wx WW ZZ) (dLc fi g t f (own.map (·.2)))) := (pe_lc hc hN hi ok hg ht he hs).w (lift_lc hL)
theorem ds_setLc {i : Nat} {y : Str} {py : Pos} {elt tg iter : Expr} {ifs : List Expr} {scope : Scope} {own : List (Str × Nat)} {pos spos : Pos} {fi : DA} {g : DG} {t : DT} {f : DE} {L : List Nat} (hc : X.calm = true) (hN : X.N.Nodup) (hy : X.N[i]? = some y) (hyl : X.env.scope.names.lookup y = some .local)
    (hsw : swapsWith (.ListComp elt [⟨tg, iter, ifs, 0⟩] scope pos) (some (.Name y py)) spos.line X.env = pure true) (hi : PI X tg iter (liftI (X.kx wx WW ZZ) fi)) (ok : BlkOk X.N X.env.scope scope own)
    (hg : ∀ (s : Shared) (H : Hp) (C : Addr) (cl : List (Str × Addr)) (fp : List Addr), PG (X.blk s H scope (compEnvC scope cl C X.env) fp) tg (liftG (X.kx wx WW ZZ) L g)) (ht : ∀ (s : Shared) (H : Hp) (C : Addr) (cl : List (Str × Addr)) (fp : List Addr), PTs (X.blk s H scope (compEnvC scope cl C X.env) fp) ifs (liftT (X.kx wx WW ZZ) t))
    (he : ∀ (s : Shared) (H : Hp) (C : Addr) (cl : List (Str × Addr)) (fp : List Addr), PE (X.blk s H scope (compEnvC scope cl C X.env) fp) elt (lift (X.kx wx WW ZZ) f)) (hL : ∀ i ∈ L, i ∈ own.map (·.2)) (hs : ∀ x, foldedSetIterable iter X.env x = pure x := by intro _; rfl) :
    PS X (.Assign [.Name y py] (.ListComp elt [⟨tg, iter, ifs, 0⟩] scope pos) spos) (liftS (X.kx wx WW ZZ) (dAsg (dLc fi g t f (own.map (·.2))) (gName i))) :=
  (L2.ps_setLc (i := i) hc hN hy hyl hsw hi ok hg ht he hs).w fun E σ H ⟨e, env, oa, F, k, B, R, p, n, r, b, c⟩ => lift_lc hL σ H _ ⟨e, env, oa, F, k, _, R, p, fun d env1 w oa1 F1 H1 k1 p1 R1 g1 a1 => n _ oa1 _ F1 H1 k1 p1 (R1.put a1) g1⟩
end
end DL
namespace DL
open PySem PySem.Spec L2
/-! ### lists of the def's own -/
section
variable {K : PySem.W.Frag} {e : Ent} {env : Evn} {oa : Nat → Addr} {σ : St} {F H : Hp} {k : Dk} {p : Addr}
/-- a new list, bound to a slot -/
theorem Rel0.putOwn (R : Rel0 K e env oa σ F H k) (hp : H p = none) {ds : List D} {vs : List V} (hA : Ats K F k ds vs) (i : Nat) :
    Rel0 K e (env.set i (.own ds)) (fun j => if j = i then p else oa j) (σ.set i (some (.ref p))) F (upd H p (.lst vs)) k := by
  have W := R.wd
  have hF := W.noF hp
  have hD := W.noDk hp
  have keep : ∀ a u, H a = some u → upd H p (.lst vs) a = some u := fun a u q => by rw [upd_ne (ne_of_none q hp)]; exact q
  have back : ∀ (j : Nat) (s : Slot), j ≠ i → (env.set i (Slot.own ds))[j]? = some s → env[j]? = some s := fun j s hj h => by
    rw [List.getElem?_set_ne (Ne.symm hj)] at h; exact h
  have lt : ∀ (s : Slot), (env.set i (Slot.own ds))[i]? = some s → i < env.length ∧ s = .own ds := fun s h => by
    by_cases hl : i < env.length
    · rw [List.getElem?_set_self hl] at h; cases h; exact ⟨hl, rfl⟩
    · rw [List.getElem?_eq_none (by rw [List.length_set]; omega)] at h; cases h
  refine ⟨⟨fun a u q => keep _ _ (W.sub a u q), W.ini, W.new, fun a u q z z2 => keep _ _ (W.fr a u q z z2), W.kk1, W.kk2, fun q hq => ?_, tabs_upd W.tb hp, W.tbf⟩, by rw [List.length_set, List.length_set]; exact R.len, fun j d h => ?_, fun j es h => ?_, fun j j' es es' h h' hj => ?_⟩
  · obtain ⟨⟨kv, cs, h1, h2, h3⟩, h4, h5⟩ := W.dk q hq
    exact ⟨⟨kv, cs, keep _ _ h1, keep _ _ h2, h3⟩, h4, h5⟩
  · by_cases hj : j = i
    · subst hj; cases (lt _ h).2
    · obtain ⟨v, h1, h2⟩ := R.val j d (back j _ hj h)
      exact ⟨v, by rw [List.getElem?_set_ne (Ne.symm hj)]; exact h1, h2⟩
  · by_cases hj : j = i
    · subst hj
      obtain ⟨hl, e1⟩ := lt _ h
      cases e1
      rw [if_pos rfl]
      exact ⟨List.getElem?_set_self (by rw [← R.len]; exact hl), ⟨vs, upd_same, hA⟩, hF, W.old hp, hD⟩
    · obtain ⟨h1, ⟨us, h2, h3⟩, h4, h5, h6⟩ := R.own j es (back j _ hj h)
      rw [if_neg hj]
      exact ⟨by rw [List.getElem?_set_ne (Ne.symm hj)]; exact h1, ⟨us, keep _ _ h2, h3⟩, h4, h5, h6⟩
  · have nz : ∀ (m : Nat) (es : List D), m ≠ i → (env.set i (Slot.own ds))[m]? = some (.own es) → oa m ≠ p := fun m es hm hh => by
      obtain ⟨_, ⟨us, h2, _⟩, _⟩ := R.own m es (back m _ hm hh)
      exact ne_of_none h2 hp
    by_cases h1 : j = i
    · by_cases h2 : j' = i
      · rw [h1, h2]
      · rw [if_pos h1, if_neg h2] at hj
        exact absurd hj.symm (nz j' es' h2 h')
    · by_cases h2 : j' = i
      · rw [if_neg h1, if_pos h2] at hj
        exact absurd hj (nz j es h1 h)
      · rw [if_neg h1, if_neg h2] at hj
        exact R.inj j j' es es' (back j _ h1 h) (back j' _ h2 h') hj
/-- an own list is written -/
theorem Rel0.setOwn (R : Rel0 K e env oa σ F H k) {i : Nat} {ds es : List D} {us : List V} (hi : env[i]? = some (.own ds)) (hA : Ats K F k es us) : Rel0 K e (env.set i (.own es)) oa σ F (upd H (oa i) (.lst us)) k := by
  have W := R.wd
  obtain ⟨i1, ⟨vs, i2, i3⟩, i4, i5, i6⟩ := R.own i ds hi
  have hlt : i < env.length := (List.getElem?_eq_some_iff.mp hi).1
  have back : ∀ (j : Nat) (s : Slot), j ≠ i → (env.set i (Slot.own es))[j]? = some s → env[j]? = some s := fun j s hj h => by
    rw [List.getElem?_set_ne (Ne.symm hj)] at h; exact h
  have own' : ∀ (j : Nat) (fs : List D), (env.set i (Slot.own es))[j]? = some (.own fs) → ∃ gs, env[j]? = some (.own gs) := fun j fs h => by
    by_cases hj : j = i
    · subst hj; exact ⟨ds, hi⟩
    · exact ⟨fs, back j _ hj h⟩
  refine ⟨⟨fun a u q => ?_, W.ini, W.new, fun a u q z z2 => ?_, W.kk1, W.kk2, fun q hq => ?_, tabs_lst W.tb i2, W.tbf⟩, by rw [List.length_set]; exact R.len, fun j d h => ?_, fun j fs h => ?_, fun j j' fs fs' h h' hj => ?_⟩
  · rw [upd_ne fun z => by rw [z, i4] at q; cases q]; exact W.sub a u q
  · rw [upd_ne fun z => by rw [z, i5] at q; cases q]; exact W.fr a u q z z2
  · obtain ⟨⟨kv, cs, h1, h2, h3⟩, h4, h5⟩ := W.dk q hq
    obtain ⟨n1, n2⟩ := i6 q hq
    exact ⟨⟨kv, cs, (upd_ne (Ne.symm n1)).trans h1, (upd_ne (Ne.symm n2)).trans h2, h3⟩, h4, h5⟩
  · by_cases hj : j = i
    · subst hj; rw [List.getElem?_set_self hlt] at h; cases h
    · exact R.val j d (back j _ hj h)
  · by_cases hj : j = i
    · subst hj
      rw [List.getElem?_set_self hlt] at h
      cases h
      exact ⟨i1, ⟨us, upd_same, hA⟩, i4, i5, i6⟩
    · have hb := back j _ hj h
      obtain ⟨h1, ⟨us', h2, h3⟩, h4, h5, h6⟩ := R.own j fs hb
      have ne : oa j ≠ oa i := fun z => hj (R.inj j i fs ds hb hi z)
      exact ⟨h1, ⟨us', (upd_ne ne).trans h2, h3⟩, h4, h5, h6⟩
  · obtain ⟨gs, hg⟩ := own' j fs h
    obtain ⟨gs', hg'⟩ := own' j' fs' h'
    exact R.inj j j' gs gs' hg hg' hj
end
section
variable {K : Kx} {e : Ent} {env : Evn} {oa : Nat → Addr} {σ : St} {F H : Hp} {k : Dk} {p : Addr}
theorem Rel.putOwn (R : Rel K e env oa σ F H k) (hp : H p = none) {ds : List D} {vs : List V} (hA : Ats K F k ds vs) (i : Nat) :
    Rel K e (env.set i (.own ds)) (fun j => if j = i then p else oa j) (σ.set i (some (.ref p))) F (upd H p (.lst vs)) k := R.up (R.toRel0.putOwn hp hA i) (Grow.refl _ _)
theorem Rel.setOwn (R : Rel K e env oa σ F H k) {i : Nat} {ds es : List D} {us : List V} (hi : env[i]? = some (.own ds)) (hA : Ats K F k es us) : Rel K e (env.set i (.own es)) oa σ F (upd H (oa i) (.lst us)) k := R.up (R.toRel0.setOwn hi hA) (Grow.refl _ _)
end
section
variable {wx : DX} {WW : WX} {ZZ : Fz} {X : Cx} {a b c : Expr} {es : List Expr} {pos : Pos} {f g h : DE} {fa : DA}
def dNew (i : Nat) (fa : DA) : DS := fun B env => fa env fun ds env1 => ds.length ≤ 10000000 ∧ B.nx (env1.set i (.own ds))
/-- x = [..], the list to be changed later -/
theorem ds_new {i : Nat} {x : Str} {pos' lp : Pos} (hN : X.N.Nodup) (hi : X.N[i]? = some x) (hx : Loc X.env.scope x) (h : PA X es (liftA (X.kx wx WW ZZ) fa)) (hs : swapsWith (.List es lp) (some (.Name x pos')) pos.line X.env = pure false := by rfl)
    (hf : X.fn x = true ∨ X.env.scope.names.lookup x = some .local := by first | exact .inl rfl | exact .inr rfl | assumption) : PS X (.Assign [.Name x pos'] (.List es lp) pos) (liftS (X.kx wx WW ZZ) (dNew i fa)) :=
  (ps_set (i := i) hN hi hx (pe_lst h) hs hf).w fun E σ H ⟨e, env, oa, F, k, B, R, p, n, r, b, c⟩ => ⟨e, env, oa, F, k, _, R, p, fun ds env1 vs oa1 F1 H1 k1 ⟨z, p1⟩ R1 g1 a1 => ⟨by rw [← Ats.length a1]; exact size10 z, fun t ht =>
    n _ _ _ F1 _ k1 p1 (R1.putOwn ht a1 i) g1⟩⟩
def isOwn : Option Slot → Bool
  | some (.own _) => true
  | _ => false
def dAppend (i : Nat) (f : DE) : DS := fun B env => isOwn env[i]? = true ∧ f env fun d env1 => match env1[i]? with
  | some (.own ds) => ds.length < 10000000 ∧ B.nx (env1.set i (.own (ds ++ [d])))
  | _ => False
/-- x.append(e) -/
theorem ds_append {i : Nat} {o : Expr} {apos cpos : Pos} (ho : PE X o (tVar i)) (h : PE X a (lift (X.kx wx WW ZZ) f)) (hbase : attributeBase o "append" X.env (eval o X.env) = eval o X.env := by rfl)
    (hfew : ((backTo cpos (starEach [a] X.env)).all (fun x => !x.1) && (backToKw cpos (keywordEach [] X.env)).all (fun x => x.1.isSome) && decide (([a] : List Expr).length + ([] : List Keyword).length + (if ([] : List Keyword).isEmpty then 0 else 1) < 30)) = true := by rfl)
    (hline : (apos.endLine == cpos.line) = true := by rfl) (hs : starEach [a] X.env = (false, eval a X.env) :: starEach [] X.env := by rfl) (hplain : (backTo cpos (starEach [] X.env)).any (·.1) = false := by rfl) (hs0 : starEach [] X.env = [] := by rfl)
    (hsw : swapsWith (.Call (.Attribute o "append" apos) [a] [] cpos) none pos.line X.env = pure false := by rfl) : PS X (.Expr (.Call (.Attribute o "append" apos) [a] [] cpos) pos) (liftS (X.kx wx WW ZZ) (dAppend i f)) :=
  (ps_expr (pe_bm PySem.F.plainAttrs_list PySem.F.slot_list_append PySem.F.type_list_append mt_append ho (pa_cons h pa_nil hs) hbase hfew hline hs hplain) hsw).w fun E σ H ⟨e, env, oa, F, k, B, R, ⟨po, p⟩, n, r, b, c⟩ => by
    cases hq : env[i]? with
    | none => rw [hq] at po; cases po
    | some s =>
      cases s with
      | no => rw [hq] at po; cases po
      | val _ => rw [hq] at po; cases po
      | own ds0 =>
        obtain ⟨i1, ⟨vs0, i2, i3⟩, i4, i5, i6⟩ := R.own i ds0 hq
        refine ⟨_, i1, .inl ⟨rfl, vs0, SqL.of i2⟩, e, env, oa, F, k, _, R, p, fun d env1 v oa1 F1 H1 k1 p1 R1 g1 a1 => ?_⟩
        cases hq1 : env1[i]? with
        | none => rw [hq1] at p1; exact p1.elim
        | some s =>
          rw [hq1] at p1
          cases s with
          | no => exact p1.elim
          | val _ => exact p1.elim
          | own ds =>
            obtain ⟨j1, ⟨vs, j2, j3⟩, j4, j5, j6⟩ := R1.own i ds hq1
            have eo : oa i = oa1 i := by
              rw [i1] at j1
              exact V.ref.inj (Option.some.inj (Option.some.inj j1))
            refine ⟨oa i, vs, v, rfl, rfl, by rw [eo]; exact j2, by rw [← Ats.length j3]; exact Nat.lt_of_lt_of_le p1.1 (size10 (Nat.le_refl _)), ?_⟩
            rw [eo]
            exact n _ oa1 σ F1 _ k1 p1.2 (R1.setOwn hq1 (Ats.append j3 (.cons a1 .nil))) g1
/-! ### dict displays -/
def dDic0 : DE := fun env Q => Q (.dic []) env
theorem dl_dic0 : PE X (.Dict [] [] pos) (lift (X.kx wx WW ZZ) dDic0) := pe_dnewK.w fun σ H Q ⟨e, env, oa, F, k, P, R, p, q⟩ t ht => by
  obtain ⟨R2, g2⟩ := R.laid ht (.dK [])
  exact q _ env _ oa _ _ k p R2 g2 (by simp only [At]; exact ⟨t, [], rfl, upd_same, by simp only [Atk]⟩)
def dDic1 (s : Str) (f : DE) : DE := fun env Q => f env fun d env1 => Q (.dic [(.inr s, d)]) env1
theorem dl_dic1 {s : Str} {j : Nat} {kp : Pos} (h : PE X a (lift (X.kx wx WW ZZ) f)) : PE X (.Dict [some (.Constant (.str s) j kp)] [a] pos) (lift (X.kx wx WW ZZ) (dDic1 s f)) :=
  (pe_disp (pps_cons pe_str h pps_nil) rfl rfl (by simp) (by show 1 ≤ 15; decide)).w fun σ H Q ⟨e, env, oa, F, k, P, R, p, q⟩ t ht => by
    obtain ⟨G, R1⟩ := R.guard (o := .dK []) ht
    refine ⟨_, env, oa, F, k, _, R1, p, fun d env2 v oa2 F2 H2 k2 p2 R2 g2 a2 => ?_⟩
    refine ⟨(R2.guarded G).1, [(.inr s, v)], rfl, (by show 1 ≤ 15; decide), ?_⟩
    obtain ⟨R3, g3⟩ := (R2.gset (R.lnk.grow g2) G (.dK [(.inr s, v)])).give (R.lnk.grow g2) G
    refine q _ env2 _ oa2 _ _ k2 p2 R3 (g2.trans g3) ?_
    simp only [At]
    refine ⟨t, [(.inr s, v)], rfl, upd_same, ?_⟩
    simp only [Atk]
    exact ⟨v, [], rfl, At.grow g3 _ _ a2, rfl⟩
end
/-! ### calls with keywords -/
def pickL {α : Type} (ix : List Nat) (l : List α) : List α := ix.filterMap fun i => l[i]?
theorem vals_pick {vs : List V} {us : List Value} (r : Vals vs us) : ∀ ix : List Nat, Vals (pickL ix vs) (pickL ix us)
  | [] => .nil
  | i :: ix => by
    have ih := vals_pick r ix
    unfold pickL at ih ⊢
    rw [List.filterMap_cons, List.filterMap_cons]
    cases q : vs[i]? with
    | none => rw [Vals.none_of r q]; exact ih
    | some v =>
      obtain ⟨u, h1, h2⟩ := Vals.get r q
      rw [h1]
      exact .cons h2 ih
theorem ats_pick {K : PySem.W.Frag} {F : Hp} {k : Dk} {ds : List D} {vs : List V} (r : Ats K F k ds vs) : ∀ ix : List Nat, Ats K F k (pickL ix ds) (pickL ix vs)
  | [] => .nil
  | i :: ix => by
    have ih := ats_pick r ix
    unfold pickL at ih ⊢
    rw [List.filterMap_cons, List.filterMap_cons]
    cases q : ds[i]? with
    | none =>
      have : vs[i]? = none := by
        rw [List.getElem?_eq_none_iff] at q ⊢
        rw [← Ats.length r]; exact q
      rw [this]; exact ih
    | some d =>
      obtain ⟨v, h1, h2⟩ := Ats.get r i d q
      rw [h1]
      exact .cons h2 ih
/-- how a call with n positional values and the keywords ks binds -/
def KwB (K : PySem.W.Frag) (fd : FuncData) (ps : List Str) (n : Nat) (ks : List Str) (ix : List Nat) : Prop := ∀ (s : Shared) (us ws : List Value), us.length = n → ws.length = ks.length → BindsTo s fd ⟨us, ks.zip ws⟩ (ps.zip (pickL ix (us ++ ws)))
theorem kwB {K : PySem.W.Frag} {x qual : Str} {params : Arguments} {body : List Stmt} {scope : Scope} {kws : List (Str × V)} {f : Addr} {fd : FuncData} {ps : List Str} {n : Nat} {ks : List Str} {ix : List Nat} (F : FunD K x qual params body scope [] kws f fd)
    (h : ∀ (kV doc pm : Value) (an : Option Addr) (cdv ct : Value) (us ws : List Value), us.length = n → ws.length = ks.length → bindArgs (PySem.W.fnOf x qual params body scope .none kV doc pm an cdv ct) ⟨us, ks.zip ws⟩ = pure (ps.zip (pickL ix (us ++ ws)))) : KwB K fd ps n ks ix := by
  obtain ⟨oc, od, dV, kV, doc, pm, an, cdv, ct, osl, rfl, lk, hcd, hD, hK⟩ := F.ex
  rcases hD with ⟨_, rfl⟩ | ⟨z, _⟩
  · exact fun s us ws l1 l2 => .of_eq (h kV doc pm an cdv ct us ws l1 l2)
  · exact absurd rfl z
def liftK := liftA
def dCallK (S : SD) (n m : Nat) (ix : List Nat) (fa fk : DA) : DE := fun env Q => fa env fun ds env1 => fk env1 fun zs env2 => (ds.length = n ∧ zs.length = m) ∧ S (pickL ix (ds ++ zs)) (fun d => Q d env2) fun _ => False
section
variable {wx : DX} {WW : WX} {ZZ : Fz} {X : Cx} {k : Nat} {f : Addr} {fd : FuncData} {ps ks : List Str} {S : SD} {x : Str} {p pos : Pos} {e : Expr} {es : List Expr} {kws : List Keyword} {fa fk : DA} {n : Nat} {ix : List Nat}
theorem _root_.L2.PK.w {a : List Keyword} {t t' : TA} (h : PK X a t) (w : ∀ σ H Q, t' σ H Q → t σ H Q) : PK X a t' := ⟨fun pos pins s σ H Q I q => h.run pos pins s σ H Q I (w _ _ _ q)⟩
theorem dk_nil : PK X [] (liftA (X.kx wx WW ZZ) dNil) := pk_nil.w fun σ H Q ⟨e, env, oa, F, k, P, R, p, q⟩ => q [] env [] oa F H k p R (Grow.refl _ _) .nil
theorem dk_cons {a : Expr} {g : DE} {nm : Option Str} {kpos : Pos} (ha : PE X a (lift (X.kx wx WW ZZ) g)) (hr : PK X kws (liftA (X.kx wx WW ZZ) fk)) : PK X (⟨nm, a, kpos⟩ :: kws) (liftA (X.kx wx WW ZZ) (dCons g fk)) :=
  (pk_cons ha hr).w fun σ H Q ⟨e, env, oa, F, k, P, R, p, q⟩ => ⟨e, env, oa, F, k, _, R, p, fun d env1 v oa1 F1 H1 k1 p1 R1 g1 a1 => ⟨e, env1, oa1, F1, k1, _, R1, p1, fun ds env2 vs oa2 F2 H2 k2 p2 R2 g2 a2 =>
    q (d :: ds) env2 (v :: vs) oa2 F2 H2 k2 p2 R2 (g1.trans g2) (.cons (At.grow g2 _ _ a1) a2)⟩⟩
/-- the callee, at data -/
theorem ranD {pins : List (Addr × Obj)} {σ : L2.St} {H : Hp} {s : Shared} {args : Args} {us : List Value} {vs : List V} {en : Ent} {env : Evn} {oa : Nat → Addr} {F : Hp} {dk : Dk} {ds : List D} {PP : D → Prop} {Q : VK} (FN : FnG X.prog X.w X.K X.mg X.base (L2.CX X.prog X.w) k f fd ps (spD X.K X.mg S))
    (gd : X.A.guards = some []) (hr : Room k X.A) (I : L2.Inv X pins σ H s) (hb : BindsTo s fd args (ps.zip us)) (rv : Vals vs us) (R : Rel (X.kx wx WW ZZ) en env oa σ F H dk) (a : Ats X.K F dk ds vs) (h : S ds PP fun _ => False)
    (q : ∀ d v F' H' k', PP d → Rel (X.kx wx WW ZZ) en env oa σ F' H' k' → Grow F F' dk k' → At X.K F' k' d v → Q v H') : wpAny (model X.prog X.w) X.A (call (.ref f) args.pos args.kw) (EP X pins σ Q) X.xe s := by
  have hsp : spD X.K X.mg S vs H Q E0 := ⟨ds, F, dk, PP, _, R.self, a, h, fun d v H' pd ⟨F', k', W, ad⟩ => by
    obtain ⟨R2, g2⟩ := R.after W
    exact q d v F' H' k' pd R2 g2 ad, fun _ _ _ _ z _ => z.elim⟩
  refine PySem.wpAny_call (codeAny_mono (ranG FN gd hr (E := E0) passL I hb rv hsp) ?_)
  intro r s' z
  rcases r with z' | fl
  · exact z
  · cases fl <;> exact z
theorem dl_callK (FN : FnG X.prog X.w X.K X.mg X.base (L2.CX X.prog X.w) k f fd ps (spD X.K X.mg S)) (gd : X.A.guards = some []) (hr : Room k X.A) (hg : Gl X x) (hm : X.mg x = some (.ref f)) (hk : PySem.W.keepIn X.K (.ref f) = true) (hb : KwB X.K fd ps n ks ix)
    (ha : PA X (e :: es) (liftA (X.kx wx WW ZZ) fa)) (hkw : PK X kws (liftA (X.kx wx WW ZZ) fk)) (hall : (backToKw pos (keywordEach kws X.env)).all (·.1.isSome) = true := by rfl) (hks : (backToKw pos (keywordEach kws X.env)).filterMap (·.1) = ks := by rfl)
    (hdb : (x == ("__debug__" : Str)) = false := by decide) (he : starEach (e :: es) X.env = (false, eval e X.env) :: starEach es X.env := by rfl)
    (hpl : ((backTo pos (starEach (e :: es) X.env)).any (·.1) || (backToKw pos (keywordEach kws X.env)).any (·.1.isNone)) = false := by rfl) :
    PE X (.Call (.Name x p) (e :: es) kws pos) (lift (X.kx wx WW ZZ) (dCallK S n ks.length ix fa fk)) := by
  constructor
  intro pins s σ H Q I ⟨en, env, oa, F, dk, P, R, pp, q⟩
  apply wpAny_Call_Name_kw (ld_glob I hg hm _ hdb)
  refine PySem.W.callWith_KW I.ok.mod.kin hk hall (thn (ha.run pos pins s σ H (fun vs H1 => ∃ ds env1 oa1 F1 k1, _ ∧ Rel (X.kx wx WW ZZ) en env1 oa1 σ F1 H1 k1 ∧ Grow F F1 dk k1 ∧ Ats X.K F1 k1 ds vs) I ⟨en, env, oa, F, dk, _, R, pp, fun ds env1 vs oa1 F1 H1 k1 p1 R1 g1 a1 => ⟨ds, env1, oa1, F1, k1, p1, R1, g1, a1⟩⟩) ?_) hpl he
  rintro us s1 ⟨vs, H1, I1, r1, ds, env1, oa1, F1, k1, p1, R1, g1, a1⟩
  refine thn (hkw.run pos pins s1 σ H1 (fun vs H2 => ∃ zs env2 oa2 F2 k2, _ ∧ Rel (X.kx wx WW ZZ) en env2 oa2 σ F2 H2 k2 ∧ Grow F1 F2 k1 k2 ∧ Ats X.K F2 k2 zs vs) I1 ⟨en, env1, oa1, F1, k1, _, R1, p1, fun ds env1 vs oa1 F1 H1 k1 p1 R1 g1 a1 => ⟨ds, env1, oa1, F1, k1, p1, R1, g1, a1⟩⟩) ?_
  rintro ws s2 ⟨zv, H2, I2, r2, zs, env2, oa2, F2, k2, ⟨⟨l1, l2⟩, p2⟩, R2, g2, a2⟩
  refine ⟨I2.kIn, ?_⟩
  rw [hks]
  have a12 := Ats.append (Ats.grow g2 _ _ a1) a2
  have l1' : us.length = n := by rw [← r1.length, ← Ats.length a1]; exact l1
  have l2' : ws.length = ks.length := by rw [← r2.length, ← Ats.length a2]; exact l2
  exact ranD (args := ⟨us, ks.zip ws⟩) FN gd hr I2 (hb s2 us ws l1' l2') (vals_pick (r1.append r2) ix) R2 (ats_pick a12 ix) p2 fun d v F' H' k' pd R' g' a' => q d env2 v oa2 F' H' k' pd R' (g1.trans (g2.trans g')) a'
theorem dl_callK0 (FN : FnG X.prog X.w X.K X.mg X.base (L2.CX X.prog X.w) k f fd ps (spD X.K X.mg S)) (gd : X.A.guards = some []) (hr : Room k X.A) (hg : Gl X x) (hm : X.mg x = some (.ref f)) (hk : PySem.W.keepIn X.K (.ref f) = true) (hb : KwB X.K fd ps 0 ks ix)
    (hkw : PK X kws (liftA (X.kx wx WW ZZ) fk)) (hall : (backToKw pos (keywordEach kws X.env)).all (·.1.isSome) = true := by rfl) (hks : (backToKw pos (keywordEach kws X.env)).filterMap (·.1) = ks := by rfl)
    (hdb : (x == ("__debug__" : Str)) = false := by decide) (hpl : ((backTo pos (starEach [] X.env)).any (·.1) || (backToKw pos (keywordEach kws X.env)).any (·.1.isNone)) = false := by rfl) :
    PE X (.Call (.Name x p) [] kws pos) (lift (X.kx wx WW ZZ) (dCallK S 0 ks.length ix dNil fk)) := by
  constructor
  intro pins s σ H Q I ⟨en, env, oa, F, dk, P, R, pp, q⟩
  apply wpAny_Call_Name_kw (ld_glob I hg hm _ hdb)
  refine PySem.W.callWith_KW0 I.kIn hk hall ?_ hpl
  refine thn (hkw.run pos pins s σ H (fun vs H2 => ∃ zs env2 oa2 F2 k2, _ ∧ Rel (X.kx wx WW ZZ) en env2 oa2 σ F2 H2 k2 ∧ Grow F F2 dk k2 ∧ Ats X.K F2 k2 zs vs) I ⟨en, env, oa, F, dk, _, R, pp, fun ds env1 vs oa1 F1 H1 k1 p1 R1 g1 a1 => ⟨ds, env1, oa1, F1, k1, p1, R1, g1, a1⟩⟩) ?_
  rintro ws s2 ⟨zv, H2, I2, r2, zs, env2, oa2, F2, k2, ⟨⟨l1, l2⟩, p2⟩, R2, g2, a2⟩
  refine ⟨I2.kIn, ?_⟩
  rw [hks]
  have l2' : ws.length = ks.length := by rw [← r2.length, ← Ats.length a2]; exact l2
  exact ranD (args := ⟨[], ks.zip ws⟩) FN gd hr I2 (hb s2 [] ws rfl l2') (vals_pick r2 ix) R2 (ats_pick a2 ix) p2 fun d v F' H' k' pd R' g' a' => q d env2 v oa2 F' H' k' pd R' (g2.trans g') a'
end
end DL
namespace DL
open PySem PySem.Spec L2
/-! ### a def that others call -/
structure Cal (P : Program) (w : World) (K : PySem.W.Frag) (mg : Str → Option Value) (base : Heap) (x : Str) (ps : List Str) (n : Nat) (kw : List (Nat × List Str × List Nat)) (S : SD) : Prop where
  ex : ∃ a fd, FnG P w K mg base (L2.CX P w) n a fd ps (spD K mg S) ∧ mg x = some (.ref a) ∧ PySem.W.keepIn K (.ref a) = true ∧ Binds K fd ps [] ∧ ∀ t ∈ kw, KwB K fd ps t.1 t.2.1 t.2.2
section
variable {wx : DX} {WW : WX} {ZZ : Fz} {X : Cx} {k n : Nat} {ps ks : List Str} {S : SD} {x : Str} {p pos : Pos} {e : Expr} {es : List Expr} {kws : List Keyword} {fa fk : DA} {ix : List Nat} {kw : List (Nat × List Str × List Nat)}
theorem dc (C : Cal X.prog X.w X.K X.mg X.base x ps k kw S) (gd : X.A.guards = some []) (hr : Room k X.A) (hg : Gl X x)
    (ha : PA X (e :: es) (liftA (X.kx wx WW ZZ) fa)) (hdb : (x == ("__debug__" : Str)) = false := by decide) (he : starEach (e :: es) X.env = (false, eval e X.env) :: starEach es X.env := by rfl) (hpl : (backTo pos (starEach es X.env)).any (·.1) = false := by rfl) :
    PE X (.Call (.Name x p) (e :: es) [] pos) (lift (X.kx wx WW ZZ) (dCall S fa)) := by
  obtain ⟨a, fd, F, hm, hk, hb, _⟩ := C.ex
  exact dl_call F gd hr hg hm hk hb ha hdb he hpl
theorem dc0 (C : Cal X.prog X.w X.K X.mg X.base x ps k kw S) (gd : X.A.guards = some []) (hr : Room k X.A) (hg : Gl X x) (hdb : (x == ("__debug__" : Str)) = false := by decide) :
    PE X (.Call (.Name x p) [] [] pos) (lift (X.kx wx WW ZZ) (dCall S dNil)) := by
  obtain ⟨a, fd, F, hm, hk, hb, _⟩ := C.ex
  exact dl_call0 F gd hr hg hm hk hb hdb
theorem dck (C : Cal X.prog X.w X.K X.mg X.base x ps k kw S) (gd : X.A.guards = some []) (hr : Room k X.A) (hg : Gl X x) (hw : (n, ks, ix) ∈ kw)
    (ha : PA X (e :: es) (liftA (X.kx wx WW ZZ) fa)) (hkw : PK X kws (liftA (X.kx wx WW ZZ) fk)) (hall : (backToKw pos (keywordEach kws X.env)).all (·.1.isSome) = true := by rfl) (hks : (backToKw pos (keywordEach kws X.env)).filterMap (·.1) = ks := by rfl)
    (hdb : (x == ("__debug__" : Str)) = false := by decide) (he : starEach (e :: es) X.env = (false, eval e X.env) :: starEach es X.env := by rfl)
    (hpl : ((backTo pos (starEach (e :: es) X.env)).any (·.1) || (backToKw pos (keywordEach kws X.env)).any (·.1.isNone)) = false := by rfl) :
    PE X (.Call (.Name x p) (e :: es) kws pos) (lift (X.kx wx WW ZZ) (dCallK S n ks.length ix fa fk)) := by
  obtain ⟨a, fd, F, hm, hk, hb, hq⟩ := C.ex
  exact dl_callK F gd hr hg hm hk (hq _ hw) ha hkw hall hks hdb he hpl
theorem dck0 (C : Cal X.prog X.w X.K X.mg X.base x ps k kw S) (gd : X.A.guards = some []) (hr : Room k X.A) (hg : Gl X x) (hw : (0, ks, ix) ∈ kw)
    (hkw : PK X kws (liftA (X.kx wx WW ZZ) fk)) (hall : (backToKw pos (keywordEach kws X.env)).all (·.1.isSome) = true := by rfl) (hks : (backToKw pos (keywordEach kws X.env)).filterMap (·.1) = ks := by rfl)
    (hdb : (x == ("__debug__" : Str)) = false := by decide) (hpl : ((backTo pos (starEach [] X.env)).any (·.1) || (backToKw pos (keywordEach kws X.env)).any (·.1.isNone)) = false := by rfl) :
    PE X (.Call (.Name x p) [] kws pos) (lift (X.kx wx WW ZZ) (dCallK S 0 ks.length ix dNil fk)) := by
  obtain ⟨a, fd, F, hm, hk, hb, hq⟩ := C.ex
  exact dl_callK0 F gd hr hg hm hk (hq _ hw) hkw hall hks hdb hpl
end
/-! ### built-ins' names -/
theorem bt_isinstance : bootBuiltins "isinstance" = some (.builtin "isinstance") := by decide +kernel
theorem bt_len : bootBuiltins "len" = some (.builtin "len") := by decide +kernel
theorem bt_all : bootBuiltins "all" = some (.builtin "all") := by decide +kernel
theorem bt_any : bootBuiltins "any" = some (.builtin "any") := by decide +kernel
theorem bt_abs : bootBuiltins "abs" = some (.builtin "abs") := by decide +kernel
theorem bt_max : bootBuiltins "max" = some (.builtin "max") := by decide +kernel
theorem bt_min : bootBuiltins "min" = some (.builtin "min") := by decide +kernel
theorem bt_repr : bootBuiltins "repr" = some (.builtin "repr") := by decide +kernel
theorem bt_sum : bootBuiltins "sum" = some (.builtin "sum") := by decide +kernel
theorem bt_sorted : bootBuiltins "sorted" = some (.builtin "sorted") := by decide +kernel
theorem bt_int : bootBuiltins "int" = some (.type "int") := by decide +kernel
theorem bt_bool : bootBuiltins "bool" = some (.type "bool") := by decide +kernel
theorem bt_str : bootBuiltins "str" = some (.type "str") := by decide +kernel
theorem bt_list : bootBuiltins "list" = some (.type "list") := by decide +kernel
theorem bt_tuple : bootBuiltins "tuple" = some (.type "tuple") := by decide +kernel
theorem bt_dict : bootBuiltins "dict" = some (.type "dict") := by decide +kernel
theorem bt_range : bootBuiltins "range" = some (.type "range") := by decide +kernel
/-! ### the law's own end -/
def spLaw (K : PySem.W.Frag) : Sp := fun vs H Q _ => ∃ (p : Addr) (ns : List Int), vs = [.ref p] ∧ SqL K H p (ns.map V.int) ∧ ns.length ≤ 63 ∧ LamX.Tabs (tabK K) H ∧ ∀ H', Q (.bl true) H'
theorem tabOne_of {K : PySem.W.Frag} {q : Addr × Obj} {t : Addr × Addr × Str} (h : tabOne K q = some t) : PySem.W.codeHdIn K t.1 t.2.1 = true ∧ K.lookup t.2.1 = none := by
  unfold tabOne at h
  split at h
  · split at h
    · split at h
      · rename_i hc
        cases h
        rw [Bool.and_eq_true, Option.isNone_iff_eq_none] at hc
        exact hc
      · cases h
    · cases h
  · cases h
theorem tabC_of {K : PySem.W.Frag} {t : Addr × Addr × Str} (h : t ∈ tabC K) : PySem.W.codeHdIn K t.1 t.2.1 = true ∧ K.lookup t.2.1 = none := by
  obtain ⟨q, _, e⟩ := List.mem_filterMap.mp h
  exact tabOne_of e
abbrev nilT : Obj := { cls := .none, data := .fields #[] }
/-- the main module's built-ins, in the heap -/
def BmAt (mg : Str → Option Value) (h : Heap) : Prop := ∃ (u : Addr) (o : Obj), mg "__builtins__" = some (.ref u) ∧ u ≠ builtinsNs ∧ h.get? u = some o ∧ o.cls = .type "module" ∧ o.dict = some builtinsNs ∧ o.data = .plain
/-- the law, called: K its written part, H nothing but the script and the tables of code objects -/
theorem lawG {P : Program} {w : World} {K : PySem.W.Frag} {mg mb : Str → Option Value} {n : Nat} {fa p : Addr} {fd : FuncData} {x : Str} {s1 : Shared} {vs : List Value} {ns : List Int}
    (inK : K.In s1.heap) (tabs : TabsAt s1.heap K) (main : s1.heap.Ns mainGlobals mg) (blt : s1.heap.Ns builtinsNs mb) (bts : ∀ y : Str, y ≠ "__name__" → mb y = bootBuiltins y) (lim : s1.heap.NoLimit) (gens : s1.gens = #[]) (bmm : BmAt mg s1.heap)
    (obj : s1.heap.get? p = some { cls := .type "list", data := .seq vs.toArray }) (are : PyProof.Rows.IntsAre vs ns) (len : ns.length ≤ 63) (room : Room n PySem.callerA)
    (F : ∀ base : Heap, K.In base → base.Ns mainGlobals mg → (∀ t ∈ tabC K, LamX.TabB base mg t.1 t.2.1) → FnG P w K mg base (L2.CX P w) n fa fd [x] (spLaw K)) (binds : ∀ (s : Shared) (u : Value), BindsTo s fd ⟨[u], []⟩ [(x, u)]) :
    codeAny (model P w) PySem.callerA (.call (.ref fa) ⟨[.ref p], []⟩) (fun r s' => r = .ok (.ret (.bool true)) ∧ PySem.OldK s1.heap s'.heap ∧ s'.os = s1.os ∧ PyProof.Rows.AllBare s'.gens) s1 := by
  have rv := vals_ints are
  have lvs := are.length
  have hd := fun t ht => PySem.W.codeHd_of_K inK (tabC_of (K := K) (t := t) ht).1
  have isT : ∀ b : Addr, b ∈ (tabC K).map (·.2.1) → s1.heap.get? b = some nilT ∧ K.lookup b = none := fun b hb => by
    obtain ⟨t, ht, z⟩ := List.mem_map.mp hb
    subst z
    exact ⟨tabs.empty t ht, (tabC_of ht).2⟩
  have memT : ∀ t ∈ tabC K, t.2.1 ∈ (tabC K).map (·.2.1) := fun t ht => List.mem_map_of_mem ht
  have pT : p ∉ (tabC K).map (·.2.1) := fun z => by
    have q := (isT p z).1
    rw [obj] at q
    exact (by simpa using congrArg Obj.data (Option.some.inj q) : False)
  have go : ∀ H : Hp, (∀ b ∈ (tabC K).map (·.2.1), H b = some (.tbl #[])) → (∀ b, b ∉ (tabC K).map (·.2.1) → H b = none ∨ ∃ o xs, H b = some (.frz o (.lst xs))) → SqL K H p (ns.map V.int) → HOk P w H s1.heap →
      (∀ q, H q ≠ none → (q = p ∧ K.lookup p = none) ∨ q ∈ (tabC K).map (·.2.1)) →
      codeAny (model P w) PySem.callerA (.call (.ref fa) ⟨[.ref p], []⟩) (fun r s' => r = .ok (.ret (.bool true)) ∧ PySem.OldK s1.heap s'.heap ∧ s'.os = s1.os ∧ PyProof.Rows.AllBare s'.gens) s1 := by
    intro H tbl only seq ok here
    have off : ∀ {q : Addr} {o : Obj}, s1.heap.get? q = some o → (∀ a b, o.data ≠ .seq a b) → o.data ≠ .fields #[] → H q = none := by
      intro q o h1 h2 h3
      cases e : H q with
      | none => rfl
      | some u =>
        rcases here q (by rw [e]; simp) with ⟨rfl, _⟩ | h4
        · rw [obj] at h1
          cases h1
          exact absurd rfl (h2 _ _)
        · rw [(isT q h4).1] at h1
          cases h1
          exact absurd rfl h3
    have offK : ∀ {q : Addr} {o : Obj}, K.lookup q = some o → H q = none := by
      intro q o h1
      cases e : H q with
      | none => rfl
      | some u =>
        rcases here q (by rw [e]; simp) with ⟨rfl, h2⟩ | h4
        · rw [h1] at h2; cases h2
        · rw [(isT q h4).2] at h1; cases h1
    have nsB : ∀ {q : Addr} {m : Str → Option Value}, s1.heap.Ns q m → (hidT s1.heap H).Ns q m := by
      rintro q m ⟨o, es, ep, h1, h2, h3⟩
      exact ⟨o, es, ep, hidT_get h1 (off h1 (fun a b z => by rw [h2] at z; cases z) fun z => by rw [h2] at z; cases z), h2, h3⟩
    have kB : K.In (hidT s1.heap H) := fun q o h1 => hidT_get (inK q o h1) (offK h1)
    have tB : ∀ t ∈ tabC K, LamX.TabB (hidT s1.heap H) mg t.1 t.2.1 := fun t ht => by
      refine ⟨PySem.W.codeHd_of_K kB (tabC_of ht).1, ?_, fun z => ?_⟩
      · obtain ⟨u, o, b1, b2, b3, b4, b5, b6⟩ := bmm
        have n1 : u ≠ mainGlobals := fun z => by
          obtain ⟨o2, es, ep, c1, c2, _⟩ := main
          rw [← z, b3] at c1
          cases c1
          rw [b6] at c2; cases c2
        have n2 : u ≠ t.2.1 := fun z => by
          have c1 := tabs.empty t ht
          rw [← z, b3] at c1
          cases c1
          cases b6
        exact ⟨u, o, b1, b2, n1, n2, hidT_get b3 (off b3 (fun a b z => by rw [b6] at z; cases z) fun z => by rw [b6] at z; cases z), b4, b5, b6⟩
      · obtain ⟨o2, es, ep, c1, c2, _⟩ := main
        rw [z, tabs.empty t ht] at c1
        cases c1
        cases c2
    obtain ⟨ml, lim1, lim2⟩ := lim
    have e0 : Env0 P w K mg (hidT s1.heap H) PySem.callerA [] s1 H :=
      { frames := rfl, mod := ⟨kB, nsB main, ⟨mb, nsB blt, bts⟩, ⟨ml, nsB lim1, lim2⟩⟩, bs := fun q o h1 => of_hidT h1, bsz := Nat.le_of_eq (hidT_size _ _), funs := trivial,
        frf := fun q hq => absurd (show q ∈ ([] : List Addr) from hq) (by simp), hok := ok, bare := .of_eq gens }
    have hT : LamX.Tabs (tabK K) H := fun q hq => by
      obtain ⟨t, ht, z⟩ := List.mem_map.mp hq
      subst z
      exact LamX.TabS.nil (tbl _ (memT t ht))
    have hsp : spLaw K [.ref p] H (fun v _ => v = .bl true) E0 := ⟨p, ns, rfl, seq, len, hT, fun _ => rfl⟩
    refine codeAny_mono ((F _ kB (nsB main) tB).go (us := [.ref p]) (vs := [.ref p]) rfl room e0 (binds s1 (.ref p)) (.cons rfl .nil) hsp) ?_
    intro r s' h
    rcases r with z | fl
    · obtain ⟨_, _, _, _, _, _, _, _, _, _, _, _, zz⟩ := h
      exact False.elim zz
    cases fl with
    | next => exact False.elim h
    | brk => exact False.elim h
    | cont => exact False.elim h
    | ret u =>
      obtain ⟨v, H', os, bare, un, ok', r', q⟩ := h
      cases (show v = .bl true from q)
      cases (show u = Value.bool true from r')
      have same : ∀ b o, b ∉ (tabC K).map (·.2.1) → s1.heap.get? b = some o → s'.heap.get? b = some o := fun b o nb h1 => by
        cases e : H b with
        | none => exact un.keep b o h1 e (fun z => absurd (show b ∈ ([] : List Addr) from z) (by simp)) (by simp)
        | some u =>
          rcases only b nb with z | ⟨ob, xs, z⟩
          · rw [e] at z; cases z
          · have b1 : s1.heap.get? b = some ob := (ok b _ z).1
            have b2 : s'.heap.get? b = some ob := (ok' b _ (un.frzs b ob _ z)).1
            rw [h1] at b1
            cases b1
            exact b2
      have more : ∀ b ∈ (tabC K).map (·.2.1), ∃ m : Array Value, s'.heap.get? b = some { cls := .none, data := .fields m } := fun b hb => by
        obtain ⟨m, z⟩ := un.tbls b #[] (tbl b hb)
        exact ⟨_, ok' b _ z⟩
      refine ⟨rfl, ⟨fun b o h1 => ?_, fun b o h1 => ?_⟩, os, bare⟩
      · by_cases hb : b ∈ (tabC K).map (·.2.1)
        · obtain ⟨m, hm⟩ := more b hb
          have h2 := (isT b hb).1
          rw [h1] at h2
          cases h2
          obtain ⟨t, ht, z⟩ := List.mem_map.mp hb
          subst z
          exact .inr (.inl ⟨((hd t ht).tab (tabs.empty t ht)).isCodeTable, rfl, #[], m, rfl, by rw [Array.empty_append]; exact hm⟩)
        · exact .inl (same b o hb h1)
      · by_cases hb : b ∈ (tabC K).map (·.2.1)
        · obtain ⟨m, hm⟩ := more b hb
          exact ⟨_, hm⟩
        · exact ⟨o, same b o hb h1⟩
  cases hk : K.lookup p with
  | some o =>
    have h1 := inK p o hk
    rw [obj] at h1
    cases h1
    refine go (fun b => if b ∈ (tabC K).map (·.2.1) then some (.tbl #[]) else none) (fun b hb => if_pos hb) (fun b nb => .inl (if_neg nb)) (.inr ⟨_, vs.toArray, _, hk, rfl, rfl, rfl, ?_, by simpa using rv⟩) (fun q u z => ?_) fun q z => ?_
    · rw [List.size_toArray, lvs]
      exact size10 (by omega)
    · by_cases hq : q ∈ (tabC K).map (·.2.1)
      · have z2 := (if_pos hq).symm.trans z
        cases z2
        exact (isT q hq).1
      · have z2 := (if_neg hq).symm.trans z
        cases z2
    · by_cases hq : q ∈ (tabC K).map (·.2.1)
      · exact .inr hq
      · exact absurd (if_neg hq) z
  | none =>
    refine go (upd (fun b => if b ∈ (tabC K).map (·.2.1) then some (.tbl #[]) else none) p (.frz { cls := .type "list", data := .seq vs.toArray } (.lst (ns.map V.int)))) (fun b hb => ?_) (fun b nb => ?_) (.inl (.inr ⟨_, upd_same⟩)) (fun q u z => ?_) fun q z => ?_
    · rw [upd_ne (fun z : b = p => pT (by rw [← z]; exact hb))]
      exact if_pos hb
    · by_cases hq : b = p
      · subst hq; exact .inr ⟨_, _, upd_same⟩
      · exact .inl ((upd_ne hq).trans (if_neg nb))
    · by_cases hq : q = p
      · subst hq
        rw [upd_same] at z
        cases z
        exact ⟨obj, by rw [List.length_map]; exact size10 (by omega), vs, _, rv, obj⟩
      · rw [upd_ne hq] at z
        by_cases hb : q ∈ (tabC K).map (·.2.1)
        · have z2 := (if_pos hb).symm.trans z
          cases z2
          exact (isT q hb).1
        · have z2 := (if_neg hb).symm.trans z
          cases z2
    · by_cases hq : q = p
      · exact .inl ⟨hq, hk⟩
      · by_cases hb : q ∈ (tabC K).map (·.2.1)
        · exact .inr hb
        · exact absurd ((upd_ne hq).trans (if_neg hb)) z
theorem walkG {l : PySem.W.OpenLaw} {n : Nat} {q : Program} {loose : List Str} {XP : (Str → Option Value) → Heap → Prop} {YP : World → Heap → Prop} {d : DefRec} {x : Str} (hm : l.most = some 63) (hd : d.params.defaults = []) (room : Room n PySem.callerA)
    (F : ∀ (w : World) (mg : Str → Option Value) (fa : Addr) (h : Heap), YP w h → h.Ns mainGlobals mg → mg d.name = some (.ref fa) →
      ∃ (K : PySem.W.Frag) (fd : FuncData), K.In h ∧ TabsAt h K ∧ (∀ (s : Shared) (u : Value), BindsTo s fd ⟨[u], []⟩ [(x, u)]) ∧
        ∀ base : Heap, K.In base → base.Ns mainGlobals mg → (∀ t ∈ tabC K, LamX.TabB base mg t.1 t.2.1) → FnG l.prog w K mg base (L2.CX l.prog w) n fa fd [x] (spLaw K)) : PySem.W.WalkO q loose XP YP l.row.toRowW d [] (fun f vs => PySem.call f vs) := by
  refine Att.attach_callB hm hd ?_
  intro w s0 s1 mg mb fa o pm cd doc p vs ns G Y _ _ _ hmg obj are len _ gens
  obtain ⟨K, fd, inK, tabs, binds, FF⟩ := F w mg fa _ Y G.T.g hmg
  exact lawG inK tabs G.T.g G.T.b G.T.builtins G.T.nolimit gens G.T.bmain obj are len room FF binds
end DL
namespace DL
open PySem PySem.Spec L2
/-! ### x[::-1] -/
section
variable {prog : Program} {w : World} {A : Around} {E : Value → Shared → Prop} {s : Shared}
theorem back_applied {sl : Addr} {t : Tok} {n : Nat} {Q : Int × Int × Nat → Shared → Prop} (hs : s.heap.IsSliceOf sl .none .none (.int (-1) t)) (h : Q ((n : Int) - 1, -1, n) s) :
    wpAny (model prog w) A (Builtin.Slice.sliceApplied (.ref sl) (pure (n : Int))) Q E s := by
  obtain ⟨o, h1, h2, h3⟩ := id hs
  unfold Builtin.Slice.sliceApplied Builtin.Slice.sliceFields
  refine wpAny_bind (wpAny_bind (wpAny_field h1 h3 (x := .none) rfl ?_))
  refine wpAny_bind (wpAny_field h1 h3 (x := .none) rfl ?_)
  refine wpAny_bind (wpAny_field h1 h3 (x := .int (-1) t) rfl (wpAny_pure ?_))
  refine wpAny_bind (HT.slicePart_ (.int (-1) t) ?_)
  show wpAny _ _ (if ((-1 : Int) == 0) = true then _ else _) _ _ s
  rw [if_neg (by decide)]
  refine wpAny_bind (HT.slicePart_ .none (wpAny_bind (HT.slicePart_ .none (wpAny_bind (wpAny_pure ?_)))))
  have e1 : Builtin.Slice.sliceAdjust none none (-1) (n : Int) = ((n : Int) - 1, -1) := by
    unfold Builtin.Slice.sliceAdjust
    simp
  have e2 : Builtin.Slice.slicePlaces ((n : Int) - 1) (-1) (-1) = n := by
    unfold Builtin.Slice.slicePlaces
    simp
    try omega
  show wpAny _ _ (match Builtin.Slice.sliceAdjust none none (-1) (n : Int) with | (lo, hi) => pure (lo, (-1 : Int), Builtin.Slice.slicePlaces lo hi (-1))) _ _ s
  rw [e1]
  show wpAny _ _ (pure ((n : Int) - 1, (-1 : Int), Builtin.Slice.slicePlaces ((n : Int) - 1) (-1) (-1))) _ _ s
  rw [e2]
  exact wpAny_pure h
theorem fm_congr {α β : Type} {f g : α → Option β} : ∀ {l : List α}, (∀ x ∈ l, f x = g x) → l.filterMap f = l.filterMap g
  | [], _ => rfl
  | a :: l, h => by
    rw [List.filterMap_cons, List.filterMap_cons, h a (List.mem_cons_self ..), fm_congr (l := l) fun x hx => h x (List.mem_cons_of_mem _ hx)]
theorem back_pick (xs : Array Value) : ((List.range xs.size).filterMap fun (m : Nat) => xs[(((xs.size : Int) - 1) + (m : Int) * (-1)).toNat]?).toArray = xs.toList.reverse.toArray := by
  congr 1
  have e : (List.range xs.size).filterMap (fun (m : Nat) => xs[(((xs.size : Int) - 1) + (m : Int) * (-1)).toNat]?) = (List.range xs.size).filterMap (fun m => xs.toList.reverse[m]?) := by
    apply fm_congr
    intro m hm
    have hm' : m < xs.size := List.mem_range.mp hm
    have z : (((xs.size : Int) - 1) + (m : Int) * (-1)).toNat = xs.size - 1 - m := by omega
    rw [z, List.getElem?_reverse (by simpa using hm'), Array.length_toList, Array.getElem?_toList]
  rw [e]
  have f : ∀ l : List Value, (List.range l.length).filterMap (fun m => l[m]?) = l := by
    intro l
    induction l with
    | nil => rfl
    | cons a l ih =>
      rw [List.length_cons, List.range_succ_eq_map, List.filterMap_cons]
      simp only [List.getElem?_cons_zero, List.filterMap_map]
      congr 1
  have := f xs.toList.reverse
  rw [List.length_reverse, Array.length_toList] at this
  exact this
theorem getItem_tuple_back {t sl : Addr} {items : Array Value} {u : Tok} {Q : Value → Shared → Prop} (ht : PyProof.Rows.IsTup s.heap t items) (hs : s.heap.IsSliceOf sl .none .none (.int (-1) u))
    (h : Q (.ref s.heap.objs.size) { s with heap := s.heap.push { cls := .type "tuple", data := .seq items.toList.reverse.toArray } }) (hsz : items.size ≤ sizeLine) : wpAny (model prog w) A (getItem (.ref t) (.ref sl)) Q E s := by
  have room : sizeOk (.seq items.toList.reverse.toArray) := by
    show items.toList.reverse.toArray.size ≤ sizeLine
    simpa using hsz
  obtain ⟨os, hos, hcs, hds⟩ := id hs
  have ty : s.TypeIs (.ref sl) "slice" := ⟨os, hos, hcs⟩
  unfold getItem
  try with_reducible refine wpAny_holding ?_
  first | refine wpAny_bind (wpAny_pure ?_) | skip
  refine wpAny_bind (wpAny_sequenceKey ht.typeIs (by decide) ?_)
  refine wpAny_bind (wpAny_callSpecial?_slot (name := Str.ofString "__getitem__") ht.typeIs PyProof.Rows.slot_tuple_getitem ?_)
  refine wpAny_call_entry PyProof.Rows.slot_tuple_getitem ht.typeIs PyProof.Rows.entry_tuple_getitem ?_ (PyProof.Rows.args_tuple_getitem _ _)
  show wpAny _ _ (Builtin.Tuple.tupleItemsOf (.ref t) >>= _) _ _ s
  refine wpAny_bind (PyProof.Rows.tupleItemsOf_ ht ?_)
  refine wpAny_bind (wpAny_typeOf ty ?_)
  rw [if_pos (by decide)]
  refine wpAny_bind (back_applied hs ?_)
  show wpAny _ _ (if (((items.size : Int) - 1) == 0 && (-1 : Int) == 1 && items.size == items.size) = true then _ else _) _ _ s
  rw [if_neg (by simp), back_pick]
  first
    | exact wpAny_bind (m := Builtin.Tuple.tupleExact _) (wpAny_newObj_type (wpAny_pure ⟨_, rfl, wpAny_pure h⟩) room)
    | exact wpAny_bind (m := Builtin.Tuple.tupleExact _) (wpAny_newObj_type (wpAny_bind (wpAny_pure (wpAny_pure ⟨_, rfl, wpAny_pure h⟩))) room)
    | exact wpAny_bind (wpAny_bind (m := Builtin.Tuple.tupleExact _) (wpAny_newObj_type (wpAny_pure (wpAny_pure ⟨_, rfl, wpAny_pure h⟩)) room))
end
end DL
namespace DL
open PySem PySem.Spec L2
def dRev (f : DE) : DE := fun env Q => f env fun d env1 => match d with
  | .tup l => Q (.tup l.reverse) env1
  | .lst l => Q (.lst l.reverse) env1
  | _ => False
theorem Ats.rev {K : PySem.W.Frag} {F : Hp} {k : Dk} : ∀ {ds : List D} {vs : List V}, Ats K F k ds vs → Ats K F k ds.reverse vs.reverse
  | [], vs, h => by simp only [Ats] at h; subst h; exact .nil
  | d :: ds, vs, h => by
    simp only [Ats] at h
    obtain ⟨v, r, rfl, h1, h2⟩ := h
    rw [List.reverse_cons, List.reverse_cons]
    exact .append (Ats.rev h2) (.cons h1 .nil)
section
variable {wx : DX} {WW : WX} {ZZ : Fz} {X : Cx} {a : Expr} {f : DE}
theorem dl_rev {kk : Nat} {pa pb pc pos : Pos} (h : PE X a (lift (X.kx wx WW ZZ) f)) : PE X (.Subscript a (.Slice none none (some (.UnaryOp .USub (.Constant (.int 1) kk pa) pb)) pc) pos) (lift (X.kx wx WW ZZ) (dRev f)) := by
  refine ⟨fun pins s σ H Q I ⟨e, env, oa, F, k, P, R, p, q⟩ => ?_⟩
  refine PyProof.Rows.Subscript_ (thn (h.run pins s σ H (fun v H1 => ∃ env1 oa1 F1 k1 d, dRev (fun _ Q => Q d env1) env1 P ∧ Rel (X.kx wx WW ZZ) e env1 oa1 σ F1 H1 k1 ∧ Grow F F1 k k1 ∧ At X.K F1 k1 d v) I ⟨e, env, oa, F, k, _, R, p, fun d env1 v oa1 F1 H1 k1 p1 R1 g1 a1 => ⟨env1, oa1, F1, k1, d, p1, R1, g1, a1⟩⟩) ?_)
  rintro v s1 ⟨x, H1, I1, r1, env1, oa1, F1, k1, d, p1, R1, g1, a1⟩
  have hst : PO X (some (.UnaryOp .USub (.Constant (.int 1) kk pa) pb)) (tPart (tUn (rU fun i => .int (-i)) (tC (.int 1)))) := po_some (pe_un un_neg pe_int)
  refine PySem.wpAny_Slice (thn (po_none.run pins s1 σ H1 (fun o H2 => o = none ∧ H2 = H1) I1 ⟨rfl, rfl⟩) ?_)
  rintro vl s2 ⟨l, H2, I2, pl, rfl, rfl⟩
  refine thn (po_none.run pins s2 σ H2 (fun o H3 => o = none ∧ H3 = H2) I2 ⟨rfl, rfl⟩) ?_
  rintro vu s3 ⟨u, H3, I3, pu, rfl, rfl⟩
  refine thn (hst.run pins s3 σ H3 (fun o H4 => o = some (-1) ∧ H4 = H3) I3 ⟨1, rfl, -1, rfl, rfl, rfl⟩) ?_
  rintro vs s4 ⟨o, H4, I4, ps, rfl, rfl⟩
  have I5 : L2.Inv X pins σ H4 { s4 with heap := s4.heap.push { cls := .type "slice", data := .fields #[vl, vu, vs] } } := I4.kept (t' := s4.toks) fun b ob q => Heap.get?_push_of_some _ q
  have fresh := I5.hok.fresh (Nat.le_refl _)
  cases pl
  cases pu
  cases d with
  | lst l =>
    simp only [At] at a1
    obtain ⟨ad, xs, rfl, h1, h2⟩ := a1
    cases r1
    obtain ⟨its, rv, ht, hz⟩ := I5.list (SqL.of (R1.wd.sub _ _ h1))
    show wpAny (model X.prog X.w) X.A (PyProof.Rows.subscriptTail _ _ (.ref ad) (.ref s4.heap.objs.size)) _ _ _
    refine PyProof.Rows.tail_any (ops := [.ref ad, .ref s4.heap.objs.size]) ht.isList.typeIs (PySem.slot_list_getitem.lookup) ?_ (by with_unfolding_all rfl)
    refine PySem.wpAny_getItem_list_slice ht.isList (Heap.IsSliceOf.new _ _ _ _) .none .none ps (by decide) ?_ (by rw [List.size_toArray, ← rv.length]; exact hz)
    rw [PySem.W.krv_pick]
    obtain ⟨R2, g2⟩ := R1.laid fresh (.lst xs.reverse)
    refine ⟨.ref _, _, I5.laid (t' := s4.toks) (o := .lst xs.reverse) (fun b ob q => Heap.get?_push_of_some _ q) (Nat.le_refl _) ⟨by rw [List.length_reverse]; exact hz, _, 0, rv.reverse, Heap.get?_push_size _ rfl⟩, rfl, q _ env1 _ oa1 _ _ k1 p1 R2 (g1.trans g2) ?_⟩
    simp only [At]
    exact ⟨_, _, rfl, upd_same, (Ats.grow g2 _ _ h2).rev⟩
  | tup l =>
    simp only [At] at a1
    obtain ⟨ad, xs, rfl, h1, h2⟩ := a1
    cases r1
    obtain ⟨its, rv, ht, hz⟩ := I5.tuple (sqT_grow R1.wd.sub h1)
    cases ps with
    | int _ t =>
      show wpAny (model X.prog X.w) X.A (PyProof.Rows.subscriptTail _ _ (.ref ad) (.ref s4.heap.objs.size)) _ _ _
      refine PyProof.Rows.tail_any (ops := [.ref ad, .ref s4.heap.objs.size]) ht.typeIs (PyProof.Rows.slot_tuple_getitem.lookup) ?_ (by with_unfolding_all rfl)
      refine getItem_tuple_back ht (Heap.IsSliceOf.new _ _ _ _) ?_ (by rw [List.size_toArray, ← rv.length]; exact hz)
      obtain ⟨R2, g2⟩ := R1.laid fresh (.tup xs.reverse)
      refine ⟨.ref _, _, I5.laid (t' := s4.toks) (o := .tup xs.reverse) (fun b ob q => Heap.get?_push_of_some _ q) (Nat.le_refl _) ⟨by rw [List.length_reverse]; exact hz, _, rv.reverse, PyProof.Rows.IsTup.new _ _⟩, rfl, q _ env1 _ oa1 _ _ k1 p1 R2 (g1.trans g2) ?_⟩
      simp only [At]
      exact ⟨_, _, rfl, SqT.of upd_same, (Ats.grow g2 _ _ h2).rev⟩
  | _ => exact p1.elim
end
end DL
namespace DL
open PySem PySem.Spec L2
/-! ### a dict displayed by written text keys -/
def dList : List DE → DA
  | [] => dNil
  | f :: fs => dCons f (dList fs)
theorem lift_pairs {K : Kx} {e : Ent} {σ : St} : ∀ (ks : List Str) (fs : List DE) (env : Evn) (oa : Nat → Addr) (F H : Hp) (k : Dk) (P : List D → Evn → Prop) (Q : List (V × V) → Hp → Prop), ks.length = fs.length → Rel K e env oa σ F H k → dList fs env P →
    (∀ ds env' vs oa' F' H' k', P ds env' → Rel K e env' oa' σ F' H' k' → Grow F F' k k' → Ats K F' k' ds vs → Q ((ks.zip vs).map fun q => (V.str q.1, q.2)) H') → tPairs ((ks.zip fs).map fun q => (tC (.str q.1), lift K q.2)) σ H Q
  | [], [], env, oa, F, H, k, P, Q, _, R, p, q => q [] env [] oa F H k p R (Grow.refl _ _) .nil
  | x :: ks, f :: fs, env, oa, F, H, k, P, Q, l, R, p, q => by
    show tC (.str x) σ H fun y H1 => lift K f σ H1 fun z H2 => tPairs _ σ H2 fun ps H3 => Q ((y, z) :: ps) H3
    refine ⟨e, env, oa, F, k, _, R, p, fun d env1 v oa1 F1 H1 k1 p1 R1 g1 a1 => ?_⟩
    exact lift_pairs ks fs env1 oa1 F1 H1 k1 _ _ (by simpa using l) R1 p1 fun ds env2 vs oa2 F2 H2 k2 p2 R2 g2 a2 => q (d :: ds) env2 (v :: vs) oa2 F2 H2 k2 p2 R2 (g1.trans g2) (.cons (At.grow g2 _ _ a1) a2)
  | [], _ :: _, _, _, _, _, _, _, _, l, _, _, _ => by simp at l
  | _ :: _, [], _, _, _, _, _, _, _, l, _, _, _ => by simp at l
theorem merge_new : ∀ (more acc : List (Key × V)), (more.map (·.1)).Nodup → (∀ q ∈ more, valV acc q.1 = none) → mergeK acc more = acc ++ more
  | [], acc, _, _ => by unfold mergeK; simp
  | q :: more, acc, nd, h => by
    rw [List.map_cons, List.nodup_cons] at nd
    show mergeK (putK acc q.1 q.2) more = _
    rw [putK_new _ (h q (List.mem_cons_self ..)), merge_new more _ nd.2 fun r hr => ?_]
    · simp
    · have h1 := h r (List.mem_cons_of_mem _ hr)
      have h2 : ¬ q.1 = r.1 := fun z => nd.1 (z ▸ List.mem_map_of_mem hr)
      unfold valV at h1 ⊢
      rw [List.find?_append]
      cases e : acc.find? (fun kv => decide (kv.1 = r.1)) with
      | some v => rw [e] at h1; cases h1
      | none => simp [h2]
theorem atk_zip {K : PySem.W.Frag} {F : Hp} {k : Dk} : ∀ (ks : List Str) (ds : List D) (vs : List V), Ats K F k ds vs → Atk K F k ((ks.zip ds).map fun q => (.inr q.1, q.2)) ((ks.zip vs).map fun q => (.inr q.1, q.2))
  | [], ds, vs, h => by simp [Atk]
  | x :: ks, [], vs, h => by simp only [Ats] at h; subst h; simp [Atk]
  | x :: ks, d :: ds, vs, h => by
    simp only [Ats] at h
    obtain ⟨v, r, rfl, h1, h2⟩ := h
    simp only [List.zip_cons_cons, List.map_cons, Atk]
    exact ⟨v, _, rfl, h1, atk_zip ks ds r h2⟩
theorem zip_fst_sub {α β : Type} : ∀ (a : List α) (b : List β), ((a.zip b).map (·.1)).Sublist a
  | [], _ => by simp
  | _ :: _, [] => by simp
  | x :: a, y :: b => by
    rw [List.zip_cons_cons, List.map_cons]
    exact (zip_fst_sub a b).cons_cons x
def dDisp (ks : List Str) (fs : List DE) : DE := fun env Q => dList fs env fun ds env1 => Q (.dic ((ks.zip ds).map fun q => (.inr q.1, q.2))) env1
theorem dl_disp {wx : DX} {WW : WX} {ZZ : Fz} {X : Cx} {keys : List (Option Expr)} {values : List Expr} {pos : Pos} {ks : List Str} {fs : List DE} (h : PPs X pos keys values ((ks.zip fs).map fun q => (tC (.str q.1), lift (X.kx wx WW ZZ) q.2))) (hall : keys.all (·.isSome) = true) (hl : keys.length = values.length) (h0 : keys ≠ [])
    (h15 : keys.length ≤ 15) (hk : ks.length = fs.length) (hf : fs.length ≤ 15) (nd : ks.Nodup) : PE X (.Dict keys values pos) (lift (X.kx wx WW ZZ) (dDisp ks fs)) :=
  (pe_disp h hall hl h0 h15).w fun σ H Q ⟨e, env, oa, F, k, P, R, p, q⟩ t ht => by
    obtain ⟨G, R1⟩ := R.guard (o := .dK []) ht
    refine lift_pairs ks fs env oa F _ k _ _ hk R1 p fun ds env2 vs oa2 F2 H2 k2 p2 R2 g2 a2 => ?_
    have hkv : (((ks.zip vs).map fun q => ((Sum.inr q.1 : Key), q.2)).map (·.1)).Nodup := by
      have e1 : ((ks.zip vs).map fun q => ((Sum.inr q.1 : Key), q.2)).map (·.1) = ((ks.zip vs).map (·.1)).map Sum.inr := by simp
      rw [e1]
      exact List.Pairwise.map _ (fun a b hab z => hab (Sum.inr.inj z)) (nd.sublist (zip_fst_sub ks vs))
    refine ⟨(R2.guarded G).1, (ks.zip vs).map fun q => (.inr q.1, q.2), by simp [kV], ?_, ?_⟩
    · rw [List.length_map, List.length_zip]
      omega
    · rw [merge_new _ _ hkv (fun _ _ => valV_nil), List.nil_append]
      obtain ⟨R3, g3⟩ := (R2.gset (R.lnk.grow g2) G (.dK ((ks.zip vs).map fun q => (.inr q.1, q.2)))).give (R.lnk.grow g2) G
      refine q _ env2 _ oa2 _ _ k2 p2 R3 (g2.trans g3) ?_
      simp only [At]
      exact ⟨t, _, rfl, upd_same, Atk.grow g3 _ _ (atk_zip ks ds vs a2)⟩
/-! ### the law: its deck first -/
def deckD : Nat → D → Prop
  | 0, d => ∃ (cs : List Int) (m t : Int), cs.length ≤ 63 ∧ d = .dic [(.inr "cells", .lst (cs.map D.int)), (.inr "mixed", .int m), (.inr "turn", .int t)] ∧ 0 ≤ m ∧ m < 2147483648
  | 1, d => ∃ (cs : List Int) (m t : Int), cs.length ≤ 63 ∧ d = .dic [(.inr "rest", .lst (cs.map D.int)), (.inr "mixed", .int m), (.inr "turn", .int t)] ∧ 0 ≤ m ∧ m < 2147483648
  | 2, d => ∃ (cs : List Int) (m t : Int), cs.length ≤ 63 ∧ d = .dic [(.inr "left", .lst (cs.map D.int)), (.inr "mixed", .int m), (.inr "draws", .int t)] ∧ 0 ≤ m ∧ m < 2147483648
  | _, d => ∃ (cs : List Int) (m : Int), cs.length ≤ 63 ∧ d = .dic [(.inr "cells", .lst (cs.map D.int)), (.inr "mixed", .int m)] ∧ 0 ≤ m ∧ m < 2147483648
theorem deck_at {K : PySem.W.Frag} {F H : Hp} {k : Dk} {n : Nat} {d : D} {v : V} (h : deckD n d) (hA : At K F k d v) (sub : ∀ a o, F a = some o → H a = some o) : ∃ p : DkP, p.3 = n ∧ v = .ref p.1 ∧ DeckAt H p := by
  have core : ∀ (nm : Str) (cs : List Int) (r : List (Key × D)), d = .dic ((.inr nm, .lst (cs.map D.int)) :: r) → ∃ dk l vr, v = .ref dk ∧ H dk = some (.dK ((.inr nm, .ref l) :: vr)) ∧ H l = some (.lst (cs.map V.int)) ∧ Atk K F k r vr := by
    intro nm cs r hd
    subst hd
    simp only [At, Atk] at hA
    obtain ⟨dk, vs, rfl, h1, v1, vr, rfl, ⟨l, us, rfl, h2, h3⟩, h4⟩ := hA
    have := ats_int h3
    subst this
    exact ⟨dk, l, vr, rfl, sub _ _ h1, sub _ _ h2, h4⟩
  match n, h with
  | 0, ⟨cs, m, t, hl, hd, hm⟩ =>
    obtain ⟨dk, l, vr, hv, h1, h2, h3⟩ := core _ cs _ hd
    simp only [Atk, At] at h3
    obtain ⟨v2, r2, rfl, rfl, v3, r3, rfl, rfl, rfl⟩ := h3
    exact ⟨⟨dk, l, 0⟩, rfl, hv, _, cs, h1, h2, hl, m, t, rfl, hm⟩
  | 1, ⟨cs, m, t, hl, hd, hm⟩ =>
    obtain ⟨dk, l, vr, hv, h1, h2, h3⟩ := core _ cs _ hd
    simp only [Atk, At] at h3
    obtain ⟨v2, r2, rfl, rfl, v3, r3, rfl, rfl, rfl⟩ := h3
    exact ⟨⟨dk, l, 1⟩, rfl, hv, _, cs, h1, h2, hl, m, t, rfl, hm⟩
  | 2, ⟨cs, m, t, hl, hd, hm⟩ =>
    obtain ⟨dk, l, vr, hv, h1, h2, h3⟩ := core _ cs _ hd
    simp only [Atk, At] at h3
    obtain ⟨v2, r2, rfl, rfl, v3, r3, rfl, rfl, rfl⟩ := h3
    exact ⟨⟨dk, l, 2⟩, rfl, hv, _, cs, h1, h2, hl, m, t, rfl, hm⟩
  | n + 3, ⟨cs, m, hl, hd, hm⟩ =>
    obtain ⟨dk, l, vr, hv, h1, h2, h3⟩ := core _ cs _ hd
    simp only [Atk, At] at h3
    obtain ⟨v2, r2, rfl, rfl, rfl⟩ := h3
    exact ⟨⟨dk, l, n + 3⟩, rfl, hv, _, cs, h1, h2, hl, m, rfl, hm⟩
def S_deck (n : Nat) : SD := fun ds P _ => ∃ ns : List Int, ds = [.scr ns] ∧ ns.length ≤ 63 ∧ ∀ d, deckD n d → P d
def lawEnv (len j n : Nat) : Evn := (List.replicate len Slot.no).set j (.val (.deck n))
/-- the tables left out -/
def noT (H : Hp) : Hp := fun a => match H a with
  | some (.tbl _) => none
  | o => o
theorem noT_sub {H : Hp} {a : Addr} {o : HO} (h : noT H a = some o) : H a = some o := by
  unfold noT at h
  split at h
  · cases h
  · exact h
theorem noT_sq {K : PySem.W.Frag} {H : Hp} {a : Addr} {xs : List V} (h : SqL K H a xs) : SqL K (noT H) a xs := by
  rcases h with (h | ⟨o, h⟩) | h
  · exact .inl (.inl (by unfold noT; rw [h]))
  · exact .inl (.inr ⟨o, by unfold noT; rw [h]⟩)
  · exact .inr h
theorem law_defL {P : Program} {w : World} {K : PySem.W.Frag} {mg : Str → Option Value} {base : Heap} {x qual : Str} {params : Arguments} {body : List Stmt} {scope : Scope} {f : Addr} {fd : FuncData} {N : List Str} {k j n : Nat} {g : DS}
    (F : FunD K x qual params body scope [] [] f fd) (C : FnScope N ["script"] scope) (h0 : 0 < N.length) (hj : j ≠ 0)
    (walk : ∀ (cdv : Value) (A : Around) (outer : List PySem.Env) (s : Shared) (H : Hp) (E : XK), fd.code = cdv → A.guards = some [] → Room k (A.deeper (PyProof.Rows.envOfC qual scope s.heap.objs.size f cdv)) →
      PSs (cxOf (L2.CX P w) P w K mg base N qual scope f cdv A outer s H E).nox body (tSeq (tAsg (tCall (spD K mg (S_deck n)) [] E0 (tCons (tVar 0) tNil)) (L2.gName j)) (liftS (k0 K mg) g)))
    (sem : g { nx := fun _ => False, rt := fun d => d = .bl true } (lawEnv N.length j n)) : FnG P w K mg base (L2.CX P w) (k + 1) f fd ["script"] (spLaw K) := by
  refine fnGc F C (fun vs H Q E ⟨p, ns, e, _⟩ => by subst e; rfl) fun cdv A outer s H vs Q E hc gd hr ⟨p, ns, e, seq, len, tbs, q⟩ => ⟨_, (walk cdv A outer s H E hc gd hr).nox, ?_⟩
  subst e
  refine ⟨.ref p, rfl, [.scr ns], noT H, none, deckD n, fun _ => False, ⟨fun _ _ q => noT_sub q, fun _ _ q => q, fun _ _ q => .inl q, fun _ _ q _ _ => q, fun _ q => (by cases q), fun _ _ q => (by cases q), fun _ q => (by cases q), tbs, fun q hq => (by obtain ⟨ps, h1, _⟩ := tbs q hq; unfold noT; rw [h1])⟩, ?_, ⟨ns, rfl, len, fun d h => h⟩, ?_, fun _ _ _ _ z _ => False.elim z⟩
  · simp only [Ats, At, List.append_nil]
    exact ⟨.ref p, [], rfl, ⟨p, rfl, noT_sq seq⟩, rfl⟩
  · rintro d v H' hd ⟨F', k', W, hA⟩
    obtain ⟨pd, e3, rfl, dAt⟩ := deck_at hd hA W.sub
    refine ⟨⟨fun _ => none, fun _ => none, none⟩, lawEnv N.length j n, fun _ => 0, fun _ => none, some pd, { nx := fun _ => False, rt := fun d => d = .bl true }, ?_, sem, fun _ _ _ _ _ _ z => False.elim z, fun d v H2 z ⟨F2, k2, _, a⟩ => ?_, fun _ _ _ _ _ _ z => False.elim z, fun _ _ _ _ _ _ z => False.elim z⟩
    · have at' : ∀ (i : Nat) (s : Slot), (lawEnv N.length j n)[i]? = some s → s = .no ∨ (i = j ∧ j < N.length ∧ s = .val (.deck n)) := fun i s h => by
        unfold lawEnv at h
        by_cases hi : i = j
        · subst hi
          by_cases hl : i < N.length
          · rw [List.getElem?_set_self (by simpa using hl)] at h
            exact .inr ⟨rfl, hl, (Option.some.inj h).symm⟩
          · rw [List.getElem?_eq_none (by simpa using hl)] at h; cases h
        · rw [List.getElem?_set_ne (Ne.symm hi), List.getElem?_replicate] at h
          split at h
          · exact .inl (Option.some.inj h).symm
          · cases h
      refine ⟨⟨⟨fun _ _ z => (by cases z), fun _ _ z => (by cases z), fun _ _ z => (by cases z), fun _ _ z => (by cases z), fun _ z => (by cases z), fun _ _ _ => ⟨rfl, rfl⟩, fun p' z => (by cases z; exact ⟨dAt, rfl, rfl⟩), W.tb, fun _ _ => rfl⟩, ?_, fun i d h => ?_, fun i ds h => ?_, fun i _ ds _ h => ?_⟩, fun _ _ _ _ _ _ _ _ _ z => False.elim z, trivial⟩
      · unfold lawEnv L2.start
        simp
        omega
      · rcases at' i _ h with z | ⟨rfl, hl, z⟩
        · cases z
        · cases z
          refine ⟨.ref pd.1, List.getElem?_set_self ?_, by simp only [At]; exact ⟨pd, rfl, e3, rfl⟩⟩
          unfold L2.start
          simp
          omega
      · rcases at' i _ h with z | ⟨_, _, z⟩ <;> cases z
      · rcases at' i _ h with z | ⟨_, _, z⟩ <;> cases z
    · cases (show d = .bl true from z)
      have : v = .bl true := by simpa only [At] using a
      subst this
      exact q H2
theorem law_def {P : Program} {w : World} {K : PySem.W.Frag} {mg : Str → Option Value} {base : Heap} {x qual : Str} {params : Arguments} {body : List Stmt} {scope : Scope} {f : Addr} {fd : FuncData} {N : List Str} {k j n : Nat} {g : DS}
    (F : FunD K x qual params body scope [] [] f fd) (C : FnScope N ["script"] scope) (h0 : 0 < N.length) (hj : j ≠ 0)
    (walk : ∀ (cdv : Value) (A : Around) (outer : List PySem.Env) (s : Shared) (H : Hp) (E : XK), A.guards = some [] → Room k (A.deeper (PyProof.Rows.envOfC qual scope s.heap.objs.size f cdv)) →
      PSs (cxOf (L2.CX P w) P w K mg base N qual scope f cdv A outer s H E).nox body (tSeq (tAsg (tCall (spD K mg (S_deck n)) [] E0 (tCons (tVar 0) tNil)) (L2.gName j)) (liftS (k0 K mg) g)))
    (sem : g { nx := fun _ => False, rt := fun d => d = .bl true } (lawEnv N.length j n)) : FnG P w K mg base (L2.CX P w) (k + 1) f fd ["script"] (spLaw K) :=
  law_defL F C h0 hj (fun cdv A outer s H E _ gd hr => walk cdv A outer s H E gd hr) sem
end DL
namespace DL
open PySem PySem.Spec L2
/-! ### a draw -/
def S_draw (n : Nat) : SD := fun ds P _ => match ds with
  | [.deck m, .int b] => m = n ∧ 0 < b ∧ b < 10 ^ 200 ∧ ∀ r : Int, 0 ≤ r → r < b → P (.int r)
  | _ => False
def kv3 (a b c : Str) (l : Addr) (m t : Int) : List (Key × V) := [(.inr a, .ref l), (.inr b, .int m), (.inr c, .int t)]
/-- the deck while a draw runs, ahead of which H0 stood -/
structure D3 (a b c : Str) (H0 : Hp) (p : DkP) (H : Hp) (cs : List Int) (m t : Int) : Prop where
  dk : H p.1 = some (.dK (kv3 a b c p.2 m t))
  ls : H p.2 = some (.lst (cs.map V.int))
  off : ∀ x o, H0 x = some o → x ≠ p.1 → x ≠ p.2 → H x = some o
  n1 : H0 p.1 ≠ none
  n2 : H0 p.2 ≠ none
structure Ne3 (a b c : Str) : Prop where
  ab : a ≠ b
  ac : a ≠ c
  bc : b ≠ c
section
variable {a b c : Str} {H0 H : Hp} {p : DkP} {cs : List Int} {m t : Int}
theorem D3.ne (d : D3 a b c H0 p H cs m t) : p.1 ≠ p.2 := ne_of d.dk d.ls fun z => by cases z
theorem D3.getC (d : D3 a b c H0 p H cs m t) : DGet H p.1 (.str a) (some (.ref p.2)) := by
  have := DGet.k (k := .inr a) d.dk
  simpa [kv3, valV, kV] using this
theorem D3.getM (d : D3 a b c H0 p H cs m t) (n : Ne3 a b c) : DGet H p.1 (.str b) (some (.int m)) := by
  have := DGet.k (k := .inr b) d.dk
  simpa [kv3, valV, kV, n.ab] using this
theorem D3.getT (d : D3 a b c H0 p H cs m t) (n : Ne3 a b c) : DGet H p.1 (.str c) (some (.int t)) := by
  have := DGet.k (k := .inr c) d.dk
  simpa [kv3, valV, kV, n.ac, n.bc] using this
theorem D3.putM (d : D3 a b c H0 p H cs m t) (n : Ne3 a b c) (m' : Int) : DPut H p.1 (.str b) (.int m') (upd H p.1 (.dK (kv3 a b c p.2 m' t))) := by
  have := DPut.k (k := .inr b) (v := .int m') d.dk (by show 3 < sizeLine; exact small1000 (by decide))
  simpa [kv3, putK, kV, n.ab, n.bc, n.bc.symm] using this
theorem D3.putT (d : D3 a b c H0 p H cs m t) (n : Ne3 a b c) (t' : Int) : DPut H p.1 (.str c) (.int t') (upd H p.1 (.dK (kv3 a b c p.2 m t'))) := by
  have := DPut.k (k := .inr c) (v := .int t') d.dk (by show 3 < sizeLine; exact small1000 (by decide))
  simpa [kv3, putK, kV, n.ac, n.bc] using this
theorem D3.setD (d : D3 a b c H0 p H cs m t) (m' t' : Int) : D3 a b c H0 p (upd H p.1 (.dK (kv3 a b c p.2 m' t'))) cs m' t' :=
  ⟨upd_same, (upd_ne d.ne.symm).trans d.ls, fun x o h h1 h2 => (upd_ne h1).trans (d.off x o h h1 h2), d.n1, d.n2⟩
theorem D3.setL (d : D3 a b c H0 p H cs m t) (cs' : List Int) : D3 a b c H0 p (upd H p.2 (.lst (cs'.map V.int))) cs' m t :=
  ⟨(upd_ne d.ne).trans d.dk, upd_same, fun x o h h1 h2 => (upd_ne h2).trans (d.off x o h h1 h2), d.n1, d.n2⟩
theorem D3.laid (d : D3 a b c H0 p H cs m t) {l : Addr} (hl : H l = none) (u : HO) : D3 a b c H0 p (upd H l u) cs m t :=
  ⟨(upd_ne (ne_of_none d.dk hl)).trans d.dk, (upd_ne (ne_of_none d.ls hl)).trans d.ls, fun x o h h1 h2 => (upd_ne (ne_of_none (d.off x o h h1 h2) hl)).trans (d.off x o h h1 h2), d.n1, d.n2⟩
theorem dp_ints {K : PySem.W.Frag} : ∀ ns : List Int, DpAll K H (ns.map V.int) (ns.map PyData.int)
  | [] => .nil
  | n :: ns => .cons (.int n) (dp_ints ns)
theorem lay_ints : ∀ ns : List Int, PyData.canLayAll0 (ns.map PyData.int) = true ∧ PyData.depthAll (ns.map PyData.int) = 0
  | [] => by simp [PyData.canLayAll0, PyData.depthAll]
  | n :: ns => by
    obtain ⟨h1, h2⟩ := lay_ints ns
    simp [PyData.canLayAll0, PyData.depthAll, PyData.canLay0, PyData.depth, h1, h2]
theorem shaped_ints (ns : List Int) : SeqAt.shaped (.list (ns.map PyData.int)) = true := by
  obtain ⟨h1, h2⟩ := lay_ints ns
  simp [SeqAt.shaped, PyData.canLay0, PyData.depth, h1, h2]
/-- deck[..] != [] -/
theorem D3.full {K : PySem.W.Frag} (d : D3 a b c H0 p H cs m t) {σ : St} (hσ : σ[0]? = some (some (.ref p.1))) {Q : Bool → Hp → Prop} (h : ∀ l, H l = none → Q (!cs.isEmpty) (upd H l (.lst []))) :
    tTest (tOp (rNeD K) (tDGet (tVar 0) (tC (.str a))) (tLst tNil)) σ H Q := by
  refine ⟨_, hσ, _, _, rfl, d.getC, Nat.zero_le _, fun l hl => ?_⟩
  have d' := d.laid hl (.lst [])
  refine ⟨.list (cs.map PyData.int), .list [], .lst (SqL.of d'.ls) (dp_ints cs), .lst (SqL.of upd_same) .nil, shaped_ints cs, by decide +kernel, _, rfl, ?_⟩
  have e : PyData.eqv (.list (cs.map PyData.int)) (.list []) = cs.isEmpty := by
    cases cs <;> simp [PyData.eqv, PyData.eqvAll]
  rw [e]
  exact h l hl
theorem tabs_deck {T : List (Addr × Str)} {e : Ent} {F : Hp} {k : Dk} (W : Wd T e F H0 k) (hk : k = some p) (off : ∀ x o, H0 x = some o → x ≠ p.1 → x ≠ p.2 → H x = some o) : LamX.Tabs T H := by
  obtain ⟨⟨kv, cs, h1, h2, _⟩, _⟩ := W.dk p hk
  refine tabs_mono W.tb fun a u e z => off a u e (fun y => ?_) fun y => ?_
  · rw [y, h1] at e
    cases e
    rcases z with ⟨_, z⟩ | ⟨_, _, z⟩
    · cases z
    · unfold LamX.CodeO at z; cases z
  · rw [y, h2] at e
    cases e
    rcases z with ⟨_, z⟩ | ⟨_, _, z⟩
    · cases z
    · unfold LamX.CodeO at z; cases z
theorem D3.fin {K : PySem.W.Frag} {F : Hp} {k : Dk} {n : Nat} {r : Int} (W : Wd (tabK K) ⟨H0, F, k⟩ F H0 k) (hk : k = some p) (d : D3 a b c H0 p H cs m t) (hd : DeckIs p.3 p.2 (kv3 a b c p.2 m t) cs) : Out K ⟨H0, F, k⟩ (.int r) (.int r) H := by
  obtain ⟨_, f1, f2⟩ := W.dk p hk
  refine ⟨F, k, ⟨fun x o h => ?_, fun _ _ h => h, fun _ _ h => .inl h, fun x o h z _ => ?_, fun _ h => h, fun z q hq => ?_, fun q hq => ?_, tabs_deck W hk d.off, W.tbf⟩, by simp only [At]⟩
  · exact d.off x o (W.sub x o h) (fun z => by rw [z, f1] at h; cases h) (fun z => by rw [z, f2] at h; cases h)
  · obtain ⟨z1, z2⟩ := z p hk
    exact d.off x o h z1 z2
  · have z' : k = none := z
    rw [z'] at hk; cases hk
  · rw [hk] at hq; cases hq
    exact ⟨⟨_, cs, d.dk, d.ls, hd⟩, f1, f2⟩
end
end DL
namespace DL
open PySem PySem.Spec L2
theorem ptsD {wx : DX} {WW : WX} {ZZ : Fz} {X : Cx} {c : Expr} {t : DT} (h : PT X c (liftT (X.kx wx WW ZZ) t)) : PTs X [c] (liftT (X.kx wx WW ZZ) t) := pts_one h
end DL
namespace DL
open PySem PySem.Spec L2
section
variable {env : Evn} {Q : D → Evn → Prop} {QA : List D → Evn → Prop} {QT : Bool → Evn → Prop} {B : DEnd} {f g : DE} {fa fk : DA} {t p q : DT} {u v : DS} {S : SD} {o : DC} {od : DO} {d x y : D} {G : D → Prop}
@[simp ↓] theorem e_C : dC d env Q = Q d env := rfl
@[simp ↓] theorem e_Bin : dBin od f g env Q = f env fun x env1 => g env1 fun y env2 => od x y fun d => Q d env2 := rfl
@[simp ↓] theorem e_Test : dTest f env QT = f env fun d env1 => match d with | .bl b => QT b env1 | _ => False := rfl
@[simp ↓] theorem e_And : dAnd p q env QT = p env fun b env1 => if b = true then q env1 QT else QT false env1 := rfl
@[simp ↓] theorem e_Or : dOr p q env QT = p env fun b env1 => if b = true then QT true env1 else q env1 QT := rfl
@[simp ↓] theorem e_Not : dNot p env QT = p env fun b env1 => QT (!b) env1 := rfl
@[simp ↓] theorem e_AndV : dAndV f g env Q = f env fun d env1 => match d with | .bl b => if b = true then g env1 Q else Q (.bl false) env1 | _ => False := rfl
@[simp ↓] theorem e_OrV : dOrV f g env Q = f env fun d env1 => match d with | .bl b => if b = true then Q (.bl true) env1 else g env1 Q | _ => False := rfl
@[simp ↓] theorem e_NotV : dNotV f env Q = f env fun d env1 => match d with | .bl b => Q (.bl (!b)) env1 | _ => False := rfl
@[simp ↓] theorem e_IfE : dIfE t f g env Q = t env fun b env1 => if b = true then f env1 Q else g env1 Q := rfl
@[simp ↓] theorem e_Tru : dTru f env QT = f env fun d env1 => ∃ b, truD d = some b ∧ (∀ s, d = .str s → s.length ≤ sizeLine) ∧ QT b env1 := rfl
@[simp ↓] theorem e_Nil : dNil env QA = QA [] env := rfl
@[simp ↓] theorem e_Cons : dCons f fa env QA = f env fun d env1 => fa env1 fun ds env2 => QA (d :: ds) env2 := rfl
@[simp ↓] theorem e_Tup : dTup fa env Q = fa env fun ds env1 => ds.length ≤ 10000000 ∧ Q (.tup ds) env1 := rfl
@[simp ↓] theorem e_Lst : dLst fa env Q = fa env fun ds env1 => ds.length ≤ 10000000 ∧ Q (.lst ds) env1 := rfl
@[simp ↓] theorem e_Call : dCall S fa env Q = fa env fun ds env' => S ds (fun d => Q d env') fun _ => False := rfl
@[simp ↓] theorem e_CallK {n m : Nat} {ix : List Nat} : dCallK S n m ix fa fk env Q = fa env fun ds env1 => fk env1 fun zs env2 => (ds.length = n ∧ zs.length = m) ∧ S (pickL ix (ds ++ zs)) (fun d => Q d env2) fun _ => False := rfl
@[simp ↓] theorem e_Blt : dBlt o fa env Q = fa env fun ds env1 => o ds fun d => Q d env1 := rfl
@[simp ↓] theorem e_Neg : dNeg f env Q = f env fun d env1 => match d with | .int i => Q (.int (-i)) env1 | _ => False := rfl
@[simp ↓] theorem e_Next : dNext B env = B.nx env := rfl
@[simp] theorem e_Seq : dSeq u v B env = u { B with nx := v B } env := rfl
@[simp ↓] theorem e_Brk : dBrk B env = B.bk env := rfl
@[simp ↓] theorem e_Cnt : dCnt B env = B.ct env := rfl
@[simp ↓] theorem e_If : dIf t u v B env = t env fun b env1 => if b = true then u B env1 else v B env1 := rfl
@[simp ↓] theorem e_Ret : dRet f B env = f env fun d _ => B.rt d := rfl
@[simp ↓] theorem e_RetN : dRetN B env = B.rt .non := rfl
@[simp ↓] theorem e_Drop : dDrop f B env = f env fun _ env1 => B.nx env1 := rfl
@[simp ↓] theorem e_gName {i : Nat} {P : Evn → Prop} : gName i d env P = P (env.set i (.val d)) := rfl
@[simp ↓] theorem e_gNil {P : Evn → Prop} : gNil [] env P = P env := rfl
@[simp ↓] theorem e_gCons {gt : DG} {r : DGs} {l : List D} {P : Evn → Prop} : gCons gt r (d :: l) env P = gt d env fun env1 => r l env1 P := rfl
@[simp ↓] theorem e_gTup {n : Nat} {r : DGs} {l : List D} {P : Evn → Prop} : gTup n r (.tup l) env P = (l.length = n ∧ r l env P) := rfl
@[simp ↓] theorem e_Asg {gt : DG} : dAsg f gt B env = f env fun d env1 => gt d env1 B.nx := rfl
@[simp ↓] theorem e_Par {i j : Nat} : dPar i j fa B env = fa env fun ds env1 => match ds with | [d, d'] => B.nx ((env1.set i (.val d)).set j (.val d')) | _ => False := rfl
@[simp ↓] theorem e_Par3 {i j l : Nat} : dPar3 i j l fa B env = fa env fun ds env1 => match ds with | [d, d', d''] => B.nx (((env1.set i (.val d)).set j (.val d')).set l (.val d'')) | _ => False := rfl
@[simp ↓] theorem e_For {fi : DA} {gt : DG} : dFor fi gt u B env = fi env fun ds env1 => forL gt u ds B env1 := rfl
@[simp ↓] theorem e_Items : dItems f env QA = f env fun d env1 => match d with | .tup l => QA l env1 | .lst l => QA l env1 | _ => False := rfl
@[simp ↓] theorem e_Range1 : dRange1 f env QA = f env fun d env1 => match d with | .int j => (-(2 ^ 62) ≤ j ∧ j < 2 ^ 62) ∧ QA (rngD 0 j.toNat) env1 | _ => False := rfl
@[simp ↓] theorem e_Range2 : dRange2 f g env QA = f env fun d env1 => g env1 fun d' env2 => match d, d' with | .int i, .int j => (-(2 ^ 62) ≤ i ∧ i < 2 ^ 62 ∧ -(2 ^ 62) ≤ j ∧ j < 2 ^ 62) ∧ QA (rngD i (j - i).toNat) env2 | _, _ => False := rfl
@[simp ↓] theorem e_Lc {fi : DA} {gt : DG} {vs : List Nat} : dLc fi gt t f vs env Q = fi env fun ds env1 => compL gt t f vs ds [] env1 fun acc env2 => Q (.lst acc) env2 := rfl
@[simp ↓] theorem e_Yes : dYes env QT = QT true env := rfl
@[simp ↓] theorem e_NoP {QP : Option Int → Evn → Prop} : dNoP env QP = QP none env := rfl
@[simp ↓] theorem e_SomeP {QP : Option Int → Evn → Prop} : dSomeP f env QP = f env fun d env1 => match d with | .int i => QP (some i) env1 | _ => False := rfl
@[simp ↓] theorem e_Slice {lo hi : DP} : dSlice f lo hi env Q = f env fun d env1 => lo env1 fun x env2 => hi env2 fun y env3 => match d with
  | .tup l => Q (.tup (cutD l x y)) env3 | .lst l => Q (.lst (cutD l x y)) env3 | .scr ns => Q (.lst (cutD (ns.map D.int) x y)) env3 | _ => False := rfl
@[simp ↓] theorem e_Rev : dRev f env Q = f env fun d env1 => match d with | .tup l => Q (.tup l.reverse) env1 | .lst l => Q (.lst l.reverse) env1 | _ => False := rfl
@[simp ↓] theorem e_Dic0 : dDic0 env Q = Q (.dic []) env := rfl
@[simp ↓] theorem e_Dic1 {s : Str} : dDic1 s f env Q = f env fun d env1 => Q (.dic [(.inr s, d)]) env1 := rfl
@[simp ↓] theorem e_New {i : Nat} : dNew i fa B env = fa env fun ds env1 => ds.length ≤ 10000000 ∧ B.nx (env1.set i (.own ds)) := rfl
@[simp ↓] theorem e_var_val {i : Nat} (h : env[i]? = some (.val d)) : dVar i env Q = Q d env := by unfold dVar; rw [h]
@[simp ↓] theorem e_var_own {i : Nat} {l : List D} (h : env[i]? = some (.own l)) : dVar i env Q = Q (.lst l) (env.set i (.val (.lst l))) := by unfold dVar; rw [h]
@[simp ↓] theorem e_append {i : Nat} {l : List D} (h : env[i]? = some (.own l)) : dAppend i f B env = f env fun d env1 => match env1[i]? with | some (.own ds) => ds.length < 10000000 ∧ B.nx (env1.set i (.own (ds ++ [d]))) | _ => False := by
  unfold dAppend
  rw [h]
  apply propext
  exact ⟨fun z => z.2, fun z => ⟨rfl, z⟩⟩
@[simp ↓] theorem e_comp_nil {gt : DG} {vs : List Nat} {acc : List D} {QL : List D → Evn → Prop} : compL gt t f vs [] acc env QL = QL acc env := rfl
@[simp ↓] theorem e_forL_nil {gt : DG} : forL gt u [] B env = B.nx env := rfl
/-! operators -/
@[simp ↓] theorem o_add_int {i j : Int} : oAdd (.int i) (.int j) G = G (.int (i + j)) := rfl
@[simp ↓] theorem o_add_tup {l m : List D} : oAdd (.tup l) (.tup m) G = (l.length + m.length ≤ 10000000 ∧ G (.tup (l ++ m))) := rfl
@[simp ↓] theorem o_add_lst {l m : List D} : oAdd (.lst l) (.lst m) G = (l.length + m.length ≤ 10000000 ∧ G (.lst (l ++ m))) := rfl
@[simp ↓] theorem o_sub {i j : Int} : oSub (.int i) (.int j) G = G (.int (i - j)) := rfl
@[simp ↓] theorem o_mul {i j : Int} : oMul (.int i) (.int j) G = (CMulW i j ∧ G (.int (i * j))) := rfl
@[simp ↓] theorem o_mul_lst {l : List D} {k : Int} : oMul (.lst l) (.int k) G = ((-(2 ^ 63) ≤ k ∧ k < 2 ^ 63 ∧ l.length * k.toNat ≤ 10000000) ∧ G (.lst (List.replicate k.toNat l).flatten)) := rfl
@[simp ↓] theorem o_mod {i j : Int} : oMod (.int i) (.int j) G = (0 < j ∧ G (.int (i % j))) := rfl
@[simp ↓] theorem o_div {i j : Int} : oDiv (.int i) (.int j) G = if 0 < j then j.natAbs.log2 < 9000 ∧ G (.int (i / j)) else (j < 0 ∧ j.natAbs < 1073741824) ∧ G (.int (i.fdiv j)) := rfl
@[simp ↓] theorem o_pow {i j : Int} : oPow (.int i) (.int j) G = ((0 ≤ j ∧ j ≤ 1000000 ∧ i.natAbs < 2 ^ 64) ∧ G (.int (i ^ j.toNat))) := rfl
@[simp ↓] theorem o_lt {i j : Int} : oLt (.int i) (.int j) G = G (.bl (decide (i < j))) := rfl
@[simp ↓] theorem o_le {i j : Int} : oLe (.int i) (.int j) G = G (.bl (decide (i ≤ j))) := rfl
@[simp ↓] theorem o_gt {i j : Int} : oGt (.int i) (.int j) G = G (.bl (decide (j < i))) := rfl
@[simp ↓] theorem o_ge {i j : Int} : oGe (.int i) (.int j) G = G (.bl (decide (j ≤ i))) := rfl
@[simp] theorem ok_int {i : Int} : eqOk (.int i) := ⟨rfl, by simp [py, PyData.depth]⟩
@[simp] theorem ok_bl {b : Bool} : eqOk (.bl b) := ⟨rfl, by simp [py, PyData.depth]⟩
@[simp] theorem ok_non : eqOk .non := ⟨rfl, by simp [py, PyData.depth]⟩
@[simp] theorem eqv_int {i j : Int} : eqv (.int i) (.int j) = (i == j) := by simp [eqv, py, PyData.eqv]
@[simp ↓] theorem o_eq_int {i j : Int} : oEq (.int i) (.int j) G = G (.bl (i == j)) := by simp [oEq]
@[simp ↓] theorem o_ne_int {i j : Int} : oNe (.int i) (.int j) G = G (.bl (!(i == j))) := by simp [oNe]
@[simp ↓] theorem o_ix_tup {l : List D} {i : Int} : oIx (.tup l) (.int i) G = ∃ d, ixD l i = some d ∧ G d := rfl
@[simp ↓] theorem o_ix_lst {l : List D} {i : Int} : oIx (.lst l) (.int i) G = ∃ d, ixD l i = some d ∧ G d := rfl
@[simp ↓] theorem o_isN {x : D} (h : ∀ u, x ≠ .raw u) : oIsN x .non G = G (.bl (isNon x)) := by
  cases x <;> first | rfl | exact absurd rfl (h _)
@[simp ↓] theorem o_notN {x : D} (h : ∀ u, x ≠ .raw u) : oNotN x .non G = G (.bl (!isNon x)) := by
  cases x <;> first | rfl | exact absurd rfl (h _)
@[simp ↓] theorem o_isB {i j : Bool} : oIsB (.bl i) (.bl j) G = G (.bl (decide (i = j))) := rfl
@[simp ↓] theorem o_notB {i j : Bool} : oNotB (.bl i) (.bl j) G = G (.bl (!decide (i = j))) := rfl
/-! built-ins -/
@[simp ↓] theorem c_isi {n : String} : cIsi [d, .raw (.ty n)] G = ((tyS d ≠ "?" ∧ n ∈ ["int", "bool", "tuple", "list", "dict", "str"]) ∧ G (.bl (isiS (tyS d) n))) := rfl
@[simp ↓] theorem c_len_tup {l : List D} : cLen [.tup l] G = G (.int l.length) := rfl
@[simp ↓] theorem c_len_lst {l : List D} : cLen [.lst l] G = G (.int l.length) := rfl
@[simp ↓] theorem c_abs {i : Int} : cAbs [.int i] G = G (.int i.natAbs) := rfl
@[simp ↓] theorem c_max2 {i j : Int} : cMax2 [.int i, .int j] G = G (.int (max i j)) := rfl
@[simp ↓] theorem c_min2 {i j : Int} : cMin2 [.int i, .int j] G = G (.int (min i j)) := rfl
@[simp ↓] theorem c_int {i : Int} : cInt [.int i] G = G (.int i) := rfl
@[simp ↓] theorem c_int_bl {b : Bool} : cInt [.bl b] G = G (.int (if b then 1 else 0)) := rfl
@[simp ↓] theorem c_list_tup {l : List D} : cList [.tup l] G = G (.lst l) := rfl
@[simp ↓] theorem c_list_lst {l : List D} : cList [.lst l] G = G (.lst l) := rfl
@[simp ↓] theorem c_tup_tup {l : List D} : cTup [.tup l] G = G (.tup l) := rfl
@[simp ↓] theorem c_tup_lst {l : List D} : cTup [.lst l] G = G (.tup l) := rfl
@[simp ↓] theorem c_str_int {i : Int} : cStr [.int i] G = (i.natAbs.log2 < 1920 ∧ G (.str (toString i))) := rfl
@[simp ↓] theorem c_str_str {s : Str} : cStr [.str s] G = G (.str s) := rfl
@[simp ↓] theorem c_repr : cRepr [d] G = (ShowOk d ∧ G (.str (shown d))) := rfl
@[simp] theorem ty_int {i : Int} : tyS (.int i) = "int" := rfl
@[simp] theorem ty_bl {b : Bool} : tyS (.bl b) = "bool" := rfl
@[simp] theorem ty_str {s : Str} : tyS (.str s) = "str" := rfl
@[simp] theorem ty_non : tyS .non = "NoneType" := rfl
@[simp] theorem ty_tup {l : List D} : tyS (.tup l) = "tuple" := rfl
@[simp] theorem ty_lst {l : List D} : tyS (.lst l) = "list" := rfl
@[simp] theorem ty_dic {l : List (Key × D)} : tyS (.dic l) = "dict" := rfl
end
/-! ### sizes -/
theorem cmulW {i j : Int} {a b : Nat} (ha : i.natAbs < 2 ^ a) (hb : j.natAbs < 2 ^ b) (h : a + b < 1000000) : CMulW i j := by
  have e : ∀ (n k : Nat), n < 2 ^ k → n.log2 ≤ k := fun n k hn => by
    by_cases h0 : n = 0
    · subst h0; simp
    · exact Nat.le_of_lt ((Nat.log2_lt h0).mpr hn)
  have h1 := e _ _ ha
  have h2 := e _ _ hb
  unfold CMulW
  omega
/-- an int below 2 ^ 400 -/
abbrev Sm (i : Int) : Prop := i.natAbs < 2 ^ 400
theorem cmulS {i j : Int} (ha : i.natAbs < 2 ^ 100000) (hb : j.natAbs < 2 ^ 100000) : CMulW i j := cmulW ha hb (by decide)
/-! ### what may be shown -/
mutual
/-- its ints below 10 ^ 100, its texts of plain signs -/
def leaf : D → Bool
  | .non => true
  | .bl _ => true
  | .int i => decide (i.natAbs < 10 ^ 100)
  | .str s => s.cps.toList.all fun c => decide (c < 16 ^ 8)
  | .tup l => leafs l
  | .lst l => leafs l
  | .dic l => leafk l
  | .raw _ => false
  | .deck _ => false
  | .scr _ => false
def leafs : List D → Bool
  | [] => true
  | d :: l => leaf d && leafs l
def leafk : List (Key × D) → Bool
  | [] => true
  | (.inl i, d) :: l => decide (i.natAbs < 10 ^ 100) && leaf d && leafk l
  | (.inr s, d) :: l => (s.cps.toList.all fun c => decide (c < 16 ^ 8)) && leaf d && leafk l
end
mutual
/-- how much there is to show -/
def nds : D → Nat
  | .str s => 1 + s.cps.size
  | .tup l => 1 + ndss l
  | .lst l => 1 + ndss l
  | .dic l => 1 + ndsk l
  | _ => 1
def ndss : List D → Nat
  | [] => 0
  | d :: l => nds d + ndss l
def ndsk : List (Key × D) → Nat
  | [] => 0
  | (.inl _, d) :: l => 1 + nds d + ndsk l
  | (.inr s, d) :: l => 1 + s.cps.size + nds d + ndsk l
end
theorem int_text {i : Int} (h : i.natAbs < 10 ^ 100) : (PyData.shown (.int i)).length ≤ 101 := by
  have e := int_text_length_le10 (k := 100) (by decide) h
  show (Str.ofString (toString i)).length ≤ 101
  rw [ofString_length]
  exact e
theorem str_text {x : Str} (h : (x.cps.toList.all fun c => decide (c < 16 ^ 8)) = true) : (reprText x).length ≤ 10 * x.cps.size + 8 := by
  have hx : ∀ c ∈ x.cps.toList, c < 16 ^ 8 := by simpa only [List.all_eq_true, decide_eq_true_eq] using h
  have e := StrLaws.reprText_len x hx
  have e2 : x.length = x.cps.size := rfl
  omega
theorem int_bits {i : Int} (h : i.natAbs < 10 ^ 100) : i.natAbs.log2 < 1920 := by
  by_cases h0 : i.natAbs = 0
  · rw [h0]; decide
  · rw [Nat.log2_lt h0]
    exact Nat.lt_of_lt_of_le h (by decide +kernel)
mutual
theorem plain_leaf : ∀ d : D, leaf d = true → plainD d = true
  | .non, _ => rfl
  | .bl _, _ => rfl
  | .int _, _ => rfl
  | .str _, _ => rfl
  | .tup l, h => by simp only [plainD]; exact plain_leafs l (by simpa only [leaf] using h)
  | .lst l, h => by simp only [plainD]; exact plain_leafs l (by simpa only [leaf] using h)
  | .dic l, h => by simp only [plainD]; exact plain_leafk l (by simpa only [leaf] using h)
  | .raw _, h => by simp [leaf] at h
  | .deck _, h => by simp [leaf] at h
  | .scr _, h => by simp [leaf] at h
theorem plain_leafs : ∀ l : List D, leafs l = true → plainDs l = true
  | [], _ => rfl
  | d :: l, h => by
    simp only [leafs, Bool.and_eq_true] at h
    simp only [plainDs, plain_leaf d h.1, plain_leafs l h.2, Bool.and_true]
theorem plain_leafk : ∀ l : List (Key × D), leafk l = true → plainDk l = true
  | [], _ => rfl
  | (.inl _, d) :: l, h => by
    simp only [leafk, Bool.and_eq_true] at h
    simp only [plainDk, plain_leaf d h.1.2, plain_leafk l h.2, Bool.and_true]
  | (.inr _, d) :: l, h => by
    simp only [leafk, Bool.and_eq_true] at h
    simp only [plainDk, plain_leaf d h.1.2, plain_leafk l h.2, Bool.and_true]
end
mutual
theorem show_leaf : ∀ d : D, leaf d = true → (py d).showable = true
  | .non, _ => by simp only [py, PyData.showable]
  | .bl _, _ => by simp only [py, PyData.showable]
  | .int i, h => by
    simp only [leaf, decide_eq_true_eq] at h
    simp only [py, PyData.showable, decide_eq_true_eq]
    exact int_bits h
  | .str _, _ => by simp only [py, PyData.showable]
  | .tup l, h => by simp only [py, PyData.showable]; exact show_leafs l (by simpa only [leaf] using h)
  | .lst l, h => by simp only [py, PyData.showable]; exact show_leafs l (by simpa only [leaf] using h)
  | .dic l, h => by simp only [py, PyData.showable]; exact show_leafk l (by simpa only [leaf] using h)
  | .raw _, h => by simp [leaf] at h
  | .deck _, h => by simp [leaf] at h
  | .scr _, h => by simp [leaf] at h
theorem show_leafs : ∀ l : List D, leafs l = true → PyData.showableAll (pys l) = true
  | [], _ => by simp only [pys, PyData.showableAll]
  | d :: l, h => by
    simp only [leafs, Bool.and_eq_true] at h
    simp only [pys, PyData.showableAll, show_leaf d h.1, show_leafs l h.2, Bool.and_true]
theorem show_leafk : ∀ l : List (Key × D), leafk l = true → PyData.showableKv (pyk l) = true
  | [], _ => by simp only [pyk, PyData.showableKv]
  | (.inl i, d) :: l, h => by
    simp only [leafk, Bool.and_eq_true, decide_eq_true_eq] at h
    simp only [pyk, PyData.showableKv, PyData.showable, show_leaf d h.1.2, show_leafk l h.2, Bool.and_true, decide_eq_true_eq]
    exact int_bits h.1.1
  | (.inr _, d) :: l, h => by
    simp only [leafk, Bool.and_eq_true] at h
    simp only [pyk, PyData.showableKv, PyData.showable, show_leaf d h.1.2, show_leafk l h.2, Bool.and_true]
end
mutual
theorem len_leaf : ∀ d : D, leaf d = true → (py d).shown.length + 2 ≤ 110 * nds d
  | .non, _ => by
    have e : (PyData.shown .none).length = 4 := rfl
    simp only [py, nds]; omega
  | .bl b, _ => by
    have e : (PyData.shown (.bool b)).length ≤ 5 := by cases b <;> decide
    simp only [py, nds]; omega
  | .int i, h => by
    simp only [leaf, decide_eq_true_eq] at h
    have e := int_text h
    simp only [py, nds]; omega
  | .str s, h => by
    have e := str_text (by simpa only [leaf] using h)
    simp only [py, nds, PyData.shown]; omega
  | .tup l, h => by
    have e := len_leafs l (by simpa only [leaf] using h)
    have e2 := tupleText_len_le (PyData.shownAll (pys l))
    simp only [py, nds, PyData.shown]; omega
  | .lst l, h => by
    have e := len_leafs l (by simpa only [leaf] using h)
    have e2 := listText_len_le (PyData.shownAll (pys l))
    simp only [py, nds, PyData.shown]; omega
  | .dic l, h => by
    have e := len_leafk l (by simpa only [leaf] using h)
    have e2 := dictText_len_le (PyData.shownKv (pyk l))
    simp only [py, nds, PyData.shown]; omega
  | .raw _, h => by simp [leaf] at h
  | .deck _, h => by simp [leaf] at h
  | .scr _, h => by simp [leaf] at h
theorem len_leafs : ∀ l : List D, leafs l = true → ((PyData.shownAll (pys l)).map (·.length)).sum + 2 * (PyData.shownAll (pys l)).length ≤ 110 * ndss l
  | [], _ => by simp [pys, PyData.shownAll]
  | d :: l, h => by
    simp only [leafs, Bool.and_eq_true] at h
    have e1 := len_leaf d h.1
    have e2 := len_leafs l h.2
    simp only [pys, PyData.shownAll, List.map_cons, List.sum_cons, List.length_cons, ndss]
    omega
theorem len_leafk : ∀ l : List (Key × D), leafk l = true → ((PyData.shownKv (pyk l)).map (·.length)).sum + 2 * (PyData.shownKv (pyk l)).length ≤ 110 * ndsk l
  | [], _ => by simp [pyk, PyData.shownKv]
  | (.inl i, d) :: l, h => by
    simp only [leafk, Bool.and_eq_true, decide_eq_true_eq] at h
    have e0 := int_text h.1.1
    have e1 := len_leaf d h.1.2
    have e2 := len_leafk l h.2
    have e3 : (": " : Str).length = 2 := rfl
    simp only [pyk, PyData.shownKv, List.map_cons, List.sum_cons, List.length_cons, ndsk, strLen_append]
    omega
  | (.inr s, d) :: l, h => by
    simp only [leafk, Bool.and_eq_true] at h
    have e0 := str_text h.1.1
    have e1 := len_leaf d h.1.2
    have e2 := len_leafk l h.2
    have e3 : (": " : Str).length = 2 := rfl
    simp only [pyk, PyData.shownKv, PyData.shown, List.map_cons, List.sum_cons, List.length_cons, ndsk, strLen_append]
    omega
end
mutual
def dep : D → Nat
  | .tup l => deps l + 1
  | .lst l => deps l + 1
  | .dic l => depk l + 1
  | _ => 0
def deps : List D → Nat
  | [] => 0
  | d :: l => max (dep d) (deps l)
def depk : List (Key × D) → Nat
  | [] => 0
  | (_, d) :: l => max (dep d) (depk l)
end
mutual
theorem dep_py : ∀ d : D, (py d).depth = dep d
  | .non => by simp only [py, PyData.depth, dep]
  | .bl _ => by simp only [py, PyData.depth, dep]
  | .int _ => by simp only [py, PyData.depth, dep]
  | .str _ => by simp only [py, PyData.depth, dep]
  | .tup l => by simp only [py, PyData.depth, dep, deps_py l]
  | .lst l => by simp only [py, PyData.depth, dep, deps_py l]
  | .dic l => by simp only [py, PyData.depth, dep, depk_py l]
  | .raw _ => by simp only [py, PyData.depth, dep]
  | .deck _ => by simp only [py, PyData.depth, dep]
  | .scr _ => by simp only [py, PyData.depth, dep]
theorem deps_py : ∀ l : List D, PyData.depthAll (pys l) = deps l
  | [] => by simp only [pys, PyData.depthAll, deps]
  | d :: l => by simp only [pys, PyData.depthAll, deps, dep_py d, deps_py l]
theorem depk_py : ∀ l : List (Key × D), PyData.depthKv (pyk l) = depk l
  | [] => by simp only [pyk, PyData.depthKv, depk]
  | (.inl _, d) :: l => by simp only [pyk, PyData.depthKv, depk, dep_py d, depk_py l, PyData.depth]; omega
  | (.inr _, d) :: l => by simp only [pyk, PyData.depthKv, depk, dep_py d, depk_py l, PyData.depth]; omega
end
structure Fine (d : D) : Prop where
  lf : leaf d = true
  dp : dep d ≤ 60
  sz : nds d ≤ 100000
theorem Fine.ok {d : D} (h : Fine d) : ShowOk d := by
  refine ⟨plain_leaf d h.lf, show_leaf d h.lf, by rw [dep_py]; exact h.dp, ?_⟩
  have e := len_leaf d h.lf
  have e2 := h.sz
  have e3 : sizeLine = 16777216 := by rw [sizeLine_eq]
  omega
end DL
namespace DL
open PySem PySem.Spec L2
/-! ### loops and comprehensions, by what holds -/
theorem for_inv {g : DG} {u : DS} {B : DEnd} (I : List D → Evn → Prop) (step : ∀ d l env (N : Evn → Prop), I (d :: l) env → (∀ env', I l env' → N env') → g d env fun env1 => u { B with nx := N, ct := N, bk := B.nx } env1)
    (fin : ∀ env, I [] env → B.nx env) : ∀ (l : List D) (env : Evn), I l env → forL g u l B env
  | [], env, h => fin env h
  | d :: l, env, h => step d l env _ h fun env' h' => for_inv I step fin l env' h'
theorem while_inv {t : DT} {u : DS} {B : DEnd} (I : Evn → Prop) (μ : Evn → Nat) (step : ∀ env (N : Evn → Prop), I env → (∀ env', I env' → μ env' < μ env → N env') → t env fun b env1 => if b = true then u { B with nx := N, ct := N, bk := B.nx } env1 else B.nx env1)
    {env : Evn} (h : I env) : dWhile t u B env := by
  have key : ∀ n env, I env → μ env < n → whl t u n B env := by
    intro n
    induction n with
    | zero => intro env _ hn; omega
    | succ n ih => exact fun env hI hn => step env _ hI fun env' h1 h2 => ih env' h1 (by omega)
  exact ⟨_, key _ env h (Nat.lt_succ_self _)⟩
/-- one turn of a comprehension -/
def turn (g : DG) (t : DT) (f : DE) (vs : List Nat) (env : Evn) (d : D) (Q : Option D → Evn → Prop) : Prop := g d (wipeD env vs) fun env2 => t env2 fun b env3 => if b = true then f env3 fun y env4 => Q (some y) (restD env vs env4) else Q none (restD env vs env3)
theorem comp_all {g : DG} {t : DT} {f : DE} {vs : List Nat} {env : Evn} {QL : List D → Evn → Prop} (A : D → D → Prop) : ∀ (ds acc : List D), (∀ d ∈ ds, ∀ Q : Option D → Evn → Prop, (∀ y, A d y → Q (some y) env) → turn g t f vs env d Q) → acc.length + ds.length ≤ 10000000 →
    (∀ ys, Paired A ds ys → QL (acc ++ ys) env) → compL g t f vs ds acc env QL
  | [], acc, _, _, h => by
    have := h [] .nil
    rw [List.append_nil] at this
    exact this
  | d :: ds, acc, ht, hl, h => by
    simp only [List.length_cons] at hl
    refine ht d (List.mem_cons_self ..) (fun o env' => match o with | some y => acc.length < 10000000 ∧ compL g t f vs ds (acc ++ [y]) env' QL | none => compL g t f vs ds acc env' QL) fun y hy => ⟨by omega, ?_⟩
    refine comp_all A ds (acc ++ [y]) (fun d' hd' => ht d' (List.mem_cons_of_mem _ hd')) (by rw [List.length_append, List.length_singleton]; omega) fun ys hp => ?_
    rw [List.append_assoc]
    exact h (y :: ys) (.cons hy hp)
theorem comp_map {g : DG} {t : DT} {f : DE} {vs : List Nat} {env : Evn} {QL : List D → Evn → Prop} (h : D → Option D) : ∀ (ds acc : List D), (∀ d ∈ ds, ∀ Q : Option D → Evn → Prop, Q (h d) env → turn g t f vs env d Q) → acc.length + ds.length ≤ 10000000 →
    QL (acc ++ ds.filterMap h) env → compL g t f vs ds acc env QL
  | [], acc, _, _, q => by
    rw [List.filterMap_nil, List.append_nil] at q
    exact q
  | d :: ds, acc, ht, hl, q => by
    simp only [List.length_cons] at hl
    refine ht d (List.mem_cons_self ..) (fun o env' => match o with | some y => acc.length < 10000000 ∧ compL g t f vs ds (acc ++ [y]) env' QL | none => compL g t f vs ds acc env' QL) ?_
    cases e : h d with
    | some y =>
      refine ⟨by omega, comp_map h ds (acc ++ [y]) (fun d' hd' => ht d' (List.mem_cons_of_mem _ hd')) (by rw [List.length_append, List.length_singleton]; omega) ?_⟩
      rw [List.filterMap_cons, e] at q
      rw [List.append_assoc]
      exact q
    | none =>
      refine comp_map h ds acc (fun d' hd' => ht d' (List.mem_cons_of_mem _ hd')) (by omega) ?_
      rw [List.filterMap_cons, e] at q
      exact q
/-! ### a deck made -/
theorem rng_map (ns : List Int) : ns.map D.int = ns.map fun n => D.int n := rfl
/-! ### items -/
theorem ix_mem {l : List D} {i : Int} (h0 : 0 ≤ i) (h1 : i < l.length) : ∃ d ∈ l, ixD l i = some d := by
  have hi : i.toNat < l.length := by omega
  refine ⟨l[i.toNat], List.getElem_mem hi, ?_⟩
  unfold ixD
  rw [if_pos h0, List.getElem?_eq_getElem hi]
/-! ### the program's own small functions, in every law -/
def intD : D → Bool
  | .int _ => true
  | _ => false
def areD (d : D) (n : Int) : Bool := match d with
  | .tup l => decide ((l.length : Int) = n) && l.all intD
  | _ => false
theorem all_ints : ∀ {l : List D}, l.all intD = true → ∃ ns : List Int, l = ns.map D.int
  | [], _ => ⟨[], rfl⟩
  | d :: l, h => by
    simp only [List.all_cons, Bool.and_eq_true] at h
    obtain ⟨ns, rfl⟩ := all_ints h.2
    cases d with
    | int i => exact ⟨i :: ns, rfl⟩
    | _ => simp [intD] at h
theorem are3 {d : D} (h : areD d 3 = true) : ∃ a b c : Int, d = .tup [.int a, .int b, .int c] := by
  cases d with
  | tup l =>
    simp only [areD, Bool.and_eq_true, decide_eq_true_eq] at h
    obtain ⟨ns, rfl⟩ := all_ints h.2
    have hl : ns.length = 3 := by have := h.1; rw [List.length_map] at this; omega
    match ns, hl with
    | [a, b, c], _ => exact ⟨a, b, c, rfl⟩
  | _ => simp [areD] at h
theorem are4 {d : D} (h : areD d 4 = true) : ∃ a b c e : Int, d = .tup [.int a, .int b, .int c, .int e] := by
  cases d with
  | tup l =>
    simp only [areD, Bool.and_eq_true, decide_eq_true_eq] at h
    obtain ⟨ns, rfl⟩ := all_ints h.2
    have hl : ns.length = 4 := by have := h.1; rw [List.length_map] at this; omega
    match ns, hl with
    | [a, b, c, e], _ => exact ⟨a, b, c, e, rfl⟩
  | _ => simp [areD] at h
theorem are2 {d : D} (h : areD d 2 = true) : ∃ a b : Int, d = .tup [.int a, .int b] := by
  cases d with
  | tup l =>
    simp only [areD, Bool.and_eq_true, decide_eq_true_eq] at h
    obtain ⟨ns, rfl⟩ := all_ints h.2
    have hl : ns.length = 2 := by have := h.1; rw [List.length_map] at this; omega
    match ns, hl with
    | [a, b], _ => exact ⟨a, b, rfl⟩
  | _ => simp [areD] at h
theorem plain_ty {d : D} (h : plainD d = true) : tyS d ≠ "?" := by
  cases d <;> first | (simp [tyS]; done) | simp [plainD] at h
theorem plain_mem : ∀ {l : List D}, plainDs l = true → ∀ d ∈ l, plainD d = true
  | [], _, d, h => by simp at h
  | x :: l, h, d, hd => by
    simp only [plainDs, Bool.and_eq_true] at h
    rcases List.mem_cons.mp hd with rfl | hd
    · exact h.1
    · exact plain_mem h.2 d hd
def S_isint : SD := fun ds P _ => match ds with
  | [d] => plainD d = true ∧ P (.bl (intD d))
  | _ => False
def S_areints : SD := fun ds P _ => match ds with
  | [d, .int n] => plainD d = true ∧ nds d ≤ 1000000 ∧ P (.bl (areD d n))
  | _ => False
def S_gcd : SD := fun ds P _ => match ds with
  | [.int a, .int b] => P (.int (Nat.gcd a.natAbs b.natAbs))
  | _ => False
theorem len_nds : ∀ l : List D, l.length ≤ ndss l
  | [] => Nat.le_refl _
  | d :: l => by
    have := len_nds l
    have h : 1 ≤ nds d := by cases d <;> simp [nds]
    simp only [List.length_cons, ndss]
    omega
end DL
namespace DL
open PySem PySem.Spec L2
/-! ### widths, found by instance -/
class Lt (n : outParam Nat) (i : Int) : Prop where
  h : i.natAbs < 2 ^ n
theorem Lt.mono {a b : Nat} {i : Int} (hi : Lt a i) (h : a ≤ b) : Lt b i := ⟨Nat.lt_of_lt_of_le hi.h (Nat.pow_le_pow_right (by decide) h)⟩
instance Lt.mul {a b : Nat} {i j : Int} [hi : Lt a i] [hj : Lt b j] : Lt (a + b) (i * j) := ⟨wide_lt hi.h hj.h⟩
instance Lt.add {a b : Nat} {i j : Int} [hi : Lt a i] [hj : Lt b j] : Lt (max a b + 1) (i + j) := ⟨by
  have h1 := (hi.mono (Nat.le_max_left a b)).h
  have h2 := (hj.mono (Nat.le_max_right a b)).h
  rw [Nat.pow_succ]
  omega⟩
instance Lt.sub {a b : Nat} {i j : Int} [hi : Lt a i] [hj : Lt b j] : Lt (max a b + 1) (i - j) := ⟨by
  have h1 := (hi.mono (Nat.le_max_left a b)).h
  have h2 := (hj.mono (Nat.le_max_right a b)).h
  rw [Nat.pow_succ]
  omega⟩
instance Lt.neg {a : Nat} {i : Int} [hi : Lt a i] : Lt a (-i) := ⟨by rw [Int.natAbs_neg]; exact hi.h⟩
instance (priority := low) Lt.lit {n : Nat} : Lt (n.log2 + 1) (no_index (OfNat.ofNat n : Int)) := ⟨Nat.lt_log2_self⟩
theorem Lt.cm {a b : Nat} {i j : Int} [hi : Lt a i] [hj : Lt b j] (h : a + b < 1000000) : CMulW i j := cmulW hi.h hj.h h
theorem Lt.to {a b : Nat} {i : Int} [hi : Lt a i] (h : a ≤ b) : Lt b i := hi.mono h
theorem Lt.of {n : Nat} {i : Int} (h : i.natAbs < 2 ^ n) : Lt n i := ⟨h⟩
/-! ### equality of lists and tuples of plain things -/
mutual
def lvl : D → Nat
  | .tup l => 1 + lvls l
  | .lst l => 1 + lvls l
  | _ => 1
def lvls : List D → Nat
  | [] => 0
  | d :: l => max (lvl d) (lvls l)
end
mutual
theorem lvl_py : ∀ d : D, flatD d = true → (py d).depth ≤ lvl d
  | .non, _ | .bl _, _ | .int _, _ | .str _, _ => by simp [py, PyData.depth, lvl]
  | .tup l, h | .lst l, h => by
    simp only [flatD] at h
    have := lvls_py l h
    simp only [py, PyData.depth, lvl]
    omega
  | .dic _, h | .raw _, h | .deck _, h | .scr _, h => by simp [flatD] at h
theorem lvls_py : ∀ l : List D, flatDs l = true → PyData.depthAll (pys l) ≤ lvls l
  | [], _ => by simp [pys, PyData.depthAll, lvls]
  | d :: l, h => by
    simp only [flatDs, Bool.and_eq_true] at h
    have h1 := lvl_py d h.1
    have h2 := lvls_py l h.2
    simp only [pys, PyData.depthAll, lvls]
    omega
end
theorem eqOk.of {d : D} (h : flatD d = true) (h2 : lvl d ≤ 64) : eqOk d := ⟨h, Nat.le_trans (lvl_py d h) h2⟩
def eqvs : List D → List D → Bool
  | [], [] => true
  | a :: l, b :: m => eqv a b && eqvs l m
  | _, _ => false
theorem eqvs_py : ∀ l m : List D, PyData.eqvAll (pys l) (pys m) = eqvs l m
  | [], [] => by simp [pys, PyData.eqvAll, eqvs]
  | [], b :: m => by simp [pys, PyData.eqvAll, eqvs]
  | a :: l, [] => by simp [pys, PyData.eqvAll, eqvs]
  | a :: l, b :: m => by simp [pys, PyData.eqvAll, eqvs, eqvs_py l m, eqv]
@[simp] theorem eqv_tup {l m : List D} : eqv (.tup l) (.tup m) = eqvs l m := by simp [eqv, py, PyData.eqv, eqvs_py]
@[simp] theorem eqv_lst {l m : List D} : eqv (.lst l) (.lst m) = eqvs l m := by simp [eqv, py, PyData.eqv, eqvs_py]
@[simp] theorem eqv_tl {l m : List D} : eqv (.tup l) (.lst m) = false := by simp [eqv, py, PyData.eqv]
@[simp] theorem eqv_lt {l m : List D} : eqv (.lst l) (.tup m) = false := by simp [eqv, py, PyData.eqv]
@[simp] theorem eqvs_nn : eqvs [] [] = true := rfl
@[simp] theorem eqvs_cn {a : D} {l : List D} : eqvs (a :: l) [] = false := rfl
@[simp] theorem eqvs_nc {a : D} {l : List D} : eqvs [] (a :: l) = false := rfl
@[simp] theorem eqvs_cc {a b : D} {l m : List D} : eqvs (a :: l) (b :: m) = (eqv a b && eqvs l m) := rfl
theorem eqvs_emp {l : List D} : eqvs l [] = l.isEmpty := by cases l <;> rfl
theorem flat_ints : ∀ {l : List D}, (∀ d ∈ l, ∃ i, d = .int i) → flatDs l = true ∧ lvls l ≤ 1
  | [], _ => ⟨rfl, by simp [lvls]⟩
  | d :: l, h => by
    obtain ⟨i, rfl⟩ := h d (List.mem_cons_self ..)
    have := flat_ints fun x hx => h x (List.mem_cons_of_mem _ hx)
    exact ⟨by simp [flatDs, flatD, this.1], by simp only [lvls, lvl]; omega⟩
theorem ok_ints {l : List D} (h : ∀ d ∈ l, ∃ i, d = .int i) : eqOk (.lst l) ∧ eqOk (.tup l) := by
  have := flat_ints h
  exact ⟨.of (by simpa [flatD] using this.1) (by simp only [lvl]; omega), .of (by simpa [flatD] using this.1) (by simp only [lvl]; omega)⟩
section
variable {l m : List D} {a b : Str} {G : D → Prop}
@[simp ↓] theorem o_eq_tt : oEq (.tup l) (.tup m) G = ((m = [] ∨ (eqOk (.tup l) ∧ eqOk (.tup m))) ∧ G (.bl (eqvs l m))) := by simp [oEq]
@[simp ↓] theorem o_ne_tt : oNe (.tup l) (.tup m) G = ((m = [] ∨ (eqOk (.tup l) ∧ eqOk (.tup m))) ∧ G (.bl (!eqvs l m))) := by simp [oNe]
@[simp ↓] theorem o_eq_ll : oEq (.lst l) (.lst m) G = ((m = [] ∨ (eqOk (.lst l) ∧ eqOk (.lst m))) ∧ G (.bl (eqvs l m))) := by simp [oEq]
@[simp ↓] theorem o_ne_ll : oNe (.lst l) (.lst m) G = ((m = [] ∨ (eqOk (.lst l) ∧ eqOk (.lst m))) ∧ G (.bl (!eqvs l m))) := by simp [oNe]
@[simp ↓] theorem o_eq_ss : oEq (.str a) (.str b) G = G (.bl (decide (a = b))) := rfl
@[simp ↓] theorem o_ne_ss : oNe (.str a) (.str b) G = G (.bl (!decide (a = b))) := rfl
@[simp] theorem pick0 {d : D} {l : List D} : pickL [0] (d :: l) = [d] := rfl
end
@[simp] theorem ok_nl : eqOk (.lst []) := .of rfl (by simp [lvl, lvls])
@[simp] theorem ok_nt : eqOk (.tup []) := .of rfl (by simp [lvl, lvls])
@[simp] theorem nat_beq1 {n : Nat} : ((n : Int) == 1) = (n == 1) := by
  rw [Bool.eq_iff_iff]; simp; omega
end DL
namespace DL
open PySem PySem.Spec L2
/-! ### a draw from a deck of cells, a mixed number and turns -/
section
variable (K : PySem.W.Frag)
abbrev tInt1 (t : TE) : TE := tCB (fun xs H Q => (∃ i, xs = [.int i] ∧ Q (.int i) H) ∨ ∃ k, xs = [.bl k] ∧ Q (.int (if k then 1 else 0)) H) (tCons t tNil)
abbrev tKey (s : Str) : TE := tDGet (tVar 0) (tC (.str s))
abbrev tAd (a b : TE) : TE := tOp (rI0 fun i j => V.int (i + j)) a b
abbrev tMo (a b : TE) : TE := tOp (rI (fun _ j => 0 < j) fun i j => V.int (i % j)) a b
abbrev tMu (a b : TE) : TE := tOp (rI CMul fun i j => V.int (i * j)) a b
abbrev tI (i : Int) : TE := tC (.int i)
def drawA (a b c : Str) : TS :=
  tSeq (sDPut (tVar 0) (tC (.str c)) (tAd (tKey c) (tI 1)))
  (tSeq (tIfS (tTest (tOp (rNeD K) (tKey a) (tLst tNil)))
    (tSeq (tAsg (tBM0 K "list" rPop (tKey a)) (L2.gName 2))
    (tSeq (tIfS (tTest (tOp (rI0 fun i j => V.bl (decide (j ≤ i))) (tVar 2) (tOp (rI CPow fun i j => V.int (i ^ j.toNat)) (tI 10) (tI 18))))
      (tSeq (tDrop (tBM K "list" rAppend (tKey a) (tCons (tOp (rI CDivW fun i j => V.int (i / j)) (tVar 2)
        (tCB (fun xs H Q => ∃ i j, xs = [V.int i, V.int j] ∧ Q (V.int (if j > i then j else i)) H) (tCons (tI 2) (tCons (tVar 1) tNil)))) tNil)))
      (tRet (tMo (tInt1 (tVar 2)) (tVar 1)))) tNext)
    (sDPut (tVar 0) (tC (.str b)) (tMo (tInt1 (tAd (tKey b) (tVar 2))) (tI 2147483647))))) tNext)
  (tSeq (sDPut (tVar 0) (tC (.str b)) (tMo (tInt1 (tAd (tAd (tMu (tKey b) (tI 48271)) (tMu (tKey c) (tI 69621))) (tI 1))) (tI 2147483647)))
  (tRet (tMo (tOp (rI CDiv fun i j => V.int (i / j)) (tMo (tInt1 (tMu (tKey b) (tKey b))) (tI 2147483629)) (tI 64)) (tVar 1)))))
end
section
variable {K : PySem.W.Frag} {a b c : Str} {H0 H : Hp} {p : DkP} {cs : List Int} {m t below : Int} {D : Ends} {v2 : Option V}
theorem mm (i : Int) : 0 ≤ i % 2147483647 ∧ i % 2147483647 < 2147483647 := ⟨Int.emod_nonneg _ (by decide), Int.emod_lt_of_pos _ (by decide)⟩
theorem below_log {i : Int} (h0 : 0 < i) (h : i < 2 ^ 8000) : i.natAbs.log2 < 9000 := by
  have h1 : i.natAbs < 2 ^ 8000 := by
    have : ((i.natAbs : Nat) : Int) < ((2 ^ 8000 : Nat) : Int) := by
      rw [Int.natAbs_of_nonneg (by omega)]
      simpa using h
    exact Int.ofNat_lt.mp this
  exact Nat.lt_of_lt_of_le (PySem.Flt.log2_lt_of (by decide) h1) (by decide)
/-- the end of a draw -/
theorem drawA_end (n : Ne3 a b c) (d : D3 a b c H0 p H cs m t) (hm : 0 ≤ m ∧ m < 2147483648) (hb : 0 < below) (fin : ∀ (H : Hp) (m t r : Int), D3 a b c H0 p H cs m t → 0 ≤ m → m < 2147483648 → 0 ≤ r → r < below → D.rt (.int r) H) :
    tSeq (sDPut (tVar 0) (tC (.str b)) (tMo (tInt1 (tAd (tAd (tMu (tKey b) (tI 48271)) (tMu (tKey c) (tI 69621))) (tI 1))) (tI 2147483647)))
      (tRet (tMo (tOp (rI CDiv fun i j => V.int (i / j)) (tMo (tInt1 (tMu (tKey b) (tKey b))) (tI 2147483629)) (tI 64)) (tVar 1))) D [some (.ref p.1), some (.int below), v2] H := by
  have e := mm (m * 48271 + t * 69621 + 1)
  have d' := d.setD ((m * 48271 + t * 69621 + 1) % 2147483647) t
  refine ⟨_, rfl, _, _, rfl, d.getM n, _, _, rfl, rfl, .inr (by decide), _, rfl, _, _, rfl, d.getT n, _, _, rfl, rfl, .inr (by decide), _, _, rfl, rfl, _, _, rfl, rfl, .inl ⟨_, rfl, _, _, rfl, rfl, show (0 : Int) < 2147483647 by decide, _, rfl, _, _, rfl, d.putM n _, ?_⟩⟩
  refine ⟨_, rfl, _, _, rfl, d'.getM n, _, rfl, _, _, rfl, d'.getM n, _, _, rfl, rfl, .inl ⟨by omega, by omega⟩, .inl ⟨_, rfl, _, _, rfl, rfl, show (0 : Int) < 2147483629 by decide, _, _, rfl, rfl, ⟨by decide, by decide⟩, _, rfl, _, _, rfl, rfl, hb, ?_⟩⟩
  exact fin _ _ _ _ d' e.1 (by omega) (Int.emod_nonneg _ (by omega)) (Int.emod_lt_of_pos _ hb)
theorem drawA_ok (n : Ne3 a b c) (d : D3 a b c H0 p H cs m t) (hl : cs.length ≤ 63) (hm : 0 ≤ m ∧ m < 2147483648) (hb : 0 < below) (hb2 : below < 2 ^ 8000)
    (fin : ∀ (H : Hp) (cs : List Int) (m t r : Int), D3 a b c H0 p H cs m t → cs.length ≤ 63 → 0 ≤ m → m < 2147483648 → 0 ≤ r → r < below → D.rt (.int r) H) :
    drawA K a b c D [some (.ref p.1), some (.int below), none] H := by
  refine ⟨_, rfl, _, _, rfl, d.getT n, _, _, rfl, rfl, _, rfl, _, _, rfl, d.putT n _, ?_⟩
  have d1 := d.setD m (t + 1)
  refine d1.full rfl fun l hl0 => ?_
  have d2 := d1.laid hl0 (.lst [])
  by_cases hc : cs = []
  · subst hc
    exact drawA_end n d2 hm hb fun H m t r x h1 h2 h3 h4 => fin H [] m t r x hl h1 h2 h3 h4
  · have hcs : (!cs.isEmpty) = true := by cases cs <;> simp at hc ⊢
    rw [if_pos hcs]
    have hlen : 0 < cs.length := List.length_pos_iff.mpr hc
    obtain ⟨x, hx⟩ : ∃ x : Int, cs[cs.length - 1]? = some x := ⟨_, List.getElem?_eq_getElem (by omega)⟩
    have d3 := d2.setL cs.dropLast
    have hdl : (cs.map V.int).dropLast = cs.dropLast.map V.int := by rw [List.dropLast_eq_take, List.dropLast_eq_take, List.map_take, List.length_map]
    refine ⟨_, rfl, _, _, rfl, d2.getC, .inl ⟨rfl, _, SqL.of d2.ls⟩, _, cs.map V.int, .int x, rfl, rfl, d2.ls, by rw [List.length_map, List.getElem?_map, hx]; rfl, ?_⟩
    rw [hdl]
    refine ⟨_, rfl, _, _, rfl, rfl, ⟨by decide, by decide, by decide⟩, _, _, rfl, rfl, _, rfl, ?_⟩
    by_cases hg : (10 : Int) ^ (18 : Int).toNat ≤ x
    · rw [decide_eq_true hg]
      have hmx : CDivW x (if below > 2 then below else 2) := by
        split
        · exact ⟨hb, below_log hb hb2⟩
        · exact ⟨by decide, by decide⟩
      refine ⟨_, rfl, _, _, rfl, d3.getC, .inl ⟨rfl, _, SqL.of d3.ls⟩, _, rfl, _, rfl, _, _, rfl, _, _, rfl, rfl, hmx, _, _, _, rfl, rfl, d3.ls, ?_, ?_⟩
      · rw [List.length_map, List.length_dropLast]
        exact Nat.lt_of_le_of_lt (m := 63) (by omega) (by decide)
      · have d4 := d3.setL (cs.dropLast ++ [x / if below > 2 then below else 2])
        rw [List.map_append] at d4
        refine ⟨_, rfl, .inl ⟨_, rfl, _, rfl, _, _, rfl, rfl, hb, ?_⟩⟩
        refine fin _ _ _ _ _ d4 ?_ hm.1 hm.2 (Int.emod_nonneg _ (by omega)) (Int.emod_lt_of_pos _ hb)
        rw [List.length_append, List.length_dropLast, List.length_singleton]
        omega
    · rw [decide_eq_false hg]
      have e := mm (m + x)
      refine ⟨_, rfl, _, _, rfl, d3.getM n, _, rfl, _, _, rfl, rfl, .inl ⟨_, rfl, _, _, rfl, rfl, show (0 : Int) < 2147483647 by decide, _, rfl, _, _, rfl, d3.putM n _, ?_⟩⟩
      refine drawA_end n (d3.setD _ _) ⟨e.1, by omega⟩ hb fun H m t r y h1 h2 h3 h4 => fin H _ m t r y ?_ h1 h2 h3 h4
      rw [List.length_dropLast]
      omega
end
end DL
namespace DL
open PySem PySem.Spec L2
/-! ### loops over ints -/
theorem for_rng {g : DG} {u : DS} {B : DEnd} {lo : Int} {n : Nat} (I : Nat → Evn → Prop) (step : ∀ (i : Nat) (env : Evn) (N : Evn → Prop), i < n → I i env → (∀ env', I (i + 1) env' → N env') → g (.int (lo + i)) env fun env1 => u { B with nx := N, ct := N, bk := B.nx } env1)
    (fin : ∀ env, I n env → B.nx env) {env : Evn} (h : I 0 env) : forL g u (rngD lo n) B env := by
  have key : ∀ (k j : Nat) (env : Evn), j + k = n → I j env → forL g u ((List.range' j k).map fun (i : Nat) => D.int (lo + i)) B env := by
    intro k
    induction k with
    | zero =>
      intro j env e h
      have : j = n := by omega
      subst this
      exact fin env h
    | succ k ih =>
      intro j env e h
      rw [List.range'_succ, List.map_cons]
      exact step j env _ (by omega) h fun env' h' => ih (j + 1) env' (by omega) h'
  unfold rngD
  rw [List.range_eq_range']
  exact key n 0 env (by omega) h
theorem for_ints {g : DG} {u : DS} {B : DEnd} (I : List Int → Evn → Prop) (step : ∀ (i : Int) (l : List Int) (env : Evn) (N : Evn → Prop), I (i :: l) env → (∀ env', I l env' → N env') → g (.int i) env fun env1 => u { B with nx := N, ct := N, bk := B.nx } env1)
    (fin : ∀ env, I [] env → B.nx env) : ∀ {l : List Int} {env : Evn}, I l env → forL g u (l.map D.int) B env
  | [], env, h => fin env h
  | i :: l, env, h => step i l env _ h fun env' h' => for_ints I step fin h'
theorem cut_ints (ns : List Int) (a b : Option Int) : ∃ ms : List Int, cutD (ns.map D.int) a b = ms.map D.int ∧ ms.length ≤ ns.length := by
  refine ⟨(ns.drop (HT.sIx (ns.map D.int).length 0 a)).take (HT.sIx (ns.map D.int).length (ns.map D.int).length b - HT.sIx (ns.map D.int).length 0 a), ?_, ?_⟩
  · unfold cutD
    rw [List.map_take, List.map_drop]
  · rw [List.length_take, List.length_drop]
    omega
theorem drawA_fn {K : PySem.W.Frag} {vs : List V} {H : Hp} {Q : VK} {E : XK} {N : List Str} (hN : N.length = 3) {mg : Str → Option Value} (h : spD K mg (S_draw 0) vs H Q E) : drawA K "cells" "mixed" "turn" { nx := fun _ H' => Q .non H', rt := Q } (L2.start N vs) H := by
  obtain ⟨ds, F, k, P, PX, W, a, h, q, _⟩ := h
  unfold S_draw at h
  split at h
  case h_2 => exact h.elim
  rename_i m b
  obtain ⟨rfl, hb, hb1, hr⟩ := h
  have hb2 : b < 2 ^ 8000 := Int.lt_trans hb1 (by decide +kernel)
  simp only [Ats, At] at a
  obtain ⟨v, _, rfl, ⟨p, e0, e1, e2⟩, v2, _, rfl, e3, rfl⟩ := a
  subst e0
  subst e2
  subst e3
  obtain ⟨⟨kvs, cs, h1, h2, h3⟩, f1, f2⟩ := W.dk p rfl
  rw [e1] at h3
  obtain ⟨hl, m, t, rfl, hm⟩ := h3
  have d : D3 "cells" "mixed" "turn" H p H cs m t := ⟨h1, h2, fun _ _ h _ _ => h, by rw [h1]; simp, by rw [h2]; simp⟩
  have st : L2.start N [.ref p.1, .int b] = [some (.ref p.1), some (.int b), none] := by
    unfold L2.start
    rw [hN]
    rfl
  rw [st]
  refine drawA_ok (n := ⟨by decide, by decide, by decide⟩) d hl hm hb hb2 fun H' cs' m' t' r d' hl' hm1 hm2 h0 h1 => q (.int r) _ H' (hr r h0 h1) (d'.fin (n := 0) W rfl ?_)
  rw [e1]
  exact ⟨hl', m', t', rfl, hm1, hm2⟩
end DL
namespace DL
open PySem PySem.Spec L2
/-- a comprehension, by what its items have -/
theorem comp_mem {g : DG} {t : DT} {f : DE} {vs : List Nat} {env : Evn} {QL : List D → Evn → Prop} (A : D → Prop) : ∀ (ds acc : List D), (∀ d ∈ ds, ∀ Q : Option D → Evn → Prop, Q none env → (∀ y, A y → Q (some y) env) → turn g t f vs env d Q) → acc.length + ds.length ≤ 10000000 →
    (∀ ys, ys.length ≤ ds.length → (∀ y ∈ ys, A y) → QL (acc ++ ys) env) → compL g t f vs ds acc env QL
  | [], acc, _, _, h => by
    have := h [] (Nat.le_refl _) (by simp)
    rw [List.append_nil] at this
    exact this
  | d :: ds, acc, ht, hl, h => by
    simp only [List.length_cons] at hl
    refine ht d (List.mem_cons_self ..) (fun o env' => match o with | some y => acc.length < 10000000 ∧ compL g t f vs ds (acc ++ [y]) env' QL | none => compL g t f vs ds acc env' QL) ?_ fun y hy => ⟨by omega, ?_⟩
    · exact comp_mem A ds acc (fun d' hd' => ht d' (List.mem_cons_of_mem _ hd')) (by omega) fun ys hl ha => h ys (by simp only [List.length_cons]; omega) ha
    · refine comp_mem A ds (acc ++ [y]) (fun d' hd' => ht d' (List.mem_cons_of_mem _ hd')) (by rw [List.length_append, List.length_singleton]; omega) fun ys hl ha => ?_
      rw [List.append_assoc]
      refine h (y :: ys) (by simp only [List.length_cons]; omega) fun z hz => ?_
      rcases List.mem_cons.mp hz with rfl | hz
      · exact hy
      · exact ha z hz
/-! ### sizes of data, by members -/
structure FD (k m : Nat) (d : D) : Prop where
  lf : leaf d = true
  dp : dep d ≤ k
  sz : nds d ≤ m
theorem leafs_of : ∀ {l : List D}, (∀ d ∈ l, leaf d = true) → leafs l = true
  | [], _ => rfl
  | d :: l, h => by simp only [leafs, Bool.and_eq_true]; exact ⟨h d (List.mem_cons_self ..), leafs_of fun x hx => h x (List.mem_cons_of_mem _ hx)⟩
theorem deps_of {k : Nat} : ∀ {l : List D}, (∀ d ∈ l, dep d ≤ k) → deps l ≤ k
  | [], _ => Nat.zero_le _
  | d :: l, h => by
    have h1 := h d (List.mem_cons_self ..)
    have h2 := deps_of (k := k) fun x hx => h x (List.mem_cons_of_mem _ hx)
    simp only [deps]
    omega
theorem ndss_of {m : Nat} : ∀ {l : List D}, (∀ d ∈ l, nds d ≤ m) → ndss l ≤ l.length * m
  | [], _ => by simp [ndss]
  | d :: l, h => by
    have h1 := h d (List.mem_cons_self ..)
    have h2 := ndss_of (m := m) fun x hx => h x (List.mem_cons_of_mem _ hx)
    simp only [ndss, List.length_cons, Nat.succ_mul]
    omega
theorem FD.tup {k m n : Nat} {l : List D} (h : ∀ d ∈ l, FD k m d) (hl : l.length ≤ n) : FD (k + 1) (1 + n * m) (.tup l) := by
  have h2 := ndss_of fun d hd => (h d hd).sz
  have h3 := Nat.mul_le_mul_right m hl
  have h4 := deps_of fun d hd => (h d hd).dp
  exact ⟨leafs_of fun d hd => (h d hd).lf, by simp only [dep]; omega, by simp only [nds]; omega⟩
theorem FD.lst {k m n : Nat} {l : List D} (h : ∀ d ∈ l, FD k m d) (hl : l.length ≤ n) : FD (k + 1) (1 + n * m) (.lst l) := by
  have h2 := ndss_of fun d hd => (h d hd).sz
  have h3 := Nat.mul_le_mul_right m hl
  have h4 := deps_of fun d hd => (h d hd).dp
  exact ⟨leafs_of fun d hd => (h d hd).lf, by simp only [dep]; omega, by simp only [nds]; omega⟩
theorem FD.mono {k m k' m' : Nat} {d : D} (h : FD k m d) (h1 : k ≤ k') (h2 : m ≤ m') : FD k' m' d := ⟨h.lf, Nat.le_trans h.dp h1, Nat.le_trans h.sz h2⟩
theorem FD.fine {k m : Nat} {d : D} (h : FD k m d) (h1 : k ≤ 60) (h2 : m ≤ 100000) : Fine d := ⟨h.lf, Nat.le_trans h.dp h1, Nat.le_trans h.sz h2⟩
theorem FD.int {i : Int} (h : i.natAbs < 10 ^ 100) : FD 0 1 (.int i) := ⟨decide_eq_true h, Nat.le_refl _, Nat.le_refl _⟩
theorem FD.int' {n : Nat} {i : Int} [h : Lt n i] (hn : n ≤ 330) : FD 0 1 (.int i) := FD.int (Nat.lt_of_lt_of_le (h.mono hn).h (by decide +kernel))
theorem FD.bl {b : Bool} : FD 0 1 (.bl b) := ⟨rfl, Nat.le_refl _, Nat.le_refl _⟩
theorem FD.non : FD 0 1 .non := ⟨rfl, Nat.le_refl _, Nat.le_refl _⟩
theorem cut_mem {l : List D} {a b : Option Int} {d : D} (h : d ∈ cutD l a b) : d ∈ l := List.mem_of_mem_drop (List.mem_of_mem_take h)
theorem cut_len (l : List D) (a b : Option Int) : (cutD l a b).length ≤ l.length := by
  unfold cutD
  rw [List.length_take, List.length_drop]
  omega
theorem FD.all {ns : List Int} {w : Nat} (h : ∀ n ∈ ns, Lt w n) (hw : w ≤ 330) : ∀ d ∈ ns.map D.int, FD 0 1 d := by
  intro d hd
  obtain ⟨i, hi, rfl⟩ := List.mem_map.mp hd
  have := h i hi
  exact FD.int' hw
theorem leaf_text (s : String) : leaf (.str (Str.ofString s)) = true := by
  rw [PySem.Str.ofString_eq_toList]
  simp only [leaf, List.all_eq_true, decide_eq_true_eq]
  intro c hc
  obtain ⟨x, _, rfl⟩ := List.mem_map.mp hc
  exact x.val.toNat_lt
theorem FD.text {s : String} {m : Nat} (h : (Str.ofString s).length ≤ m) : FD 0 (1 + m) (.str (Str.ofString s)) := ⟨leaf_text s, Nat.le_refl _, by simp only [nds]; exact Nat.add_le_add_left h 1⟩
/-- a text of an int -/
theorem FD.num {i : Int} (h : i.natAbs < 10 ^ 100) : FD 0 110 (.str (toString i)) := (FD.text (m := 101) (int_text h)).mono (Nat.le_refl _) (by decide)
theorem Lt.log {n : Nat} {i : Int} [h : Lt n i] (hn : n ≤ 1000) : i.natAbs.log2 < 1920 := by
  by_cases h0 : i.natAbs = 0
  · rw [h0]; decide
  · rw [Nat.log2_lt h0]
    exact Nat.lt_of_lt_of_le (h.mono hn).h (by decide +kernel)
theorem Lt.ten {n : Nat} {i : Int} [h : Lt n i] (hn : n ≤ 330) : i.natAbs < 10 ^ 100 := Nat.lt_of_lt_of_le (h.mono hn).h (by decide +kernel)
theorem FD.emp : FD 1 1 (.dic []) := ⟨rfl, by decide, by decide⟩
theorem FD.nil : FD 1 1 (.tup []) := ⟨rfl, by decide, by decide⟩
theorem FD.nill : FD 1 1 (.lst []) := ⟨rfl, by decide, by decide⟩
end DL
namespace DL
open PySem PySem.Spec L2
/-! ### own exception classes over Exception -/
structure XcF (K : PySem.W.Frag) (C : Addr) : Prop where
  c1 : (PySem.W.clsIn K C).isSome = true
  c2 : PySem.W.findIn K (.ref C) "__getattribute__" = some (some (.builtin "BaseException.__getattribute__"))
  c3 : PySem.W.findIn K (.ref C) "__getattr__" = some none
  c4 : PySem.W.subIn K (.ref C) (.type "BaseException") = some true
  c5 : PySem.W.findIn K (.ref C) "__class__" = some (some (.builtin "object.__class__"))
  c6 : PySem.W.specialIn K (.builtin "object.__class__") "__get__" = some (some (.builtin "getset_descriptor.__get__"))
  c7 : PySem.W.takesIn K (.builtin "object.__class__") = some true
  c8 : PySem.W.mroIn K C (.type "object") = some true
  c9 : PySem.W.typeIn K (.ref C) = some (.type "type")
  ca : PySem.W.keepIn K (.ref C) = true
  cb : PySem.W.hasDictIn K C = true
theorem xcB_ok {K : PySem.W.Frag} {C : Addr} (h : xcB K C = true) : XcF K C := by
  unfold xcB at h
  simp only [Bool.and_eq_true, decide_eq_true_eq] at h
  obtain ⟨h1, h2, h3, h4, h5, h6, h7, h8, h9, ha, hb⟩ := h
  exact ⟨h1, He.eqO_ok h2, He.eqO_ok h3, h4, He.eqO_ok h5, He.eqO_ok h6, h7, h8, h9, ha, hb⟩
theorem XcF.raises {X : Cx} {C : Addr} (h : XcF X.K C) : Raises X (.ref C) := raises_own h.c4 h.c9
/-- X() -/
theorem pmk0 {X : Cx} {C : Addr} {x : Str} {p pos : Pos} (T : XcF X.K C) (q : PySem.W.excIn X.K C eTail "Exception.__new__" = true) (gC : X.mg x = some (.ref C)) (hg : Gl X x) (hdb : (x == ("__debug__" : Str)) = false := by decide) :
    PMk X (.Call (.Name x p) [] [] pos) (fun _ H Q => Q (.ref C) none H) := by
  intro pins s σ H Q I h
  refine wpAny_Call_Name_kw (ld_glob I hg gC ?_ hdb)
  refine PySem.W.callWith_K0 I.kIn T.ca ?_
  show wpAny _ _ (call (.ref C) []) _ _ _
  obtain ⟨bm, N, nm, qn, bs, hdct, sn, sub, ab, col, dd, k0, k1, k2, k3, k5, mN, hC, hN, hni, TT⟩ := exc_obj I.kIn q
  exact wpAny_call_exc_subT PySem.F.excBase_Exception TT hC hN hni (fun h' e hm => mk_of I hm T.raises h (I.hok.gone hm.new)) (Nat.zero_le _)
end DL
namespace DL
open PySem PySem.Spec L2
/-! ### a class with an __init__ of one field -/
def iA (f : Str) (p1 p2 : Pos) : Arguments := { posonlyargs := [], args := [{ arg := "self", annotation := none, pos := p1 }, { arg := f, annotation := none, pos := p2 }], vararg := none, kwonlyargs := [], kw_defaults := [], kwarg := none, defaults := [] }
def iB (f : Str) (q1 q2 q3 q4 : Pos) : List Stmt := [.Assign [.Attribute (.Name "self" q1) f q2] (.Name f q3) q4]
def iS (f : Str) : Scope := { kind := .function, names := [("self", .local), (f, .local)], isGenerator := false, isCoroutine := false, more := [] }
structure XiF (K : PySem.W.Frag) (C : Addr) (f : Str) (fI : Addr) : Prop where
  d1 : PySem.W.findIn K (.ref C) f = some none
  d2 : PySem.W.findIn K (.ref C) "__setattr__" = some (some (.builtin "object.__setattr__"))
  d3 : PySem.W.excOver K C eTail = true
  d4 : PySem.W.excInitIn K C eTail "Exception.__new__" = true
  d5 : PySem.W.findIn K (.ref C) "__init__" = some (some (.ref fI))
  d6 : PySem.W.typeIn K (.ref fI) = some (.type "function")
theorem xiB_ok {K : PySem.W.Frag} {C : Addr} {f : Str} (h : xiB K C f = true) : XiF K C f (He.ma K C "__init__") := by
  unfold xiB at h
  simp only [Bool.and_eq_true, decide_eq_true_eq] at h
  obtain ⟨h1, h2, h3, h4, h5, h6⟩ := h
  exact ⟨He.eqO_ok h1, He.eqO_ok h2, h3, h4, He.eqO_ok h5, h6⟩
/-- its __init__, as it stands -/
def InitD (K : PySem.W.Frag) (f : Str) (fI : Addr) : Prop := ∃ (qual : Str) (p1 p2 q1 q2 q3 q4 : Pos) (fd : FuncData), FunD K "__init__" qual (iA f p1 p2) (iB f q1 q2 q3 q4) (iS f) [] [] fI fd
theorem kept_but {K : PySem.W.Frag} {h h' : Heap} {x : Addr} (X : K.In h) (hx : K.lookup x = none) (k : ∀ b o, b ≠ x → h.get? b = some o → h'.get? b = some o) : K.In h' := fun a o e =>
  k a o (fun z => by rw [z, hx] at e; cases e) (X a o e)
/-- what it leaves -/
structure Left (h h' : Heap) (x C dx t1 : Addr) (f : Str) (v : Value) : Prop where
  same : ∀ b o, b ≠ x → h.get? b = some o → h'.get? b = some o
  obj : h'.get? x = some { cls := .ref C, dict := some dx, data := .fields #[.ref t1, .none, .none, .none, .bool false, .none] }
  big : h.objs.size ≤ dx
  ne : dx ≠ x
  ns : h'.Ns1 dx (fun y => if y = f then some v else none)
section
variable {prog : Program} {w : World} {A : Around} {E : Value → Shared → Prop} {R : Result → Shared → Prop} {s : Shared} {K : PySem.W.Frag} {C fI : Addr} {f : Str}
theorem x_store {hp : Heap} {g : Array GenState} {d : Drawn} {t : Nat} {os : OsState} {tk : Tok} {v : Value} {x : Addr} {fv : Array Value} (T : XcF K C) (S : XiF K C f fI) (X : K.In hp) (hx : hp.get? x = some { cls := .ref C, data := .fields fv })
    (hq : ∀ h' tk' dx, (∀ b o, b ≠ x → hp.get? b = some o → h'.get? b = some o) → hp.objs.size ≤ dx → dx ≠ x → h'.get? x = some { cls := .ref C, dict := some dx, data := .fields fv } → h'.Ns1 dx (fun y => if y = f then some v else none) → R (.ok (.ret .none)) ⟨h', g, d, tk', os⟩) :
    codeAny (model prog w) A (.call (.builtin "object.__setattr__") ⟨[.ref x, .str f tk, v], []⟩) R ⟨hp, g, d, t, os⟩ := by
  have J : PySem.W.InstAt hp x { cls := .ref C, data := .fields fv } C none := ⟨hx, rfl, rfl, trivial⟩
  have tt : PySem.W.takerIn K C f = some none := by
    unfold PySem.W.takerIn
    rw [S.d1]
    rfl
  refine PySem.W.osa_openX PySem.F.store_Exception X J S.d3 tt fun b => ?_
  obtain ⟨cd, hcd, hh⟩ := PySem.W.any_some T.cb
  have L : PySem.W.Looks (model prog w) hp (classData C) cd := PySem.W.looks_clsIn X hcd
  have apart : x ≠ hp.objs.size := Nat.ne_of_lt (Heap.lt_size hx)
  show wpAny _ _ (Builtin.ObjectAttr.storeInOwnDict (.ref x) (.ref C) (.str f tk) f v b) _ _ _
  obtain ⟨nm, bs, mro, ns, qn, hd, sn, sb, ab, col, del⟩ := cd
  dsimp only at hh
  subst hh
  unfold Builtin.ObjectAttr.storeInOwnDict Builtin.ObjectAttr.ownDictForStores
  repeat (first | with_reducible refine PySem.HandSPX.store_in_new ?_ ?_ | with_reducible refine wpAny_loadPart_at hx ?_ | with_reducible refine L.at ?_ | wp_step)
  · exact ⟨_, #[], _, (Heap.get?_update_ne _ _ _ _ apart.symm).trans (Heap.get?_push_at rfl rfl), rfl, fun e he => absurd he (by simp), fun _ => rfl⟩
  · intro h' tk' hn sm
    have hx1 : (hp.push { cls := .type "dict", data := .dict #[] }).get? x = some { cls := .ref C, data := .fields fv } := Heap.get?_push_of_some _ hx
    exact hq h' tk' hp.objs.size (fun b o hb ho => (sm.2 b (Nat.ne_of_lt (Heap.lt_size ho))).trans ((Heap.get?_update_ne _ _ _ _ hb).trans (Heap.get?_push_of_some _ ho))) (Nat.le_refl _) apart.symm
      ((sm.2 x apart).trans (Heap.get?_update_self _ hx1 rfl)) hn
end
end DL
namespace DL
open PySem PySem.Spec L2 PyProof.Rows
section
variable {prog : Program} {w : World} {A : Around} {E : Value → Shared → Prop} {R : Result → Shared → Prop} {s : Shared} {K : PySem.W.Frag} {C fI : Addr} {f : Str}
theorem ldF {M : Model} {name : Str} {scope : Scope} {L a : Addr} {cd : Value} {m : Str → Option Value} {x : Str} {pos : Pos} {v : Value} {Q : Value → Shared → Prop} (hn : s.heap.Ns L m) (hv : m x = some v) (h : Q v s)
    (hk : scope.kind = .function) (hl : (PyProof.Rows.envOfC name scope L a cd).kindOf x = some .local) (hd : (x == ("__debug__" : Str)) = false) :
    wpAny M A (eval (.Name x pos) (PyProof.Rows.envOfC name scope L a cd)) Q E s := wpAny_Name (wpAny_loadName_local hk hl hn hv h) hd
/-- a field's name -/
structure FOk (f : Str) : Prop where
  ne : (f == ("self" : Str)) = false
  db : (f == ("__debug__" : Str)) = false
  bi : ∀ (qual : Str) (p1 p2 q1 q2 q3 q4 : Pos) (kV doc pm : Value) (an : Option Addr) (cdv ct x v : Value), bindArgs (PySem.W.fnOf "__init__" qual (iA f p1 p2) (iB f q1 q2 q3 q4) (iS f) .none kV doc pm an cdv ct) ⟨[x, v], []⟩ = pure [(("self" : Str), x), (f, v)]
theorem x_init (T : XcF K C) (S : XiF K C f fI) (D : InitD K f fI) (O : FOk f) {x t0 : Addr} {v : Value} (X : K.In s.heap) (hlim : s.heap.NoLimit) (hx : s.heap.get? x = some { cls := .ref C, data := .fields #[.ref t0, .none, .none, .none, .bool false, .none] }) (hnx : K.lookup x = none) (hroom : A.depth < recursionLimit)
    (hq : ∀ h' tk dx, Left s.heap h' x C dx t0 f v → R (.ok (.ret .none)) { s with heap := h', toks := tk }) :
    codeAny (model prog w) A (.call (.ref fI) ⟨[.ref x, v], []⟩) R s := by
  have hf := O.ne
  have hd := O.db
  obtain ⟨qual, p1, p2, q1, q2, q3, q4, fd, F⟩ := D
  obtain ⟨oc, od, dV, kV, doc, pm, an, cdv, ct, osl, rfl, ho, hcd, hD, hK⟩ := F.ex
  have hdV : dV = .none := by
    rcases hD with ⟨_, rfl⟩ | ⟨z, _⟩
    · rfl
    · exact absurd rfl z
  subst hdV
  have hf2 : (("self" : Str) == f) = false := by
    rw [beq_eq_false_iff_ne] at hf ⊢
    exact fun z => hf z.symm
  have lf : (iS f).names.lookup f = some NameKind.local := by
    simp [iS, List.lookup, hf]
  have ls : (iS f).names.lookup ("self" : Str) = some NameKind.local := by
    simp [iS, List.lookup]
  refine Att.call_fn (binds := [("self", .ref x), (f, v)]) X hlim ho hcd hroom (BindsTo.of_eq ?hb) ?hk (fun s₁ IC => ?_) rfl rfl rfl
  case hb => exact O.bi qual p1 p2 q1 q2 q3 q4 kV doc pm an cdv ct (.ref x) v
  case hk => simp [lf, ls]
  obtain ⟨h₁, tk₁, rfl⟩ := IC.toInCall.same
  have k : ∀ b o, s.heap.get? b = some o → h₁.get? b = some o := IC.toInCall.keep
  have hn := IC.toInCall.ns
  have hxL : s.heap.objs.size ≠ x := Nat.ne_of_gt (Heap.lt_size hx)
  have X₁ : K.In h₁ := X.keeps k
  have hx₁ := k _ _ hx
  have kf : (PyProof.Rows.envOfC qual (iS f) s.heap.objs.size fI cdv).kindOf f = some .local := lf
  have ks : (PyProof.Rows.envOfC qual (iS f) s.heap.objs.size fI cdv).kindOf "self" = some .local := ls
  show wpAny _ _ (execs _ _) _ _ _
  refine wpAny_execs_cons (plainObj_wpAny_Assign_Attribute ?_)
  refine ldF (v := v) hn ?hv1 (ldF (v := .ref x) hn ?hv2 ?_ rfl ks (by decide)) rfl kf hd
  case hv1 =>
    simp [bindL, kf, ks]
  case hv2 =>
    have hf3 : ¬ (("self" : Str) = f) := beq_eq_false_iff_ne.mp hf2
    simp [bindL, kf, ks, hf3]
  refine PySem.W.set_plain X₁ (od := none) ⟨hx₁, rfl, rfl, trivial⟩ S.d2 ?_
  refine x_store T S X₁ hx₁ fun h₃ tk₃ dx k₃ dn dne hx₃ hn₃ => ?_
  have z : s.heap.objs.size < h₁.objs.size := hn.lt
  exact wpAny_execs_nil (hq h₃ tk₃ dx ⟨fun b o hb e => k₃ b o hb (k b o e), hx₃, Nat.le_of_lt (Nat.lt_of_lt_of_le z dn), dne, hn₃⟩)
end
end DL
namespace DL
open PySem PySem.Spec L2 PyProof.Rows
/-- a made one -/
structure Made (h h' : Heap) (e C d : Addr) (f : Str) (v : Value) : Prop where
  same : ∀ b o, h.get? b = some o → h'.get? b = some o
  new : h.objs.size ≤ e
  obj : ∃ oe vs, h'.get? e = some oe ∧ oe.cls = .ref C ∧ oe.dict = some d ∧ oe.data = .fields vs ∧ vs[1]? = some .none
  big : h.objs.size ≤ d
  ne : d ≠ e
  ns : h'.Ns1 d (fun y => if y = f then some v else none)
section
variable {prog : Program} {w : World} {A : Around} {E : Value → Shared → Prop} {R : Result → Shared → Prop} {s : Shared} {K : PySem.W.Frag} {C fI : Addr} {f : Str}
theorem x_made (T : XcF K C) (S : XiF K C f fI) (D : InitD K f fI) (O : FOk f) {v : Value} (X : K.In s.heap) (hlim : s.heap.NoLimit) (hroom : A.depth + 1 < recursionLimit)
    (hq : ∀ h' tk e d, Made s.heap h' e C d f v → R (.ok (.ret (.ref e))) { s with heap := h', toks := tk }) : codeAny (model prog w) A (.call (.ref C) ⟨[v], []⟩) R s := by
  obtain ⟨nm, N, qn, bs, bm, hdct, sn, sub, ab, col, dd, k0, k1, k2, k3, k5, hC, hT⟩ := PySem.W.excInit_of X S.d4
  obtain ⟨hp, g, dr, tk, os⟩ := s
  have up : ∀ b o, hp.get? b = some o → ((hp.push (PySem.W.kdv_tup [v])).push (PySem.HandSPX.excO C hp.objs.size)).get? b = some o := fun b o e => Heap.get?_push_of_some _ (Heap.get?_push_of_some _ e)
  have at1 : ((hp.push (PySem.W.kdv_tup [v])).push (PySem.HandSPX.excO C hp.objs.size)).get? (hp.objs.size + 1) = some (PySem.HandSPX.excO C hp.objs.size) := by heap_get
  have out : K.lookup (hp.objs.size + 1) = none := by
    cases e : K.lookup (hp.objs.size + 1) with
    | none => rfl
    | some o =>
      have z : hp.get? (hp.objs.size + 1) = some o := X _ _ e
      exact absurd (Nat.lt_of_succ_lt (Heap.lt_size z)) (Nat.lt_irrefl _)
  refine PySem.HandSPX.call_own PySem.F.excBase_Exception hT hC (PySem.W.looks_findIn X S.d5) (fun self => PySem.W.bind_fn X self S.d6) (by show 1 ≤ sizeLine; rw [sizeLine_eq]; omega) ?_
  refine x_init (s := ⟨(hp.push (PySem.W.kdv_tup [v])).push (PySem.HandSPX.excO C hp.objs.size), g, dr, tk, os⟩) T S D O (X.keeps up) (hlim.keeps up) at1 out (show A.depth + 1 < recursionLimit from hroom) fun h' tk' dx L => ?_
  have old : ∀ b o, hp.get? b = some o → h'.get? b = some o := fun b o e => L.same b o (Nat.ne_of_lt (Nat.lt_succ_of_lt (Heap.lt_size e))) (up b o e)
  have z : hp.objs.size + 1 + 1 ≤ dx := by
    have q := L.big
    rw [Heap.size_push, Heap.size_push] at q
    exact q
  exact ⟨rfl, hq h' tk' (hp.objs.size + 1) dx ⟨old, Nat.le_succ _, ⟨_, _, L.obj, rfl, rfl, rfl, rfl⟩, Nat.le_trans (Nat.le_trans (Nat.le_succ _) (Nat.le_succ _)) z, L.ne, L.ns⟩⟩
end
theorem relO_one {v : V} {v' : Value} (r : RelV v v') (f g : Str) : RelO (List.lookup g [(f, v)]) (if g = f then some v' else none) := by
  by_cases hw : g = f
  · subst hw
    have q : List.lookup g [(g, v)] = some v := by simp [List.lookup]
    rw [if_pos rfl, q]
    exact r
  · have q1 : (g == f) = false := by simpa using hw
    have q2 : List.lookup g [(f, v)] = none := by simp [List.lookup, q1]
    rw [if_neg hw, q2]
    trivial
/-- X(e), of one field -/
def tMk1 (C : Addr) (f : Str) (ta : TA) : L2.St → Hp → XK → Prop := fun σ H Q => ta σ H fun vs H1 => ∃ v, vs = [v] ∧ ∀ d, H1 d = none → Q (.ref C) (some d) (upd H1 d (.xd [(f, v)]))
theorem pmk1 {X : Cx} {C fI : Addr} {f x : Str} {a : Expr} {ta : TA} {p pos : Pos} {k : Nat} (T : XcF X.K C) (S : XiF X.K C f fI) (D : InitD X.K f fI) (O : FOk f) (gC : X.mg x = some (.ref C)) (hr : Room k X.A) (ha : PA X [a] ta) (hg : Gl X x) (hdb : (x == ("__debug__" : Str)) = false := by decide)
    (he : starEach (a :: []) X.env = (false, eval a X.env) :: starEach [] X.env := by rfl) (hpl : (backTo pos (starEach [] X.env)).any (·.1) = false := by rfl) : PMk X (.Call (.Name x p) [a] [] pos) (tMk1 C f ta) := by
  intro pins s σ H Q I h
  refine wpAny_Call_Name_kw (ld_glob I hg gC ?_ hdb)
  refine PySem.W.callWith_K (h₀ := X.base) I.ok.mod.kin T.ca (thn (ha.run pos pins s σ H _ I h) fun us s1 ⟨vs, H1, I1, r1, v, ev, q1⟩ => ⟨I1.kIn, ?_⟩) he hpl
  subst ev
  obtain ⟨v', rfl, rv⟩ := vals1 r1
  have hlim := I1.nolimit
  obtain ⟨hp, g, dr, tk, os⟩ := s1
  refine PySem.wpAny_call (x_made T S D O I1.kIn hlim (by have := hr.dp; omega) fun h' tk' e d M => ?_)
  show MkP X pins σ Q (.ref e) ⟨h', g, dr, tk', os⟩
  obtain ⟨oe, fv, hoe, hc, hd, hdat, h1⟩ := M.obj
  have hns := M.ns
  obtain ⟨G', g1, g2⟩ := restrict h' fun b => decide (b ≠ e)
  have gk : ∀ b, b ≠ e → G'.get? b = h'.get? b := fun b hb => g1 b (decide_eq_true hb)
  have ge : G'.get? e = none := g2 e (by simp)
  have old : ∀ b o, hp.get? b = some o → G'.get? b = some o := fun b o q => (gk b (Nat.ne_of_lt (Nat.lt_of_lt_of_le (Heap.lt_size q) M.new))).trans (M.same b o q)
  have ob : ObjOk X.prog X.w (upd H1 d (.xd [(f, v)])) G' d (.xd [(f, v)]) := ⟨_, hns.at (fun o q => (gk d M.ne).trans q), fun y => relO_one rv f y⟩
  have J : L2.Inv X pins σ (upd H1 d (.xd [(f, v)])) ⟨G', g, dr, tk', os⟩ := I1.laid (t' := tk') old M.big ob
  refine ⟨e, oe, fv, ⟨G', g, dr, tk', os⟩, _, .ref C, some d, rfl, J, fun b o q => ?_, ge, hoe, ⟨hc, hd⟩, hdat, h1, ?_, rfl, I1.bare, T.raises, q1 d (I1.hok.fresh M.big)⟩
  · by_cases hb : b = e
    · have q' : G'.get? b = some o := q
      rw [hb, ge] at q'
      cases q'
    · exact (gk b hb).symm.trans q
  · rw [upd_ne (Ne.symm M.ne)]
    exact I1.hok.fresh M.new
/-! ### raise -/
def dRaise0 (w : DX) (n : Str) : DS := fun _ env => w (n, []) env
def dRaise1 (w : DX) (n f : Str) (g : DE) : DS := fun _ env => g env fun d env1 => w (n, [(f, d)]) env1
section
variable {wx : DX} {WW : WX} {ZZ : Fz} {X : Cx} {C fI : Addr} {f x : Str} {a : Expr} {p pos pos2 : Pos} {k : Nat} {g : DE}
theorem ds_raise0 (hc : X.calm = true) (tk : Takes X WW) (T : XcF X.K C) (q : PySem.W.excIn X.K C eTail "Exception.__new__" = true) (gC : X.mg x = some (.ref C)) (hg : Gl X x) (hdb : (x == ("__debug__" : Str)) = false := by decide) :
    PS X (.Raise (some (.Call (.Name x p) [] [] pos)) none pos2) (liftS (X.kx wx WW ZZ) (dRaise0 wx x)) :=
  (ps_raise hc tk (pmk0 T q gC hg hdb)).w fun E σ H ⟨e, env, oa, F, k, B, R, p, _⟩ => R.lnk _ env oa σ F H k _ none p R.toRel0 (Grow.refl _ _) ⟨gC, rfl⟩
theorem ds_raise1 (hc : X.calm = true) (tk : Takes X WW) (T : XcF X.K C) (S : XiF X.K C f fI) (D : InitD X.K f fI) (O : FOk f) (gC : X.mg x = some (.ref C)) (hr : Room k X.A) (ha : PE X a (lift (X.kx wx WW ZZ) g)) (hg : Gl X x) (hdb : (x == ("__debug__" : Str)) = false := by decide)
    (he : starEach (a :: []) X.env = (false, eval a X.env) :: starEach [] X.env := by rfl) (hpl : (backTo pos (starEach [] X.env)).any (·.1) = false := by rfl) :
    PS X (.Raise (some (.Call (.Name x p) [a] [] pos)) none pos2) (liftS (X.kx wx WW ZZ) (dRaise1 wx x f g)) :=
  (ps_raise hc tk (pmk1 T S D O gC hr (pa_cons ha pa_nil he) hg hdb he hpl)).w fun E σ H ⟨e, env, oa, F, k, B, R, p, _⟩ => ⟨e, env, oa, F, k, _, R, p, fun d env1 v oa1 F1 H1 k1 p1 R1 g1 a1 => ⟨v, rfl, fun t ht => by
    obtain ⟨R2, g2⟩ := R1.laid ht (.xd [(f, v)])
    exact R2.lnk _ env1 oa1 σ _ _ k1 _ (some t) p1 R2.toRel0 (Grow.refl _ _) ⟨gC, t, [v], rfl, upd_same, .cons (At.grow g2 _ _ a1) .nil⟩⟩⟩
end
end DL
namespace DL
open PySem PySem.Spec L2
/-! ### what is never reached -/
def dOut : DS := fun _ _ => False
theorem ds_out {wx : DX} {WW : WX} {ZZ : Fz} {X : Cx} {ss : List Stmt} : PSs X ss (liftS (X.kx wx WW ZZ) dOut) := ⟨fun _ _ _ _ _ _ ⟨_, _, _, _, _, _, _, p, _⟩ => False.elim p⟩
theorem ds_out1 {wx : DX} {WW : WX} {ZZ : Fz} {X : Cx} {st : Stmt} : PS X st (liftS (X.kx wx WW ZZ) dOut) := ⟨fun _ _ _ _ _ _ ⟨_, _, _, _, _, _, _, p, _⟩ => False.elim p⟩
/-! ### calls of defs that may raise -/
def dCallX (w : DX) (S : SD) (fa : DA) : DE := fun env Q => fa env fun ds env' => S ds (fun d => Q d env') fun x => w x env'
def dCallKX (w : DX) (S : SD) (n m : Nat) (ix : List Nat) (fa fk : DA) : DE := fun env Q => fa env fun ds env1 => fk env1 fun zs env2 => (ds.length = n ∧ zs.length = m) ∧ S (pickL ix (ds ++ zs)) (fun d => Q d env2) fun x => w x env2
section
variable {wx : DX} {WW : WX} {ZZ : Fz} {X : Cx} {k : Nat} {f : Addr} {fd : FuncData} {ps ks : List Str} {S : SD} {x : Str} {p pos : Pos} {e : Expr} {es : List Expr} {kws : List Keyword} {fa fk : DA} {n : Nat} {ix : List Nat}
theorem ranDX {pins : List (Addr × Obj)} {σ : L2.St} {H : Hp} {s : Shared} {args : Args} {us : List Value} {vs : List V} {en : Ent} {env : Evn} {oa : Nat → Addr} {F : Hp} {dk : Dk} {ds : List D} {PP : D → Prop} {Q : VK} (FN : FnG X.prog X.w X.K X.mg X.base (L2.CX X.prog X.w) k f fd ps (spD X.K X.mg S))
    (tk : Takes X WW) (gd : X.A.guards = some []) (hr : Room k X.A) (I : L2.Inv X pins σ H s) (hb : BindsTo s fd args (ps.zip us)) (rv : Vals vs us) (R : Rel (X.kx wx WW ZZ) en env oa σ F H dk) (a : Ats X.K F dk ds vs) (h : S ds PP fun x => wx x env)
    (q : ∀ d v F' H' k', PP d → Rel (X.kx wx WW ZZ) en env oa σ F' H' k' → Grow F F' dk k' → At X.K F' k' d v → Q v H') : wpAny (model X.prog X.w) X.A (call (.ref f) args.pos args.kw) (EP X pins σ Q) X.xe s := by
  have hsp : spD X.K X.mg S vs H Q (WE WW σ) := ⟨ds, F, dk, PP, _, R.self, a, h, fun d v H' pd ⟨F', k', W, ad⟩ => by
    obtain ⟨R2, g2⟩ := R.after W
    exact q d v F' H' k' pd R2 g2 ad, fun x cls d H' hx ⟨F', k', W, xa⟩ => by
    obtain ⟨R2, g2⟩ := R.after W
    exact R.lnk x env oa σ F' H' k' cls d hx R2.toRel0 g2 xa⟩
  refine PySem.wpAny_call (codeAny_mono (FN.go gd hr I.env0 hb rv hsp) fun r s' z => ?_)
  rcases r with z' | fl
  · exact passAt tk σ pins H s z' s' I z
  · cases fl
    case ret u => exact I.after z
    all_goals exact False.elim z
theorem dl_callX (FN : FnG X.prog X.w X.K X.mg X.base (L2.CX X.prog X.w) k f fd ps (spD X.K X.mg S)) (tk : Takes X WW) (gd : X.A.guards = some []) (hr : Room k X.A) (hg : Gl X x) (hm : X.mg x = some (.ref f)) (hk : PySem.W.keepIn X.K (.ref f) = true) (hb : Binds X.K fd ps [])
    (ha : PA X (e :: es) (liftA (X.kx wx WW ZZ) fa)) (hdb : (x == ("__debug__" : Str)) = false := by decide) (he : starEach (e :: es) X.env = (false, eval e X.env) :: starEach es X.env := by rfl) (hpl : (backTo pos (starEach es X.env)).any (·.1) = false := by rfl) :
    PE X (.Call (.Name x p) (e :: es) [] pos) (lift (X.kx wx WW ZZ) (dCallX wx S fa)) := by
  constructor
  intro pins s σ H Q I ⟨en, env, oa, F, dk, P, R, pp, q⟩
  refine wpAny_Call_Name_kw (ld_glob I hg hm ?_ hdb)
  refine PySem.W.callWith_K I.ok.mod.kin hk (thn (ha.run pos pins s σ H (fun vs H1 => ∃ ds env1 oa1 F1 k1, _ ∧ Rel (X.kx wx WW ZZ) en env1 oa1 σ F1 H1 k1 ∧ Grow F F1 dk k1 ∧ Ats X.K F1 k1 ds vs) I ⟨en, env, oa, F, dk, _, R, pp, fun ds env1 vs oa1 F1 H1 k1 p1 R1 g1 a1 => ⟨ds, env1, oa1, F1, k1, p1, R1, g1, a1⟩⟩) ?_) he hpl
  rintro us s1 ⟨vs, H1, I1, r1, ds, env1, oa1, F1, k1, p1, R1, g1, a1⟩
  refine ⟨I1.kIn, ?_⟩
  have hl : (us ++ []).length = ps.length := by
    rw [List.append_nil, ← r1.length]
    exact FN.arity (H := H1) (Q := Q) (E := WE WW σ) ⟨ds, F1, k1, fun d => P d env1, fun x => wx x env1, R1.self, a1, p1, fun d v H' pd ⟨F', k', W, ad⟩ => (by
      obtain ⟨R2, g2⟩ := R1.after W
      exact q d env1 v oa1 F' H' k' pd R2 (g1.trans g2) ad), fun x cls d H' hx ⟨F', k', W, xa⟩ => (by
      obtain ⟨R2, g2⟩ := R1.after W
      exact R1.lnk x env1 oa1 σ F' H' k' cls d hx R2.toRel0 g2 xa)⟩
  have b := hb s1 us I1.kIn hl
  rw [List.append_nil] at b
  exact ranDX (args := ⟨us, []⟩) FN tk gd hr I1 b r1 R1 a1 p1 fun d v F' H' k' pd R' g' a' => q d env1 v oa1 F' H' k' pd R' (g1.trans g') a'
theorem dl_callKX (FN : FnG X.prog X.w X.K X.mg X.base (L2.CX X.prog X.w) k f fd ps (spD X.K X.mg S)) (tk : Takes X WW) (gd : X.A.guards = some []) (hr : Room k X.A) (hg : Gl X x) (hm : X.mg x = some (.ref f)) (hk : PySem.W.keepIn X.K (.ref f) = true) (hb : KwB X.K fd ps n ks ix)
    (ha : PA X (e :: es) (liftA (X.kx wx WW ZZ) fa)) (hkw : PK X kws (liftA (X.kx wx WW ZZ) fk)) (hall : (backToKw pos (keywordEach kws X.env)).all (·.1.isSome) = true := by rfl) (hks : (backToKw pos (keywordEach kws X.env)).filterMap (·.1) = ks := by rfl)
    (hdb : (x == ("__debug__" : Str)) = false := by decide) (he : starEach (e :: es) X.env = (false, eval e X.env) :: starEach es X.env := by rfl)
    (hpl : ((backTo pos (starEach (e :: es) X.env)).any (·.1) || (backToKw pos (keywordEach kws X.env)).any (·.1.isNone)) = false := by rfl) :
    PE X (.Call (.Name x p) (e :: es) kws pos) (lift (X.kx wx WW ZZ) (dCallKX wx S n ks.length ix fa fk)) := by
  constructor
  intro pins s σ H Q I ⟨en, env, oa, F, dk, P, R, pp, q⟩
  refine wpAny_Call_Name_kw (ld_glob I hg hm ?_ hdb)
  refine PySem.W.callWith_KW I.ok.mod.kin hk hall (thn (ha.run pos pins s σ H (fun vs H1 => ∃ ds env1 oa1 F1 k1, _ ∧ Rel (X.kx wx WW ZZ) en env1 oa1 σ F1 H1 k1 ∧ Grow F F1 dk k1 ∧ Ats X.K F1 k1 ds vs) I ⟨en, env, oa, F, dk, _, R, pp, fun ds env1 vs oa1 F1 H1 k1 p1 R1 g1 a1 => ⟨ds, env1, oa1, F1, k1, p1, R1, g1, a1⟩⟩) ?_) hpl he
  rintro us s1 ⟨vs, H1, I1, r1, ds, env1, oa1, F1, k1, p1, R1, g1, a1⟩
  refine thn (hkw.run pos pins s1 σ H1 (fun vs H2 => ∃ zs env2 oa2 F2 k2, _ ∧ Rel (X.kx wx WW ZZ) en env2 oa2 σ F2 H2 k2 ∧ Grow F1 F2 k1 k2 ∧ Ats X.K F2 k2 zs vs) I1 ⟨en, env1, oa1, F1, k1, _, R1, p1, fun ds env1 vs oa1 F1 H1 k1 p1 R1 g1 a1 => ⟨ds, env1, oa1, F1, k1, p1, R1, g1, a1⟩⟩) ?_
  rintro ws s2 ⟨zv, H2, I2, r2, zs, env2, oa2, F2, k2, ⟨⟨l1, l2⟩, p2⟩, R2, g2, a2⟩
  refine ⟨I2.kIn, ?_⟩
  rw [hks]
  have l1' : us.length = n := by rw [← r1.length, ← Ats.length a1]; exact l1
  have l2' : ws.length = ks.length := by rw [← r2.length, ← Ats.length a2]; exact l2
  exact ranDX (args := ⟨us, ks.zip ws⟩) FN tk gd hr I2 (hb s2 us ws l1' l2') (vals_pick (r1.append r2) ix) R2 (ats_pick (Ats.append (Ats.grow g2 _ _ a1) a2) ix) p2 fun d v F' H' k' pd R' g' a' => q d env2 v oa2 F' H' k' pd R' (g1.trans (g2.trans g')) a'
theorem dl_callK0X (FN : FnG X.prog X.w X.K X.mg X.base (L2.CX X.prog X.w) k f fd ps (spD X.K X.mg S)) (tk : Takes X WW) (gd : X.A.guards = some []) (hr : Room k X.A) (hg : Gl X x) (hm : X.mg x = some (.ref f)) (hk : PySem.W.keepIn X.K (.ref f) = true) (hb : KwB X.K fd ps 0 ks ix)
    (hkw : PK X kws (liftA (X.kx wx WW ZZ) fk)) (hall : (backToKw pos (keywordEach kws X.env)).all (·.1.isSome) = true := by rfl) (hks : (backToKw pos (keywordEach kws X.env)).filterMap (·.1) = ks := by rfl)
    (hdb : (x == ("__debug__" : Str)) = false := by decide) (hpl : ((backTo pos (starEach [] X.env)).any (·.1) || (backToKw pos (keywordEach kws X.env)).any (·.1.isNone)) = false := by rfl) :
    PE X (.Call (.Name x p) [] kws pos) (lift (X.kx wx WW ZZ) (dCallKX wx S 0 ks.length ix dNil fk)) := by
  constructor
  intro pins s σ H Q I ⟨en, env, oa, F, dk, P, R, pp, q⟩
  refine wpAny_Call_Name_kw (ld_glob I hg hm ?_ hdb)
  refine PySem.W.callWith_KW0 I.kIn hk hall ?_ hpl
  refine thn (hkw.run pos pins s σ H (fun vs H2 => ∃ zs env2 oa2 F2 k2, _ ∧ Rel (X.kx wx WW ZZ) en env2 oa2 σ F2 H2 k2 ∧ Grow F F2 dk k2 ∧ Ats X.K F2 k2 zs vs) I ⟨en, env, oa, F, dk, _, R, pp, fun ds env1 vs oa1 F1 H1 k1 p1 R1 g1 a1 => ⟨ds, env1, oa1, F1, k1, p1, R1, g1, a1⟩⟩) ?_
  rintro ws s2 ⟨zv, H2, I2, r2, zs, env2, oa2, F2, k2, ⟨⟨l1, l2⟩, p2⟩, R2, g2, a2⟩
  refine ⟨I2.kIn, ?_⟩
  rw [hks]
  have l2' : ws.length = ks.length := by rw [← r2.length, ← Ats.length a2]; exact l2
  exact ranDX (args := ⟨[], ks.zip ws⟩) FN tk gd hr I2 (hb s2 [] ws rfl l2') (vals_pick r2 ix) R2 (ats_pick a2 ix) p2 fun d v F' H' k' pd R' g' a' => q d env2 v oa2 F' H' k' pd R' (g2.trans g') a'
end
section
variable {wx : DX} {WW : WX} {ZZ : Fz} {X : Cx} {k n : Nat} {ps ks : List Str} {S : SD} {x : Str} {p pos : Pos} {e : Expr} {es : List Expr} {kws : List Keyword} {fa fk : DA} {ix : List Nat} {kw : List (Nat × List Str × List Nat)}
theorem dcx (C : Cal X.prog X.w X.K X.mg X.base x ps k kw S) (tk : Takes X WW) (gd : X.A.guards = some []) (hr : Room k X.A) (hg : Gl X x)
    (ha : PA X (e :: es) (liftA (X.kx wx WW ZZ) fa)) (hdb : (x == ("__debug__" : Str)) = false := by decide) (he : starEach (e :: es) X.env = (false, eval e X.env) :: starEach es X.env := by rfl) (hpl : (backTo pos (starEach es X.env)).any (·.1) = false := by rfl) :
    PE X (.Call (.Name x p) (e :: es) [] pos) (lift (X.kx wx WW ZZ) (dCallX wx S fa)) := by
  obtain ⟨a, fd, F, hm, hk, hb, _⟩ := C.ex
  exact dl_callX F tk gd hr hg hm hk hb ha hdb he hpl
theorem dckx (C : Cal X.prog X.w X.K X.mg X.base x ps k kw S) (tk : Takes X WW) (gd : X.A.guards = some []) (hr : Room k X.A) (hg : Gl X x) (hw : (n, ks, ix) ∈ kw)
    (ha : PA X (e :: es) (liftA (X.kx wx WW ZZ) fa)) (hkw : PK X kws (liftA (X.kx wx WW ZZ) fk)) (hall : (backToKw pos (keywordEach kws X.env)).all (·.1.isSome) = true := by rfl) (hks : (backToKw pos (keywordEach kws X.env)).filterMap (·.1) = ks := by rfl)
    (hdb : (x == ("__debug__" : Str)) = false := by decide) (he : starEach (e :: es) X.env = (false, eval e X.env) :: starEach es X.env := by rfl)
    (hpl : ((backTo pos (starEach (e :: es) X.env)).any (·.1) || (backToKw pos (keywordEach kws X.env)).any (·.1.isNone)) = false := by rfl) :
    PE X (.Call (.Name x p) (e :: es) kws pos) (lift (X.kx wx WW ZZ) (dCallKX wx S n ks.length ix fa fk)) := by
  obtain ⟨a, fd, F, hm, hk, hb, hq⟩ := C.ex
  exact dl_callKX F tk gd hr hg hm hk (hq _ hw) ha hkw hall hks hdb he hpl
theorem dck0x (C : Cal X.prog X.w X.K X.mg X.base x ps k kw S) (tk : Takes X WW) (gd : X.A.guards = some []) (hr : Room k X.A) (hg : Gl X x) (hw : (0, ks, ix) ∈ kw)
    (hkw : PK X kws (liftA (X.kx wx WW ZZ) fk)) (hall : (backToKw pos (keywordEach kws X.env)).all (·.1.isSome) = true := by rfl) (hks : (backToKw pos (keywordEach kws X.env)).filterMap (·.1) = ks := by rfl)
    (hdb : (x == ("__debug__" : Str)) = false := by decide) (hpl : ((backTo pos (starEach [] X.env)).any (·.1) || (backToKw pos (keywordEach kws X.env)).any (·.1.isNone)) = false := by rfl) :
    PE X (.Call (.Name x p) [] kws pos) (lift (X.kx wx WW ZZ) (dCallKX wx S 0 ks.length ix dNil fk)) := by
  obtain ⟨a, fd, F, hm, hk, hb, hq⟩ := C.ex
  exact dl_callK0X F tk gd hr hg hm hk (hq _ hw) hkw hall hks hdb hpl
end
end DL
namespace DL
open PySem PySem.Spec L2 PyProof.Rows
/-! ### try: several clauses, each with the same name -/
def cutE (D : Ends) (i : Nat) : Ends := { nx := fun τ G => D.nx (τ.set i none) G, rt := D.rt, bk := fun τ G => D.bk (τ.set i none) G, ct := fun τ G => D.ct (τ.set i none) G }
def wNm (K : PySem.W.Frag) (Wo : WX) (D : Ends) (i : Nat) : List (Value × (Addr → Value → Option Addr → TS)) → WX
  | [] => Wo
  | (c, ts) :: r => fun cls d τ G => ∃ b, PySem.W.exmOne K cls c = some b ∧ (b = true → ∀ a, G a = none → ts a cls d (cutE D i) (τ.set i (some (.ref a))) G) ∧ (b = false → wNm K Wo D i r cls d τ G)
inductive HdOk (X : Cx) (n : Str) : List ExceptHandler → List (Value × (Addr → Value → Option Addr → TS)) → Prop
  | nil : HdOk X n [] []
  | cons {x : Str} {c : Value} {ts : Addr → Value → Option Addr → TS} {b0 : Stmt} {su : List Stmt} {np pos' : Pos} {hds : List ExceptHandler} {l : List (Value × (Addr → Value → Option Addr → TS))} (nm : Names X x c)
      (go : ∀ (a : Addr) (oe : Obj) (cls : Value) (d : Option Addr) (pn : List (Addr × Obj)), Zc cls d oe → (∃ vs, oe.data = .fields vs) → PSs (X.suite a ((a, oe) :: pn)) (b0 :: su) (ts a cls d)) (r : HdOk X n hds l) :
      HdOk X n (.ExceptHandler (some (.Name x np)) (some n) (b0 :: su) pos' :: hds) ((c, ts) :: l)
section
variable {X : Cx} {n : Str} {i : Nat} {body : List Stmt} {h0 : ExceptHandler} {hds : List ExceptHandler} {l : List (Value × (Addr → Value → Option Addr → TS))} {pos : Pos} {tb : WX → TS} {Wo : WX}
theorem sp_of {X : Cx} {pins pn' : List (Addr × Obj)} {xe : Value → Shared → Prop} {D : Ends} {f : Flow} {s1 : Shared} (ok : X.Ok) (h : SP (X.tr (X.pn ++ pins) xe) pn' D f s1) : SP X pins D f s1 := by
  cases f with
  | ret u =>
    obtain ⟨v, τ, G, J, r, q⟩ := h
    exact ⟨v, τ, G, J.ofTry ok, r, q⟩
  | next | brk | cont =>
    obtain ⟨τ, G, J, q⟩ := h
    exact ⟨τ, G, J.ofTry ok, q⟩
theorem ps_try_named (st : X.stack = X.env :: X.outer) (fr : X.env.frame = some X.env.locals) (nd : X.N.Nodup) (at_ : X.N[i]? = some n) (lc : X.env.kindOf n = some .local) (tk : Takes X Wo)
    (hb : ∀ (W : WX) (pn : List (Addr × Obj)) (xe : Value → Shared → Prop), Takes (X.tr pn xe) W → PassesOwn (model X.prog X.w) X.A X.env xe → PSs (X.tr pn xe) body (tb W))
    (hh : HdOk X n (h0 :: hds) l) : PS X (.Try body (h0 :: hds) [] [] pos) (fun D σ H => tb (wNm X.K Wo D i l) D σ H) := by
  refine ⟨fun pins s σ H D I h => ?_⟩
  have ok := I.ok
  have fA : X.A.frames = some (X.env :: X.outer) := by rw [ok.frames, st]
  have lo : Loc X.env.scope n := .inl lc
  refine wpAny_Try_except (wpAny_mono ((hb (wNm X.K Wo D i l) (X.pn ++ pins) (fun e s₁ => wpAny (model X.prog X.w) X.A (noteFrame e X.env) (fun _ s₂ => wpAny (model X.prog X.w) X.A (setFlight e none) (fun _ s₃ =>
    wpAny (model X.prog X.w) X.A (handleBy e X.env (h0 :: hds)) (SP X pins D) X.xe s₃) X.xe s₂) X.xe s₁) (fun u s' xx => ?_) PassesOwn.looking).run [] s σ H D (I.toTry _) h) (fun f s1 hsp => ?_) (fun e s1 he => he))
  · obtain ⟨a, B, sI, pins', τ, G, cls, d, rfl, Jt, nb, uu, sk, na, os, ag, w⟩ := xx
    have J : L2.Inv X pins τ G sI := Jt.ofTry ok
    have sk' : Sky B (X.env :: X.outer) a (Zc cls d) X.env.locals s'.heap := by rw [← st]; exact sk
    show wpAny (model X.prog X.w) X.A (noteFrame (.ref a) X.env) _ _ _
    refine Sky.land Zc.steady fA fr sk' fun h3 f3 u3 => ?_
    have J3 : L2.Inv X pins τ G { s' with heap := h3 } := J.landed nb f3.1 (uu.trans u3) os ag
    obtain ⟨oe, vs, he, hz, hd⟩ := f3.there
    have nst : a ∉ frs (X.env :: X.outer) := fun hm => by
      obtain ⟨_, o', e', hnf⟩ := f3.2.2.1.mem hm
      rw [he] at e'
      cases e'
      exact hnf _ hd
    have nL : a ≠ X.env.locals := fun z => nst (List.mem_filterMap.mpr ⟨X.env, List.mem_cons_self, by rw [fr, z]⟩)
    have nF : a ∉ X.fs := fun hm => by
      obtain ⟨y, hy, q⟩ := List.mem_filterMap.mp hm
      exact nst (List.mem_filterMap.mpr ⟨y, List.mem_cons_of_mem _ hy, q⟩)
    have S3 := J3.suite he hd na nL nF
    have run : ∀ {hs' : List ExceptHandler} {l' : List (Value × (Addr → Value → Option Addr → TS))}, HdOk X n hs' l' → wNm X.K Wo D i l' cls d τ G → wpAny (model X.prog X.w) X.A (handleBy (.ref a) X.env hs') (SP X pins D) X.xe { s' with heap := h3 } := by
      intro hs' l' hk
      induction hk with
      | nil =>
        intro w
        refine wpAny_handleBy_nil ?_
        obtain ⟨_, _, _, oe2, vs2, Tb, oT, ts2, he2, hz2, hd2, h12, hr2⟩ := id f3
        unfold PySem.passOn
        refine wpAny_bind (wpAny_field he2 hd2 h12 ?_)
        rw [if_neg (show ¬ ((Value.ref Tb == Value.none) = true) from by simp)]
        have last : wpAny (model X.prog X.w) X.A (setFlight (.ref a) X.env.frame) (fun _ s4 => wpAny (model X.prog X.w) X.A (throw (.ref a) : Sem Flow) (SP X pins D) X.xe s4) X.xe { s' with heap := h3 } := by
          rw [fr]
          exact PySem.HandSPX.setFlight_upZ f3 fun h4 g4 u4 => wpAny_throw (tk _ _ ⟨a, B, sI, pins, τ, G, cls, d, rfl, J, nb, (uu.trans u3).trans u4, .inr (.inr (by rw [st]; exact g4)), na, os, ag, w⟩)
        first | exact wpAny_bind (wpAny_pure (wpAny_bind last)) | exact wpAny_bind last
      | @cons x c ts b0 su np pos' hds2 l2 nm go r ih =>
        intro w
        obtain ⟨b, e1, yes, no⟩ := w
        refine wpAny_handleBy_cons (codeAny_handlers_test ?_) (by intro q; cases q)
        have LT : PySem.W.Looks (model X.prog X.w) h3 (typeOf (.ref a)) cls := fun A Q E s k q => wpAny_typeOf_ref (k _ _ he) (by rw [hz.1]; exact q)
        have LM := PySem.W.exm_one (M := model X.prog X.w) J3.kIn LT e1
        have ask : ∀ {Q : Value → Shared → Prop} {E : Value → Shared → Prop}, Q c { s' with heap := h3 } → wpAny (model X.prog X.w) (X.A.mark (some (.ref a))) (eval (.Name x np) X.env) Q E { s' with heap := h3 } := fun {Q E} q => by
          obtain ⟨g1, g2, g3 | ⟨g3, g4, g5⟩⟩ := nm
          · exact ld_glob (X := X.suite a ((a, oe) :: (X.pn ++ pins))) S3 g1 g3 q g2
          · exact ld_blt (X := X.suite a ((a, oe) :: (X.pn ++ pins))) S3 g1 g3 g4 q g5 g2
        refine ask (LM.here ?_)
        cases b with
        | false => exact ih (no rfl)
        | true =>
          refine codeAny_handlers_suite_as ?_
          refine PySem.HandSPX.lands_againZ f3 fun h4 f4 u4 => ?_
          have J4 : L2.Inv X pins τ G { s' with heap := h4 } := J.landed nb f4.1 ((uu.trans u3).trans u4) os ag
          obtain ⟨oe4, vs4, he4, hz4, hd4⟩ := f4.there
          refine store_ok (X := X.suite a ((a, oe4) :: (X.pn ++ pins))) (v := .ref a) (J4.suite he4 hd4 na nL nF) nd at_ lo rfl (fun s5 S5 => ?_) (.inr lc)
          refine wpAny_mono ((go a oe4 cls d (X.pn ++ pins) hz4 ⟨_, hd4⟩).run [] s5 _ G _ S5 (yes rfl a na)) (fun f s6 hsp => ?_) (fun _ _ z => False.elim z)
          have fin : ∀ {τ6 : L2.St} {G6 : Hp} {Q : Shared → Prop}, L2.Inv (X.suite a ((a, oe4) :: (X.pn ++ pins))) [] τ6 G6 s6 → (∀ s7, L2.Inv X pins (τ6.set i none) G6 s7 → Q s7) →
              wpAny (model X.prog X.w) X.A (do bindName X.env n .none; unbindBehindTheSuite X.env n pos') (fun _ s7 => Q s7) X.xe s6 := fun {τ6 G6 Q} S6 hq => gone_ok (S6.unsuite ok) nd at_ lc hq
          cases f with
          | ret u =>
            obtain ⟨v6, τ6, G6, S6, r6, q6⟩ := hsp
            exact fin S6 fun s7 J7 => ⟨_, _, _, J7, r6, q6⟩
          | next | brk | cont =>
            obtain ⟨τ6, G6, S6, q6⟩ := hsp
            exact fin S6 fun s7 J7 => ⟨_, _, J7, q6⟩
    exact run hh w
  · have hsp' := sp_of ok hsp
    cases f with
    | next =>
      obtain ⟨τ, G, J, q⟩ := hsp'
      exact wpAny_execs_nil ⟨τ, G, J, q⟩
    | brk => exact hsp'
    | cont => exact hsp'
    | ret u => exact hsp'
end
end DL
namespace DL
open PySem PySem.Spec L2
/-! ### what is known of a program's own exceptions: xn their names, fs their fields' names -/
structure XcAll (K : PySem.W.Frag) (mg : Str → Option Value) (xn fs : List Str) : Prop where
  at_ : ∀ x ∈ xn, ∃ C, mg x = some (.ref C) ∧ XcF K C ∧ ∀ f ∈ fs, PySem.W.findIn K (.ref C) f = some none
  sub : ∀ x ∈ xn, ∀ c ∈ xn, ∀ C D, mg x = some (.ref C) → mg c = some (.ref D) → PySem.W.exmOne K (.ref C) (.ref D) = some (subX x c) ∧ PySem.W.kitOne K (.ref C) (.ref D) = some (subX x c)
theorem xpB_ok {K : PySem.W.Frag} {mg : Str → Option Value} {xn fs : List Str} (h : xpB K xn fs = true) (m : ∀ x ∈ xn, mg x = some (.ref (He.ga K x))) : XcAll K mg xn fs := by
  unfold xpB at h
  simp only [Bool.and_eq_true, List.all_eq_true, decide_eq_true_eq] at h
  obtain ⟨h1, h2⟩ := h
  refine ⟨fun x hx => ⟨_, m x hx, xcB_ok (h1 x hx).1, fun f hf => He.eqO_ok ((h1 x hx).2 f hf)⟩, fun x hx c hc C D e1 e2 => ?_⟩
  rw [m x hx] at e1
  rw [m c hc] at e2
  cases e1
  cases e2
  exact h2 x hx c hc
/-! ### try -/
abbrev Hd := Str × (Ex → Addr → DS)
def cutB (B : DEnd) (i : Nat) : DEnd := { nx := fun e => B.nx (e.set i .no), rt := B.rt, bk := fun e => B.bk (e.set i .no), ct := fun e => B.ct (e.set i .no) }
def hnd (xn : List Str) (w : DX) (i : Nat) (B : DEnd) : List Hd → DX
  | [], x, env => w x env
  | (c, u) :: r, x, env => (x.1 ∈ xn ∧ c ∈ xn) ∧ if subX x.1 c = true then ∀ a, u x a (cutB B i) (env.set i (.val (.raw (.ref a)))) else hnd xn w i B r x env
def dTry (xn : List Str) (i : Nat) (w : DX) (u : DX → DS) (hs : List Hd) : DS := fun B env => u (hnd xn w i B hs) B env
abbrev fzX (K : PySem.W.Frag) (mg : Str → Option Value) (x : Ex) (cls : Value) (d : Option Addr) : Fz := ⟨fun F k => XAt K mg F k x cls d, fun g h => h.grow g⟩
abbrev sK (X : Cx) (x : Ex) (cls : Value) (d : Option Addr) : Kx := X.kx (fun _ _ => False) (fun _ _ _ _ => False) (fzX X.K X.mg x cls d)
/-- the clauses, walked -/
inductive DH (X : Cx) (n : Str) : List ExceptHandler → List Hd → Prop
  | nil : DH X n [] []
  | cons {c : Str} {u : Ex → Addr → DS} {b0 : Stmt} {su : List Stmt} {np pos' : Pos} {hds : List ExceptHandler} {l : List Hd} (gl : Gl X c) (db : (c == ("__debug__" : Str)) = false)
      (go : ∀ (x : Ex) (a : Addr) (oe : Obj) (cls : Value) (d : Option Addr) (pn : List (Addr × Obj)), Zc cls d oe → (∃ vs, oe.data = .fields vs) → PSs (X.suite a ((a, oe) :: pn)) (b0 :: su) (liftS (sK X x cls d) (u x a))) (r : DH X n hds l) :
      DH X n (.ExceptHandler (some (.Name c np)) (some n) (b0 :: su) pos' :: hds) ((c, u) :: l)
section
variable {wx : DX} {WW : WX} {ZZ : Fz} {X : Cx} {n : Str} {i : Nat} {body : List Stmt} {h0 : ExceptHandler} {hds : List ExceptHandler} {hs : List Hd} {pos : Pos} {u : DX → DS} {xn fs : List Str}
theorem dh_of (xc : XcAll X.K X.mg xn fs) {hds : List ExceptHandler} {hs : List Hd} (hn : ∀ h ∈ hs, h.1 ∈ xn) (hh : DH X n hds hs) : ∃ l, HdOk X n hds l ∧ ∀ (E : Ends) (e : Ent) (F : Hp) (k : Dk) (B : DEnd), Lnk (X.kx wx WW ZZ) e F k → ZZ.p F k →
    (∀ env' oa' σ' F' H' k', B.nx env' → Rel (X.kx wx WW ZZ) e env' oa' σ' F' H' k' → Grow F F' k k' → E.nx σ' H') → (∀ d v H', B.rt d → Out X.K e d v H' → E.rt v H') →
    (∀ env' oa' σ' F' H' k', B.bk env' → Rel (X.kx wx WW ZZ) e env' oa' σ' F' H' k' → Grow F F' k k' → E.bk σ' H') → (∀ env' oa' σ' F' H' k', B.ct env' → Rel (X.kx wx WW ZZ) e env' oa' σ' F' H' k' → Grow F F' k k' → E.ct σ' H') →
    ∀ (x : Ex) (env' : Evn) (oa' : Nat → Addr) (σ' : L2.St) (F' H' : Hp) (k' : Dk) (cls : Value) (d : Option Addr), hnd xn wx i B hs x env' → Rel0 X.K e env' oa' σ' F' H' k' → Grow F F' k k' → XAt X.K X.mg F' k' x cls d → wNm X.K WW E i l cls d σ' H' := by
  induction hh with
  | nil => exact ⟨[], .nil, fun E e F k B L _ _ _ _ _ x env' oa' σ' F' H' k' cls d hw R g hx => L x env' oa' σ' F' H' k' cls d hw R g hx⟩
  | @cons c u b0 su np pos' hds l gl db go r ih =>
    obtain ⟨C, mC, _⟩ := xc.at_ c (hn _ List.mem_cons_self)
    obtain ⟨l', hl, hq⟩ := ih fun h hm => hn h (List.mem_cons_of_mem _ hm)
    refine ⟨(.ref C, fun a cls d E σ H => ∃ x, liftS (sK X x cls d) (u x a) E σ H) :: l', .cons ⟨gl, db, .inl mC⟩ (fun a oe cls d pn hz hf => ⟨fun pins s σ H E I ⟨x, h⟩ => (go x a oe cls d pn hz hf).run pins s σ H E I h⟩) hl, fun E e F k B L zz nx rt bk ct x env' oa' σ' F' H' k' cls d hw R g hx => ?_⟩
    obtain ⟨⟨m1, m2⟩, hw⟩ := hw
    obtain ⟨D, mD, _⟩ := xc.at_ x.1 m1
    have e1 : cls = .ref D := by
      have := hx.1
      rw [mD] at this
      exact (Option.some.inj this).symm
    subst e1
    refine ⟨subX x.1 c, (xc.sub x.1 m1 c m2 D C mD mC).1, fun hb a ha => ?_, fun hb => ?_⟩
    · rw [if_pos hb] at hw
      have back : ∀ {env2 : Evn} {oa2 : Nat → Addr} {σ2 : L2.St} {F2 H2 : Hp} {k2 : Dk}, Rel (sK X x (.ref D) d) e env2 oa2 σ2 F2 H2 k2 → Grow F' F2 k' k2 → Rel (X.kx wx WW ZZ) e (env2.set i .no) oa2 (σ2.set i none) F2 H2 k2 := fun R2 g2 =>
        ⟨R2.toRel0.clear i, L.grow (g.trans g2), ZZ.mono (g.trans g2) zz⟩
      exact ⟨x, e, env'.set i (.val (.raw (.ref a))), oa', F', k', cutB B i, ⟨R.put (by simp only [At]), fun _ _ _ _ _ _ _ _ _ z => False.elim z, hx⟩, hw a, fun env2 oa2 σ2 F2 H2 k2 p2 R2 g2 => nx _ _ _ _ _ _ p2 (back R2 g2) (g.trans g2), rt,
        fun env2 oa2 σ2 F2 H2 k2 p2 R2 g2 => bk _ _ _ _ _ _ p2 (back R2 g2) (g.trans g2), fun env2 oa2 σ2 F2 H2 k2 p2 R2 g2 => ct _ _ _ _ _ _ p2 (back R2 g2) (g.trans g2)⟩
    · rw [hb, if_neg Bool.false_ne_true] at hw
      exact hq E e F k B L zz nx rt bk ct x env' oa' σ' F' H' k' _ d hw R g hx
theorem ds_try (xc : XcAll X.K X.mg xn fs) (st : X.stack = X.env :: X.outer) (fr : X.env.frame = some X.env.locals) (nd : X.N.Nodup) (at_ : X.N[i]? = some n) (lc : X.env.kindOf n = some .local) (tk : Takes X WW)
    (hb : ∀ (w : DX) (W : WX) (pn : List (Addr × Obj)) (xe : Value → Shared → Prop), Takes (X.tr pn xe) W → PassesOwn (model X.prog X.w) X.A X.env xe → PSs (X.tr pn xe) body (liftS (X.kx w W ZZ) (u w)))
    (hn : ∀ h ∈ hs, h.1 ∈ xn) (hh : DH X n (h0 :: hds) hs) : PS X (.Try body (h0 :: hds) [] [] pos) (liftS (X.kx wx WW ZZ) (dTry xn i wx u hs)) := by
  obtain ⟨l, hl, hq⟩ := dh_of (wx := wx) (WW := WW) (ZZ := ZZ) (i := i) xc hn hh
  refine (ps_try_named (tb := fun W E σ H => ∃ w, liftS (X.kx w W ZZ) (u w) E σ H) st fr nd at_ lc tk (fun W pn xe t po => ⟨fun pins s σ H E I ⟨w, h⟩ => (hb w W pn xe t po).run pins s σ H E I h⟩) hl).w ?_
  intro E σ H ⟨e, env, oa, F, k, B, R, p, nx, rt, bk, ct⟩
  have back : ∀ {env2 : Evn} {oa2 : Nat → Addr} {σ2 : L2.St} {F2 H2 : Hp} {k2 : Dk}, Rel0 X.K e env2 oa2 σ2 F2 H2 k2 → Grow F F2 k k2 → Rel (X.kx wx WW ZZ) e env2 oa2 σ2 F2 H2 k2 := fun R2 g2 => R.up R2 g2
  refine ⟨hnd xn wx i B hs, e, env, oa, F, k, B, ⟨R.toRel0, fun x env' oa' σ' F' H' k' cls d hw R' g hx => hq E e F k B R.lnk R.pz nx rt bk ct x env' oa' σ' F' H' k' cls d hw R' g hx, R.pz⟩, p,
    fun env2 oa2 σ2 F2 H2 k2 p2 R2 g2 => nx _ _ _ _ _ _ p2 (back R2.toRel0 g2) g2, rt, fun env2 oa2 σ2 F2 H2 k2 p2 R2 g2 => bk _ _ _ _ _ _ p2 (back R2.toRel0 g2) g2, fun env2 oa2 σ2 F2 H2 k2 p2 R2 g2 => ct _ _ _ _ _ _ p2 (back R2.toRel0 g2) g2⟩
end
/-! ### the exception held by a suite -/
theorem inst_at {X : Cx} {a C : Addr} {oe : Obj} {pn pins : List (Addr × Obj)} {σ : L2.St} {F H : Hp} {k : Dk} {s : Shared} {x : Ex} {d : Option Addr} (I : L2.Inv (X.suite a ((a, oe) :: pn)) pins σ H s) (hz : Zc (.ref C) d oe) (hf : ∃ vs, oe.data = .fields vs) (sub : ∀ p o, F p = some o → H p = some o) (hx : XAt X.K X.mg F k x (.ref C) d) :
    ∃ od, PySem.W.InstAt s.heap a oe C od := by
  obtain ⟨ha, _⟩ := I.pin (a, oe) (List.mem_append_left _ List.mem_cons_self)
  obtain ⟨vs, hd⟩ := hf
  have no : PySem.W.notCls oe = true := by
    unfold PySem.W.notCls
    rw [hd] <;> rfl
  obtain ⟨n, l⟩ := x
  cases l with
  | nil =>
    have e : d = none := hx.2
    subst e
    exact ⟨none, ha, hz.1, no, by rw [hz.2]; trivial⟩
  | cons q l =>
    obtain ⟨p, us, e, h1, _⟩ := hx.2
    subst e
    obtain ⟨o, ho⟩ := objOk_get (I.hok p _ (sub _ _ h1))
    exact ⟨some o, ha, hz.1, no, by rw [hz.2]; exact ho⟩
/-- isinstance(e, C) -/
def dIsE (xn : List Str) (x : Ex) (a : Addr) (i : Nat) (c : Str) : DE := fun env Q => env[i]? = some (.val (.raw (.ref a))) ∧ (x.1 ∈ xn ∧ c ∈ xn) ∧ Q (.bl (subX x.1 c)) env
theorem dl_isE {X : Cx} {a : Addr} {oe : Obj} {pn : List (Addr × Obj)} {x : Ex} {cls : Value} {d : Option Addr} {i : Nat} {n c : Str} {p p1 p2 pos : Pos} {xn fs : List Str} (xc : XcAll X.K X.mg xn fs) (hz : Zc cls d oe) (hf : ∃ vs, oe.data = .fields vs)
    (pv : PE (X.suite a ((a, oe) :: pn)) (.Name n p1) (tVar i)) (hg : Gl X "isinstance") (hm : X.mg "isinstance" = none) (gc : Gl X c) (db : (c == ("__debug__" : Str)) = false := by decide)
    (s1 : starEach [.Name n p1, .Name c p2] X.env = [(false, eval (.Name n p1) X.env), (false, eval (.Name c p2) X.env)] := by rfl) (s2 : starEach [.Name c p2] X.env = [(false, eval (.Name c p2) X.env)] := by rfl) (s3 : starEach [] X.env = [] := by rfl) (hpl : (backTo pos (starEach [.Name c p2] X.env)).any (·.1) = false := by rfl) :
    PE (X.suite a ((a, oe) :: pn)) (.Call (.Name "isinstance" p) [.Name n p1, .Name c p2] [] pos) (lift (sK X x cls d) (dIsE xn x a i c)) := by
  refine ⟨fun pins s σ H Q I ⟨e, env, oa, F, k, P, R, ⟨h1, ⟨m1, m2⟩, h3⟩, q⟩ => ?_⟩
  obtain ⟨D, mD, TD, _⟩ := xc.at_ x.1 m1
  obtain ⟨C, mC, TC, _⟩ := xc.at_ c m2
  have e1 : cls = .ref D := by
    have := R.pz.1
    rw [mD] at this
    exact (Option.some.inj this).symm
  subst e1
  obtain ⟨v, hv, hA⟩ := R.val i _ h1
  simp only [At] at hA
  subst hA
  have pc : PE (X.suite a ((a, oe) :: pn)) (.Name c p2) (tC (.ref C)) := ⟨fun pins s σ H Q I h => ld_glob I gc mC ⟨.ref C, H, I, rfl, h⟩ db⟩
  refine wpAny_Call_Name_kw (ld_blt I hg hm bt_isinstance ?_ (by decide) (by decide))
  refine PyProof.Rows.callWith_builtin1 (thn ((pa_cons pv (pa_cons pc pa_nil (by rw [s2, s3])) (by rw [s1, s2])).run pos pins s σ H (fun vs H1 => vs = [.ref a, .ref C] ∧ H1 = H) I ⟨_, hv, rfl, rfl⟩) ?_) (by rw [s1, s2]) hpl
  rintro us s4 ⟨vs, H1, I1, r1, rfl, rfl⟩
  cases r1 with
  | cons ra rr =>
    cases rr with
    | cons rb rr =>
      cases rr
      cases ra
      cases rb
      obtain ⟨od, J⟩ := inst_at I1 hz hf R.wd.sub R.pz
      exact PySem.W.kia_one (PySem.W.kitx_exc TD.c1 TD.c2 TD.c3 TD.c4 TD.c5 TD.c6 TD.c7 TD.c8) I1.kIn J (xc.sub x.1 m1 c m2 D C mD mC).2 (fun z => nomatch z) fun tk => ⟨.bl _, _, I1.kept (t' := tk) fun _ _ z => z, rfl, q _ env _ oa F _ k h3 R (Grow.refl _ _) (by simp only [At])⟩
theorem look_zip {K : PySem.W.Frag} {F : Hp} {k : Dk} {f : Str} {v : D} : ∀ {l : List (Str × D)} {vs : List V}, Ats K F k (l.map (·.2)) vs → l.lookup f = some v → ∃ u, (l.zipWith (fun q w => (q.1, w)) vs).lookup f = some u ∧ At K F k v u
  | [], _, _, h => by cases h
  | (g, d) :: l, vs, ha, h => by
    simp only [List.map_cons, Ats] at ha
    obtain ⟨u, r, rfl, a1, a2⟩ := ha
    rw [List.lookup_cons] at h
    rw [List.zipWith_cons_cons, List.lookup_cons]
    cases e : f == g with
    | true =>
      rw [e] at h
      cases h
      exact ⟨u, rfl, a1⟩
    | false =>
      rw [e] at h
      exact look_zip a2 h
/-- e.f -/
def dFld (xn fs : List Str) (x : Ex) (a : Addr) (i : Nat) (f : Str) : DE := fun env Q => env[i]? = some (.val (.raw (.ref a))) ∧ (x.1 ∈ xn ∧ f ∈ fs) ∧ ∃ v, x.2.lookup f = some v ∧ Q v env
theorem dl_fld {X : Cx} {a : Addr} {oe : Obj} {pn : List (Addr × Obj)} {x : Ex} {cls : Value} {d : Option Addr} {i : Nat} {n f : Str} {p1 pos : Pos} {xn fs : List Str} (xc : XcAll X.K X.mg xn fs) (hz : Zc cls d oe) (hf : ∃ vs, oe.data = .fields vs)
    (pv : PE (X.suite a ((a, oe) :: pn)) (.Name n p1) (tVar i)) (hb : attributeBase (.Name n p1) f X.env (eval (.Name n p1) X.env) = eval (.Name n p1) X.env := by rfl) :
    PE (X.suite a ((a, oe) :: pn)) (.Attribute (.Name n p1) f pos) (lift (sK X x cls d) (dFld xn fs x a i f)) := by
  refine ⟨fun pins s σ H Q I ⟨e, env, oa, F, k, P, R, ⟨h1, ⟨m1, m2⟩, w, h2, h3⟩, q⟩ => ?_⟩
  obtain ⟨D, mD, TD, nf⟩ := xc.at_ x.1 m1
  have hx := R.pz
  have e1 : cls = .ref D := by
    have := hx.1
    rw [mD] at this
    exact (Option.some.inj this).symm
  subst e1
  obtain ⟨v, hv, hA⟩ := R.val i _ h1
  simp only [At] at hA
  subst hA
  refine attr_of hb (thn (pv.run pins s σ H (fun v H1 => v = .ref a ∧ H1 = H) I ⟨_, hv, rfl, rfl⟩) ?_)
  rintro uu s1 ⟨vv, H1, I1, rv, rfl, rfl⟩
  cases rv
  obtain ⟨nm, l⟩ := x
  cases l with
  | nil => cases h2
  | cons q0 l0 =>
    obtain ⟨p, us, e2, hF, hAs⟩ := hx.2
    subst e2
    obtain ⟨y, hy, hyA⟩ := look_zip hAs h2
    have ho := I1.hok p _ (R.wd.sub _ _ hF)
    obtain ⟨mA, hns, hr⟩ := ho
    obtain ⟨od, hod, hl⟩ := lookIn_ns hns
    obtain ⟨ha, _⟩ := I1.pin (a, oe) (List.mem_append_left _ List.mem_cons_self)
    obtain ⟨vs, hd⟩ := hf
    have J : PySem.W.InstAt s1.heap a oe D (some od) := ⟨ha, hz.1, by unfold PySem.W.notCls; rw [hd] <;> rfl, by rw [hz.2]; exact hod⟩
    obtain ⟨u, hu, ru⟩ := RelO.some_of (v := y) (o := mA f) (by rw [← hy]; exact hr f)
    exact PySem.HandSPX.exc_get I1.kIn J TD.c2 TD.c3 TD.c4 (PySem.W.findObj_own TD.cb (nf f m2) rfl (by rw [hl, hu])) (handed_of ru) ⟨y, _, I1.tok _, ru, q _ env y oa F _ k h3 R (Grow.refl _ _) hyA⟩
end DL
namespace DL
open PySem PySem.Spec L2
/-! ### a draw of the second family: the mixed number is squared on the side -/
section
variable (K : PySem.W.Frag)
def drawB (a b c : Str) (s : Int) : TS :=
  tSeq (sDPut (tVar 0) (tC (.str c)) (tAd (tKey c) (tI 1)))
  (tSeq (tIfS (tTest (tOp (rNeD K) (tKey a) (tLst tNil)))
    (tSeq (tAsg (tBM0 K "list" rPop (tKey a)) (L2.gName 2))
    (tSeq (tIfS (tTest (tOp (rI0 fun i j => V.bl (decide (j ≤ i))) (tVar 2) (tOp (rI CPow fun i j => V.int (i ^ j.toNat)) (tI 10) (tI 18))))
      (tSeq (tDrop (tBM K "list" rAppend (tKey a) (tCons (tOp (rI CDivW fun i j => V.int (i / j)) (tVar 2)
        (tCB (fun xs H Q => ∃ i j, xs = [V.int i, V.int j] ∧ Q (V.int (if j > i then j else i)) H) (tCons (tI 2) (tCons (tVar 1) tNil)))) tNil)))
      (tRet (tMo (tVar 2) (tVar 1)))) tNext)
    (sDPut (tVar 0) (tC (.str b)) (tMo (tAd (tAd (tKey b) (tMo (tVar 2) (tI 2147483587))) (tI 1)) (tI 2147483587))))) tNext)
  (tSeq (tAsg (tMo (tAd (tAd (tMu (tKey b) (tI 39373)) (tMu (tKey c) (tI 6101))) (tI s)) (tI 2147483629)) (L2.gName 3))
  (tSeq (sDPut (tVar 0) (tC (.str b)) (tMo (tAd (tMu (tVar 3) (tVar 3)) (tKey c)) (tI 2147483587)))
  (tRet (tMo (tOp (rI CDiv fun i j => V.int (i / j)) (tKey b) (tI 89)) (tVar 1))))))
end
section
variable {K : PySem.W.Frag} {a b c : Str} {H0 H : Hp} {p : DkP} {cs : List Int} {m t below s : Int} {D : Ends} {v2 v3 : Option V}
theorem mm1 (i : Int) : 0 ≤ i % 2147483587 ∧ i % 2147483587 < 2147483587 := ⟨Int.emod_nonneg _ (by decide), Int.emod_lt_of_pos _ (by decide)⟩
theorem mm2 (i : Int) : 0 ≤ i % 2147483629 ∧ i % 2147483629 < 2147483629 := ⟨Int.emod_nonneg _ (by decide), Int.emod_lt_of_pos _ (by decide)⟩
theorem drawB_end (n : Ne3 a b c) (d : D3 a b c H0 p H cs m t) (hm : 0 ≤ m ∧ m < 2147483648) (hb : 0 < below) (fin : ∀ (H : Hp) (m t r : Int), D3 a b c H0 p H cs m t → 0 ≤ m → m < 2147483648 → 0 ≤ r → r < below → D.rt (.int r) H) :
    tSeq (tAsg (tMo (tAd (tAd (tMu (tKey b) (tI 39373)) (tMu (tKey c) (tI 6101))) (tI s)) (tI 2147483629)) (L2.gName 3))
      (tSeq (sDPut (tVar 0) (tC (.str b)) (tMo (tAd (tMu (tVar 3) (tVar 3)) (tKey c)) (tI 2147483587)))
      (tRet (tMo (tOp (rI CDiv fun i j => V.int (i / j)) (tKey b) (tI 89)) (tVar 1)))) D [some (.ref p.1), some (.int below), v2, v3] H := by
  have e := mm2 (m * 39373 + t * 6101 + s)
  have e2 := mm1 ((m * 39373 + t * 6101 + s) % 2147483629 * ((m * 39373 + t * 6101 + s) % 2147483629) + t)
  have d' := d.setD (((m * 39373 + t * 6101 + s) % 2147483629 * ((m * 39373 + t * 6101 + s) % 2147483629) + t) % 2147483587) t
  refine ⟨_, rfl, _, _, rfl, d.getM n, _, _, rfl, rfl, .inr (by decide), _, rfl, _, _, rfl, d.getT n, _, _, rfl, rfl, .inr (by decide), _, _, rfl, rfl, _, _, rfl, rfl, _, _, rfl, rfl, show (0 : Int) < 2147483629 by decide, ?_⟩
  refine ⟨_, rfl, _, rfl, _, _, rfl, rfl, .inl ⟨by omega, by omega⟩, _, rfl, _, _, rfl, d.getT n, _, _, rfl, rfl, _, _, rfl, rfl, show (0 : Int) < 2147483587 by decide, _, rfl, _, _, rfl, d.putM n _, ?_⟩
  refine ⟨_, rfl, _, _, rfl, d'.getM n, _, _, rfl, rfl, ⟨by decide, by decide⟩, _, rfl, _, _, rfl, rfl, hb, ?_⟩
  exact fin _ _ _ _ d' e2.1 (by omega) (Int.emod_nonneg _ (by omega)) (Int.emod_lt_of_pos _ hb)
theorem drawB_ok (n : Ne3 a b c) (d : D3 a b c H0 p H cs m t) (hl : cs.length ≤ 63) (hm : 0 ≤ m ∧ m < 2147483648) (hb : 0 < below) (hb2 : below < 2 ^ 8000)
    (fin : ∀ (H : Hp) (cs : List Int) (m t r : Int), D3 a b c H0 p H cs m t → cs.length ≤ 63 → 0 ≤ m → m < 2147483648 → 0 ≤ r → r < below → D.rt (.int r) H) :
    drawB K a b c s D [some (.ref p.1), some (.int below), none, none] H := by
  refine ⟨_, rfl, _, _, rfl, d.getT n, _, _, rfl, rfl, _, rfl, _, _, rfl, d.putT n _, ?_⟩
  have d1 := d.setD m (t + 1)
  refine d1.full rfl fun l hl0 => ?_
  have d2 := d1.laid hl0 (.lst [])
  by_cases hc : cs = []
  · subst hc
    exact drawB_end n d2 hm hb fun H m t r x h1 h2 h3 h4 => fin H [] m t r x hl h1 h2 h3 h4
  · have hcs : (!cs.isEmpty) = true := by cases cs <;> simp at hc ⊢
    rw [if_pos hcs]
    have hlen : 0 < cs.length := List.length_pos_iff.mpr hc
    obtain ⟨x, hx⟩ : ∃ x : Int, cs[cs.length - 1]? = some x := ⟨_, List.getElem?_eq_getElem (by omega)⟩
    have d3 := d2.setL cs.dropLast
    have hdl : (cs.map V.int).dropLast = cs.dropLast.map V.int := by rw [List.dropLast_eq_take, List.dropLast_eq_take, List.map_take, List.length_map]
    refine ⟨_, rfl, _, _, rfl, d2.getC, .inl ⟨rfl, _, SqL.of d2.ls⟩, _, cs.map V.int, .int x, rfl, rfl, d2.ls, by rw [List.length_map, List.getElem?_map, hx]; rfl, ?_⟩
    rw [hdl]
    refine ⟨_, rfl, _, _, rfl, rfl, ⟨by decide, by decide, by decide⟩, _, _, rfl, rfl, _, rfl, ?_⟩
    by_cases hg : (10 : Int) ^ (18 : Int).toNat ≤ x
    · rw [decide_eq_true hg]
      have hmx : CDivW x (if below > 2 then below else 2) := by
        split
        · exact ⟨hb, below_log hb hb2⟩
        · exact ⟨by decide, by decide⟩
      refine ⟨_, rfl, _, _, rfl, d3.getC, .inl ⟨rfl, _, SqL.of d3.ls⟩, _, rfl, _, rfl, _, _, rfl, _, _, rfl, rfl, hmx, _, _, _, rfl, rfl, d3.ls, ?_, ?_⟩
      · rw [List.length_map, List.length_dropLast]
        exact Nat.lt_of_le_of_lt (m := 63) (by omega) (by decide)
      · have d4 := d3.setL (cs.dropLast ++ [x / if below > 2 then below else 2])
        rw [List.map_append] at d4
        refine ⟨_, rfl, _, rfl, _, _, rfl, rfl, hb, ?_⟩
        refine fin _ _ _ _ _ d4 ?_ hm.1 hm.2 (Int.emod_nonneg _ (by omega)) (Int.emod_lt_of_pos _ hb)
        rw [List.length_append, List.length_dropLast, List.length_singleton]
        omega
    · rw [decide_eq_false hg]
      have e := mm1 (m + x % 2147483587 + 1)
      refine ⟨_, rfl, _, _, rfl, d3.getM n, _, rfl, _, _, rfl, rfl, show (0 : Int) < 2147483587 by decide, _, _, rfl, rfl, _, _, rfl, rfl, _, _, rfl, rfl, show (0 : Int) < 2147483587 by decide, _, rfl, _, _, rfl, d3.putM n _, ?_⟩
      refine drawB_end n (d3.setD _ _) ⟨e.1, by omega⟩ hb fun H m t r y h1 h2 h3 h4 => fin H _ m t r y ?_ h1 h2 h3 h4
      rw [List.length_dropLast]
      omega
end
theorem drawB_fn {K : PySem.W.Frag} {mg : Str → Option Value} {vs : List V} {H : Hp} {Q : VK} {E : XK} {N : List Str} {s : Int} (hN : N.length = 4) (h : spD K mg (S_draw 0) vs H Q E) : drawB K "cells" "mixed" "turn" s { nx := fun _ H' => Q .non H', rt := Q } (L2.start N vs) H := by
  obtain ⟨ds, F, k, P, PX, W, a, h, q, _⟩ := h
  unfold S_draw at h
  split at h
  case h_2 => exact h.elim
  rename_i m b
  obtain ⟨rfl, hb, hb1, hr⟩ := h
  have hb2 : b < 2 ^ 8000 := Int.lt_trans hb1 (by decide +kernel)
  simp only [Ats, At] at a
  obtain ⟨v, _, rfl, ⟨p, e0, e1, e2⟩, v2, _, rfl, e3, rfl⟩ := a
  subst e0
  subst e2
  subst e3
  obtain ⟨⟨kvs, cs, h1, h2, h3⟩, f1, f2⟩ := W.dk p rfl
  rw [e1] at h3
  obtain ⟨hl, m, t, rfl, hm⟩ := h3
  have d : D3 "cells" "mixed" "turn" H p H cs m t := ⟨h1, h2, fun _ _ h _ _ => h, by rw [h1]; simp, by rw [h2]; simp⟩
  have st : L2.start N [.ref p.1, .int b] = [some (.ref p.1), some (.int b), none, none] := by
    unfold L2.start
    rw [hN]
    rfl
  rw [st]
  refine drawB_ok (n := ⟨by decide, by decide, by decide⟩) d hl hm hb hb2 fun H' cs' m' t' r d' hl' hm1 hm2 h0 h1 => q (.int r) _ H' (hr r h0 h1) (d'.fin (n := 0) W rfl ?_)
  rw [e1]
  exact ⟨hl', m', t', rfl, hm1, hm2⟩
theorem sp_len {K : PySem.W.Frag} {mg : Str → Option Value} {S : SD} {n : Nat} {vs : List V} {H : Hp} {Q : VK} {E : XK} (ar : ∀ ds P PX, S ds P PX → ds.length = n) (h : spD K mg S vs H Q E) : vs.length = n := by
  obtain ⟨ds, F, k, P, PX, W, a, h, _⟩ := h
  rw [← Ats.length a]
  exact ar _ _ _ h
theorem un1 {k : Nat} {A : Around} (r : Room k A) : A.units + 1 < cLine := by have := r.units; omega
/-! ### rules by bundles -/
structure XR0 (K : PySem.W.Frag) (mg : Str → Option Value) (n : Str) : Prop where
  ex : ∃ C, mg n = some (.ref C) ∧ XcF K C ∧ PySem.W.excIn K C eTail "Exception.__new__" = true
structure XR1 (K : PySem.W.Frag) (mg : Str → Option Value) (n f : Str) : Prop where
  ex : ∃ C fI, mg n = some (.ref C) ∧ XcF K C ∧ XiF K C f fI ∧ InitD K f fI ∧ FOk f
section
variable {wx : DX} {WW : WX} {ZZ : Fz} {X : Cx} {f x : Str} {a : Expr} {p pos pos2 : Pos} {k : Nat} {g : DE}
theorem dr0 (T : XR0 X.K X.mg x) (hc : X.calm = true) (tk : Takes X WW) (hg : Gl X x) (hdb : (x == ("__debug__" : Str)) = false := by decide) : PS X (.Raise (some (.Call (.Name x p) [] [] pos)) none pos2) (liftS (X.kx wx WW ZZ) (dRaise0 wx x)) := by
  obtain ⟨C, h1, h2, h3⟩ := T.ex
  exact ds_raise0 hc tk h2 h3 h1 hg hdb
theorem dr1 (T : XR1 X.K X.mg x f) (hc : X.calm = true) (tk : Takes X WW) (hr : Room k X.A) (hg : Gl X x) (ha : PE X a (lift (X.kx wx WW ZZ) g)) (hdb : (x == ("__debug__" : Str)) = false := by decide)
    (he : starEach (a :: []) X.env = (false, eval a X.env) :: starEach [] X.env := by rfl) (hpl : (backTo pos (starEach [] X.env)).any (·.1) = false := by rfl) : PS X (.Raise (some (.Call (.Name x p) [a] [] pos)) none pos2) (liftS (X.kx wx WW ZZ) (dRaise1 wx x f g)) := by
  obtain ⟨C, fI, h1, h2, h3, h4, h5⟩ := T.ex
  exact ds_raise1 hc tk h2 h3 h4 h5 h1 hr ha hg hdb he hpl
end
/-! ### simp equations -/
section
variable {env : Evn} {Q : D → Evn → Prop} {B : DEnd} {f : DE} {fa fk : DA} {S : SD} {w : DX} {n : Str} {xn fs : List Str}
@[simp ↓] theorem e_CallX : dCallX w S fa env Q = fa env fun ds env' => S ds (fun d => Q d env') fun x => w x env' := rfl
@[simp ↓] theorem e_CallKX {n m : Nat} {ix : List Nat} : dCallKX w S n m ix fa fk env Q = fa env fun ds env1 => fk env1 fun zs env2 => (ds.length = n ∧ zs.length = m) ∧ S (pickL ix (ds ++ zs)) (fun d => Q d env2) fun x => w x env2 := rfl
@[simp ↓] theorem e_Raise0 : dRaise0 w n B env = w (n, []) env := rfl
@[simp ↓] theorem e_Raise1 {g : Str} : dRaise1 w n g f B env = f env fun d env1 => w (n, [(g, d)]) env1 := rfl
@[simp ↓] theorem e_Out : dOut B env = False := rfl
@[simp ↓] theorem e_Try {i : Nat} {u : DX → DS} {hs : List Hd} : dTry xn i w u hs B env = u (hnd xn w i B hs) B env := rfl
@[simp ↓] theorem e_hnd0 {i : Nat} {x : Ex} : hnd xn w i B [] x env = w x env := rfl
@[simp ↓] theorem e_hnd1 {i : Nat} {x : Ex} {c : Str} {u : Ex → Addr → DS} {r : List Hd} : hnd xn w i B ((c, u) :: r) x env = ((x.1 ∈ xn ∧ c ∈ xn) ∧ if subX x.1 c = true then ∀ a, u x a (cutB B i) (env.set i (.val (.raw (.ref a)))) else hnd xn w i B r x env) := rfl
@[simp ↓] theorem e_IsE {x : Ex} {a : Addr} {i : Nat} {c : Str} : dIsE xn x a i c env Q = (env[i]? = some (.val (.raw (.ref a))) ∧ (x.1 ∈ xn ∧ c ∈ xn) ∧ Q (.bl (subX x.1 c)) env) := rfl
@[simp ↓] theorem e_Fld {x : Ex} {a : Addr} {i : Nat} {g : Str} : dFld xn fs x a i g env Q = (env[i]? = some (.val (.raw (.ref a))) ∧ (x.1 ∈ xn ∧ g ∈ fs) ∧ ∃ v, x.2.lookup g = some v ∧ Q v env) := rfl
@[simp ↓] theorem e_cut_nx {i : Nat} : (cutB B i).nx env = B.nx (env.set i .no) := rfl
@[simp ↓] theorem e_cut_rt {i : Nat} : (cutB B i).rt = B.rt := rfl
end
end DL
namespace DL
open PySem PySem.Spec L2 PyProof.Rows
/-! ### chains of comparisons -/
/-- one link: y is what stood behind it -/
def dLink (o : DO) (x : D) (g : DE) (rest : D → DE) : DE := fun env Q => g env fun y env1 => o x y fun d => match d with
  | .bl true => rest y env1 Q
  | .bl false => Q (.bl false) env1
  | _ => False
def dLast (o : DO) (x : D) (g : DE) : DE := fun env Q => g env fun y env1 => o x y fun d => Q d env1
def dCh2 (o o' : DO) (f g h : DE) : DE := fun env Q => f env fun x env1 => dLink o x g (fun y => dLast o' y h) env1 Q
def dCh3 (o o' o'' : DO) (f g h i : DE) : DE := fun env Q => f env fun x env1 => dLink o x g (fun y => dLink o' y h fun z => dLast o'' z i) env1 Q
/-- what a chain's rest does from a value on -/
def tLink (r : R2) (x : V) (g : TE) (rest : V → TE) : TE := fun σ H Q => g σ H fun y H1 => r x y H1 fun z H2 => ∃ k, z = .bl k ∧ (if k = true then rest y σ H2 Q else Q (.bl false) H2)
def tLast (r : R2) (x : V) (g : TE) : TE := fun σ H Q => g σ H fun y H1 => r x y H1 Q
section
variable {wx : DX} {WW : WX} {ZZ : Fz} {X : Cx} {a b c d : Expr} {pos : Pos} {ta tb tc td : TE} {f g h i : DE} {op op' op'' : CmpOp} {r r' r'' : R2} {o o' o'' : DO}
theorem run_last (ho : OpR X (compareOp op) r) (hb : PE X b tb) {pins : List (Addr × Obj)} {σ : L2.St} {H : Hp} {s : Shared} {x : V} {v : Value} {Q : VK} (I : L2.Inv X pins σ H s) (rx : RelV x v) (q : tLast r x tb σ H Q) :
    wpAny (model X.prog X.w) X.A (compareChain pos v [op] [eval b X.env]) (EP X pins σ Q) X.xe s :=
  chain_last (thn (hb.run pins s σ H _ I q) fun u s1 ⟨y, H1, I1, r1, q1⟩ => ho pins s1 σ H1 x y v u Q I1 rx r1 q1)
theorem run_link {rs : List Expr} {ops : List CmpOp} {c : Expr} {rest : V → TE} (ho : OpR X (compareOp op) r) (hb : PE X b tb)
    (hr : ∀ (s : Shared) (H : Hp) (y : V) (u : Value) (pins : List (Addr × Obj)) (σ : L2.St) (Q : VK), L2.Inv X pins σ H s → RelV y u → rest y σ H Q → wpAny (model X.prog X.w) X.A (compareChain pos u (op' :: ops) (eval c X.env :: evalEach rs X.env)) (EP X pins σ Q) X.xe s)
    {pins : List (Addr × Obj)} {σ : L2.St} {H : Hp} {s : Shared} {x : V} {v : Value} {Q : VK} (I : L2.Inv X pins σ H s) (rx : RelV x v) (q : tLink r x tb rest σ H Q) :
    wpAny (model X.prog X.w) X.A (compareChain pos v (op :: op' :: ops) (eval b X.env :: eval c X.env :: evalEach rs X.env)) (EP X pins σ Q) X.xe s :=
  chain_link (thn (hb.run pins s σ H _ I q) fun u s1 ⟨y, H1, I1, r1, q1⟩ => thn (ho pins s1 σ H1 x y v u _ I1 rx r1 q1) fun w s2 ⟨z, H2, I2, r2, k, e, q2⟩ => by
    subst e
    cases r2
    refine wpAny_truthy_bool ?_
    cases k with
    | false => exact ite_ff ⟨.bl false, H2, I2, rfl, q2⟩
    | true => exact ite_tt (hr s2 H2 y u pins σ Q I2 r1 q2))
theorem pe_ch2 (h1 : OpR X (compareOp op) r) (h2 : OpR X (compareOp op') r') (ha : PE X a ta) (hb : PE X b tb) (hc : PE X c tc) (hm : lastMarks [op, op'] [b, c] = false := by with_unfolding_all rfl) :
    PE X (.Compare a [op, op'] [b, c] pos) (fun σ H Q => ta σ H fun x H1 => tLink r x tb (fun y => tLast r' y tc) σ H1 Q) := ⟨fun pins s σ H Q I hh =>
  Compare_chain (thn (ha.run pins s σ H _ I hh) fun v s1 ⟨x, H1, I1, r1, q1⟩ => run_link h1 hb (fun s H y u pins σ Q I r q => run_last h2 hc I r q) I1 r1 q1) hm⟩
theorem pe_ch3 (h1 : OpR X (compareOp op) r) (h2 : OpR X (compareOp op') r') (h3 : OpR X (compareOp op'') r'') (ha : PE X a ta) (hb : PE X b tb) (hc : PE X c tc) (hd : PE X d td) (hm : lastMarks [op, op', op''] [b, c, d] = false := by with_unfolding_all rfl) :
    PE X (.Compare a [op, op', op''] [b, c, d] pos) (fun σ H Q => ta σ H fun x H1 => tLink r x tb (fun y => tLink r' y tc fun z => tLast r'' z td) σ H1 Q) := ⟨fun pins s σ H Q I hh =>
  Compare_chain (thn (ha.run pins s σ H _ I hh) fun v s1 ⟨x, H1, I1, r1, q1⟩ => run_link h1 hb (fun s H y u pins σ Q I r q => run_link h2 hc (fun s H y u pins σ Q I r q => run_last h3 hd I r q) I r q) I1 r1 q1) hm⟩
/-! as tests -/
theorem runT_last (ho : OpR X (compareOp op) r) (hb : PE X b tb) {pins : List (Addr × Obj)} {σ : L2.St} {H : Hp} {s : Shared} {x : V} {v : Value} {Q : Bool → Hp → Prop} (I : L2.Inv X pins σ H s) (rx : RelV x v) (q : tLast r x tb σ H fun z H' => ∃ k, z = .bl k ∧ Q k H') :
    wpAny (model X.prog X.w) X.A (testChain pos v [op] [eval b X.env]) (fun t s' => ∃ H', L2.Inv X pins σ H' s' ∧ Q t H') X.xe s :=
  test_last (thn (hb.run pins s σ H _ I q) fun u s1 ⟨y, H1, I1, r1, q1⟩ => thn (ho pins s1 σ H1 x y v u _ I1 rx r1 q1) fun w s2 ⟨z, H2, I2, r2, k, e, q2⟩ => by
    subst e
    cases r2
    exact wpAny_truthy_bool ⟨H2, I2, q2⟩)
theorem runT_link {rs : List Expr} {ops : List CmpOp} {c : Expr} {rest : V → TE} (ho : OpR X (compareOp op) r) (hb : PE X b tb)
    (hr : ∀ (s : Shared) (H : Hp) (y : V) (u : Value) (pins : List (Addr × Obj)) (σ : L2.St) (Q : Bool → Hp → Prop), L2.Inv X pins σ H s → RelV y u → (rest y σ H fun z H' => ∃ k, z = .bl k ∧ Q k H') → wpAny (model X.prog X.w) X.A (testChain pos u (op' :: ops) (eval c X.env :: evalEach rs X.env)) (fun t s' => ∃ H', L2.Inv X pins σ H' s' ∧ Q t H') X.xe s)
    {pins : List (Addr × Obj)} {σ : L2.St} {H : Hp} {s : Shared} {x : V} {v : Value} {Q : Bool → Hp → Prop} (I : L2.Inv X pins σ H s) (rx : RelV x v) (q : tLink r x tb rest σ H fun z H' => ∃ k, z = .bl k ∧ Q k H') :
    wpAny (model X.prog X.w) X.A (testChain pos v (op :: op' :: ops) (eval b X.env :: eval c X.env :: evalEach rs X.env)) (fun t s' => ∃ H', L2.Inv X pins σ H' s' ∧ Q t H') X.xe s :=
  test_link (thn (hb.run pins s σ H _ I q) fun u s1 ⟨y, H1, I1, r1, q1⟩ => thn (ho pins s1 σ H1 x y v u _ I1 rx r1 q1) fun w s2 ⟨z, H2, I2, r2, k, e, q2⟩ => by
    subst e
    cases r2
    refine wpAny_truthy_bool ?_
    cases k with
    | false =>
      obtain ⟨k', e', q'⟩ := q2
      cases e'
      exact ite_ff ⟨H2, I2, q'⟩
    | true => exact ite_tt (hr s2 H2 y u pins σ Q I2 r1 q2))
theorem pt_ch2 (h1 : OpR X (compareOp op) r) (h2 : OpR X (compareOp op') r') (ha : PE X a ta) (hb : PE X b tb) (hc : PE X c tc) (hm : lastMarks [op, op'] [b, c] = false := by with_unfolding_all rfl) :
    PT X (.Compare a [op, op'] [b, c] pos) (tTest fun σ H Q => ta σ H fun x H1 => tLink r x tb (fun y => tLast r' y tc) σ H1 Q) := ⟨fun pins s σ H Q I hh =>
  isTrue_chain (thn (ha.run pins s σ H _ I hh) fun v s1 ⟨x, H1, I1, r1, q1⟩ => runT_link h1 hb (fun s H y u pins σ Q I r q => runT_last h2 hc I r q) I1 r1 q1) hm⟩
theorem pt_ch3 (h1 : OpR X (compareOp op) r) (h2 : OpR X (compareOp op') r') (h3 : OpR X (compareOp op'') r'') (ha : PE X a ta) (hb : PE X b tb) (hc : PE X c tc) (hd : PE X d td) (hm : lastMarks [op, op', op''] [b, c, d] = false := by with_unfolding_all rfl) :
    PT X (.Compare a [op, op', op''] [b, c, d] pos) (tTest fun σ H Q => ta σ H fun x H1 => tLink r x tb (fun y => tLink r' y tc fun z => tLast r'' z td) σ H1 Q) := ⟨fun pins s σ H Q I hh =>
  isTrue_chain (thn (ha.run pins s σ H _ I hh) fun v s1 ⟨x, H1, I1, r1, q1⟩ => runT_link h1 hb (fun s H y u pins σ Q I r q => runT_link h2 hc (fun s H y u pins σ Q I r q => runT_last h3 hd I r q) I r q) I1 r1 q1) hm⟩
/-! over data -/
theorem lift_last {K : Kx} (L : OpL K.f r o) {x : D} {vx : V} : ∀ {e : Ent} {env : Evn} {oa : Nat → Addr} {σ : L2.St} {F H : Hp} {k : Dk} {P : D → Evn → Prop} {Q : VK}, Rel K e env oa σ F H k → At K F k x vx → dLast o x g env P →
    (∀ d env' v oa' F' H' k', P d env' → Rel K e env' oa' σ F' H' k' → Grow F F' k k' → At K F' k' d v → Q v H') → tLast r vx (lift K g) σ H Q := fun {e env oa σ F H k P Q} R ax p q =>
  ⟨e, env, oa, F, k, _, R, p, fun y env2 vy oa2 F2 H2 k2 p2 R2 g2 a2 => L e env2 oa2 σ F2 H2 k2 vx vy x y Q _ R2.toRel0 (At.grow g2 _ _ ax) a2 p2 fun d v oa3 F3 H3 k3 p3 R3 g3 a3 => q d env2 v oa3 F3 H3 k3 p3 (R2.up R3 g3) (g2.trans g3) a3⟩
theorem lift_link {K : Kx} (L : OpL K.f r o) {rest : D → DE} {trest : V → TE} (hr : ∀ {y : D} {vy : V} {e : Ent} {env : Evn} {oa : Nat → Addr} {σ : L2.St} {F H : Hp} {k : Dk} {P : D → Evn → Prop} {Q : VK}, Rel K e env oa σ F H k → At K F k y vy → rest y env P →
      (∀ d env' v oa' F' H' k', P d env' → Rel K e env' oa' σ F' H' k' → Grow F F' k k' → At K F' k' d v → Q v H') → trest vy σ H Q)
    {x : D} {vx : V} {e : Ent} {env : Evn} {oa : Nat → Addr} {σ : L2.St} {F H : Hp} {k : Dk} {P : D → Evn → Prop} {Q : VK} (R : Rel K e env oa σ F H k) (ax : At K F k x vx) (p : dLink o x g rest env P)
    (q : ∀ d env' v oa' F' H' k', P d env' → Rel K e env' oa' σ F' H' k' → Grow F F' k k' → At K F' k' d v → Q v H') : tLink r vx (lift K g) trest σ H Q :=
  ⟨e, env, oa, F, k, _, R, p, fun y env2 vy oa2 F2 H2 k2 p2 R2 g2 a2 => L e env2 oa2 σ F2 H2 k2 vx vy x y _ _ R2.toRel0 (At.grow g2 _ _ ax) a2 p2 fun d v oa3 F3 H3 k3 p3 R3 g3 a3 => by
    cases d with
    | bl b =>
      refine ⟨b, by simpa only [At] using a3, ?_⟩
      have R3' := R2.up R3 g3
      cases b with
      | false => exact q (.bl false) env2 _ oa3 F3 H3 k3 p3 R3' (g2.trans g3) (by simp only [At])
      | true => exact hr R3' (At.grow g3 _ _ a2) p3 fun d env' v oa' F' H' k' p' R' g' a' => q d env' v oa' F' H' k' p' R' (g2.trans (g3.trans g')) a'
    | _ => exact p3.elim⟩
theorem dl_ch2 (O1 : OpD X (compareOp op) o) (O2 : OpD X (compareOp op') o') (ha : PE X a (lift (X.kx wx WW ZZ) f)) (hb : PE X b (lift (X.kx wx WW ZZ) g)) (hc : PE X c (lift (X.kx wx WW ZZ) h)) (hm : lastMarks [op, op'] [b, c] = false := by with_unfolding_all rfl) :
    PE X (.Compare a [op, op'] [b, c] pos) (lift (X.kx wx WW ZZ) (dCh2 o o' f g h)) := by
  obtain ⟨r1, h1, L1⟩ := O1
  obtain ⟨r2, h2, L2⟩ := O2
  exact (pe_ch2 h1 h2 ha hb hc hm).w fun σ H Q ⟨e, env, oa, F, k, P, R, p, q⟩ => ⟨e, env, oa, F, k, _, R, p, fun x env1 vx oa1 F1 H1 k1 p1 R1 g1 a1 =>
    lift_link (K := X.kx wx WW ZZ) L1 (fun R a p q => lift_last (K := X.kx wx WW ZZ) L2 R a p q) R1 a1 p1 fun d env' v oa' F' H' k' p' R' g' a' => q d env' v oa' F' H' k' p' R' (g1.trans g') a'⟩
theorem dl_ch3 (O1 : OpD X (compareOp op) o) (O2 : OpD X (compareOp op') o') (O3 : OpD X (compareOp op'') o'') (ha : PE X a (lift (X.kx wx WW ZZ) f)) (hb : PE X b (lift (X.kx wx WW ZZ) g)) (hc : PE X c (lift (X.kx wx WW ZZ) h)) (hd : PE X d (lift (X.kx wx WW ZZ) i)) (hm : lastMarks [op, op', op''] [b, c, d] = false := by with_unfolding_all rfl) :
    PE X (.Compare a [op, op', op''] [b, c, d] pos) (lift (X.kx wx WW ZZ) (dCh3 o o' o'' f g h i)) := by
  obtain ⟨r1, h1, L1⟩ := O1
  obtain ⟨r2, h2, L2⟩ := O2
  obtain ⟨r3, h3, L3⟩ := O3
  exact (pe_ch3 h1 h2 h3 ha hb hc hd hm).w fun σ H Q ⟨e, env, oa, F, k, P, R, p, q⟩ => ⟨e, env, oa, F, k, _, R, p, fun x env1 vx oa1 F1 H1 k1 p1 R1 g1 a1 =>
    lift_link (K := X.kx wx WW ZZ) L1 (fun R a p q => lift_link (K := X.kx wx WW ZZ) L2 (fun R a p q => lift_last (K := X.kx wx WW ZZ) L3 R a p q) R a p q) R1 a1 p1 fun d env' v oa' F' H' k' p' R' g' a' => q d env' v oa' F' H' k' p' R' (g1.trans g') a'⟩
theorem dt_ch2 (O1 : OpD X (compareOp op) o) (O2 : OpD X (compareOp op') o') (ha : PE X a (lift (X.kx wx WW ZZ) f)) (hb : PE X b (lift (X.kx wx WW ZZ) g)) (hc : PE X c (lift (X.kx wx WW ZZ) h)) (hm : lastMarks [op, op'] [b, c] = false := by with_unfolding_all rfl) :
    PT X (.Compare a [op, op'] [b, c] pos) (liftT (X.kx wx WW ZZ) (dTest (dCh2 o o' f g h))) := by
  obtain ⟨r1, h1, L1⟩ := O1
  obtain ⟨r2, h2, L2⟩ := O2
  exact (pt_ch2 h1 h2 ha hb hc hm).w fun σ H Q hh => by
    obtain ⟨e, env, oa, F, k, P, R, p, q⟩ := lift_test σ H Q hh
    exact ⟨e, env, oa, F, k, _, R, p, fun x env1 vx oa1 F1 H1 k1 p1 R1 g1 a1 =>
      lift_link (K := X.kx wx WW ZZ) L1 (fun R a p q => lift_last (K := X.kx wx WW ZZ) L2 R a p q) R1 a1 p1 fun d env' v oa' F' H' k' p' R' g' a' => q d env' v oa' F' H' k' p' R' (g1.trans g') a'⟩
theorem dt_ch3 (O1 : OpD X (compareOp op) o) (O2 : OpD X (compareOp op') o') (O3 : OpD X (compareOp op'') o'') (ha : PE X a (lift (X.kx wx WW ZZ) f)) (hb : PE X b (lift (X.kx wx WW ZZ) g)) (hc : PE X c (lift (X.kx wx WW ZZ) h)) (hd : PE X d (lift (X.kx wx WW ZZ) i)) (hm : lastMarks [op, op', op''] [b, c, d] = false := by with_unfolding_all rfl) :
    PT X (.Compare a [op, op', op''] [b, c, d] pos) (liftT (X.kx wx WW ZZ) (dTest (dCh3 o o' o'' f g h i))) := by
  obtain ⟨r1, h1, L1⟩ := O1
  obtain ⟨r2, h2, L2⟩ := O2
  obtain ⟨r3, h3, L3⟩ := O3
  exact (pt_ch3 h1 h2 h3 ha hb hc hd hm).w fun σ H Q hh => by
    obtain ⟨e, env, oa, F, k, P, R, p, q⟩ := lift_test σ H Q hh
    exact ⟨e, env, oa, F, k, _, R, p, fun x env1 vx oa1 F1 H1 k1 p1 R1 g1 a1 =>
      lift_link (K := X.kx wx WW ZZ) L1 (fun R a p q => lift_link (K := X.kx wx WW ZZ) L2 (fun R a p q => lift_last (K := X.kx wx WW ZZ) L3 R a p q) R a p q) R1 a1 p1 fun d env' v oa' F' H' k' p' R' g' a' => q d env' v oa' F' H' k' p' R' (g1.trans g') a'⟩
end
section
variable {env : Evn} {Q : D → Evn → Prop} {f g h i : DE} {o o' o'' : DO} {x : D} {rest : D → DE}
@[simp ↓] theorem e_Link : dLink o x g rest env Q = g env fun y env1 => o x y fun d => match d with | .bl true => rest y env1 Q | .bl false => Q (.bl false) env1 | _ => False := rfl
@[simp ↓] theorem e_Last : dLast o x g env Q = g env fun y env1 => o x y fun d => Q d env1 := rfl
@[simp ↓] theorem e_Ch2 : dCh2 o o' f g h env Q = f env fun x env1 => dLink o x g (fun y => dLast o' y h) env1 Q := rfl
@[simp ↓] theorem e_Ch3 : dCh3 o o' o'' f g h i env Q = f env fun x env1 => dLink o x g (fun y => dLink o' y h fun z => dLast o'' z i) env1 Q := rfl
end
/-! ### in, not in -/
def oIn : DO := fun x y G => match y with
  | .lst l => (eqOk x ∧ eqOk (.lst l)) ∧ G (.bl (l.any fun z => eqv z x))
  | .tup l => (eqOk x ∧ eqOk (.tup l)) ∧ G (.bl (l.any fun z => eqv z x))
  | _ => False
def oNin : DO := fun x y G => match y with
  | .lst l => (eqOk x ∧ eqOk (.lst l)) ∧ G (.bl (!l.any fun z => eqv z x))
  | .tup l => (eqOk x ∧ eqOk (.tup l)) ∧ G (.bl (!l.any fun z => eqv z x))
  | _ => False
theorem any_py (x : D) : ∀ l : List D, ((pys l).any fun z => PyData.eqv z (py x)) = l.any fun z => eqv z x
  | [] => rfl
  | d :: l => by simp only [pys, List.any_cons, any_py x l]; rfl
def rInT (K : PySem.W.Frag) (neg : Bool) : R2 := fun x y H Q => ∃ d ds, Dp K H x d ∧ Dp K H y (.tuple ds) ∧ SeqAt.shaped d = true ∧ SeqAt.shaped (.tuple ds) = true ∧ Q (.bl (if neg = true then !ds.any fun z => PyData.eqv z d else ds.any fun z => PyData.eqv z d)) H
theorem room_inT {n : Nat} {d : PyData} {ds : List PyData} (h : SeqAt.shaped d = true) (h1 : n + 65 < cLine) : n + 1 + min (PyData.depthAll ds) d.depth < cLine := by
  have e : d.canLay0 = true ∧ decide (d.depth ≤ 64) = true := Bool.and_eq_true_iff.mp (show (d.canLay0 && decide (d.depth ≤ 64)) = true from h)
  have := of_decide_eq_true e.2
  omega
section
variable {X : Cx}
theorem op_inT (hu : X.A.units + 65 < cLine) : OpR X (compareOp .In) (rInT X.K false) := fun pins s σ H x y v u Q I rx ry ⟨d, ds, hd, he, sd, se, q⟩ => by
  obtain ⟨as, r1⟩ := Dp.reads I d x v hd rx
  obtain ⟨bs, r2⟩ := Dp.reads I (.tuple ds) y u he ry
  exact SeqAt.in_tuple_reads r2 r1 (SeqAt.canLay_of_shaped se) (SeqAt.canLay_of_shaped sd) (room_inT sd hu) ⟨.bl _, H, I, rfl, q⟩
theorem op_ninT (hu : X.A.units + 65 < cLine) : OpR X (compareOp .NotIn) (rInT X.K true) := fun pins s σ H x y v u Q I rx ry ⟨d, ds, hd, he, sd, se, q⟩ => by
  obtain ⟨as, r1⟩ := Dp.reads I d x v hd rx
  obtain ⟨bs, r2⟩ := Dp.reads I (.tuple ds) y u he ry
  exact SeqAt.notIn_tuple_reads r2 r1 (SeqAt.canLay_of_shaped se) (SeqAt.canLay_of_shaped sd) (room_inT sd hu) ⟨.bl _, H, I, rfl, q⟩
theorem opd_in (hu : X.A.units + 65 < cLine) : OpD X (compareOp .In) oIn := ⟨_, op_or (op_inD hu) (op_inT hu), fun e env oa σ F H k x y dx dy Q G R a1 a2 p q => by
  unfold oIn at p
  split at p
  · rename_i l
    refine .inl ⟨_, pys l, dp_of R.wd dx x p.1.1.1 a1, ?_, p.1.1.sh, ?_, ?_⟩
    · have := dp_of R.wd (.lst l) y p.1.2.1 a2
      simpa only [py] using this
    · have := p.1.2.sh
      simpa only [py] using this
    · rw [any_py]
      exact q _ _ oa F H k p.2 R (Grow.refl _ _) (by simp only [At])
  · rename_i l
    refine .inr ⟨_, pys l, dp_of R.wd dx x p.1.1.1 a1, ?_, p.1.1.sh, ?_, ?_⟩
    · have := dp_of R.wd (.tup l) y p.1.2.1 a2
      simpa only [py] using this
    · have := p.1.2.sh
      simpa only [py] using this
    · rw [if_neg Bool.false_ne_true, any_py]
      exact q _ _ oa F H k p.2 R (Grow.refl _ _) (by simp only [At])
  · exact p.elim⟩
theorem opd_nin (hu : X.A.units + 65 < cLine) : OpD X (compareOp .NotIn) oNin := ⟨_, op_or (op_notInD hu) (op_ninT hu), fun e env oa σ F H k x y dx dy Q G R a1 a2 p q => by
  unfold oNin at p
  split at p
  · rename_i l
    refine .inl ⟨_, pys l, dp_of R.wd dx x p.1.1.1 a1, ?_, p.1.1.sh, ?_, ?_⟩
    · have := dp_of R.wd (.lst l) y p.1.2.1 a2
      simpa only [py] using this
    · have := p.1.2.sh
      simpa only [py] using this
    · rw [any_py]
      exact q _ _ oa F H k p.2 R (Grow.refl _ _) (by simp only [At])
  · rename_i l
    refine .inr ⟨_, pys l, dp_of R.wd dx x p.1.1.1 a1, ?_, p.1.1.sh, ?_, ?_⟩
    · have := dp_of R.wd (.tup l) y p.1.2.1 a2
      simpa only [py] using this
    · have := p.1.2.sh
      simpa only [py] using this
    · rw [if_pos rfl, any_py]
      exact q _ _ oa F H k p.2 R (Grow.refl _ _) (by simp only [At])
  · exact p.elim⟩
theorem un65 {k : Nat} {A : Around} (r : Room k A) : A.units + 65 < cLine := by have := r.un; omega
end
section
variable {G : D → Prop} {x : D} {l : List D}
@[simp ↓] theorem o_in_l : oIn x (.lst l) G = ((eqOk x ∧ eqOk (.lst l)) ∧ G (.bl (l.any fun z => eqv z x))) := rfl
@[simp ↓] theorem o_in_t : oIn x (.tup l) G = ((eqOk x ∧ eqOk (.tup l)) ∧ G (.bl (l.any fun z => eqv z x))) := rfl
@[simp ↓] theorem o_nin_l : oNin x (.lst l) G = ((eqOk x ∧ eqOk (.lst l)) ∧ G (.bl (!l.any fun z => eqv z x))) := rfl
@[simp ↓] theorem o_nin_t : oNin x (.tup l) G = ((eqOk x ∧ eqOk (.tup l)) ∧ G (.bl (!l.any fun z => eqv z x))) := rfl
end
end DL
namespace DL
open PySem PySem.Spec L2
/-! ### constants of the module -/
mutual
theorem conB_ok {K : PySem.W.Frag} : ∀ (d : D) (u : Value), conB K d u = true → ∃ v, RelV v u ∧ ∀ F k, At K F k d v
  | .non, .none, _ => ⟨.non, rfl, fun _ _ => by simp only [At]⟩
  | .bl b, .bool c, h => ⟨.bl b, by have e : b = c := eq_of_beq (by simpa only [conB] using h); subst e; rfl, fun _ _ => by simp only [At]⟩
  | .int i, .int j t, h => ⟨.int i, by have e : i = j := of_decide_eq_true (by simpa only [conB] using h); subst e; exact ⟨t, rfl⟩, fun _ _ => by simp only [At]⟩
  | .str x, .str y t, h => ⟨.str x, by have e : x = y := of_decide_eq_true (by simpa only [conB] using h); subst e; exact ⟨t, rfl⟩, fun _ _ => by simp only [At]⟩
  | .tup l, .ref a, h => by
    simp only [conB] at h
    split at h
    · rename_i c od its n sl ho
      obtain ⟨h1, h2⟩ := He.ba h
      obtain ⟨h3, h4⟩ := He.ba h2
      have e : c = "tuple" := of_decide_eq_true h1
      subst e
      obtain ⟨vs, rv, hA⟩ := conBs_ok l its.toList h4
      exact ⟨.ref a, rfl, fun F k => by simp only [At]; exact ⟨a, vs, rfl, .inr ⟨_, its, n, ho, rfl, rfl, of_decide_eq_true h3, rv⟩, hA F k⟩⟩
    · cases h
  | .non, .ellipsis, h | .non, .notImplemented, h | .non, .bool _, h | .non, .int _ _, h | .non, .float _ _, h | .non, .str _ _, h | .non, .bytes _ _, h | .non, .type _, h | .non, .builtin _, h | .non, .ref _, h => by simp [conB] at h
  | .bl _, .none, h | .bl _, .ellipsis, h | .bl _, .notImplemented, h | .bl _, .int _ _, h | .bl _, .float _ _, h | .bl _, .str _ _, h | .bl _, .bytes _ _, h | .bl _, .type _, h | .bl _, .builtin _, h | .bl _, .ref _, h => by simp [conB] at h
  | .int _, .none, h | .int _, .ellipsis, h | .int _, .notImplemented, h | .int _, .bool _, h | .int _, .float _ _, h | .int _, .str _ _, h | .int _, .bytes _ _, h | .int _, .type _, h | .int _, .builtin _, h | .int _, .ref _, h => by simp [conB] at h
  | .str _, .none, h | .str _, .ellipsis, h | .str _, .notImplemented, h | .str _, .bool _, h | .str _, .int _ _, h | .str _, .float _ _, h | .str _, .bytes _ _, h | .str _, .type _, h | .str _, .builtin _, h | .str _, .ref _, h => by simp [conB] at h
  | .tup _, .none, h | .tup _, .ellipsis, h | .tup _, .notImplemented, h | .tup _, .bool _, h | .tup _, .int _ _, h | .tup _, .float _ _, h | .tup _, .str _ _, h | .tup _, .bytes _ _, h | .tup _, .type _, h | .tup _, .builtin _, h => by simp [conB] at h
  | .lst _, _, h | .dic _, _, h | .raw _, _, h | .deck _, _, h | .scr _, _, h => by simp [conB] at h
theorem conBs_ok {K : PySem.W.Frag} : ∀ (l : List D) (us : List Value), conBs K l us = true → ∃ vs, Vals vs us ∧ ∀ F k, Ats K F k l vs
  | [], [], _ => ⟨[], .nil, fun _ _ => .nil⟩
  | d :: l, u :: us, h => by
    simp only [conBs] at h
    obtain ⟨h1, h2⟩ := He.ba h
    obtain ⟨v, r, a⟩ := conB_ok d u h1
    obtain ⟨vs, rs, as⟩ := conBs_ok l us h2
    exact ⟨v :: vs, .cons r rs, fun F k => .cons (a F k) (as F k)⟩
  | [], _ :: _, h => by simp [conBs] at h
  | _ :: _, [], h => by simp [conBs] at h
end
structure CoK (K : PySem.W.Frag) (mg : Str → Option Value) (x : Str) (d : D) : Prop where
  ex : ∃ u v, mg x = some u ∧ RelV v u ∧ ∀ F k, At K F k d v
theorem cgB_ok {K : PySem.W.Frag} {h : Heap} {mg : Str → Option Value} {x : Str} {d : D} (X : K.In h) (G : h.Ns mainGlobals mg) (e : cgB K x d = true) : CoK K mg x d := by
  unfold cgB at e
  split at e
  · rename_i u hu
    obtain ⟨v, r, a⟩ := conB_ok d u e
    exact ⟨u, v, PySem.W.mg_of X G hu, r, a⟩
  · cases e
theorem dl_con {wx : DX} {WW : WX} {ZZ : Fz} {X : Cx} {x : Str} {d : D} {p : Pos} (c : CoK X.K X.mg x d) (hg : Gl X x) (db : (x == ("__debug__" : Str)) = false := by decide) : PE X (.Name x p) (lift (X.kx wx WW ZZ) (dC d)) := by
  obtain ⟨u, v, hm, r, a⟩ := c.ex
  exact dl_C (v := v) ⟨fun pins s σ H Q I h => ld_glob I hg hm ⟨v, H, I, r, h⟩ db⟩ a
/-! ### an own list and another value at once -/
section
variable {K : PySem.W.Frag} {e : Ent} {env : Evn} {oa : Nat → Addr} {σ : L2.St} {F H : Hp} {k : Dk} {p : Addr} {o : HO}
/-- what stands under guard is left out -/
theorem Rel0.less (G : Gd (tabK K) e p) (R : Rel0 K (gd e p o) env oa σ F H k) (ho : ∀ c q, o ≠ LamX.CodeO c q := by intro c q z; unfold LamX.CodeO at z; cases z) : Rel0 K e env oa σ F (fun a => if a = p then none else H a) k := by
  obtain ⟨hH, hF, hD, hO⟩ := R.guarded G
  have W := R.wd
  have nt : ∀ {a : Addr}, a ≠ p → (fun a => if a = p then none else H a) a = H a := fun h => if_neg h
  refine ⟨⟨fun a v q => ?_, W.ini, fun a v q => ?_, fun a v q z z2 => ?_, W.kk1, fun z q hq => ?_, fun q hq => ?_, fun q hq => ?_, W.tbf⟩, R.len, R.val, fun i ds hi => ?_, R.inj⟩
  · have ha : a ≠ p := fun z => by rw [z, hF] at q; cases q
    rw [if_neg ha]
    exact W.sub a v q
  · have ha : a ≠ p := fun z => by rw [z, hF] at q; cases q
    rcases W.new a v q with z | z
    · exact .inl z
    · exact .inr ((upd_ne ha).symm.trans z)
  · have ha : a ≠ p := fun y => by rw [y, G.h0] at q; cases q
    rw [if_neg ha]
    exact W.fr a v ((upd_ne ha).trans q) z z2
  · obtain ⟨m1, m2⟩ := hD q hq
    obtain ⟨n1, n2⟩ := W.kk2 z q hq
    exact ⟨(upd_ne (Ne.symm m1)).symm.trans n1, (upd_ne (Ne.symm m2)).symm.trans n2⟩
  · obtain ⟨m1, m2⟩ := hD q hq
    obtain ⟨⟨kv, cs, h1, h2, h3⟩, h4, h5⟩ := W.dk q hq
    exact ⟨⟨kv, cs, (nt (Ne.symm m1)).trans h1, (nt (Ne.symm m2)).trans h2, h3⟩, h4, h5⟩
  · obtain ⟨ps, h1, h2, h3⟩ := W.tb q hq
    refine ⟨ps, (nt (Ne.symm (G.nt q hq))).trans h1, h2, fun pos cv hc => ?_⟩
    obtain ⟨c, e1, e2⟩ := h3 pos cv hc
    refine ⟨c, e1, (nt fun z => ?_).trans e2⟩
    rw [z, hH] at e2
    exact ho _ _ (Option.some.inj e2)
  · obtain ⟨h1, ⟨vs, h2, h3⟩, h4, h5, h6⟩ := R.own i ds hi
    have hne := hO i ds hi
    exact ⟨h1, ⟨vs, (nt hne).trans h2, h3⟩, h4, (upd_ne hne).symm.trans h5, h6⟩
theorem Rel0.takeOwn {ds : List D} {vs : List V} (G : Gd (tabK K) e p) (R : Rel0 K (gd e p (.lst vs)) env oa σ F H k) (hA : Ats K F k ds vs) (i : Nat) : Rel0 K e (env.set i (.own ds)) (fun j => if j = i then p else oa j) (σ.set i (some (.ref p))) F H k := by
  obtain ⟨hH, _⟩ := R.guarded G
  have h := (Rel0.less G R).putOwn (p := p) (if_pos rfl) hA i
  have e : upd (fun a => if a = p then none else H a) p (.lst vs) = H := by
    funext a
    by_cases ha : a = p
    · subst ha
      rw [upd_same, hH]
    · rw [upd_ne ha, if_neg ha]
  rw [e] at h
  exact h
end
def dParN (i j : Nat) (fa : DA) (f : DE) : DS := fun B env => fa env fun ds env1 => ds.length ≤ 10000000 ∧ f env1 fun d env2 => B.nx ((env2.set i (.own ds)).set j (.val d))
theorem lift_parN {K : Kx} {i j : Nat} {fa : DA} {f : DE} : ∀ E σ H, liftS K (dParN i j fa f) E σ H → tPar i j (tCons (tLst (liftA K fa)) (tCons (lift K f) tNil)) E σ H := fun E σ H ⟨e, env, oa, F, k, B, R, p, n, r, b, c⟩ =>
  ⟨e, env, oa, F, k, _, R, p, fun ds env1 vs oa1 F1 H1 k1 ⟨z, p1⟩ R1 g1 a1 => ⟨by rw [← Ats.length a1]; exact size10 z, fun t ht => by
    obtain ⟨G, R2⟩ := R1.guard (o := .lst vs) ht
    refine ⟨_, env1, oa1, F1, k1, _, R2, p1, fun d env2 v oa2 F2 H2 k2 p2 R3 g3 a3 => ?_⟩
    have R4 := R1.up (Rel0.takeOwn G R3.toRel0 (Ats.grow g3 _ _ a1) i) g3
    exact ⟨.ref t, v, rfl, n _ _ _ F2 H2 k2 p2 (R4.put a3) (g1.trans g3)⟩⟩⟩
@[simp ↓] theorem e_ParN {i j : Nat} {fa : DA} {f : DE} {B : DEnd} {env : Evn} : dParN i j fa f B env = fa env fun ds env1 => ds.length ≤ 10000000 ∧ f env1 fun d env2 => B.nx ((env2.set i (.own ds)).set j (.val d)) := rfl
theorem ds_parN {wx : DX} {WW : WX} {ZZ : Fz} {X : Cx} {i j : Nat} {x y : Str} {es : List Expr} {b : Expr} {fa : DA} {f : DE} {px py pt lp : Pos} {kt k2 : Nat} {pt2 pos : Pos} (hc : X.calm = true) (hN : X.N.Nodup) (hi : X.N[i]? = some x) (hj : X.N[j]? = some y) (hij : i ≠ j)
    (hx : X.env.scope.names.lookup x = some .local) (hy : X.env.scope.names.lookup y = some .local) (ha : PA X es (liftA (X.kx wx WW ZZ) fa)) (hb : PE X b (lift (X.kx wx WW ZZ) f))
    (hw : swappedStores [.Tuple [.Name x px, .Name y py] kt pt] (.Tuple [.List es lp, b] k2 pt2) X.env = pure (some [x, y])) (hs : swapsWithSole [.Tuple [.Name x px, .Name y py] kt pt] (.Tuple [.List es lp, b] k2 pt2) pos.line X.env = pure false := by rfl)
    (h1 : starEach [.List es lp, b] X.env = (false, eval (.List es lp) X.env) :: starEach [b] X.env := by rfl) (h2 : starEach [b] X.env = (false, eval b X.env) :: starEach [] X.env := by rfl) :
    PS X (.Assign [.Tuple [.Name x px, .Name y py] kt pt] (.Tuple [.List es lp, b] k2 pt2) pos) (liftS (X.kx wx WW ZZ) (dParN i j fa f)) := (ps_par (i := i) (j := j) hc hN hi hj hij hx hy (pa_cons (pe_lst ha) (pa_cons hb pa_nil h2) h1) hw hs).w lift_parN
end DL
set_option maxHeartbeats 1000000
/-! ### enumerate and zip of data -/
namespace DL
open PySem PySem.Spec PyProof.Rows L2
open PySem.Sem (wp)
/-- what begins to be walked, made an enumerate -/
theorem enum_newB {v : Value} {o : Obj} {H : Heap → Prop} (B : Begins v o H) :
    Meets (Builtin.«enumerate.__new__» ⟨[.type "enumerate", v], []⟩) (fun _ R s => H s.heap ∧ R (.ok (.ret (.ref (s.heap.push o).objs.size)))
      { s with heap := (s.heap.push o).push { cls := .type "enumerate", data := .fields #[.none, .bool false, .ref s.heap.objs.size, rawInt 0, .none, .none] } }) :=
  .of_wp fun prog w A R s h => by
    obtain ⟨hp, g, d, tk, os⟩ := s
    obtain ⟨h1, h⟩ := h
    have hsub := sub_enumerate
    have start : ∀ {A' : Around} {E : Value → Shared → Prop} {Q : Value → Shared → Prop}, Q (.ref hp.objs.size) ⟨hp.push o, g, d, tk, os⟩ → wpAny (model prog w) A' (pyIter v) Q E ⟨hp, g, d, tk, os⟩ := fun q => B.iter prog w _ _ ⟨hp, g, d, tk, os⟩ _ h1 q
    wp_walk using start
    refine wpAny_stack_any fun st => wpAny_pure ?_
    split
    · rename_i c _ _ _ _ _
      cases (c == Value.type "enumerate") <;> (wp_walk using start; exact ⟨_, rfl, h⟩)
    · wp_walk using start
      exact ⟨_, rfl, h⟩
theorem enum_callB {prog : Program} {w : World} {A : Around} {E : Value → Shared → Prop} {s : Shared} {v : Value} {o : Obj} {H : Heap → Prop} {Q : Value → Shared → Prop} (B : Begins v o H) (h1 : H s.heap)
    (h : ∀ h', IsEnum h' (s.heap.objs.size + 1) s.heap.objs.size 0 .none → h'.get? s.heap.objs.size = some o → (∀ b u, s.heap.get? b = some u → h'.get? b = some u) → Q (.ref (s.heap.objs.size + 1)) { s with heap := h' }) :
    wpAny (model prog w) A (call (.type "enumerate") [v]) Q E s := by
  refine callType_new F.called_enumerate (by decide) (F.typeCall_enumerate_1 _) (F.newCall_enumerate_1 _) (fun obj => F.args_object_init_2 obj _) F.entry_enumerate_new (enum_newB B) ⟨h1, ?_⟩
  have sz : (s.heap.push o).objs.size = s.heap.objs.size + 1 := Heap.size_push ..
  have made : IsEnum ((s.heap.push o).push { cls := .type "enumerate", data := .fields #[.none, .bool false, .ref s.heap.objs.size, rawInt 0, .none, .none] }) (s.heap.objs.size + 1) s.heap.objs.size 0 .none := by
    have e := Heap.get?_push_size (s.heap.push o) (o := { cls := .type "enumerate", data := .fields #[.none, .bool false, .ref s.heap.objs.size, rawInt 0, .none, .none] }) rfl
    rw [sz] at e
    exact e
  rw [sz]
  exact ⟨⟨_, made, rfl⟩, h _ made (Heap.get?_push_of_some _ (Heap.get?_push_size _ B.free)) fun b u x => Heap.get?_push_of_some _ (Heap.get?_push_of_some _ x)⟩
/-- the tuple at a, numbered -/
def IteT (K : PySem.W.Frag) (a : Addr) : It :=
  ⟨fun i H => ∃ (xs : List V) (x : V), SqT K H a xs ∧ xs[i]? = some x, fun i H v H' => ∃ T x, v = .ref T ∧ H T = none ∧ H' = upd H T (.tup [.int (i : Nat), x]) ∧ ∀ xs, SqT K H a xs → xs[i]? = some x, fun i H => ∃ xs : List V, SqT K H a xs ∧ xs.length ≤ i⟩
theorem turn_enT {P : Program} {w : World} {K : PySem.W.Frag} {elts : List Expr} {kk : Nat} {tpos : Pos} (a e it : Addr) :
    Turn P w K (.Tuple elts kk tpos) (IteT K a) [e, it] e (fun i h => (∃ old, IsEnum h e it ((i : Nat) : Int) old) ∧ h.IsTupleIter it a i ∧ e ≠ it) where
  mem := by simp
  obj := fun i h st b hb => by
    obtain ⟨⟨old, he⟩, ⟨o, ho, hc, hd⟩, _⟩ := st
    simp only [List.mem_cons, List.not_mem_nil, or_false] at hb
    rcases hb with rfl | rfl
    · exact ⟨_, he, fun v q => nomatch q⟩
    · exact ⟨o, ho, fun v q => by rw [hd] at q; cases q⟩
  keep := fun i h h' st k => by
    obtain ⟨⟨old, he⟩, hi, hne⟩ := st
    exact ⟨⟨old, k e (by simp) _ he⟩, hi.at fun o q => k it (by simp) o q, hne⟩
  item := by
    intro X hP hw hK hc i pins s σ H E I hf st hg
    subst hP hw hK
    obtain ⟨⟨old, he⟩, hit, hne⟩ := st
    obtain ⟨xs, x, hq, hx⟩ := hg
    obtain ⟨its, rv, p, hz⟩ := I.tuple hq
    obtain ⟨u, hu, ru⟩ := rv.get hx
    have p' : s.heap.IsTuple a its.toArray := p
    have hel : e < s.heap.objs.size := Heap.lt_size he
    have hil : it < s.heap.objs.size := by
      obtain ⟨_, q, _⟩ := hit
      exact Heap.lt_size q
    have ia : a ≠ it := by
      rintro rfl
      obtain ⟨o1, q1, c1, _⟩ := hit
      obtain ⟨o2, q2, c2, _⟩ := p'
      rw [q1] at q2
      cases q2
      rw [c1] at c2
      simp at c2
    have ea : e ≠ a := by
      rintro rfl
      obtain ⟨o2, q2, c2, _⟩ := p'
      have q1 : s.heap.get? e = some _ := he
      rw [q1] at q2
      cases q2
      simp at c2
    have D := Draws.tuple (prog := X.prog) (w := X.w) (A := X.A.in1) (I.ok.hd hc) it a ia its.toArray
    refine wpAny_pyNext_enum_itemD (n := its.toArray.size) D he ⟨hit, p'⟩ (by have := (Array.getElem?_eq_some_iff.mp (show its.toArray[i]? = some u by simpa using hu)).1; exact this) hne (by simp; exact ⟨hne, ea⟩) fun y h' tk hy ho hst hT hsz hk => ?_
    have ey : y = u := by
      have e2 : its.toArray[i]? = some u := by simpa using hu
      rw [e2] at hy
      exact (Option.some.inj hy).symm
    subst ey
    refine ⟨_, rfl, wpAny_letOwnedTupleGo_enum (s := { s with heap := h', toks := tk + 1 }) ho fun h'' he' sb => ?_⟩
    have hT2 : h''.get? s.heap.objs.size = some { cls := .type "tuple", data := .seq #[.int i tk, y] } := (sb.2 _ (Nat.ne_of_gt hel)).trans hT
    have new : ObjOk X.prog X.w (upd H s.heap.objs.size (.tup [.int (i : Nat), x])) h'' s.heap.objs.size (.tup [.int (i : Nat), x]) :=
      ⟨by show 2 ≤ sizeLine; decide, [.int i tk, y], .cons ⟨_, rfl⟩ (.cons ru .nil), ⟨_, hT2, rfl, _, rfl⟩⟩
    have I1 : Inv X pins σ (upd H s.heap.objs.size (.tup [.int (i : Nat), x])) { s with heap := h'', toks := tk + 1 } := I.turnedNew (ch := [e, it]) (fun b ob hb q => by
      simp only [List.mem_cons, List.not_mem_nil, or_false, not_or] at hb
      exact (sb.2 b hb.1).trans (hk b ob hb.1 hb.2 q)) hf (Nat.le_refl _) new
    refine ⟨.ref s.heap.objs.size, _, I1, rfl, ⟨_, x, rfl, I.hok.fresh (Nat.le_refl _), rfl, fun ys hy => by rw [I.tuple_inj hy hq]; exact hx⟩, ⟨⟨y, ?_⟩, hst.1.at fun o q => (sb.2 it (Ne.symm hne)).trans q, hne⟩, fun b hb => ?_⟩
    · rw [show ((i + 1 : Nat) : Int) = (i : Int) + 1 by omega]
      exact he'
    · have hb' : b < s.heap.objs.size := by
        have hb2 := hb
        simp only [List.mem_cons, List.not_mem_nil, or_false] at hb2
        rcases hb2 with rfl | rfl <;> assumption
      rw [upd_ne (Nat.ne_of_lt hb')]
      exact (hf b hb).1
  done := by
    intro X hP hw hK hc i pins s σ H E I hf st hg
    subst hP hw hK
    obtain ⟨⟨old, he⟩, hit, hne⟩ := st
    obtain ⟨xs, hq, hx⟩ := hg
    obtain ⟨its, rv, p, hz⟩ := I.tuple hq
    have p' : s.heap.IsTuple a its.toArray := p
    have ia : a ≠ it := by
      rintro rfl
      obtain ⟨o1, q1, c1, _⟩ := hit
      obtain ⟨o2, q2, c2, _⟩ := p'
      rw [q1] at q2
      cases q2
      rw [c1] at c2
      simp at c2
    obtain ⟨f0, f1, f2, f3, f4, f5⟩ := hf it (by simp)
    have hl := rv.length
    have hT : s.TypeIs (.ref e) "enumerate" := ⟨_, he, rfl⟩
    have none : its.toArray[i]? = Option.none := by simp; omega
    unfold pyNext
    refine wpAny_bind (wpAny_attempt (wpAny_callSpecial?_slot (name := Str.ofString "__next__") hT F.slot_enumerate_next (wpAny_call_entry F.slot_enumerate_next hT F.entry_enumerate_next ?_ (F.args_enumerate_next_1 _))))
    show wpAny _ _ (field (.ref e) 2 >>= _) _ _ _
    refine wpAny_bind (wpAny_field he rfl (x := .ref it) rfl (wpAny_bind (wpAny_nextOf_tuple_end (show X.A.in1.handled = Option.none from I.ok.hd hc) hit p' none fun h' x hex hx' => ?_)))
    obtain ⟨o, ho, hc'⟩ := hx'
    refine wpAny_bind (wpAny_isInstance (T := "StopIteration") (b := true) ⟨o, ho, hc'⟩ isSubtype_stop (wpAny_pure ?_))
    exact ⟨rfl, I.turned (t' := s.toks) (fun b o hb q => hex b o hb q) f0 f1 f3 f4 f5⟩
  self := fun A i s Q E st h => wpAny_pyIter_enum st.1.choose_spec h
/-- the numbered items -/
def enumD : Nat → List D → List D
  | _, [] => []
  | n, d :: l => .tup [.int n, d] :: enumD (n + 1) l
theorem enumD_get : ∀ (l : List D) (n i : Nat), (enumD n l)[i]? = (l[i]?).map fun d => D.tup [.int ((n + i : Nat) : Int), d]
  | [], n, i => by simp [enumD]
  | d :: l, n, 0 => by simp [enumD]
  | d :: l, n, i + 1 => by
    simp only [enumD, List.getElem?_cons_succ]
    rw [enumD_get l (n + 1) i]
    have e : n + 1 + i = n + (i + 1) := by omega
    rw [e]
theorem enumD_len : ∀ (l : List D) (n : Nat), (enumD n l).length = l.length
  | [], _ => rfl
  | d :: l, n => by simp only [enumD, List.length_cons, enumD_len l (n + 1)]
def zipD : List D → List D → List D
  | a :: l, b :: m => .tup [a, b] :: zipD l m
  | _, _ => []
theorem zipD_get : ∀ (l m : List D) (i : Nat) (d : D), (zipD l m)[i]? = some d → ∃ a b, l[i]? = some a ∧ m[i]? = some b ∧ d = .tup [a, b]
  | a :: l, b :: m, 0, d, h => ⟨a, b, rfl, rfl, by simp [zipD] at h; exact h.symm⟩
  | a :: l, b :: m, i + 1, d, h => by
    simp only [zipD, List.getElem?_cons_succ] at h ⊢
    exact zipD_get l m i d h
  | [], _, i, d, h => by simp [zipD] at h
  | _ :: _, [], i, d, h => by simp [zipD] at h
theorem zipD_len : ∀ (l m : List D), (zipD l m).length = min l.length m.length
  | a :: l, b :: m => by
    simp only [zipD, List.length_cons, zipD_len l m]
    omega
  | [], _ => by simp [zipD]
  | _ :: _, [] => by simp [zipD]
section
variable {K : PySem.W.Frag} {F H : Hp} {k : Dk}
theorem at_pair {T : Addr} {a b : D} {x y : V} (hT : F T = none) (h1 : At K F k a x) (h2 : At K F k b y) : At K (upd F T (.tup [x, y])) k (.tup [a, b]) (.ref T) := by
  have g : Grow F (upd F T (.tup [x, y])) k k := ⟨fun c o q => by rw [upd_ne (ne_of_none q hT)]; exact q, fun _ q => q⟩
  simp only [At]
  exact ⟨T, [x, y], rfl, SqT.of upd_same, by
    simp only [Ats]
    exact ⟨_, _, rfl, At.grow g _ _ h1, _, _, rfl, At.grow g _ _ h2, rfl⟩⟩
theorem runs_enL {x : Addr} {vs : List V} {l : List D} (h : F x = some (.lst vs)) (hA : Ats K F k l vs) : Runs K (Ite K x) (enumD 0 l) F k := fun e env oa σ F' H k' i R g' => by
  have h' : H x = some (.lst vs) := R.wd.sub _ _ (g'.1 _ _ h)
  refine ⟨fun hl => ⟨vs, SqL.of h', by rw [← Ats.length hA]; rwa [enumD_len] at hl⟩, fun d hd => ?_⟩
  rw [enumD_get] at hd
  obtain ⟨c, hc, rfl⟩ := Option.map_eq_some_iff.mp hd
  obtain ⟨v, h1, h2⟩ := Ats.get hA i c hc
  refine ⟨⟨vs, v, SqL.of h', h1⟩, fun y H' hy => ?_⟩
  obtain ⟨T, z, rfl, hT, rfl, hz⟩ := hy
  have e2 := hz vs (SqL.of h')
  rw [h1] at e2
  cases e2
  obtain ⟨R2, g2⟩ := R.laid hT (.tup [.int (i : Nat), v])
  refine ⟨_, R2, g2, at_pair (R.wd.noF hT) (by simp [At]) (At.grow g' _ _ h2)⟩
theorem runs_enT {x : Addr} {vs : List V} {l : List D} (h : SqT K F x vs) (hA : Ats K F k l vs) : Runs K (IteT K x) (enumD 0 l) F k := fun e env oa σ F' H k' i R g' => by
  have h' : SqT K H x vs := sqT_grow R.wd.sub (sqT_grow g'.1 h)
  refine ⟨fun hl => ⟨vs, h', by rw [← Ats.length hA]; rwa [enumD_len] at hl⟩, fun d hd => ?_⟩
  rw [enumD_get] at hd
  obtain ⟨c, hc, rfl⟩ := Option.map_eq_some_iff.mp hd
  obtain ⟨v, h1, h2⟩ := Ats.get hA i c hc
  refine ⟨⟨vs, v, h', h1⟩, fun y H' hy => ?_⟩
  obtain ⟨T, z, rfl, hT, rfl, hz⟩ := hy
  have e2 := hz vs h'
  rw [h1] at e2
  cases e2
  obtain ⟨R2, g2⟩ := R.laid hT (.tup [.int (i : Nat), v])
  refine ⟨_, R2, g2, at_pair (R.wd.noF hT) (by simp [At]) (At.grow g' _ _ h2)⟩
end
def dEnum (f : DE) : DA := fun env Q => f env fun d env1 => match d with
  | .tup l => Q (enumD 0 l) env1
  | .lst l => Q (enumD 0 l) env1
  | _ => False
section
variable {wx : DX} {WW : WX} {ZZ : Fz} {X : Cx} {a b : Expr} {pos : Pos} {f g : DE}
theorem di_enum {elts : List Expr} {kk : Nat} {tpos p : Pos} (hg : Gl X "enumerate") (hm : X.mg "enumerate" = none) (h : PE X a (lift (X.kx wx WW ZZ) f)) (hs : starEach [a] X.env = [(false, eval a X.env)] := by rfl) :
    PI X (.Tuple elts kk tpos) (.Call (.Name "enumerate" p) [a] [] pos) (liftI (X.kx wx WW ZZ) (dEnum f)) := by
  refine ⟨fun pins s σ H Rr I ⟨e, env, oa, F, k, P, R, p, q⟩ => ?_⟩
  refine Call_ (ld_blt I hg hm boot_enumerate (PyProof.Rows.callWith_type1 (thn ((pa_cons h pa_nil hs).run pos pins s σ H (fun vs H1 => ∃ env1 oa1 F1 k1 d v, vs = [v] ∧ dEnum (fun _ Q => Q d env1) env1 P ∧ Rel (X.kx wx WW ZZ) e env1 oa1 σ F1 H1 k1 ∧ Grow F F1 k k1 ∧ At X.K F1 k1 d v) I ⟨e, env, oa, F, k, _, R, p, fun d env1 v oa1 F1 H1 k1 p1 R1 g1 a1 => ⟨env1, oa1, F1, k1, d, v, rfl, p1, R1, g1, a1⟩⟩) fun us s1 ⟨vs, H1, I1, r1, q1⟩ => ?_) hs rfl))
  obtain ⟨env1, oa1, F1, k1, d, v, rfl, p1, R1, g1, a1⟩ := q1
  cases r1 with
  | cons r rr =>
    cases rr
    have two : ∀ c, c ∈ [s1.heap.objs.size + 1, s1.heap.objs.size] → FpOk X pins H1 c := fun c hc => by
      simp only [List.mem_cons, List.not_mem_nil, or_false] at hc
      have le : s1.heap.objs.size ≤ c := by omega
      exact I1.fpOk le (I1.hok.fresh le)
    cases d with
    | lst l =>
      simp only [At] at a1
      obtain ⟨ad, vs, rfl, h1, h2⟩ := a1
      cases r
      obtain ⟨its, rv, pl, hz⟩ := I1.list (SqL.of (R1.wd.sub _ _ h1))
      refine enum_callB (begins_list ad its.toArray) pl.isList fun h' he ho hk => wpAny_pyIter_enum he ?_
      exact ⟨s1.heap.objs.size + 1, _, _, _, H1, rfl, I1.kept (t' := s1.toks) hk, turn_enum ad (s1.heap.objs.size + 1) s1.heap.objs.size, ⟨⟨.none, he⟩, ⟨_, ho, rfl, rfl⟩, Nat.succ_ne_self _⟩, two, q _ env1 oa1 F1 H1 k1 _ p1 R1 g1 (runs_enL h1 h2)⟩
    | tup l =>
      simp only [At] at a1
      obtain ⟨ad, vs, rfl, h1, h2⟩ := a1
      cases r
      obtain ⟨its, rv, pl, hz⟩ := I1.tuple (sqT_grow R1.wd.sub h1)
      refine enum_callB (begins_tuple ad its.toArray) (show s1.heap.IsTuple ad its.toArray from pl) fun h' he ho hk => wpAny_pyIter_enum he ?_
      exact ⟨s1.heap.objs.size + 1, _, _, _, H1, rfl, I1.kept (t' := s1.toks) hk, turn_enT ad (s1.heap.objs.size + 1) s1.heap.objs.size, ⟨⟨.none, he⟩, ⟨_, ho, rfl, rfl⟩, Nat.succ_ne_self _⟩, two, q _ env1 oa1 F1 H1 k1 _ p1 R1 g1 (runs_enT h1 h2)⟩
    | _ => exact p1.elim
def dZip (f g : DE) : DA := fun env Q => f env fun d env1 => g env1 fun d' env2 => match d, d' with
  | .tup l, .tup m => Q (zipD l m) env2
  | .lst l, .lst m => Q (zipD l m) env2
  | _, _ => False
theorem runs_zip {K : PySem.W.Frag} {F : Hp} {k : Dk} {x y : Addr} {vs us : List V} {l m : List D} (h : F x = some (.lst vs)) (hA : Ats K F k l vs) (h2 : F y = some (.lst us)) (hB : Ats K F k m us) : Runs K (Itz K x y) (zipD l m) F k := fun e env oa σ F' H k' i R g' => by
  have q1 : H x = some (.lst vs) := R.wd.sub _ _ (g'.1 _ _ h)
  have q2 : H y = some (.lst us) := R.wd.sub _ _ (g'.1 _ _ h2)
  refine ⟨fun hl => ⟨vs, us, SqL.of q1, SqL.of q2, by
    rw [zipD_len, Ats.length hA, Ats.length hB] at hl
    omega⟩, fun d hd => ?_⟩
  obtain ⟨a, b, ha, hb, rfl⟩ := zipD_get _ _ _ _ hd
  obtain ⟨v, v1, v2⟩ := Ats.get hA i a ha
  obtain ⟨u, u1, u2⟩ := Ats.get hB i b hb
  refine ⟨⟨vs, us, v, u, SqL.of q1, SqL.of q2, v1, u1⟩, fun z H' hy => ?_⟩
  obtain ⟨T, c, c2, rfl, hT, rfl, f1, f2⟩ := hy
  have e1 := f1 vs (SqL.of q1)
  have e2 := f2 us (SqL.of q2)
  rw [v1] at e1
  rw [u1] at e2
  cases e1
  cases e2
  obtain ⟨R2, g2⟩ := R.laid hT (.tup [v, u])
  exact ⟨_, R2, g2, at_pair (R.wd.noF hT) (At.grow g' _ _ v2) (At.grow g' _ _ u2)⟩
theorem runs_zipT {K : PySem.W.Frag} {F : Hp} {k : Dk} {x y : Addr} {vs us : List V} {l m : List D} (h : SqT K F x vs) (hA : Ats K F k l vs) (h2 : SqT K F y us) (hB : Ats K F k m us) : Runs K (RZ.ItzT K x y) (zipD l m) F k := fun e env oa σ F' H k' i R g' => by
  have q1 : SqT K H x vs := sqT_grow R.wd.sub (sqT_grow g'.1 h)
  have q2 : SqT K H y us := sqT_grow R.wd.sub (sqT_grow g'.1 h2)
  refine ⟨fun hl => ⟨vs, us, q1, q2, by
    rw [zipD_len, Ats.length hA, Ats.length hB] at hl
    omega⟩, fun d hd => ?_⟩
  obtain ⟨a, b, ha, hb, rfl⟩ := zipD_get _ _ _ _ hd
  obtain ⟨v, v1, v2⟩ := Ats.get hA i a ha
  obtain ⟨u, u1, u2⟩ := Ats.get hB i b hb
  refine ⟨⟨vs, us, v, u, q1, q2, v1, u1⟩, fun z H' hy => ?_⟩
  obtain ⟨T, c, c2, rfl, hT, rfl, f1, f2⟩ := hy
  have e1 := f1 vs q1
  have e2 := f2 us q2
  rw [v1] at e1
  rw [u1] at e2
  cases e1
  cases e2
  obtain ⟨R2, g2⟩ := R.laid hT (.tup [v, u])
  exact ⟨_, R2, g2, at_pair (R.wd.noF hT) (At.grow g' _ _ v2) (At.grow g' _ _ u2)⟩
theorem di_zip {elts : List Expr} {kk : Nat} {tpos p : Pos} (hg : Gl X "zip") (hm : X.mg "zip" = none) (h : PE X a (lift (X.kx wx WW ZZ) f)) (h2 : PE X b (lift (X.kx wx WW ZZ) g))
    (hs : starEach [a, b] X.env = [(false, eval a X.env), (false, eval b X.env)] := by rfl) (hs2 : starEach [b] X.env = [(false, eval b X.env)] := by rfl) :
    PI X (.Tuple elts kk tpos) (.Call (.Name "zip" p) [a, b] [] pos) (liftI (X.kx wx WW ZZ) (dZip f g)) :=
  (RZ.pi_zipA hg hm (pa_cons h (pa_cons h2 pa_nil hs2) (by rw [hs, hs2])) (by rw [hs, hs2]) (by rw [hs2]; rfl)).w fun σ H Rr ⟨e, env, oa, F, k, P, R, p, q⟩ =>
    ⟨e, env, oa, F, k, _, R, p, fun d env1 v oa1 F1 H1 k1 p1 R1 g1 a1 => ⟨e, env1, oa1, F1, k1, _, R1, p1, fun d' env2 v' oa2 F2 H2 k2 p2 R2 g2 a2 => by
      cases d with
      | lst l =>
        cases d' with
        | lst m =>
          simp only [At] at a1 a2
          obtain ⟨x, vs, rfl, x1, x2⟩ := a1
          obtain ⟨y, us, rfl, y1, y2⟩ := a2
          have x1' := g2.1 _ _ x1
          exact ⟨x, y, vs, us, rfl, .inl ⟨SqL.of (R2.wd.sub _ _ x1'), SqL.of (R2.wd.sub _ _ y1), q _ env2 oa2 F2 H2 k2 _ p2 R2 (g1.trans g2) (runs_zip x1' (Ats.grow g2 _ _ x2) y1 y2)⟩⟩
        | _ => exact p2.elim
      | tup l =>
        cases d' with
        | tup m =>
          simp only [At] at a1 a2
          obtain ⟨x, vs, rfl, x1, x2⟩ := a1
          obtain ⟨y, us, rfl, y1, y2⟩ := a2
          have x1' := sqT_grow g2.1 x1
          exact ⟨x, y, vs, us, rfl, .inr ⟨sqT_grow R2.wd.sub x1', sqT_grow R2.wd.sub y1, q _ env2 oa2 F2 H2 k2 _ p2 R2 (g1.trans g2) (runs_zipT x1' (Ats.grow g2 _ _ x2) y1 y2)⟩⟩
        | _ => exact p2.elim
      | _ => exact p2.elim⟩⟩
end
section
variable {env : Evn} {QA : List D → Evn → Prop} {f g : DE}
@[simp ↓] theorem e_Enum : dEnum f env QA = f env fun d env1 => match d with | .tup l => QA (enumD 0 l) env1 | .lst l => QA (enumD 0 l) env1 | _ => False := rfl
@[simp ↓] theorem e_Zip : dZip f g env QA = f env fun d env1 => g env1 fun d' env2 => match d, d' with | .tup l, .tup m => QA (zipD l m) env2 | .lst l, .lst m => QA (zipD l m) env2 | _, _ => False := rfl
@[simp] theorem enumD_nil {n : Nat} : enumD n [] = [] := rfl
@[simp] theorem enumD_cons {n : Nat} {d : D} {l : List D} : enumD n (d :: l) = .tup [.int n, d] :: enumD (n + 1) l := rfl
@[simp] theorem zipD_cons {a b : D} {l m : List D} : zipD (a :: l) (b :: m) = .tup [a, b] :: zipD l m := rfl
@[simp] theorem zipD_nl {m : List D} : zipD [] m = [] := by cases m <;> rfl
@[simp] theorem zipD_nr {l : List D} : zipD l [] = [] := by cases l <;> rfl
end
end DL
/-! ### lists unpacked; a dict with one number for a key -/
namespace DL
open PySem PySem.Spec L2
def gTL (n : Nat) (r : DGs) : DG := fun d env Q => match d with
  | .tup l => l.length = n ∧ r l env Q
  | .lst l => l.length = n ∧ r l env Q
  | _ => False
section
variable {wx : DX} {WW : WX} {ZZ : Fz} {X : Cx} {L : List Nat} {a : Expr} {es : List Expr} {pos : Pos} {f : DE} {tr : DGs}
theorem dg_tl {kk : Nat} {n : Nat} (hc : X.calm = true) (h : PGs X es (liftGs (X.kx wx WW ZZ) L tr)) (hn : (assignEach es X.env).length = n := by rfl) (hst : (assignEach es X.env).findIdx? (·.1) = none := by rfl) : PG X (.Tuple es kk pos) (liftG (X.kx wx WW ZZ) L (gTL n tr)) := by
  refine ⟨fun pins s σ H v u Q I r hw => ?_⟩
  obtain ⟨e, env, oa, F, k, d, P, R, hA, p, q⟩ := hw
  cases d with
  | tup l => exact (dg_tup hc h hn hst).run pins s σ H v u Q I r ⟨e, env, oa, F, k, .tup l, P, R, hA, p, q⟩
  | lst l =>
    obtain ⟨p1, p2⟩ := p
    simp only [At] at hA
    obtain ⟨x, vs, rfl, h1, h2⟩ := hA
    exact (pg_lst hc h hn hst).run pins s σ H _ u Q I r ⟨x, vs, rfl, SqL.of (R.wd.sub _ _ h1), by rw [← Ats.length h2]; exact p1, e, env, oa, F, k, l, P, R, h2, p2, q⟩
  | _ => exact p.elim
def dDicI (i : Int) (f : DE) : DE := fun env Q => f env fun d env1 => Q (.dic [(.inl i, d)]) env1
theorem dl_dicI {i : Int} {j : Nat} {kp : Pos} (h : PE X a (lift (X.kx wx WW ZZ) f)) : PE X (.Dict [some (.Constant (.int i) j kp)] [a] pos) (lift (X.kx wx WW ZZ) (dDicI i f)) :=
  (pe_disp (pps_cons pe_int h pps_nil) rfl rfl (by simp) (by show 1 ≤ 15; decide)).w fun σ H Q ⟨e, env, oa, F, k, P, R, p, q⟩ t ht => by
    obtain ⟨G, R1⟩ := R.guard (o := .dK []) ht
    refine ⟨_, env, oa, F, k, _, R1, p, fun d env2 v oa2 F2 H2 k2 p2 R2 g2 a2 => ?_⟩
    refine ⟨(R2.guarded G).1, [(.inl i, v)], rfl, (by show 1 ≤ 15; decide), ?_⟩
    obtain ⟨R3, g3⟩ := (R2.gset (R.lnk.grow g2) G (.dK [(.inl i, v)])).give (R.lnk.grow g2) G
    refine q _ env2 _ oa2 _ _ k2 p2 R3 (g2.trans g3) ?_
    simp only [At]
    refine ⟨t, [(.inl i, v)], rfl, upd_same, ?_⟩
    simp only [Atk]
    exact ⟨v, [], rfl, At.grow g3 _ _ a2, rfl⟩
end
section
variable {env : Evn} {Q : D → Evn → Prop} {R : Evn → Prop} {n : Nat} {tr : DGs} {l : List D} {i : Int} {f : DE}
@[simp ↓] theorem e_TLt : gTL n tr (.tup l) env R = (l.length = n ∧ tr l env R) := rfl
@[simp ↓] theorem e_TLl : gTL n tr (.lst l) env R = (l.length = n ∧ tr l env R) := rfl
@[simp ↓] theorem e_DicI : dDicI i f env Q = f env fun d env1 => Q (.dic [(.inl i, d)]) env1 := rfl
end
end DL
/-! ### lists that are still grown, looked at -/
namespace DL
open PySem PySem.Spec L2
def plainR : D → Bool
  | .non | .bl _ | .int _ | .str _ => true
  | _ => false
theorem plainR.at {K : PySem.W.Frag} {F F' : Hp} {k k' : Dk} {d : D} {v : V} (h : plainR d = true) (a : At K F k d v) : At K F' k' d v := by
  cases d <;> simp only [At] at a ⊢ <;> first | exact a | (simp [plainR] at h)
section
variable {K : PySem.W.Frag} {e : Ent} {env : Evn} {oa : Nat → Addr} {σ : St} {F H : Hp} {k : Dk}
theorem Rel0.peeked (R : Rel0 K e env oa σ F H k) {i : Nat} {ds : List D} (hi : env[i]? = some (.own ds)) :
    ∃ F', Rel0 K ⟨H, F', k⟩ [] oa [] F' H k ∧ At K F' k (.lst ds) (.ref (oa i)) ∧ Grow F F' k k ∧ σ[i]? = some (some (.ref (oa i))) ∧
      ∀ oa3 F3 H3 k3, Rel0 K ⟨H, F', k⟩ [] oa3 [] F3 H3 k3 → ∃ F4, Rel0 K e env oa σ F4 H3 k3 ∧ Grow F F4 k k3 := by
  have W := R.wd
  obtain ⟨h1, ⟨vs, h2, h3⟩, h4, h5, h6⟩ := R.own i ds hi
  have g : Grow F (upd F (oa i) (.lst vs)) k k := ⟨fun a u q => by rw [upd_ne (ne_of_none q h4)]; exact q, fun _ q => q⟩
  have sub' : ∀ a o, upd F (oa i) (.lst vs) a = some o → H a = some o := fun a o q => by
    by_cases z : a = oa i
    · subst z
      rw [upd_same] at q
      cases q
      exact h2
    · rw [upd_ne z] at q
      exact W.sub a o q
  have W0 : Wd (tabK K) ⟨H, upd F (oa i) (.lst vs), k⟩ (upd F (oa i) (.lst vs)) H k := ⟨sub', fun _ _ q => q, fun _ _ q => .inl q, fun _ _ q _ _ => q, fun _ q => q, fun z p q => (by have z' : k = none := z; rw [z'] at q; cases q), fun p hp => by
    obtain ⟨d1, d2, d3⟩ := W.dk p hp
    obtain ⟨n1, n2⟩ := h6 p hp
    exact ⟨d1, by rw [upd_ne (Ne.symm n1)]; exact d2, by rw [upd_ne (Ne.symm n2)]; exact d3⟩, W.tb, fun q hq => by rw [upd_ne (Ne.symm (tabs_nlst W.tb h2 q hq))]; exact W.tbf q hq⟩
  refine ⟨upd F (oa i) (.lst vs), ⟨W0, rfl, fun j d hj => by simp at hj, fun j d hj => by simp at hj, fun j l d d' hj => by simp at hj⟩, ?_, g, h1, fun oa3 F3 H3 k3 R3 => ?_⟩
  · simp only [At]
    exact ⟨_, vs, rfl, upd_same, Ats.grow g _ _ h3⟩
  · have V := R3.wd
    have ne : ∀ a o, F a = some o → a ≠ oa i := fun a o q => ne_of_none q h4
    have V4 : Wd (tabK K) ⟨H, F, k⟩ (fun a => if a = oa i then none else F3 a) H3 k3 := by
      refine ⟨fun a o q => ?_, fun a o q => ?_, fun a o q => ?_, V.fr, V.kk1, V.kk2, fun p hp => ?_, V.tb, fun q hq => ite_none (V.tbf q hq)⟩
      · by_cases z : a = oa i
        · rw [if_pos z] at q; cases q
        · rw [if_neg z] at q; exact V.sub a o q
      · show (if a = oa i then none else F3 a) = some o
        rw [if_neg (ne a o q)]
        exact V.ini a o (g.1 a o q)
      · by_cases z : a = oa i
        · rw [if_pos z] at q; cases q
        · rw [if_neg z] at q
          rcases V.new a o q with r | r
          · refine .inl ?_
            have r' : upd F (oa i) (.lst vs) a = some o := r
            rwa [upd_ne z] at r'
          · exact .inr r
      · obtain ⟨d1, d2, d3⟩ := V.dk p hp
        refine ⟨d1, ?_, ?_⟩
        · show (if p.1 = oa i then none else F3 p.1) = none
          split
          · rfl
          · exact d2
        · show (if p.2 = oa i then none else F3 p.2) = none
          split
          · rfl
          · exact d3
    exact ⟨_, (R.after V4).1, (R.after V4).2⟩
end
/-- an operation over a list that is grown behind it -/
def dBinO (o : DO) (f : DE) (i : Nat) : DE := fun env Q => f env fun x env1 => match env1[i]? with
  | some (.val d) => o x d fun z => Q z env1
  | some (.own ds) => o x (.lst ds) fun z => plainR z = true ∧ Q z env1
  | _ => False
def dOwnB (o : DO) (i : Nat) (g : DE) : DE := fun env Q => match env[i]? with
  | some (.val d) => g env fun y env1 => o d y fun z => Q z env1
  | some (.own _) => g env fun y env1 => match env1[i]? with
    | some (.own ds) => o (.lst ds) y fun z => plainR z = true ∧ Q z env1
    | _ => False
  | _ => False
def dBltO (o : DC) (i : Nat) : DE := fun env Q => match env[i]? with
  | some (.val d) => o [d] fun z => Q z env
  | some (.own ds) => o [.lst ds] fun z => plainR z = true ∧ Q z env
  | _ => False
section
variable {wx : DX} {WW : WX} {ZZ : Fz} {X : Cx} {a b : Expr} {pos : Pos} {f g : DE} {i : Nat}
theorem lift_binO {K : Kx} {r : R2} {o : DO} (L : OpL K.f r o) : ∀ σ H Q, lift K (dBinO o f i) σ H Q → tOp r (lift K f) (tVar i) σ H Q := fun σ H Q ⟨e, env, oa, F, k, P, R, p, q⟩ =>
  ⟨e, env, oa, F, k, _, R, p, fun x env1 vx oa1 F1 H1 k1 p1 R1 g1 a1 => by
    split at p1
    · rename_i d hd
      obtain ⟨v, h1, h2⟩ := R1.val i d hd
      exact ⟨v, h1, L e env1 oa1 σ F1 H1 k1 vx v x d Q _ R1.toRel0 a1 h2 p1 fun z u oa3 F3 H3 k3 p3 R3 g3 a3 => q z env1 u oa3 F3 H3 k3 p3 (R1.up R3 g3) (g1.trans g3) a3⟩
    · rename_i ds hd
      obtain ⟨F', R', hl, g', hs, back⟩ := R1.toRel0.peeked hd
      refine ⟨_, hs, L _ [] oa1 [] F' H1 k1 vx _ x (.lst ds) Q _ R' (At.grow g' _ _ a1) hl p1 fun z u oa3 F3 H3 k3 ⟨pz, p3⟩ R3 g3 a3 => ?_⟩
      obtain ⟨F4, R4, g4⟩ := back oa3 F3 H3 k3 R3
      exact q z env1 u oa1 F4 H3 k3 p3 (R1.up R4 g4) (g1.trans g4) (plainR.at pz a3)
    · exact p1.elim⟩
theorem lift_ownB {K : Kx} {r : R2} {o : DO} (L : OpL K.f r o) : ∀ σ H Q, lift K (dOwnB o i g) σ H Q → tOp r (tVar i) (lift K g) σ H Q := fun σ H Q ⟨e, env, oa, F, k, P, R, p, q⟩ => by
  unfold dOwnB at p
  split at p
  · rename_i d hd
    obtain ⟨v, h1, h2⟩ := R.val i d hd
    exact ⟨v, h1, e, env, oa, F, k, _, R, p, fun y env1 vy oa1 F1 H1 k1 p1 R1 g1 a1 => L e env1 oa1 σ F1 H1 k1 v vy d y Q _ R1.toRel0 (At.grow g1 _ _ h2) a1 p1 fun z u oa3 F3 H3 k3 p3 R3 g3 a3 => q z env1 u oa3 F3 H3 k3 p3 (R1.up R3 g3) (g1.trans g3) a3⟩
  · rename_i ds hd
    obtain ⟨h1, _⟩ := R.own i ds hd
    refine ⟨_, h1, e, env, oa, F, k, _, R, p, fun y env1 vy oa1 F1 H1 k1 p1 R1 g1 a1 => ?_⟩
    split at p1
    · rename_i es he
      obtain ⟨F', R', hl, g', hs, back⟩ := R1.toRel0.peeked he
      rw [h1] at hs
      have hs' : oa i = oa1 i := by
        simp only [Option.some.injEq, V.ref.injEq] at hs
        exact hs
      rw [hs']
      refine L _ [] oa1 [] F' H1 k1 _ vy (.lst es) y Q _ R' hl (At.grow g' _ _ a1) p1 fun z u oa3 F3 H3 k3 ⟨pz, p3⟩ R3 g3 a3 => ?_
      obtain ⟨F4, R4, g4⟩ := back oa3 F3 H3 k3 R3
      exact q z env1 u oa1 F4 H3 k3 p3 (R1.up R4 g4) (g1.trans g4) (plainR.at pz a3)
    · exact p1.elim
  · exact p.elim
theorem dl_binO {op : Operator} {o : DO} (O : OpD X (binaryOp op) o) (ha : PE X a (lift (X.kx wx WW ZZ) f)) (hb : PE X b (tVar i)) : PE X (.BinOp a op b pos) (lift (X.kx wx WW ZZ) (dBinO o f i)) := by
  obtain ⟨r, ho, L⟩ := O
  exact (pe_op ho ha hb).w (lift_binO (K := X.kx wx WW ZZ) L)
theorem dl_cmO {op : CmpOp} {o : DO} (O : OpD X (compareOp op) o) (ha : PE X a (lift (X.kx wx WW ZZ) f)) (hb : PE X b (tVar i)) (hm : behindInMarks op b = false) : PE X (.Compare a [op] [b] pos) (lift (X.kx wx WW ZZ) (dBinO o f i)) := by
  obtain ⟨r, ho, L⟩ := O
  exact (pe_cmpR ho ha hb hm).w (lift_binO (K := X.kx wx WW ZZ) L)
theorem dt_cmO {op : CmpOp} {o : DO} (O : OpD X (compareOp op) o) (ha : PE X a (lift (X.kx wx WW ZZ) f)) (hb : PE X b (tVar i)) (hm : behindInMarks op b = false) : PT X (.Compare a [op] [b] pos) (liftT (X.kx wx WW ZZ) (dTest (dBinO o f i))) := by
  obtain ⟨r, ho, L⟩ := O
  exact (pt_cmpR ho ha hb hm).w fun σ H Q h => by
    obtain ⟨e, env, oa, F, k, P, R, p, q⟩ := lift_test σ H Q h
    exact lift_binO (K := X.kx wx WW ZZ) L σ H _ ⟨e, env, oa, F, k, P, R, p, q⟩
theorem dl_ownB {op : Operator} {o : DO} (O : OpD X (binaryOp op) o) (ha : PE X a (tVar i)) (hb : PE X b (lift (X.kx wx WW ZZ) g)) : PE X (.BinOp a op b pos) (lift (X.kx wx WW ZZ) (dOwnB o i g)) := by
  obtain ⟨r, ho, L⟩ := O
  exact (pe_op ho ha hb).w (lift_ownB (K := X.kx wx WW ZZ) L)
theorem dl_ownC {op : CmpOp} {o : DO} (O : OpD X (compareOp op) o) (ha : PE X a (tVar i)) (hb : PE X b (lift (X.kx wx WW ZZ) g)) (hm : behindInMarks op b = false) : PE X (.Compare a [op] [b] pos) (lift (X.kx wx WW ZZ) (dOwnB o i g)) := by
  obtain ⟨r, ho, L⟩ := O
  exact (pe_cmpR ho ha hb hm).w (lift_ownB (K := X.kx wx WW ZZ) L)
theorem dt_ownC {op : CmpOp} {o : DO} (O : OpD X (compareOp op) o) (ha : PE X a (tVar i)) (hb : PE X b (lift (X.kx wx WW ZZ) g)) (hm : behindInMarks op b = false) : PT X (.Compare a [op] [b] pos) (liftT (X.kx wx WW ZZ) (dTest (dOwnB o i g))) := by
  obtain ⟨r, ho, L⟩ := O
  exact (pt_cmpR ho ha hb hm).w fun σ H Q h => by
    obtain ⟨e, env, oa, F, k, P, R, p, q⟩ := lift_test σ H Q h
    exact lift_ownB (K := X.kx wx WW ZZ) L σ H _ ⟨e, env, oa, F, k, P, R, p, q⟩
theorem ats1 {K : PySem.W.Frag} {F : Hp} {k : Dk} {d : D} {v : V} (h : At K F k d v) : Ats K F k [d] [v] := by
  simp only [Ats]
  exact ⟨v, [], rfl, h, rfl⟩
theorem lift_bltO {K : Kx} {r : List V → Hp → VK → Prop} {o : DC} (L : CallL K.f r o) : ∀ σ H Q, lift K (dBltO o i) σ H Q → tCB r (tCons (tVar i) tNil) σ H Q := fun σ H Q ⟨e, env, oa, F, k, P, R, p, q⟩ => by
  unfold dBltO at p
  split at p
  · rename_i d hd
    obtain ⟨v, h1, h2⟩ := R.val i d hd
    exact ⟨v, h1, L e env oa σ F H k [v] [d] Q _ R.toRel0 (ats1 h2) p fun z u oa3 F3 H3 k3 p3 R3 g3 a3 => q z env u oa3 F3 H3 k3 p3 (R.up R3 g3) g3 a3⟩
  · rename_i ds hd
    obtain ⟨F', R', hl, g', hs, back⟩ := R.toRel0.peeked hd
    refine ⟨_, hs, L _ [] oa [] F' H k [_] [.lst ds] Q _ R' (ats1 hl) p fun z u oa3 F3 H3 k3 ⟨pz, p3⟩ R3 g3 a3 => ?_⟩
    obtain ⟨F4, R4, g4⟩ := back oa3 F3 H3 k3 R3
    exact q z env u oa F4 H3 k3 p3 (R.up R4 g4) g4 (plainR.at pz a3)
  · exact p.elim
theorem dl_callBO {id : String} {e : Expr} {x : Str} {p : Pos} {o : DC} (C : CallD X (.builtin id) o) (hg : Gl X x) (hm : X.mg x = none) (hv : bootBuiltins x = some (.builtin id)) (ha : PE X e (tVar i)) (hn : x ≠ "__name__" := by decide) (hdb : (x == ("__debug__" : Str)) = false := by decide)
    (he : starEach [e] X.env = (false, eval e X.env) :: starEach [] X.env := by rfl) (hpl : (backTo pos (starEach [] X.env)).any (·.1) = false := by rfl) : PE X (.Call (.Name x p) [e] [] pos) (lift (X.kx wx WW ZZ) (dBltO o i)) := by
  obtain ⟨r, hc, L⟩ := C
  exact (pe_callB hc hg hm hv (pa_cons ha pa_nil he) hn hdb he hpl).w (lift_bltO (K := X.kx wx WW ZZ) L)
end
section
variable {env : Evn} {Q : D → Evn → Prop} {f g : DE} {i : Nat} {o : DO} {c : DC} {d : D} {ds : List D}
@[simp ↓] theorem e_BinO : dBinO o f i env Q = f env fun x env1 => match env1[i]? with
  | some (.val d) => o x d fun z => Q z env1
  | some (.own ds) => o x (.lst ds) fun z => plainR z = true ∧ Q z env1
  | _ => False := rfl
@[simp ↓] theorem e_OwnBv (h : env[i]? = some (.val d)) : dOwnB o i g env Q = g env fun y env1 => o d y fun z => Q z env1 := by unfold dOwnB; rw [h]
@[simp ↓] theorem e_OwnBo (h : env[i]? = some (.own ds)) : dOwnB o i g env Q = g env fun y env1 => match env1[i]? with | some (.own ds) => o (.lst ds) y fun z => plainR z = true ∧ Q z env1 | _ => False := by unfold dOwnB; rw [h]
@[simp ↓] theorem e_BltOv (h : env[i]? = some (.val d)) : dBltO c i env Q = c [d] fun z => Q z env := by unfold dBltO; rw [h]
@[simp ↓] theorem e_BltOo (h : env[i]? = some (.own ds)) : dBltO c i env Q = c [.lst ds] fun z => plainR z = true ∧ Q z env := by unfold dBltO; rw [h]
@[simp] theorem plainR_bl {b : Bool} : plainR (.bl b) = true := rfl
@[simp] theorem plainR_int {b : Int} : plainR (.int b) = true := rfl
@[simp] theorem plainR_non : plainR .non = true := rfl
end
/-! ### a tuple some times -/
def oMulT : DO := fun x y G => match x, y with
  | .tup l, .int k => (l ≠ [] ∧ 2 ≤ k ∧ k ≤ 1000 ∧ l.length ≤ 1000) ∧ G (.tup (List.replicate k.toNat l).flatten)
  | _, _ => False
theorem opd_mulT {X : Cx} : OpD X (binaryOp .Mult) oMulT := by
  refine ⟨_, op_repT, fun e env oa σ F H k x y dx dy Q G R a1 a2 p q => ?_⟩
  unfold oMulT at p
  split at p
  · simp only [At] at a1 a2
    obtain ⟨ad1, v1, rfl, h1, r1⟩ := a1
    subst a2
    have hl := Ats.length r1
    refine ⟨ad1, _, v1, rfl, rfl, sqT_grow R.wd.sub h1, fun z => p.1.1 (by rw [z] at hl; exact List.eq_nil_of_length_eq_zero hl), p.1.2.1, p.1.2.2.1, by rw [← hl]; exact p.1.2.2.2, fun t ht => ?_⟩
    obtain ⟨R2, g2⟩ := R.laid ht (.tup (List.replicate _ v1).flatten)
    exact q _ _ oa _ _ k p.2 R2 g2 (by simp only [At]; exact ⟨t, _, rfl, SqT.of upd_same, (Ats.grow g2 _ _ r1).rep _⟩)
  · exact p.elim
section
variable {G : D → Prop} {l : List D} {k : Int}
@[simp ↓] theorem o_mulT : oMulT (.tup l) (.int k) G = ((l ≠ [] ∧ 2 ≤ k ∧ k ≤ 1000 ∧ l.length ≤ 1000) ∧ G (.tup (List.replicate k.toNat l).flatten)) := rfl
end
/-- a comprehension without tests: as many members -/
theorem comp_each {g : DG} {t : DT} {f : DE} {vs : List Nat} {env : Evn} {QL : List D → Evn → Prop} (A : D → Prop) : ∀ (ds acc : List D), (∀ d ∈ ds, ∀ Q : Option D → Evn → Prop, (∀ y, A y → Q (some y) env) → turn g t f vs env d Q) → acc.length + ds.length ≤ 10000000 →
    (∀ ys, ys.length = ds.length → (∀ y ∈ ys, A y) → QL (acc ++ ys) env) → compL g t f vs ds acc env QL
  | [], acc, _, _, h => by
    have := h [] rfl (by simp)
    rw [List.append_nil] at this
    exact this
  | d :: ds, acc, ht, hl, h => by
    simp only [List.length_cons] at hl
    refine ht d (List.mem_cons_self ..) (fun o env' => match o with | some y => acc.length < 10000000 ∧ compL g t f vs ds (acc ++ [y]) env' QL | none => compL g t f vs ds acc env' QL) fun y hy => ⟨by omega, ?_⟩
    refine comp_each A ds (acc ++ [y]) (fun d' hd' => ht d' (List.mem_cons_of_mem _ hd')) (by rw [List.length_append, List.length_singleton]; omega) fun ys hl ha => ?_
    rw [List.append_assoc]
    refine h (y :: ys) (by rw [List.length_cons, hl, List.length_cons]) fun z hz => ?_
    rcases List.mem_cons.mp hz with rfl | hz
    · exact hy
    · exact ha z hz
section
variable {G : D → Prop} {a b : Bool}
@[simp ↓] theorem o_ne_bl : oNe (.bl a) (.bl b) G = G (.bl (!(a == b))) := by
  have e1 : eqOk (.bl a) := .of rfl (by simp [lvl])
  have e2 : eqOk (.bl b) := .of rfl (by simp [lvl])
  have e3 : eqv (.bl a) (.bl b) = (a == b) := by cases a <;> cases b <;> simp [eqv, py, PyData.eqv]
  unfold oNe
  simp [e1, e2, e3]
@[simp ↓] theorem o_eq_bl : oEq (.bl a) (.bl b) G = G (.bl (a == b)) := by
  have e1 : eqOk (.bl a) := .of rfl (by simp [lvl])
  have e2 : eqOk (.bl b) := .of rfl (by simp [lvl])
  have e3 : eqv (.bl a) (.bl b) = (a == b) := by cases a <;> cases b <;> simp [eqv, py, PyData.eqv]
  unfold oEq
  simp [e1, e2, e3]
end
/-! ### floor division by a great number of either sign -/
theorem op_fdivX {X : Cx} : OpR X (binaryOp .FloorDiv) (rI (fun _ j => j ≠ 0 ∧ j.natAbs.log2 < 9000) fun i j => .int (i.fdiv j)) := opI fun i j t u s Q E hc q => PyProof.Rows.floordiv_int hc.1 q (.inl (PyProof.noPylong_of_log2 hc.2))
def oDivX : DO := fun x y G => match x, y with
  | .int i, .int j => if 0 < j then j.natAbs.log2 < 9000 ∧ G (.int (i / j)) else (j < 0 ∧ j.natAbs.log2 < 9000) ∧ G (.int (i.fdiv j))
  | _, _ => False
theorem opd_divX {X : Cx} : OpD X (binaryOp .FloorDiv) oDivX := by
  refine ⟨_, op_fdivX, fun e env oa σ F H k x y dx dy Q G R a1 a2 p q => ?_⟩
  unfold oDivX at p
  split at p
  · rename_i i j
    simp only [At] at a1 a2
    subst a1 a2
    split at p
    · rename_i hj
      refine ⟨i, j, rfl, rfl, ⟨by omega, p.1⟩, ?_⟩
      show Q (.int (i.fdiv j)) H
      rw [Int.fdiv_eq_ediv_of_nonneg i (by omega)]
      exact q _ _ oa F H k p.2 R (Grow.refl _ _) (by simp only [At])
    · exact ⟨i, j, rfl, rfl, ⟨by omega, p.1.2⟩, q _ _ oa F H k p.2 R (Grow.refl _ _) (by simp only [At])⟩
  · exact p.elim
section
variable {G : D → Prop} {i j : Int}
@[simp ↓] theorem o_divX : oDivX (.int i) (.int j) G = if 0 < j then j.natAbs.log2 < 9000 ∧ G (.int (i / j)) else (j < 0 ∧ j.natAbs.log2 < 9000) ∧ G (.int (i.fdiv j)) := rfl
end
end DL
set_option maxHeartbeats 4000000
/-! ### lists made by a comprehension and changed later; stores; shifts; steps -/
namespace DL
open PySem PySem.Spec PyProof.Rows L2
section
variable {K : PySem.W.Frag} {e : Ent} {env : Evn} {oa : Nat → Addr} {σ : L2.St} {F H : Hp} {k : Dk} {p : Addr}
/-- a guarded list becomes a variable's own -/
theorem Rel0.own' {vs : List V} (G : Gd (tabK K) e p) (R : Rel0 K (gd e p (.lst vs)) env oa σ F H k) {ds : List D} (hA : Ats K F k ds vs) (i : Nat) :
    Rel0 K e (env.set i (.own ds)) (fun j => if j = i then p else oa j) (σ.set i (some (.ref p))) F H k := by
  obtain ⟨hH, hF, hD, hO⟩ := R.guarded G
  have W := R.wd
  have up : ∀ a, a ≠ p → (gd e p (.lst vs)).H0 a = e.H0 a := fun a ha => upd_ne ha
  have back : ∀ (j : Nat) (s : Slot), j ≠ i → (env.set i (Slot.own ds))[j]? = some s → env[j]? = some s := fun j s hj h => by
    rw [List.getElem?_set_ne (Ne.symm hj)] at h; exact h
  have lt : ∀ (s : Slot), (env.set i (Slot.own ds))[i]? = some s → i < env.length ∧ s = .own ds := fun s h => by
    by_cases hl : i < env.length
    · rw [List.getElem?_set_self hl] at h; cases h; exact ⟨hl, rfl⟩
    · rw [List.getElem?_eq_none (by rw [List.length_set]; omega)] at h; cases h
  refine ⟨⟨W.sub, W.ini, fun a u q => ?_, fun a u q z z2 => ?_, W.kk1, fun z q hq => ?_, W.dk, W.tb, W.tbf⟩, by rw [List.length_set, List.length_set]; exact R.len, fun j d h => ?_, fun j es h => ?_, fun j j' es es' h h' hj => ?_⟩
  · have ha : a ≠ p := fun y => by rw [y, hF] at q; cases q
    rcases W.new a u q with z | z
    · exact .inl z
    · exact .inr ((up a ha).symm.trans z)
  · have ha : a ≠ p := fun y => by rw [y, G.h0] at q; cases q
    exact W.fr a u ((up a ha).trans q) z z2
  · obtain ⟨m1, m2⟩ := hD q hq
    obtain ⟨n1, n2⟩ := W.kk2 z q hq
    exact ⟨(up _ (Ne.symm m1)).symm.trans n1, (up _ (Ne.symm m2)).symm.trans n2⟩
  · by_cases hj : j = i
    · subst hj; cases (lt _ h).2
    · obtain ⟨v, h1, h2⟩ := R.val j d (back j _ hj h)
      exact ⟨v, by rw [List.getElem?_set_ne (Ne.symm hj)]; exact h1, h2⟩
  · by_cases hj : j = i
    · subst hj
      obtain ⟨hl, e1⟩ := lt _ h
      cases e1
      rw [if_pos rfl]
      exact ⟨List.getElem?_set_self (by rw [← R.len]; exact hl), ⟨vs, hH, hA⟩, hF, G.h0, hD⟩
    · have hm := back j _ hj h
      obtain ⟨h1, ⟨us, h2, h3⟩, h4, h5, h6⟩ := R.own j es hm
      rw [if_neg hj]
      exact ⟨by rw [List.getElem?_set_ne (Ne.symm hj)]; exact h1, ⟨us, h2, h3⟩, h4, (up _ (hO j es hm)).symm.trans h5, h6⟩
  · have nz : ∀ (m : Nat) (es : List D), m ≠ i → (env.set i (Slot.own ds))[m]? = some (.own es) → oa m ≠ p := fun m es hm hh => hO m es (back m _ hm hh)
    by_cases h1 : j = i
    · by_cases h2 : j' = i
      · rw [h1, h2]
      · rw [if_pos h1, if_neg h2] at hj
        exact absurd hj.symm (nz j' es' h2 h')
    · by_cases h2 : j' = i
      · rw [if_neg h1, if_pos h2] at hj
        exact absurd hj (nz j es h1 h)
      · rw [if_neg h1, if_neg h2] at hj
        exact R.inj j j' es es' (back j _ h1 h) (back j' _ h2 h') hj
end
theorem Rel.own' {K : Kx} {e : Ent} {env : Evn} {oa : Nat → Addr} {σ : L2.St} {F H : Hp} {k : Dk} {p : Addr} {vs : List V} {e0 : Ent} (L : Lnk K e F k) (G : Gd (tabK K.f) e p) (R : Rel K (gd e p (.lst vs)) env oa σ F H k) {ds : List D} (hA : Ats K.f F k ds vs) (i : Nat) :
    Rel K e (env.set i (.own ds)) (fun j => if j = i then p else oa j) (σ.set i (some (.ref p))) F H k := ⟨R.toRel0.own' G hA i, L, R.pz⟩
def dNewLc (i : Nat) (fi : DA) (g : DG) (t : DT) (f : DE) (vs : List Nat) : DS := fun B env => fi env fun ds env1 => compL g t f vs ds [] env1 fun acc env2 => B.nx (env2.set i (.own acc))
theorem lift_lcO {K : Kx} {n : Nat} {fi : DA} {g : DG} {t : DT} {f : DE} {vs L : List Nat} (hL : ∀ i ∈ L, i ∈ vs) : ∀ E σ H, liftS K (dNewLc n fi g t f vs) E σ H → tLc (liftI K fi) (liftG K L g) (liftT K t) (lift K f) vs σ H (fun v H' => E.nx (σ.set n (some v)) H') := fun E σ H ⟨e, env, oa, F, k, B, R, p, q, _, _, _⟩ =>
  ⟨e, env, oa, F, k, _, R, p, fun ds env1 oa1 F1 H1 k1 J p1 R1 g1 runs => fun Dd hD => by
    refine ⟨fun i m H' => m = ds.length - i ∧ i ≤ ds.length ∧ ∃ acc vacc env' oa' F' k', Gd (tabK K.f) e Dd ∧ Rel K (gd e Dd (.lst vacc)) env' oa' σ F' H' k' ∧ Grow F1 F' k1 k' ∧ Ats K F' k' acc vacc ∧ compL g t f vs (ds.drop i) acc env' fun acc env2 => B.nx (env2.set n (.own acc)), ?_, ?_⟩
    · obtain ⟨G, R2⟩ := R1.guard (o := .lst []) hD
      exact ⟨ds.length, by simp, Nat.zero_le _, [], [], env1, oa1, F1, k1, G, R2, Grow.refl _ _, .nil, p1⟩
    rintro i m H2 ⟨rfl, hi, acc, vacc, env2, oa2, F2, k2, G, R2, g2, A2, p2⟩
    obtain ⟨hs, hg⟩ := runs _ env2 oa2 σ F2 H2 k2 i R2.toRel0 g2
    by_cases hlt : i < ds.length
    · refine .inr ⟨(hg ds[i] (by simp [hlt])).1, fun H' => ∃ acc vacc env' oa' F' k', Gd (tabK K.f) e Dd ∧ Rel K (gd e Dd (.lst vacc)) env' oa' σ F' H' k' ∧ Grow F1 F' k1 k' ∧ Ats K F' k' acc vacc ∧ compL g t f vs (ds.drop (i + 1)) acc env' fun acc env2 => B.nx (env2.set n (.own acc)),
        fun H' h => ⟨ds.length - (i + 1), by omega, rfl, hlt, h⟩, fun y H3 hy => ?_⟩
      obtain ⟨F3, R30, g3, a3⟩ := (hg ds[i] (by simp [hlt])).2 y H3 hy
      have R3 := R2.up R30 g3
      rw [List.drop_eq_getElem_cons hlt] at p2
      refine ⟨_, wipeD env2 vs, oa2, F3, k2, ds[i], _, R3.wipe vs, a3, p2, fun env4 oa4 σ4 F4 H4 k4 p4 R4 g4 l4 s4 => ?_⟩
      have l4' : σ4.length = σ.length := l4.trans (wipe_length σ vs)
      have s4' : ∀ j, j ∉ vs → σ4[j]? = σ[j]? := fun j hj => (s4 j fun z => hj (hL j z)).trans (wipe_out hj)
      refine ⟨by
        have := wipe_ext (vs := vs) l4' s4'
        exact this, _, env4, oa4, F4, k4, _, R4, p4, fun b env5 oa5 F5 H5 k5 p5 R5 g5 => ?_⟩
      cases b with
      | false =>
        have g35 := g4.trans g5
        exact ⟨acc, vacc, _, oa5, F5, k5, G, R3.restore R5 g35 l4' s4', g2.trans (g3.trans g35), Ats.grow (g3.trans g35) _ _ A2, p5⟩
      | true =>
        refine ⟨_, env5, oa5, F5, k5, _, R5, p5, fun d env6 v oa6 F6 H6 k6 p6 R6 g6 a6 => ?_⟩
        have g36 := g4.trans (g5.trans g6)
        obtain ⟨hH, _⟩ := R6.guarded G
        have hlen : vacc.length < sizeLine := by
          rw [← Ats.length A2]
          exact Nat.lt_of_lt_of_le p6.1 (size10 (Nat.le_refl _))
        have R6' := R3.restore R6 g36 l4' s4'
        exact ⟨vacc, hH, hlen, acc ++ [d], vacc ++ [v], _, oa6, F6, k6, G, R6'.gset (R1.lnk.grow (g2.trans (g3.trans g36))) G _, g2.trans (g3.trans g36), Ats.append (Ats.grow (g3.trans g36) _ _ A2) (.cons a6 .nil), p6.2⟩
    · have ei : i = ds.length := by omega
      subst ei
      rw [List.drop_length] at p2
      exact .inl ⟨hs (Nat.le_refl _), q _ _ _ F2 H2 k2 p2 (Rel.own' (e0 := e) (R1.lnk.grow g2) G R2 A2 n) (g1.trans g2)⟩⟩
section
variable {wx : DX} {WW : WX} {ZZ : Fz} {X : Cx} {a b c : Expr} {pos : Pos} {f g h : DE}
theorem ds_newLc {i : Nat} {y : Str} {py : Pos} {elt tg iter : Expr} {ifs : List Expr} {scope : Scope} {own : List (Str × Nat)} {pos spos : Pos} {fi : DA} {g : DG} {t : DT} {f : DE} {L : List Nat} (hc : X.calm = true) (hN : X.N.Nodup) (hy : X.N[i]? = some y) (hyl : X.env.scope.names.lookup y = some .local)
    (hsw : swapsWith (.ListComp elt [⟨tg, iter, ifs, 0⟩] scope pos) (some (.Name y py)) spos.line X.env = pure true) (hi : PI X tg iter (liftI (X.kx wx WW ZZ) fi)) (ok : BlkOk X.N X.env.scope scope own)
    (hg : ∀ (s : Shared) (H : Hp) (C : Addr) (cl : List (Str × Addr)) (fp : List Addr), PG (X.blk s H scope (compEnvC scope cl C X.env) fp) tg (liftG (X.kx wx WW ZZ) L g)) (ht : ∀ (s : Shared) (H : Hp) (C : Addr) (cl : List (Str × Addr)) (fp : List Addr), PTs (X.blk s H scope (compEnvC scope cl C X.env) fp) ifs (liftT (X.kx wx WW ZZ) t))
    (he : ∀ (s : Shared) (H : Hp) (C : Addr) (cl : List (Str × Addr)) (fp : List Addr), PE (X.blk s H scope (compEnvC scope cl C X.env) fp) elt (lift (X.kx wx WW ZZ) f)) (hL : ∀ i ∈ L, i ∈ own.map (·.2)) (hs : ∀ x, foldedSetIterable iter X.env x = pure x := by intro _; rfl) :
    PS X (.Assign [.Name y py] (.ListComp elt [⟨tg, iter, ifs, 0⟩] scope pos) spos) (liftS (X.kx wx WW ZZ) (dNewLc i fi g t f (own.map (·.2)))) :=
  (L2.ps_setLc (i := i) hc hN hy hyl hsw hi ok hg ht he hs).w fun E σ H q => lift_lcO (K := X.kx wx WW ZZ) hL E σ H q
/-! stores into a list -/
def dSetIx (i : Nat) (f g : DE) : DS := fun B env => g env fun v env1 => isOwn env1[i]? = true ∧ f env1 fun k env2 => match env2[i]?, k with
  | some (.own ds), .int j => (0 ≤ j ∧ j < ds.length) ∧ B.nx (env2.set i (.own (ds.set j.toNat v)))
  | _, _ => False
theorem Ats.set {K : PySem.W.Frag} {F : Hp} {k : Dk} {d : D} {v : V} (hv : At K F k d v) : ∀ {ds : List D} {vs : List V} (n : Nat), Ats K F k ds vs → Ats K F k (ds.set n d) (vs.set n v)
  | [], vs, n, h => by
    simp only [Ats] at h
    subst h
    exact .nil
  | e :: ds, vs, n, h => by
    simp only [Ats] at h
    obtain ⟨u, r, rfl, h1, h2⟩ := h
    cases n with
    | zero => exact .cons hv h2
    | succ n => exact .cons h1 (Ats.set hv n h2)
theorem ds_setIx {i : Nat} {o ix e : Expr} {tpos : Pos} (ho : PE X o (tVar i)) (hi : PE X ix (lift (X.kx wx WW ZZ) f)) (he : PE X e (lift (X.kx wx WW ZZ) g))
    (ha : ∀ v, assign (.Subscript o ix tpos) X.env v = (do
      let ov ← holding [v] (eval o X.env)
      let iv ← holding [v, ov] (eval ix X.env)
      standAt tpos
      holding [v, ov, iv] (setItem ov iv v)
      release [v, ov, iv] []) := by intro _; rfl)
    (hs : swapsWithSole [.Subscript o ix tpos] e pos.line X.env = pure false := by rfl) (hw : swappedStores [.Subscript o ix tpos] e X.env = pure none := by rfl)
    (h1 : (assignEach [.Subscript o ix tpos] X.env).map (·.2) = [assign (.Subscript o ix tpos) X.env] := by rfl) : PS X (.Assign [.Subscript o ix tpos] e pos) (liftS (X.kx wx WW ZZ) (dSetIx i f g)) :=
  (ps_asg he (pg_sub ho hi set_list ha) hs hw h1).w fun E σ H ⟨e, env, oa, F, k, B, R, p, n, r, b, c⟩ => ⟨e, env, oa, F, k, _, R, p, fun d env1 v oa1 F1 H1 k1 ⟨po, p1⟩ R1 g1 a1 => by
    cases hq : env1[i]? with
    | none => rw [hq] at po; cases po
    | some s =>
      cases s with
      | no => rw [hq] at po; cases po
      | val _ => rw [hq] at po; cases po
      | own ds0 =>
        obtain ⟨i1, _⟩ := R1.own i ds0 hq
        refine ⟨_, i1, e, env1, oa1, F1, k1, _, R1, p1, fun kd env2 vk oa2 F2 H2 k2 p2 R2 g2 a2 => ?_⟩
        cases hq2 : env2[i]? with
        | none => rw [hq2] at p2; exact p2.elim
        | some s =>
          rw [hq2] at p2
          cases s with
          | no => exact p2.elim
          | val _ => exact p2.elim
          | own ds =>
            cases kd with
            | int j =>
              obtain ⟨j1, ⟨vs, j2, j3⟩, j4, j5, j6⟩ := R2.own i ds hq2
              have eo : oa1 i = oa2 i := by
                rw [i1] at j1
                exact V.ref.inj (Option.some.inj (Option.some.inj j1))
              simp only [At] at a2
              subst a2
              have hl := Ats.length j3
              refine ⟨oa2 i, vs, j, j.toNat, by rw [eo], rfl, j2, ?_, ?_⟩
              · unfold ixN
                rw [if_pos p2.1.1, if_pos (by have := p2.1.2; have := p2.1.1; omega)]
              · exact n _ oa2 σ F2 _ k2 p2.2 (R2.setOwn hq2 (Ats.set (At.grow g2 _ _ a1) _ j3)) (g1.trans g2)
            | _ => exact p2.elim⟩
end
/-! ### an item of a list that is grown -/
def dOwnIx (i : Nat) (f : DE) : DE := fun env Q => match env[i]? with
  | some (.val d) => f env fun y env1 => oIx d y fun z => Q z env1
  | some (.own _) => f env fun y env1 => match env1[i]?, y with
    | some (.own ds), .int j => ∃ d, ixD ds j = some d ∧ Q d env1
    | _, _ => False
  | _ => False
def oShl : DO := oI (fun i j => 0 ≤ j ∧ j ≤ 1000000 ∧ i.natAbs < 2 ^ 64) fun i j => .int (i * 2 ^ j.toNat)
theorem opd_shl {X : Cx} : OpD X (binaryOp .LShift) oShl := ⟨_, op_shl, link_I fun _ _ _ _ => by simp only [At]⟩
/-- range(i, j, c), c > 0 -/
def stepD (lo c : Int) (n : Nat) : List D := (List.range n).map fun (i : Nat) => .int (lo + i * c)
def dRange3 (f g h : DE) : DA := fun env Q => f env fun d env1 => g env1 fun d' env2 => h env2 fun d'' env3 => match d, d', d'' with
  | .int i, .int j, .int c => (0 ≤ i ∧ i ≤ j ∧ j < 2 ^ 29 ∧ 0 < c ∧ c < 2 ^ 29) ∧ Q (stepD i c ((j - i + c - 1) / c).toNat) env3
  | _, _, _ => False
section
variable {wx : DX} {WW : WX} {ZZ : Fz} {X : Cx} {a b c : Expr} {pos : Pos} {f g h : DE} {i : Nat}
theorem dl_ownIx (ha : PE X a (tVar i)) (hb : PE X b (lift (X.kx wx WW ZZ) f)) (hs : PlainIx b := by exact fun _ _ => rfl) : PE X (.Subscript a b pos) (lift (X.kx wx WW ZZ) (dOwnIx i f)) :=
  (pe_ix ix_seq ha hb hs).w fun σ H Q ⟨e, env, oa, F, k, P, R, p, q⟩ => by
    unfold dOwnIx at p
    split at p
    · rename_i d hd
      obtain ⟨v, h1, h2⟩ := R.val i d hd
      refine ⟨v, h1, e, env, oa, F, k, _, R, p, fun y env1 vy oa1 F1 H1 k1 p1 R1 g1 a1 => ?_⟩
      have h2' := At.grow g1 _ _ h2
      unfold oIx at p1
      split at p1
      · simp only [At] at h2' a1
        obtain ⟨ad, vs, rfl, h3, h4⟩ := h2'
        subst a1
        obtain ⟨z, p3, p4⟩ := p1
        obtain ⟨u, e1, e2⟩ := ix_at h4 p3
        exact .inr (.inl ⟨ad, vs, _, u, rfl, rfl, sqT_grow R1.wd.sub h3, e1, q z env1 u oa1 F1 H1 k1 p4 R1 g1 e2⟩)
      · simp only [At] at h2' a1
        obtain ⟨ad, vs, rfl, h3, h4⟩ := h2'
        subst a1
        obtain ⟨z, p3, p4⟩ := p1
        obtain ⟨u, e1, e2⟩ := ix_at h4 p3
        exact .inl ⟨ad, vs, _, u, rfl, rfl, SqL.of (R1.wd.sub _ _ h3), e1, q z env1 u oa1 F1 H1 k1 p4 R1 g1 e2⟩
      · exact p1.elim
    · rename_i ds hd
      obtain ⟨h1, _⟩ := R.own i ds hd
      refine ⟨_, h1, e, env, oa, F, k, _, R, p, fun y env1 vy oa1 F1 H1 k1 p1 R1 g1 a1 => ?_⟩
      cases hq : env1[i]? with
      | none => rw [hq] at p1; exact p1.elim
      | some s =>
        rw [hq] at p1
        cases s with
        | no => exact p1.elim
        | val _ => exact p1.elim
        | own es =>
          cases y with
          | int j =>
            obtain ⟨j1, ⟨vs, j2, j3⟩, _⟩ := R1.own i es hq
            rw [h1] at j1
            have eo : oa i = oa1 i := V.ref.inj (Option.some.inj (Option.some.inj j1))
            simp only [At] at a1
            subst a1
            obtain ⟨z, p3, p4⟩ := p1
            obtain ⟨u, e1, e2⟩ := ix_at j3 p3
            exact .inl ⟨oa1 i, vs, _, u, by rw [eo], rfl, SqL.of j2, e1, q z env1 u oa1 F1 H1 k1 p4 R1 g1 e2⟩
          | _ => exact p1.elim
    · exact p.elim
theorem runs_step {K : PySem.W.Frag} {lo c : Int} {n : Nat} {F : Hp} {k : Dk} : Runs K (Itc lo c n) (stepD lo c n) F k := fun e env oa σ F' H k' i R g' => by
  refine ⟨fun hl => ?_, fun d hd => ?_⟩
  · unfold stepD at hl
    have hl' : n ≤ i := by simpa using hl
    exact hl'
  · unfold stepD at hd
    rw [List.getElem?_map] at hd
    by_cases hi : i < n
    · rw [List.getElem?_range hi] at hd
      cases hd
      refine ⟨hi, fun y H' ⟨e1, e2⟩ => ?_⟩
      subst e1 e2
      exact ⟨F', R, Grow.refl _ _, by simp only [At]⟩
    · rw [List.getElem?_eq_none (by simpa using hi)] at hd; cases hd
theorem rg_up {i j c : Int} (h0 : 0 ≤ i) (h1 : i ≤ j) (h2 : j < 2 ^ 29) (h3 : 0 < c) (h4 : c < 2 ^ 29) : RgC i j c ((j - i + c - 1) / c).toNat := by
  have key : Builtin.Range.rangeSize i j c = (j - i + c - 1) / c := by
    unfold Builtin.Range.rangeSize
    rw [if_pos h3]
    split
    · have e : j - i + c - 1 = (j - i - 1) + c * 1 := by omega
      rw [e, Int.add_mul_ediv_left _ _ (by omega)]
    · have : i = j := by omega
      subst this
      rw [show i - i + c - 1 = c - 1 by omega, Int.ediv_eq_zero_of_lt (by omega) (by omega)]
  have nn : 0 ≤ (j - i + c - 1) / c := Int.ediv_nonneg (by omega) (by omega)
  have le : (j - i + c - 1) / c ≤ j - i + c - 1 := Int.ediv_le_self _ (by omega)
  refine ⟨by omega, by omega, ?_, by rw [key]; omega⟩
  unfold Builtin.Range.small
  rw [key, if_pos h3]
  generalize (j - i + c - 1) / c = q at *
  simp only [Builtin.Range.rangeFitsLong, Bool.and_eq_true, Bool.or_eq_true, decide_eq_true_eq, beq_iff_eq]
  omega
theorem di_range3 {te : Expr} {p : Pos} (hg : Gl X "range") (hm : X.mg "range" = none) (h1 : PE X a (lift (X.kx wx WW ZZ) f)) (h2 : PE X b (lift (X.kx wx WW ZZ) g)) (h3 : PE X c (lift (X.kx wx WW ZZ) h)) (hs : starEach [a, b, c] X.env = [(false, eval a X.env), (false, eval b X.env), (false, eval c X.env)] := by rfl)
    (hs2 : starEach [b, c] X.env = [(false, eval b X.env), (false, eval c X.env)] := by rfl) (hs3 : starEach [c] X.env = [(false, eval c X.env)] := by rfl) : PI X te (.Call (.Name "range" p) [a, b, c] [] pos) (liftI (X.kx wx WW ZZ) (dRange3 f g h)) :=
  (pi_range3 hg hm (pa_cons h1 (pa_cons h2 (pa_cons h3 pa_nil hs3) (by rw [hs2, hs3])) (by rw [hs, hs2])) (by rw [hs, hs2]) (by rw [hs2]; rfl)).w fun σ H Rr ⟨e, env, oa, F, k, P, R, p, q⟩ => ⟨e, env, oa, F, k, _, R, p, fun d env1 v oa1 F1 H1 k1 p1 R1 g1 a1 => ⟨e, env1, oa1, F1, k1, _, R1, p1, fun d' env2 v' oa2 F2 H2 k2 p2 R2 g2 a2 => ⟨e, env2, oa2, F2, k2, _, R2, p2, fun d'' env3 v'' oa3 F3 H3 k3 p3 R3 g3 a3 => by
    cases d with
    | int i =>
      cases d' with
      | int j =>
        cases d'' with
        | int c =>
          simp only [At] at a1 a2 a3
          subst a1 a2 a3
          obtain ⟨⟨b0, b1, b2, b3, b4⟩, p4⟩ := p3
          exact ⟨i, j, c, _, rfl, rg_up b0 b1 b2 b3 b4, q _ env3 oa3 F3 H3 k3 _ p4 R3 (g1.trans (g2.trans g3)) runs_step⟩
        | _ => exact p3.elim
      | _ => exact p3.elim
    | _ => exact p3.elim⟩⟩⟩
end
/-! ### a tuple once -/
theorem tuple_mul1 (l : Addr) (items : Array Value) (n : Nat) (dd : Option Addr) (sl : Array (Option Value)) (u : Tok) :
    Meets (Builtin.«tuple.__mul__» ⟨[.ref l, .int 1 u], []⟩) (fun _ R s => s.heap.get? l = some { cls := .type "tuple", dict := dd, data := .seq items n, slots := sl } ∧ R (.ok (.ret (Value.ref l))) s) :=
  .of_wp fun prog w A R s h => by
    obtain ⟨hp, g, d, tk, os⟩ := s
    obtain ⟨hl, h⟩ := h
    have f1 := AutoSeq1.idx_int
    wp_walk using wpAny_loadPart' hl
    exact ⟨_, rfl, h⟩
theorem op_repT1 {X : Cx} : OpR X (binaryOp .Mult) (fun x y H Q => ∃ l xs, x = .ref l ∧ y = .int 1 ∧ SqT X.K H l xs ∧ Q (.ref l) H) := by
  intro pins s σ H x y v u Q I rx ry h
  obtain ⟨l, xs, rfl, rfl, hT, q⟩ := h
  cases rx
  obtain ⟨t, rfl⟩ := ry
  obtain ⟨its, r, ⟨⟨cls, dd, data, sl⟩, ho, hc, n, hd⟩, hs⟩ := I.tuple hT
  simp only at hc hd
  subst hc hd
  exact wpAny_binaryOp_repeat_ref (T := "tuple") (U := "int") (by decide) ⟨_, ho, rfl⟩ (fun s' => typeIs_int s' 1 t) noFill_tuple_mul F.fills_int_mul F.slot_int_rmul repeat_tuple F.slot_int_index.lookup
    (call_meets F.slot_int_rmul (typeIs_int s 1 t) F.entry_int_rmul (F.args_int_rmul_2 _ _) (int_rmul_tuple 1 t l its.toArray n dd sl)
      ⟨ho, rfl, ⟨_, ho, rfl⟩, call_meets F.slot_tuple_mul ⟨_, ho, rfl⟩ F.entry_tuple_mul (F.args_tuple_mul_2 _ _) (tuple_mul1 l its.toArray n dd sl t) ⟨ho, ⟨.ref l, H, I, rfl, q⟩⟩⟩)
theorem tuple_mul0 (l : Addr) (items : Array Value) (n : Nat) (dd : Option Addr) (sl : Array (Option Value)) (u : Tok) (c1 : (items.isEmpty || (0 : Int) == 1) = false) :
    Meets (Builtin.«tuple.__mul__» ⟨[.ref l, .int 0 u], []⟩) (fun _ R s => s.heap.get? l = some { cls := .type "tuple", dict := dd, data := .seq items n, slots := sl } ∧
      R (.ok (.ret (Value.ref s.heap.objs.size))) { s with heap := s.heap.push { cls := Value.type "tuple", data := Data.seq #[] }, toks := s.toks }) :=
  .of_wp fun prog w A R s h => by
    obtain ⟨hp, g, d, tk, os⟩ := s
    obtain ⟨hl, h⟩ := h
    have f1 := AutoSeq1.idx_int
    wp_walk using wpAny_loadPart' hl
    repeat (first
      | (refine wpAny_ite_false (decide_eq_false (by rw [c1]; exact Bool.false_ne_true)) ?_; wp_walk using wpAny_loadPart' hl))
    exact ⟨_, rfl, h⟩
theorem op_repT0 {X : Cx} : OpR X (binaryOp .Mult) (fun x y H Q => ∃ l xs, x = .ref l ∧ y = .int 0 ∧ SqT X.K H l xs ∧ xs ≠ [] ∧ ∀ p, H p = none → Q (.ref p) (upd H p (.tup []))) := by
  intro pins s σ H x y v u Q I rx ry h
  obtain ⟨l, xs, rfl, rfl, hT, hne, q⟩ := h
  cases rx
  obtain ⟨t, rfl⟩ := ry
  obtain ⟨its, r, ⟨⟨cls, dd, data, sl⟩, ho, hc, n, hd⟩, hs⟩ := I.tuple hT
  simp only at hc hd
  subst hc hd
  have hle : its.length = xs.length := r.length.symm
  have hi : its.toArray.isEmpty = false := by
    cases its with
    | nil => exact absurd (List.eq_nil_of_length_eq_zero (by rw [← hle]; rfl)) hne
    | cons a b => rfl
  exact wpAny_binaryOp_repeat_ref (T := "tuple") (U := "int") (by decide) ⟨_, ho, rfl⟩ (fun s' => typeIs_int s' 0 t) noFill_tuple_mul F.fills_int_mul F.slot_int_rmul repeat_tuple F.slot_int_index.lookup
    (call_meets F.slot_int_rmul (typeIs_int s 0 t) F.entry_int_rmul (F.args_int_rmul_2 _ _) (int_rmul_tuple 0 t l its.toArray n dd sl)
      ⟨ho, rfl, ⟨_, ho, rfl⟩, call_meets F.slot_tuple_mul ⟨_, ho, rfl⟩ F.entry_tuple_mul (F.args_tuple_mul_2 _ _) (tuple_mul0 l its.toArray n dd sl t (by rw [hi]; rfl)) ⟨ho, ⟨.ref s.heap.objs.size, _, I.laid (t' := s.toks) (o := .tup []) (fun b ob q => Heap.get?_push_of_some _ q) (Nat.le_refl _) ⟨Nat.zero_le _, [], .nil, IsTup.new _ _⟩, rfl, q _ (I.hok.fresh (Nat.le_refl _))⟩⟩⟩)
def oMulU : DO := fun x y G => match x, y with
  | .tup l, .int k => (l ≠ [] ∧ 0 ≤ k ∧ k ≤ 1000 ∧ l.length ≤ 1000) ∧ G (.tup (List.replicate k.toNat l).flatten)
  | _, _ => False
theorem opd_mulU {X : Cx} : OpD X (binaryOp .Mult) oMulU := by
  refine ⟨_, op_or op_repT (op_or op_repT1 op_repT0), fun e env oa σ F H k x y dx dy Q G R a1 a2 p q => ?_⟩
  unfold oMulU at p
  split at p
  · rename_i l k0
    simp only [At] at a1 a2
    obtain ⟨ad1, v1, rfl, h1, r1⟩ := a1
    subst a2
    have hl := Ats.length r1
    by_cases h : k0 = 1
    · subst h
      refine .inr (.inl ⟨ad1, v1, rfl, rfl, sqT_grow R.wd.sub h1, ?_⟩)
      have e1 : (List.replicate (Int.toNat 1) l).flatten = l := by simp
      refine q (.tup l) _ oa F H k (by have := p.2; rwa [e1] at this) R (Grow.refl _ _) ?_
      simp only [At]
      exact ⟨ad1, v1, rfl, h1, r1⟩
    · by_cases h0 : k0 = 0
      · subst h0
        refine .inr (.inr ⟨ad1, v1, rfl, rfl, sqT_grow R.wd.sub h1, fun z => p.1.1 (by rw [z] at hl; exact List.eq_nil_of_length_eq_zero hl), fun t ht => ?_⟩)
        obtain ⟨R2, g2⟩ := R.laid ht (.tup [])
        exact q _ _ oa _ _ k p.2 R2 g2 (by simp only [At]; exact ⟨t, _, rfl, SqT.of upd_same, .nil⟩)
      refine .inl ⟨ad1, _, v1, rfl, rfl, sqT_grow R.wd.sub h1, fun z => p.1.1 (by rw [z] at hl; exact List.eq_nil_of_length_eq_zero hl), by have := p.1.2.1; omega, p.1.2.2.1, by rw [← hl]; exact p.1.2.2.2, fun t ht => ?_⟩
      obtain ⟨R2, g2⟩ := R.laid ht (.tup (List.replicate _ v1).flatten)
      exact q _ _ oa _ _ k p.2 R2 g2 (by simp only [At]; exact ⟨t, _, rfl, SqT.of upd_same, (Ats.grow g2 _ _ r1).rep _⟩)
  · exact p.elim
theorem for_enum {g : DG} {u : DS} {B : DEnd} {l : List D} (I : List D → Evn → Prop) (step : ∀ (done tl : List D) (d : D) (env : Evn) (N : Evn → Prop), l = done ++ d :: tl → I done env → (∀ env', I (done ++ [d]) env' → N env') → g (.tup [.int done.length, d]) env fun env1 => u { B with nx := N, ct := N, bk := B.nx } env1)
    (fin : ∀ env, I l env → B.nx env) {env : Evn} (h : I [] env) : forL g u (enumD 0 l) B env := by
  have key : ∀ (tl done : List D) (env : Evn), l = done ++ tl → I done env → forL g u (enumD done.length tl) B env := by
    intro tl
    induction tl with
    | nil =>
      intro done env e h
      rw [List.append_nil] at e
      exact fin env (e ▸ h)
    | cons d tl ih =>
      intro done env e h
      refine step done tl d env _ e h fun env' h' => ?_
      have := ih (done ++ [d]) env' (by rw [e]; simp) h'
      rw [List.length_append, List.length_singleton] at this
      exact this
  exact key l [] env rfl h
section
variable {env : Evn} {Q : D → Evn → Prop} {QA : List D → Evn → Prop} {B : DEnd} {f g h : DE} {i : Nat} {d : D} {ds l : List D} {G : D → Prop} {j k : Int}
@[simp ↓] theorem o_shl : oShl (.int j) (.int k) G = ((0 ≤ k ∧ k ≤ 1000000 ∧ j.natAbs < 2 ^ 64) ∧ G (.int (j * 2 ^ k.toNat))) := rfl
@[simp ↓] theorem o_mulU : oMulU (.tup l) (.int k) G = ((l ≠ [] ∧ 0 ≤ k ∧ k ≤ 1000 ∧ l.length ≤ 1000) ∧ G (.tup (List.replicate k.toNat l).flatten)) := rfl
@[simp ↓] theorem e_OwnIxv (h : env[i]? = some (.val d)) : dOwnIx i f env Q = f env fun y env1 => oIx d y fun z => Q z env1 := by unfold dOwnIx; rw [h]
@[simp ↓] theorem e_OwnIxo (h : env[i]? = some (.own ds)) : dOwnIx i f env Q = f env fun y env1 => match env1[i]?, y with
    | some (.own ds), .int j => ∃ d, ixD ds j = some d ∧ Q d env1
    | _, _ => False := by unfold dOwnIx; rw [h]
@[simp ↓] theorem e_Range3 : dRange3 f g h env QA = f env fun d env1 => g env1 fun d' env2 => h env2 fun d'' env3 => match d, d', d'' with
  | .int i, .int j, .int c => (0 ≤ i ∧ i ≤ j ∧ j < 2 ^ 29 ∧ 0 < c ∧ c < 2 ^ 29) ∧ QA (stepD i c ((j - i + c - 1) / c).toNat) env3
  | _, _, _ => False := rfl
@[simp ↓] theorem e_SetIx : dSetIx i f g B env = g env fun v env1 => isOwn env1[i]? = true ∧ f env1 fun k env2 => match env2[i]?, k with
  | some (.own ds), .int j => (0 ≤ j ∧ j < ds.length) ∧ B.nx (env2.set i (.own (ds.set j.toNat v)))
  | _, _ => False := rfl
@[simp] theorem isOwn_own : isOwn (some (.own l)) = true := rfl
@[simp ↓] theorem e_NewLc {fi : DA} {gt : DG} {t : DT} {vs : List Nat} : dNewLc i fi gt t f vs B env = fi env fun ds env1 => compL gt t f vs ds [] env1 fun acc env2 => B.nx (env2.set i (.own acc)) := rfl
end
/-! ### str of a tuple or a list -/
def cStrU : DC := fun ds G => match ds with
  | [.int i] => i.natAbs.log2 < 1920 ∧ G (.str (toString i))
  | [.str s] => G (.str s)
  | [.tup l] => ShowOk (.tup l) ∧ G (.str (shown (.tup l)))
  | [.lst l] => ShowOk (.lst l) ∧ G (.str (shown (.lst l)))
  | _ => False
theorem call_strT {X : Cx} (sy : SysOk X.K) (gd : X.A.guards = some []) (hu : X.A.units + 64 < cLine) : CallR X (.type "str") (fun xs H Q => ∃ F k a d, xs = [.ref a] ∧ (∀ a o, F a = some o → H a = some o) ∧ At X.K F k d (.ref a) ∧ ShowOk d ∧ Q (.str (shown d)) H) := by
  rintro pins s σ H xs us Q I r ⟨F, k, a, d, rfl, sub, hA, hs, q⟩
  obtain ⟨u, rfl, ru⟩ := vals1 r
  obtain ⟨as, q1, q2⟩ := at_reads sy I sub d _ u hs.pl hA ru
  have hsm : (py d).hasDict = true → sysModules ∉ as := fun _ => q2
  cases ru
  exact str_of_reads q1 hs.sh hsm gd (by have := hs.dp; omega) (fun _ _ z => z) (fun h' t tk kp => ⟨.str _, H, I.kept kp, ⟨_, rfl⟩, q⟩) hs.sz
theorem cd_strU {X : Cx} (sy : SysOk X.K) (gd : X.A.guards = some []) (hu : X.A.units + 64 < cLine) : CallD X (.type "str") cStrU := ⟨_, call_or call_str_int (call_or SkE.call_str_str (call_strT sy gd hu)), fun e env oa σ F H k vs ds Q G R a p q => by
  unfold cStrU at p
  split at p
  · simp only [Ats, At] at a
    obtain ⟨v, _, rfl, rfl, rfl⟩ := a
    exact .inl ⟨_, rfl, p.1, q _ _ oa F H k p.2 R (Grow.refl _ _) (by simp only [At])⟩
  · simp only [Ats, At] at a
    obtain ⟨v, _, rfl, rfl, rfl⟩ := a
    exact .inr (.inl ⟨_, rfl, q _ _ oa F H k p R (Grow.refl _ _) (by simp only [At])⟩)
  · simp only [Ats] at a
    obtain ⟨v, _, rfl, a1, rfl⟩ := a
    have a2 := a1
    simp only [At] at a2
    obtain ⟨ad, vs, rfl, _⟩ := a2
    exact .inr (.inr ⟨F, k, ad, _, rfl, R.wd.sub, a1, p.1, q _ _ oa F H k p.2 R (Grow.refl _ _) (by simp only [At])⟩)
  · simp only [Ats] at a
    obtain ⟨v, _, rfl, a1, rfl⟩ := a
    have a2 := a1
    simp only [At] at a2
    obtain ⟨ad, vs, rfl, _⟩ := a2
    exact .inr (.inr ⟨F, k, ad, _, rfl, R.wd.sub, a1, p.1, q _ _ oa F H k p.2 R (Grow.refl _ _) (by simp only [At])⟩)
  · exact p.elim⟩
section
variable {G : D → Prop} {i : Int} {s : Str} {l : List D}
@[simp ↓] theorem c_strU_int : cStrU [.int i] G = (i.natAbs.log2 < 1920 ∧ G (.str (toString i))) := rfl
@[simp ↓] theorem c_strU_str : cStrU [.str s] G = G (.str s) := rfl
@[simp ↓] theorem c_strU_tup : cStrU [.tup l] G = (ShowOk (.tup l) ∧ G (.str (shown (.tup l)))) := rfl
@[simp ↓] theorem c_strU_lst : cStrU [.lst l] G = (ShowOk (.lst l) ∧ G (.str (shown (.lst l)))) := rfl
end
/-- texts whose signs are small enough -/
def Lf (s : Str) : Prop := s.cps.toList.all (fun c => decide (c < 16 ^ 8)) = true
theorem Lf.app {a b : Str} (ha : Lf a) (hb : Lf b) : Lf (a ++ b) := by
  unfold Lf at *
  have e : (a ++ b).cps.toList = a.cps.toList ++ b.cps.toList := by
    show (a.cps ++ b.cps).toList = _
    simp
  rw [e, List.all_append, ha, hb]
  rfl
theorem Lf.of (s : String) : Lf (Str.ofString s) := by
  unfold Lf
  have := leaf_text s
  simpa only [leaf] using this
theorem Lf.join : ∀ {ts : List Str}, (∀ t ∈ ts, Lf t) → Lf (Str.join ", " ts)
  | [], _ => Lf.of ""
  | [x], h => h x (by simp)
  | x :: y :: r, h => by
    have ih := Lf.join (ts := y :: r) fun t ht => h t (List.mem_cons_of_mem _ ht)
    exact ((h x (by simp)).app (Lf.of ", ")).app ih
theorem leaf_shown {l : List D} (h : ∀ d ∈ l, ∃ i, d = .int i) : leaf (.str (shown (.tup l))) = true := by
  have key : ∀ {l : List D}, (∀ d ∈ l, ∃ i, d = .int i) → ∀ t ∈ PyData.shownAll (pys l), Lf t := by
    intro l
    induction l with
    | nil => intro _ t ht; simp [pys, PyData.shownAll] at ht
    | cons d l ih =>
      intro h t ht
      obtain ⟨i, rfl⟩ := h d (by simp)
      simp only [pys, py, PyData.shownAll, List.mem_cons] at ht
      rcases ht with rfl | ht
      · simp only [PyData.shown]
        exact Lf.of _
      · exact ih (fun d hd => h d (List.mem_cons_of_mem _ hd)) t ht
  have e : Lf (shown (.tup l)) := by
    unfold shown
    simp only [py, PyData.shown, tupleText]
    refine ((Lf.of "(").app (Lf.join (key h))).app ?_
    split
    · exact Lf.of _
    · exact Lf.of _
  unfold Lf at e
  simpa only [leaf] using e
end DL
/-! ### a whole expression that looks at a list that is still grown -/
namespace DL
open PySem PySem.Spec L2
def noOwns : Evn → Bool
  | [] => true
  | s :: l => !isOwn (some s) && noOwns l
def onlyO : Nat → Evn → Bool
  | _, [] => true
  | 0, _ :: l => noOwns l
  | i + 1, s :: l => !isOwn (some s) && onlyO i l
theorem noOwns_no : ∀ {l : Evn} {j : Nat} {ds : List D}, noOwns l = true → l[j]? = some (.own ds) → False
  | s :: l, 0, ds, h, e => by
    simp only [List.getElem?_cons_zero, Option.some.injEq] at e
    subst e
    simp [noOwns, isOwn] at h
  | s :: l, j + 1, ds, h, e => by
    simp only [noOwns, Bool.and_eq_true] at h
    exact noOwns_no h.2 (by simpa using e)
theorem onlyO_is : ∀ {i : Nat} {l : Evn} {j : Nat} {ds : List D}, onlyO i l = true → l[j]? = some (.own ds) → j = i
  | _, [], j, ds, _, e => by simp at e
  | 0, s :: l, 0, ds, _, _ => rfl
  | 0, s :: l, j + 1, ds, h, e => (noOwns_no (l := l) (j := j) h (by simpa using e)).elim
  | i + 1, s :: l, 0, ds, h, e => by
    simp only [List.getElem?_cons_zero, Option.some.injEq] at e
    subst e
    simp [onlyO, isOwn] at h
  | i + 1, s :: l, j + 1, ds, h, e => by
    simp only [onlyO, Bool.and_eq_true] at h
    rw [onlyO_is (i := i) (l := l) (j := j) h.2 (by simpa using e)]
section
variable {K : Kx} {e : Ent} {env : Evn} {oa : Nat → Addr} {σ : L2.St} {F H : Hp} {k : Dk}
theorem Rel.peek (R : Rel K e env oa σ F H k) {i : Nat} {ds : List D} (hi : env[i]? = some (.own ds)) (ho : onlyO i env = true) :
    ∃ F', Rel K e (env.set i (.val (.lst ds))) oa σ F' H k ∧ Grow F F' k k ∧ ∀ oa3 F3 H3 k3, Rel K e (env.set i (.val (.lst ds))) oa3 σ F3 H3 k3 → Grow F' F3 k k3 → ∃ F4, Rel K e env oa σ F4 H3 k3 ∧ Grow F F4 k k3 := by
  have W := R.wd
  obtain ⟨h1, ⟨vs, h2, h3⟩, h4, h5, h6⟩ := R.own i ds hi
  have g : Grow F (upd F (oa i) (.lst vs)) k k := ⟨fun a u q => by rw [upd_ne (ne_of_none q h4)]; exact q, fun _ q => q⟩
  have sub' : ∀ a o, upd F (oa i) (.lst vs) a = some o → H a = some o := fun a o q => by
    by_cases z : a = oa i
    · subst z
      rw [upd_same] at q
      cases q
      exact h2
    · rw [upd_ne z] at q
      exact W.sub a o q
  have lt : i < env.length := by
    rcases Nat.lt_or_ge i env.length with h | h
    · exact h
    · rw [List.getElem?_eq_none h] at hi; cases hi
  have W0 : Wd (tabK K) e (upd F (oa i) (.lst vs)) H k := ⟨sub', fun a o q => g.1 a o (W.ini a o q), fun a o q => by
    by_cases z : a = oa i
    · subst z; exact .inr h5
    · rw [upd_ne z] at q; exact W.new a o q, W.fr, W.kk1, W.kk2, fun p hp => by
    obtain ⟨d1, d2, d3⟩ := W.dk p hp
    obtain ⟨n1, n2⟩ := h6 p hp
    exact ⟨d1, by rw [upd_ne (Ne.symm n1)]; exact d2, by rw [upd_ne (Ne.symm n2)]; exact d3⟩, W.tb, fun q hq => by rw [upd_ne (Ne.symm (tabs_nlst W.tb h2 q hq))]; exact W.tbf q hq⟩
  have val' : ∀ (j : Nat) (d : D), (env.set i (.val (.lst ds)))[j]? = some (.val d) → ∃ v, σ[j]? = some (some v) ∧ At K.f (upd F (oa i) (.lst vs)) k d v := fun j d hj => by
    by_cases z : j = i
    · subst z
      rw [List.getElem?_set_self lt] at hj
      cases hj
      refine ⟨_, h1, ?_⟩
      simp only [At]
      exact ⟨_, vs, rfl, upd_same, Ats.grow g _ _ h3⟩
    · rw [List.getElem?_set_ne (Ne.symm z)] at hj
      obtain ⟨v, q1, q2⟩ := R.val j d hj
      exact ⟨v, q1, At.grow g _ _ q2⟩
  have noown : ∀ (j : Nat) (es : List D), (env.set i (.val (.lst ds)))[j]? = some (.own es) → False := fun j es hj => by
    by_cases z : j = i
    · subst z
      rw [List.getElem?_set_self lt] at hj
      cases hj
    · rw [List.getElem?_set_ne (Ne.symm z)] at hj
      exact z (onlyO_is ho hj)
  have R0 : Rel0 K.f e (env.set i (.val (.lst ds))) oa σ (upd F (oa i) (.lst vs)) H k := ⟨W0, by rw [List.length_set]; exact R.len, val', fun j es hj => (noown j es hj).elim, fun j j' es es' hj => (noown j es hj).elim⟩
  refine ⟨_, R.up R0 g, g, fun oa3 F3 H3 k3 R3 g3 => ?_⟩
  have V := R3.wd
  have ne : ∀ a o, F a = some o → a ≠ oa i := fun a o q => ne_of_none q h4
  have f3 : F3 (oa i) = some (.lst vs) := g3.1 _ _ upd_same
  have g4 : Grow F (fun a => if a = oa i then none else F3 a) k k3 := ⟨fun a o q => by
    show (if a = oa i then none else F3 a) = some o
    rw [if_neg (ne a o q)]
    exact g3.1 a o (g.1 a o q), g3.2⟩
  have k3n : ∀ p, k3 = some p → oa i ≠ p.1 ∧ oa i ≠ p.2 := fun p hp => by
    obtain ⟨d1, d2, d3⟩ := V.dk p hp
    exact ⟨fun z => (by rw [← z, f3] at d2; cases d2), fun z => (by rw [← z, f3] at d3; cases d3)⟩
  have V4 : Wd (tabK K) e (fun a => if a = oa i then none else F3 a) H3 k3 := by
    refine ⟨fun a o q => ?_, fun a o q => g4.1 a o (W.ini a o q), fun a o q => ?_, V.fr, V.kk1, V.kk2, fun p hp => ?_, V.tb, fun q hq => ite_none (V.tbf q hq)⟩
    · by_cases z : a = oa i
      · rw [if_pos z] at q; cases q
      · rw [if_neg z] at q; exact V.sub a o q
    · by_cases z : a = oa i
      · rw [if_pos z] at q; cases q
      · rw [if_neg z] at q; exact V.new a o q
    · obtain ⟨d1, d2, d3⟩ := V.dk p hp
      refine ⟨d1, ?_, ?_⟩
      · show (if p.1 = oa i then none else F3 p.1) = none
        split
        · rfl
        · exact d2
      · show (if p.2 = oa i then none else F3 p.2) = none
        split
        · rfl
        · exact d3
  refine ⟨_, R.up ⟨V4, R.len, fun j d hj => ?_, fun j es hj => ?_, R.inj⟩ g4, g4⟩
  · obtain ⟨v, q1, q2⟩ := R.val j d hj
    exact ⟨v, q1, At.grow g4 _ _ q2⟩
  · have z := onlyO_is ho hj
    subst z
    rw [hi] at hj
    cases hj
    exact ⟨h1, ⟨vs, V.sub _ _ f3, Ats.grow g4 _ _ h3⟩, if_pos rfl, h5, k3n⟩
end
def dPeek (i : Nat) (f : DE) : DE := fun env Q => match env[i]? with
  | some (.own ds) => onlyO i env = true ∧ f (env.set i (.val (.lst ds))) fun d env1 => plainR d = true ∧ env1 = env.set i (.val (.lst ds)) ∧ Q d env
  | _ => f env Q
def dPeekT (i : Nat) (t : DT) : DT := fun env Q => match env[i]? with
  | some (.own ds) => onlyO i env = true ∧ t (env.set i (.val (.lst ds))) fun b env1 => env1 = env.set i (.val (.lst ds)) ∧ Q b env
  | _ => t env Q
section
variable {wx : DX} {WW : WX} {ZZ : Fz} {X : Cx} {a b : Expr} {f : DE} {t : DT} {i : Nat}
theorem dl_peek (ha : PE X a (lift (X.kx wx WW ZZ) f)) : PE X a (lift (X.kx wx WW ZZ) (dPeek i f)) := ha.w fun σ H Q ⟨e, env, oa, F, k, P, R, p, q⟩ => by
  unfold dPeek at p
  split at p
  · rename_i ds hi
    obtain ⟨F', R', g, back⟩ := R.peek hi p.1
    refine ⟨e, _, oa, F', k, _, R', p.2, fun d env1 v oa3 F3 H3 k3 p3 R3 g3 a3 => ?_⟩
    obtain ⟨pz, rfl, p4⟩ := p3
    obtain ⟨F4, R4, g4⟩ := back oa3 F3 H3 k3 R3 g3
    exact q d env v oa F4 H3 k3 p4 R4 g4 (plainR.at pz a3)
  · exact ⟨e, env, oa, F, k, P, R, p, q⟩
theorem dt_peek (ha : PT X a (liftT (X.kx wx WW ZZ) t)) : PT X a (liftT (X.kx wx WW ZZ) (dPeekT i t)) := ha.w fun σ H Q ⟨e, env, oa, F, k, P, R, p, q⟩ => by
  unfold dPeekT at p
  split at p
  · rename_i ds hi
    obtain ⟨F', R', g, back⟩ := R.peek hi p.1
    refine ⟨e, _, oa, F', k, _, R', p.2, fun b env1 oa3 F3 H3 k3 p3 R3 g3 => ?_⟩
    obtain ⟨rfl, p4⟩ := p3
    obtain ⟨F4, R4, g4⟩ := back oa3 F3 H3 k3 R3 g3
    exact q b env oa F4 H3 k3 p4 R4 g4
  · exact ⟨e, env, oa, F, k, P, R, p, q⟩
end
section
variable {env : Evn} {Q : D → Evn → Prop} {QT : Bool → Evn → Prop} {f : DE} {t : DT} {i : Nat} {ds : List D} {d : D}
@[simp ↓] theorem e_Peeko (h : env[i]? = some (.own ds)) : dPeek i f env Q = (onlyO i env = true ∧ f (env.set i (.val (.lst ds))) fun d env1 => plainR d = true ∧ env1 = env.set i (.val (.lst ds)) ∧ Q d env) := by unfold dPeek; rw [h]
@[simp ↓] theorem e_Peekv (h : env[i]? = some (.val d)) : dPeek i f env Q = f env Q := by unfold dPeek; rw [h]
@[simp ↓] theorem e_PeekTo (h : env[i]? = some (.own ds)) : dPeekT i t env QT = (onlyO i env = true ∧ t (env.set i (.val (.lst ds))) fun b env1 => env1 = env.set i (.val (.lst ds)) ∧ QT b env) := by unfold dPeekT; rw [h]
@[simp ↓] theorem e_PeekTv (h : env[i]? = some (.val d)) : dPeekT i t env QT = t env QT := by unfold dPeekT; rw [h]
@[simp] theorem onlyO_nil : onlyO i [] = true := by cases i <;> rfl
@[simp] theorem onlyO_zero {s : Slot} {l : Evn} : onlyO 0 (s :: l) = noOwns l := rfl
@[simp] theorem onlyO_succ {s : Slot} {l : Evn} : onlyO (i + 1) (s :: l) = (!isOwn (some s) && onlyO i l) := rfl
@[simp] theorem noOwns_nil : noOwns [] = true := rfl
@[simp] theorem noOwns_cons {s : Slot} {l : Evn} : noOwns (s :: l) = (!isOwn (some s) && noOwns l) := rfl
@[simp] theorem isOwn_val : isOwn (some (.val d)) = false := rfl
@[simp] theorem isOwn_no : isOwn (some .no) = false := rfl
end
end DL
namespace DL
open PySem PySem.Spec L2
/-! ### the hook, the module table among what is read -/
end DL
namespace DL
open PySem PySem.Spec L2
/-! ### texts of numbers within tuples and lists -/
mutual
def numD : D → Bool
  | .non => true
  | .bl _ => true
  | .int _ => true
  | .tup l => numDs l
  | .lst l => numDs l
  | _ => false
def numDs : List D → Bool
  | [] => true
  | d :: l => numD d && numDs l
end
theorem Lf.tupT {ts : List Str} (h : ∀ t ∈ ts, Lf t) : Lf (tupleText ts) := by
  unfold tupleText
  refine ((Lf.of "(").app (Lf.join h)).app ?_
  split
  · exact Lf.of _
  · exact Lf.of _
theorem Lf.lstT {ts : List Str} (h : ∀ t ∈ ts, Lf t) : Lf (listText ts) := by
  rw [listText_eq_join]
  exact ((Lf.of "[").app (Lf.join h)).app (Lf.of "]")
mutual
theorem num_shown : ∀ d : D, numD d = true → Lf (py d).shown
  | .non, _ => Lf.of _
  | .bl b, _ => by simp only [py, PyData.shown]; cases b <;> exact Lf.of _
  | .int _, _ => by simp only [py, PyData.shown]; exact Lf.of _
  | .tup l, h => by simp only [py, PyData.shown]; exact Lf.tupT (nums_shown l (by simpa only [numD] using h))
  | .lst l, h => by simp only [py, PyData.shown]; exact Lf.lstT (nums_shown l (by simpa only [numD] using h))
  | .dic _, h => by simp [numD] at h
  | .str _, h => by simp [numD] at h
  | .raw _, h => by simp [numD] at h
  | .deck _, h => by simp [numD] at h
  | .scr _, h => by simp [numD] at h
theorem nums_shown : ∀ l : List D, numDs l = true → ∀ t ∈ PyData.shownAll (pys l), Lf t
  | [], _, t, ht => by simp [pys, PyData.shownAll] at ht
  | d :: l, h, t, ht => by
    simp only [numDs, Bool.and_eq_true] at h
    simp only [pys, PyData.shownAll, List.mem_cons] at ht
    rcases ht with rfl | ht
    · exact num_shown d h.1
    · exact nums_shown l h.2 t ht
end
theorem FD.shown {k m : Nat} {d : D} (h : FD k m d) (hn : numD d = true) : FD 0 (1 + 110 * m) (.str (shown d)) := by
  refine ⟨?_, by simp [dep], ?_⟩
  · have := num_shown d hn
    unfold Lf at this
    simpa only [leaf, DL.shown] using this
  · have h1 := len_leaf d h.lf
    have h2 := h.sz
    have e : (DL.shown d).cps.size = (py d).shown.length := rfl
    simp only [nds, e]
    omega
/-- one's own list, four times -/
theorem FD.four {k m : Nat} {d : D} (h : FD k m d) (n : Nat) : FD (k + 1) (1 + n * m) (.lst (List.replicate n d)) := FD.lst (fun e he => by rw [(List.mem_replicate.mp he).2]; exact h) (by simp)
theorem FD.cut {k m : Nat} {l : List D} (h : FD (k + 1) m (.tup l)) (a b : Option Int) : FD (k + 1) m (.tup (cutD l a b)) := by
  have mem : ∀ d ∈ cutD l a b, d ∈ l := fun d hd => cut_mem hd
  have lf : ∀ {l : List D}, leafs l = true → ∀ d ∈ l, leaf d = true := by
    intro l
    induction l with
    | nil => intro _ d hd; simp at hd
    | cons e l ih =>
      intro h d hd
      simp only [leafs, Bool.and_eq_true] at h
      rcases List.mem_cons.mp hd with rfl | hd
      · exact h.1
      · exact ih h.2 d hd
  have dp : ∀ {l : List D}, ∀ d ∈ l, dep d ≤ deps l := by
    intro l
    induction l with
    | nil => intro d hd; simp at hd
    | cons e l ih =>
      intro d hd
      simp only [deps]
      rcases List.mem_cons.mp hd with rfl | hd
      · omega
      · have := ih d hd; omega
  have sub : ∀ {l m : List D}, l.Sublist m → ndss l ≤ ndss m := by
    intro l m s
    induction s with
    | slnil => exact Nat.le_refl _
    | cons a _ ih => simp only [ndss]; omega
    | cons_cons a _ ih => simp only [ndss]; omega
  have sl : (cutD l a b).Sublist l := (List.take_sublist _ _).trans (List.drop_sublist _ _)
  have h1 := h.lf
  have h2 := h.dp
  have h3 := h.sz
  simp only [leaf] at h1
  simp only [dep] at h2
  simp only [nds] at h3
  have s := sub sl
  refine ⟨leafs_of fun d hd => lf h1 d (mem d hd), ?_, by simp only [nds]; omega⟩
  simp only [dep]
  have := deps_of (l := cutD l a b) (k := k) fun d hd => by have := dp d (mem d hd); omega
  omega
end DL
namespace DL
open PySem PySem.Spec L2
/-! ### sizes of data, put together -/
theorem fdi {l : List D} {n : Nat} (h : ∀ d ∈ l, FD 0 1 d) (hl : l.length ≤ n) : FD 1 (1 + n * 1) (.tup l) := FD.tup h hl
theorem fd2 {n : Nat} (hn : n ≤ 330) {x y : Int} (hx : Lt n x) (hy : Lt n y) : FD 1 3 (.tup [.int x, .int y]) := FD.tup (k := 0) (m := 1) (n := 2) (by simp; exact ⟨FD.int' (n := n) hn, FD.int' (n := n) hn⟩) (by simp)
theorem fd_dec {d : D} (h : (leaf d && decide (dep d ≤ 5) && decide (nds d ≤ 100)) = true) : FD 5 100 d := by
  simp only [Bool.and_eq_true, decide_eq_true_eq] at h
  exact ⟨h.1.1, h.1.2, h.2⟩
/-- a list to draw from -/
structure Ch (k m : Nat) (l : List D) : Prop where
  ne : l ≠ []
  le : l.length ≤ 40
  fd : ∀ d ∈ l, FD k m d
theorem num_ints {l : List D} (h : ∀ d ∈ l, ∃ i, d = .int i) : numD (.tup l) = true := by
  have : ∀ l : List D, (∀ d ∈ l, ∃ i, d = .int i) → numDs l = true := by
    intro l
    induction l with
    | nil => intro _; rfl
    | cons d l ih =>
      intro h
      obtain ⟨i, rfl⟩ := h d (by simp)
      simp only [numDs, numD, Bool.true_and]
      exact ih fun e he => h e (List.mem_cons_of_mem _ he)
  exact this l h
theorem fd4 {n : Nat} (hn : n ≤ 330) {p q r s : Int} (hp : Lt n p) (hq : Lt n q) (hr : Lt n r) (hs : Lt n s) : FD 1 5 (.tup [.int p, .int q, .int r, .int s]) := FD.tup (k := 0) (m := 1) (n := 4) (by simp; exact ⟨FD.int' (n := n) hn, FD.int' (n := n) hn, FD.int' (n := n) hn, FD.int' (n := n) hn⟩) (by simp)
theorem ndss_app : ∀ l m : List D, ndss (l ++ m) = ndss l + ndss m
  | [], m => by simp [ndss]
  | d :: l, m => by simp only [List.cons_append, ndss, ndss_app l m]; omega
theorem leafs_app : ∀ l m : List D, leafs (l ++ m) = (leafs l && leafs m)
  | [], m => by simp [leafs]
  | d :: l, m => by simp only [List.cons_append, leafs, leafs_app l m, Bool.and_assoc]
theorem deps_app : ∀ l m : List D, deps (l ++ m) = max (deps l) (deps m)
  | [], m => by simp [deps]
  | d :: l, m => by simp only [List.cons_append, deps, deps_app l m, Nat.max_assoc]
theorem FD.app {k m n : Nat} {l r : List D} (h : FD (k + 1) m (.tup l)) (g : FD (k + 1) n (.tup r)) : FD (k + 1) (m + n) (.tup (l ++ r)) := by
  obtain ⟨h1, h2, h3⟩ := h
  obtain ⟨g1, g2, g3⟩ := g
  simp only [leaf, dep, nds] at h1 h2 h3 g1 g2 g3
  exact ⟨by simp only [leaf, leafs_app, h1, g1, Bool.and_self], by simp only [dep, deps_app]; omega, by simp only [nds, ndss_app]; omega⟩
theorem FD.one {k m : Nat} {d : D} (h : FD k m d) : FD (k + 1) (1 + 1 * m) (.tup [d]) := FD.tup (n := 1) (by simp; exact h) (by simp)
/-- an item is exchanged -/
theorem FD.swap {k m n : Nat} {l : List D} {a b : Option Int} {d : D} (h : FD (k + 1) m (.tup l)) (hd : FD k n d) : FD (k + 1) (m + (1 + 1 * n) + m) (.tup (cutD l a b ++ [d] ++ cutD l b a)) := ((h.cut a b).app hd.one).app (h.cut b a)
theorem FD.swap' {k m n : Nat} {l : List D} {a b a' b' : Option Int} {d : D} (h : FD (k + 1) m (.tup l)) (hd : FD k n d) : FD (k + 1) (m + ((1 + 1 * n) + m)) (.tup (cutD l a b ++ d :: cutD l a' b')) := (h.cut a b).app (hd.one.app (h.cut a' b'))
def IB (w : Nat) (d : D) : Prop := ∃ i : Int, d = .int i ∧ Lt w i
theorem ibs : ∀ {l : List D} {w : Nat}, (∀ d ∈ l, IB w d) → ∃ ns : List Int, l = ns.map D.int ∧ ∀ n ∈ ns, Lt w n
  | [], _, _ => ⟨[], rfl, by simp⟩
  | d :: l, w, h => by
    obtain ⟨i, rfl, hi⟩ := h d (by simp)
    obtain ⟨ns, rfl, hn⟩ := ibs (l := l) (w := w) fun e he => h e (List.mem_cons_of_mem _ he)
    refine ⟨i :: ns, rfl, fun n hm => ?_⟩
    rcases List.mem_cons.mp hm with rfl | hm
    · exact hi
    · exact hn n hm
end DL
namespace DL
open PySem PySem.Spec L2
/-! ### places and relations, plainly -/
structure Ok (d : D) : Prop where
  lf : leaf d = true
  sz : nds d ≤ 100000
def plD : D → Bool
  | .tup [.int a, .int b] => (decide (0 < b) && Nat.gcd a.natAbs b.natAbs == 1) || (a == 1 && b == 0)
  | _ => false
def plV (a b : Int) : D := if b = 0 then .tup [.int 1, .int 0] else if 0 < b then .tup [.int (a / Nat.gcd a.natAbs b.natAbs), .int (b / Nat.gcd a.natAbs b.natAbs)] else .tup [.int (-(a / Nat.gcd a.natAbs b.natAbs)), .int (-(b / Nat.gcd a.natAbs b.natAbs))]
def gcdL (ns : List Int) : Nat := ns.foldl (fun w n => Nat.gcd w n.natAbs) 0
def sgL : List Int → Int
  | [] => 0
  | n :: l => if n = 0 then sgL l else if 0 < n then 1 else -1
def shN (ns : List Int) : List Int := ns.map fun n => n / gcdL ns * sgL ns
def relN (ns : List Int) : Bool := (ns.any fun n => !(n == 0)) && decide (shN ns = ns)
def toI : D → Int
  | .int i => i
  | _ => 0
def toP : D → Int × Int
  | .tup [.int a, .int b] => (a, b)
  | _ => (0, 0)
def relD : D → Bool
  | .tup l => decide (l.length = 2 ∨ l.length = 4 ∨ l.length = 8 ∨ l.length = 16 ∨ l.length = 32 ∨ l.length = 64) && l.all intD && relN (l.map toI)
  | _ => false
def plsD (n : Int) : D → Bool
  | .tup l => decide ((l.length : Int) = n) && l.all plD
  | _ => false
def Cn (m k : Nat) : Prop := m ≤ 2 ^ k ∧ ∀ j, j < k → 2 ^ j < m
def halfN (x y : Int) (ns : List Int) : List Int := List.zipWith (fun a b => x * a + y * b) (ns.take (ns.length / 2)) (ns.drop (ns.length / 2))
def valN : List Int → List (Int × Int) → Int
  | ns, [] => ns.headD 0
  | ns, p :: ps => valN (halfN p.1 p.2 ns) ps
def dls (d : D) : Nat := match d with
  | .tup l => if l.length = 2 then 1 else if l.length = 4 then 2 else if l.length = 8 then 3 else if l.length = 16 then 4 else if l.length = 32 then 5 else 6
  | _ => 0
def vD : D → D → Int
  | .tup l, .tup m => valN (l.map toI) (m.map toP)
  | _, _ => 0
def S_shortened : SD := fun ds P _ => ∃ ns : List Int, ds = [.tup (ns.map D.int)] ∧ ns.length ≤ 1000 ∧ (∃ n ∈ ns, n ≠ 0) ∧ (∀ n ∈ ns, Lt 1000 n) ∧ P (.tup ((shN ns).map D.int))
def S_is_place : SD := fun ds P _ => match ds with
  | [d] => Ok d ∧ P (.bl (plD d))
  | _ => False
def S_count_of : SD := fun ds P _ => match ds with
  | [.tup l] => l.length ≤ 1000 ∧ ∀ k : Nat, Cn l.length k → P (.int k)
  | _ => False
def S_is_short : SD := fun ds P _ => ∃ ns : List Int, ds = [.tup (ns.map D.int)] ∧ ns.length ≤ 64 ∧ (∀ n ∈ ns, Lt 400 n) ∧ P (.bl (relN ns))
def S_is_relation_tuple : SD := fun ds P _ => match ds with
  | [d] => Ok d ∧ P (.bl (relD d))
  | _ => False
def S_check_relation : SD := fun ds P PX => match ds with
  | [d] => Ok d ∧ (relD d = false → PX ("BadRelation", [("thing", d)])) ∧ (relD d = true → P .non)
  | _ => False
def S_check_places : SD := fun ds P PX => match ds with
  | [d, .int n] => Ok d ∧ (plsD n d = false → PX ("BadPlaces", [("thing", d)])) ∧ (plsD n d = true → P .non)
  | _ => False
def S_raw_value : SD := fun ds P _ => ∃ (ns : List Int) (ps : List (Int × Int)), ds = [.tup (ns.map D.int), .tup (ps.map fun p => .tup [.int p.1, .int p.2])] ∧ ns.length = 2 ^ ps.length ∧ ps.length ≤ 6 ∧ (∀ n ∈ ns, Lt 400 n) ∧ (∀ p ∈ ps, Lt 400 p.1 ∧ Lt 400 p.2) ∧ P (.int (valN ns ps))
def S_is_relation : SD := fun ds P _ => match ds with
  | [d] => Ok d ∧ P (.bl (relD d))
  | _ => False
def S_dials_of : SD := fun ds P _ => match ds with
  | [.tup l] => l.length ≤ 1000 ∧ ∀ k : Nat, Cn l.length k → P (.int k)
  | _ => False
def S_value : SD := fun ds P PX => match ds with
  | [a, b] => (Ok a ∧ Ok b) ∧ (relD a = false → PX ("BadRelation", [("thing", a)])) ∧ (relD a = true → plsD (dls a) b = false → PX ("BadPlaces", [("thing", b)])) ∧ (relD a = true → plsD (dls a) b = true → P (.int (vD a b)))
  | _ => False
def S_holds : SD := fun ds P PX => match ds with
  | [a, b] => (Ok a ∧ Ok b) ∧ (relD a = false → PX ("BadRelation", [("thing", a)])) ∧ (relD a = true → plsD (dls a) b = false → PX ("BadPlaces", [("thing", b)])) ∧ (relD a = true → plsD (dls a) b = true → P (.bl (vD a b == 0)))
  | _ => False
abbrev E0' (Q : D → Prop) : DEnd := { nx := fun _ => Q .non, rt := Q }
@[simp] theorem ix0 {a : D} {l : List D} : ixD (a :: l) 0 = some a := rfl
@[simp] theorem ix1 {a b : D} {l : List D} : ixD (a :: b :: l) 1 = some b := rfl
@[simp] theorem ix2 {a b c : D} {l : List D} : ixD (a :: b :: c :: l) 2 = some c := rfl
@[simp] theorem ix3 {a b c e : D} {l : List D} : ixD (a :: b :: c :: e :: l) 3 = some e := rfl
theorem leaf_lt {i : Int} (h : i.natAbs < 10 ^ 100) : Lt 400 i := ⟨Nat.lt_of_lt_of_le h (by decide +kernel)⟩
theorem pl_no {d : D} (h : areD d 2 = false) : plD d = false := by
  unfold plD
  split
  · simp [areD, intD] at h
  · rfl
@[simp] theorem flat_two {a b : Int} : eqOk (.tup [.int a, .int b]) := .of (by simp [flatD, flatDs]) (by simp [lvl, lvls])
theorem fold_dvd : ∀ (l : List Int) (x : Nat), l.foldl (fun w n => Nat.gcd w n.natAbs) x ∣ x ∧ ∀ n ∈ l, ((l.foldl (fun w n => Nat.gcd w n.natAbs) x : Nat) : Int) ∣ n
  | [], x => ⟨Nat.dvd_refl _, by simp⟩
  | i :: l, x => by
    obtain ⟨h1, h2⟩ := fold_dvd l (Nat.gcd x i.natAbs)
    simp only [List.foldl_cons]
    refine ⟨Nat.dvd_trans h1 (Nat.gcd_dvd_left _ _), fun n hn => ?_⟩
    rcases List.mem_cons.mp hn with rfl | hn
    · exact Int.ofNat_dvd_left.mpr (Nat.dvd_trans h1 (Nat.gcd_dvd_right _ _))
    · exact h2 n hn
theorem gcdL_dvd {ns : List Int} {n : Int} (h : n ∈ ns) : ((gcdL ns : Nat) : Int) ∣ n := (fold_dvd ns 0).2 n h
theorem gcdL_pos {ns : List Int} {n : Int} (h : n ∈ ns) (h0 : n ≠ 0) : 0 < gcdL ns := by
  rcases Nat.eq_zero_or_pos (gcdL ns) with e | e
  · have := gcdL_dvd h
    rw [e] at this
    exact absurd (Int.zero_dvd.mp (by simpa using this)) h0
  · exact e
theorem gcdL_le {ns : List Int} {n : Int} (h : n ∈ ns) (h0 : n ≠ 0) : gcdL ns ≤ n.natAbs := Nat.le_of_dvd (by omega) (Int.ofNat_dvd_left.mp (gcdL_dvd h))
theorem sgL_is : ∀ {ns : List Int} {n : Int}, n ∈ ns → n ≠ 0 → sgL ns = 1 ∨ sgL ns = -1
  | i :: l, n, h, h0 => by
    unfold sgL
    by_cases hi : i = 0
    · rw [if_pos hi]
      rcases List.mem_cons.mp h with rfl | h
      · exact absurd hi h0
      · exact sgL_is h h0
    · rw [if_neg hi]
      split
      · exact .inl rfl
      · exact .inr rfl
theorem int_some {ns : List Int} : (ns.any fun n => !(n == 0)) = true ↔ ∃ n ∈ ns, n ≠ 0 := by simp
theorem eqv_ints : ∀ a b : List Int, eqvs (a.map D.int) (b.map D.int) = decide (a = b)
  | [], [] => rfl
  | [], b :: m => by simp
  | a :: l, [] => by simp
  | a :: l, b :: m => by
    simp only [List.map_cons, eqvs_cc, eqv_ints l m, eqv_int]
    rw [Bool.eq_iff_iff]
    simp
theorem all_is (ns : List Int) : ∀ d ∈ ns.map D.int, ∃ i, d = D.int i := fun d hd => by
  obtain ⟨i, _, rfl⟩ := List.mem_map.mp hd
  exact ⟨i, rfl⟩
theorem leafs_lt {ns : List Int} (h : leafs (ns.map D.int) = true) : ∀ n ∈ ns, Lt 400 n := by
  induction ns with
  | nil => simp
  | cons a l ih =>
    simp only [List.map_cons, leafs, leaf, Bool.and_eq_true, decide_eq_true_eq] at h
    intro n hn
    rcases List.mem_cons.mp hn with rfl | hn
    · exact leaf_lt h.1
    · exact ih h.2 n hn
theorem cn_uniq {m j k : Nat} (h1 : Cn m j) (h2 : Cn m k) : j = k := by
  rcases Nat.lt_trichotomy j k with h | h | h
  · have := h2.2 j h
    have := h1.1
    omega
  · exact h
  · have := h1.2 k h
    have := h2.1
    omega
theorem cn_pow (n : Nat) : Cn (2 ^ n) n := ⟨Nat.le_refl _, fun j hj => Nat.pow_lt_pow_right (by decide) hj⟩
theorem cn_small {m k : Nat} (h : Cn m k) (h1 : m ≤ 64) : k ≤ 6 := by
  rcases Nat.lt_or_ge 6 k with h2 | h2
  · have := h.2 6 h2
    omega
  · exact h2
theorem pow_small {k : Nat} (h : k ≤ 6) : (2 ^ k = 1 ∨ 2 ^ k = 2 ∨ 2 ^ k = 4 ∨ 2 ^ k = 8 ∨ 2 ^ k = 16 ∨ 2 ^ k = 32 ∨ 2 ^ k = 64) := by
  match k, h with
  | 0, _ | 1, _ | 2, _ | 3, _ | 4, _ | 5, _ | 6, _ => decide
theorem is_pow {m : Nat} (h : m = 2 ∨ m = 4 ∨ m = 8 ∨ m = 16 ∨ m = 32 ∨ m = 64) : ∃ n, m = 2 ^ (n + 1) ∧ n ≤ 5 := by
  rcases h with h | h | h | h | h | h
  · exact ⟨0, h, by decide⟩
  · exact ⟨1, h, by decide⟩
  · exact ⟨2, h, by decide⟩
  · exact ⟨3, h, by decide⟩
  · exact ⟨4, h, by decide⟩
  · exact ⟨5, h, by decide⟩
theorem toI_back {ns : List Int} : (ns.map D.int).map toI = ns := by
  rw [List.map_map]
  exact List.map_id'' (fun _ => rfl) _
theorem gcd_pos {a b : Int} (h : ¬ (a = 0 ∧ b = 0)) : 0 < Nat.gcd a.natAbs b.natAbs := by
  rcases Nat.eq_zero_or_pos (Nat.gcd a.natAbs b.natAbs) with e | e
  · rw [Nat.gcd_eq_zero_iff] at e
    exact absurd ⟨by omega, by omega⟩ h
  · exact e
theorem gcd_le {a b : Int} (h : ¬ (a = 0 ∧ b = 0)) : Nat.gcd a.natAbs b.natAbs ≤ max a.natAbs b.natAbs := by
  by_cases ha : a = 0
  · subst ha
    simp
  · have := Nat.gcd_le_left b.natAbs (by omega : 0 < a.natAbs)
    omega
theorem dvd_a (a b : Int) : ((Nat.gcd a.natAbs b.natAbs : Nat) : Int) ∣ a := Int.ofNat_dvd_left.mpr (Nat.gcd_dvd_left _ _)
theorem dvd_b (a b : Int) : ((Nat.gcd a.natAbs b.natAbs : Nat) : Int) ∣ b := Int.ofNat_dvd_left.mpr (Nat.gcd_dvd_right _ _)
def IsP (x y : Int) : Prop := (0 < y ∧ Nat.gcd x.natAbs y.natAbs = 1) ∨ (x = 1 ∧ y = 0)
theorem plV_mul {x y k : Int} (h : IsP x y) (hk : k ≠ 0) : plV (k * x) (k * y) = .tup [.int x, .int y] := by
  unfold plV
  rcases h with ⟨hy, hg⟩ | ⟨rfl, rfl⟩
  · have e : Nat.gcd (k * x).natAbs (k * y).natAbs = k.natAbs := by
      rw [Int.natAbs_mul, Int.natAbs_mul, Nat.gcd_mul_left, hg, Nat.mul_one]
    have hky : k * y ≠ 0 := Int.mul_ne_zero hk (by omega)
    rw [if_neg hky, e]
    by_cases kp : 0 < k
    · have : ((k.natAbs : Nat) : Int) = k := by omega
      rw [if_pos (Int.mul_pos kp hy), this, Int.mul_ediv_cancel_left _ hk, Int.mul_ediv_cancel_left _ hk]
    · have : ((k.natAbs : Nat) : Int) = -k := by omega
      have n : ¬ 0 < k * y := by
        have := Int.mul_pos (show 0 < -k by omega) hy
        rw [Int.neg_mul] at this
        omega
      rw [if_neg n, this, Int.ediv_neg, Int.ediv_neg, Int.mul_ediv_cancel_left _ hk, Int.mul_ediv_cancel_left _ hk, Int.neg_neg, Int.neg_neg]
  · simp
theorem plV_is {a b : Int} (h : ¬ (a = 0 ∧ b = 0)) : ∃ x y k : Int, IsP x y ∧ k ≠ 0 ∧ k.natAbs = Nat.gcd a.natAbs b.natAbs ∧ a = k * x ∧ b = k * y ∧ plV a b = .tup [.int x, .int y] := by
  have hg := gcd_pos h
  obtain ⟨x, hx⟩ := dvd_a a b
  obtain ⟨y, hy⟩ := dvd_b a b
  have hg' : ((Nat.gcd a.natAbs b.natAbs : Nat) : Int) ≠ 0 := by omega
  have hc : Nat.gcd x.natAbs y.natAbs = 1 := by
    have e : Nat.gcd a.natAbs b.natAbs = Nat.gcd a.natAbs b.natAbs * Nat.gcd x.natAbs y.natAbs := by
      have e1 : a.natAbs = Nat.gcd a.natAbs b.natAbs * x.natAbs := by
        have := congrArg Int.natAbs hx
        rw [Int.natAbs_mul, Int.natAbs_natCast] at this
        exact this
      have e2 : b.natAbs = Nat.gcd a.natAbs b.natAbs * y.natAbs := by
        have := congrArg Int.natAbs hy
        rw [Int.natAbs_mul, Int.natAbs_natCast] at this
        exact this
      have e3 := Nat.gcd_mul_left (Nat.gcd a.natAbs b.natAbs) x.natAbs y.natAbs
      rw [← e1, ← e2] at e3
      exact e3
    have := Nat.eq_of_mul_eq_mul_left hg (show Nat.gcd a.natAbs b.natAbs * Nat.gcd x.natAbs y.natAbs = Nat.gcd a.natAbs b.natAbs * 1 by omega)
    exact this
  have key : ∀ s t k : Int, IsP s t → k ≠ 0 → k.natAbs = Nat.gcd a.natAbs b.natAbs → a = k * s → b = k * t → ∃ x y k : Int, IsP x y ∧ k ≠ 0 ∧ k.natAbs = Nat.gcd a.natAbs b.natAbs ∧ a = k * x ∧ b = k * y ∧ plV a b = .tup [.int x, .int y] := by
    intro s t k h1 h2 h3 h4 h5
    refine ⟨s, t, k, h1, h2, h3, h4, h5, ?_⟩
    have := plV_mul h1 h2
    rw [← h4, ← h5] at this
    exact this
  by_cases y0 : 0 < y
  · exact key x y _ (.inl ⟨y0, hc⟩) hg' (by simp) hx hy
  · by_cases y1 : y = 0
    · subst y1
      have hx1 : x.natAbs = 1 := by simpa using hc
      rcases Int.natAbs_eq x with e | e
      · rw [hx1] at e
        exact key x 0 _ (.inr ⟨e, rfl⟩) hg' (by simp) hx hy
      · rw [hx1] at e
        refine key 1 0 (-(Nat.gcd a.natAbs b.natAbs : Nat)) (.inr ⟨rfl, rfl⟩) (by omega) (by simp) ?_ (by simpa using hy)
        rw [e] at hx
        omega
    · refine key (-x) (-y) (-(Nat.gcd a.natAbs b.natAbs : Nat)) (.inl ⟨by omega, by simpa using hc⟩) (by omega) (by simp) ?_ ?_
      · rw [Int.neg_mul_neg]; exact hx
      · rw [Int.neg_mul_neg]; exact hy
theorem isP_nz {x y : Int} (h : IsP x y) : ¬ (x = 0 ∧ y = 0) := by
  rintro ⟨rfl, rfl⟩
  rcases h with ⟨h, _⟩ | ⟨h, _⟩
  · omega
  · exact absurd h (by decide)
theorem pl_two {d : D} (h : plD d = true) : ∃ x y : Int, d = .tup [.int x, .int y] ∧ IsP x y := by
  unfold plD at h
  split at h
  · rename_i a b
    refine ⟨a, b, rfl, ?_⟩
    simp only [Bool.or_eq_true, Bool.and_eq_true, decide_eq_true_eq, beq_iff_eq] at h
    exact h
  · cases h
theorem non_ints : ∀ l : List D, (l.filterMap fun d => if intD d = true then none else some d).isEmpty = l.all intD
  | [] => rfl
  | d :: l => by
    rw [List.filterMap_cons, List.all_cons, ← non_ints l]
    cases e : intD d <;> simp
theorem leafs_mem : ∀ {l : List D}, leafs l = true → ∀ d ∈ l, leaf d = true
  | d :: l, h, e, he => by
    simp only [leafs, Bool.and_eq_true] at h
    rcases List.mem_cons.mp he with rfl | he
    · exact h.1
    · exact leafs_mem h.2 e he
theorem ndss_mem : ∀ {l : List D}, ∀ d ∈ l, nds d ≤ ndss l
  | d :: l, e, he => by
    simp only [ndss]
    rcases List.mem_cons.mp he with rfl | he
    · omega
    · have := ndss_mem e he
      omega
theorem Ok.mem {l : List D} (h : Ok (.tup l)) : ∀ d ∈ l, Ok d := fun d hd => ⟨leafs_mem (by simpa only [leaf] using h.lf) d hd, by
  have := ndss_mem d hd
  have := h.sz
  simp only [nds] at this
  omega⟩
theorem getN {ns : List Int} {i : Nat} (h : i < ns.length) : ixD (ns.map D.int) (i : Int) = some (.int (ns.getD i 0)) := by
  unfold ixD
  rw [if_pos (by omega), Int.toNat_natCast, List.getElem?_map, List.getElem?_eq_getElem h, List.getD_eq_getElem?_getD, List.getElem?_eq_getElem h]
  rfl
theorem half_len {x y : Int} {ns : List Int} {n : Nat} (h : ns.length = 2 ^ (n + 1)) : (halfN x y ns).length = 2 ^ n := by
  unfold halfN
  rw [List.length_zipWith, List.length_take, List.length_drop, h, Nat.pow_succ]
  have := Nat.two_pow_pos n
  omega
theorem half_get {x y : Int} {ns : List Int} {n i : Nat} (h : ns.length = 2 ^ (n + 1)) (hi : i < 2 ^ n) : (halfN x y ns)[i]? = some (x * ns.getD i 0 + y * ns.getD (i + 2 ^ n) 0) := by
  have hp : ns.length / 2 = 2 ^ n := by rw [h, Nat.pow_succ]; omega
  unfold halfN
  rw [List.getElem?_zipWith, hp, List.getElem?_take_of_lt hi, List.getElem?_drop]
  have h1 : i < ns.length := by rw [h, Nat.pow_succ]; omega
  have h2 : 2 ^ n + i < ns.length := by rw [h, Nat.pow_succ]; omega
  have h3 : i + 2 ^ n < ns.length := by omega
  rw [List.getElem?_eq_getElem h1, List.getElem?_eq_getElem h2, List.getD_eq_getElem?_getD, List.getD_eq_getElem?_getD, List.getElem?_eq_getElem h1, List.getElem?_eq_getElem h3]
  have e : 2 ^ n + i = i + 2 ^ n := by omega
  simp [e]
theorem zip_mem {f : Int → Int → Int} {m : Int} : ∀ {l r : List Int}, m ∈ List.zipWith f l r → ∃ u v, u ∈ l ∧ v ∈ r ∧ m = f u v
  | [], _, h => by simp at h
  | _ :: _, [], h => by simp at h
  | a :: l, b :: r, h => by
    simp only [List.zipWith_cons_cons, List.mem_cons] at h
    rcases h with rfl | h
    · exact ⟨a, b, by simp, by simp, rfl⟩
    · obtain ⟨u, v, h1, h2, h3⟩ := zip_mem h
      exact ⟨u, v, List.mem_cons_of_mem _ h1, List.mem_cons_of_mem _ h2, h3⟩
theorem half_lt {x y : Int} {ns : List Int} {b n : Nat} (hl : ns.length = 2 ^ (n + 1)) (hx : Lt 400 x) (hy : Lt 400 y) (hb : ∀ n ∈ ns, Lt b n) : ∀ n ∈ halfN x y ns, Lt (b + 401) n := by
  intro m hm
  unfold halfN at hm
  obtain ⟨u, v, hu, hv, rfl⟩ := zip_mem hm
  have h1 : Lt b u := hb _ (List.mem_of_mem_take hu)
  have h2 : Lt b v := hb _ (List.mem_of_mem_drop hv)
  have a1 : Lt (400 + b) _ := @Lt.mul _ _ _ _ hx h1
  have a2 : Lt (400 + b) _ := @Lt.mul _ _ _ _ hy h2
  exact (@Lt.add _ _ _ _ a1 a2).mono (by omega)
theorem rel_is {d : D} (h : relD d = true) : ∃ (ns : List Int) (n : Nat), d = .tup (ns.map D.int) ∧ ns.length = 2 ^ (n + 1) ∧ n ≤ 5 ∧ relN ns = true ∧ dls d = n + 1 := by
  unfold relD at h
  split at h
  · rename_i l
    simp only [Bool.and_eq_true, decide_eq_true_eq] at h
    obtain ⟨⟨h1, h2⟩, h3⟩ := h
    obtain ⟨ns, rfl⟩ := all_ints h2
    rw [toI_back] at h3
    have hl : (ns.map D.int).length = ns.length := List.length_map ..
    rw [hl] at h1
    have key : ∀ n, ns.length = 2 ^ (n + 1) → n ≤ 5 → dls (.tup (ns.map D.int)) = n + 1 → ∃ (ms : List Int) (n : Nat), D.tup (ns.map D.int) = .tup (ms.map D.int) ∧ ms.length = 2 ^ (n + 1) ∧ n ≤ 5 ∧ relN ms = true ∧ dls (.tup (ns.map D.int)) = n + 1 := fun n a b c => ⟨ns, n, rfl, a, b, h3, c⟩
    rcases h1 with e | e | e | e | e | e
    · exact key 0 e (by decide) (by simp [dls, hl, e])
    · exact key 1 e (by decide) (by simp [dls, hl, e])
    · exact key 2 e (by decide) (by simp [dls, hl, e])
    · exact key 3 e (by decide) (by simp [dls, hl, e])
    · exact key 4 e (by decide) (by simp [dls, hl, e])
    · exact key 5 e (by decide) (by simp [dls, hl, e])
  · cases h
theorem rel_of {ns : List Int} {n : Nat} (hl : ns.length = 2 ^ (n + 1)) (h5 : n ≤ 5) (hr : relN ns = true) : relD (.tup (ns.map D.int)) = true ∧ dls (.tup (ns.map D.int)) = n + 1 := by
  have h2 : (ns.map D.int).all intD = true := by
    rw [List.all_eq_true]
    intro d hd
    obtain ⟨i, _, rfl⟩ := List.mem_map.mp hd
    rfl
  have hm : (ns.map D.int).length = 2 ^ (n + 1) := by rw [List.length_map, hl]
  have hp := pow_small (k := n + 1) (by omega)
  have h0 : 2 ≤ 2 ^ (n + 1) := by rw [Nat.pow_succ]; have := Nat.two_pow_pos n; omega
  refine ⟨?_, ?_⟩
  · simp only [relD, h2, toI_back, hr, Bool.and_true, decide_eq_true_eq]
    omega
  · match n, h5 with
    | 0, _ | 1, _ | 2, _ | 3, _ | 4, _ | 5, _ => simp [dls, hl]
abbrev prs (ps : List (Int × Int)) : List D := ps.map fun p => .tup [.int p.1, .int p.2]
theorem toP_back {ps : List (Int × Int)} : (prs ps).map toP = ps := by
  rw [List.map_map]
  exact List.map_id'' (fun _ => rfl) _
theorem pls_is {n : Int} {d : D} (h : plsD n d = true) : ∃ ps : List (Int × Int), d = .tup (prs ps) ∧ (ps.length : Int) = n ∧ ∀ p ∈ ps, IsP p.1 p.2 := by
  unfold plsD at h
  split at h
  · rename_i l
    simp only [Bool.and_eq_true, decide_eq_true_eq] at h
    obtain ⟨h1, h2⟩ := h
    have key : ∀ l : List D, l.all plD = true → ∃ ps : List (Int × Int), l = prs ps ∧ ∀ p ∈ ps, IsP p.1 p.2 := by
      intro l
      induction l with
      | nil => exact fun _ => ⟨[], rfl, by simp⟩
      | cons d l ih =>
        intro h
        simp only [List.all_cons, Bool.and_eq_true] at h
        obtain ⟨ps, rfl, hp⟩ := ih h.2
        obtain ⟨x, y, rfl, ip⟩ := pl_two h.1
        refine ⟨(x, y) :: ps, rfl, fun p hp2 => ?_⟩
        rcases List.mem_cons.mp hp2 with rfl | hp2
        · exact ip
        · exact hp p hp2
    obtain ⟨ps, rfl, hp⟩ := key l h2
    exact ⟨ps, rfl, by rw [← h1, List.length_map], hp⟩
  · cases h
theorem pl_of {x y : Int} (h : IsP x y) : plD (.tup [.int x, .int y]) = true := by
  rcases h with ⟨h1, h2⟩ | ⟨rfl, rfl⟩
  · simp [plD, h1, h2]
  · simp [plD]
theorem pls_of {ps : List (Int × Int)} (h : ∀ p ∈ ps, IsP p.1 p.2) : plsD ps.length (.tup (prs ps)) = true := by
  simp only [plsD, List.length_map, decide_eq_true_eq, Bool.and_eq_true]
  refine ⟨trivial, ?_⟩
  rw [List.all_eq_true]
  intro d hd
  obtain ⟨p, hp, rfl⟩ := List.mem_map.mp hd
  exact pl_of (h p hp)
theorem ok_ns {ns : List Int} (h : Ok (.tup (ns.map D.int))) : ∀ n ∈ ns, Lt 400 n := leafs_lt (by simpa only [leaf] using h.lf)
theorem leaf2 {a b : Int} (h : leaf (.tup [.int a, .int b]) = true) : Lt 400 a ∧ Lt 400 b := by
  simp only [leaf, leafs, Bool.and_eq_true, decide_eq_true_eq, Bool.and_true] at h
  exact ⟨leaf_lt h.1, leaf_lt h.2⟩
theorem ok_ps {ps : List (Int × Int)} (h : Ok (.tup (prs ps))) : ∀ p ∈ ps, Lt 400 p.1 ∧ Lt 400 p.2 := fun p hp => leaf2 ((h.mem (.tup [.int p.1, .int p.2]) (List.mem_map.mpr ⟨p, hp, rfl⟩)).lf)
def lc (x y : Int) (l r : List Int) : List Int := List.zipWith (fun a b => x * a + y * b) l r
theorem lc_len {x y : Int} {l r : List Int} (h : l.length = r.length) : (lc x y l r).length = l.length := by
  unfold lc
  rw [List.length_zipWith]
  omega
theorem half_lc (x y : Int) (ns : List Int) : halfN x y ns = lc x y (ns.take (ns.length / 2)) (ns.drop (ns.length / 2)) := rfl
theorem lc_swap (p q x y : Int) : ∀ (a b c d : List Int), lc p q (lc x y a b) (lc x y c d) = lc x y (lc p q a c) (lc p q b d)
  | a :: as, b :: bs, c :: cs, d :: ds => by
    have ih := lc_swap p q x y as bs cs ds
    simp only [lc, List.zipWith_cons_cons] at ih ⊢
    rw [ih]
    congr 1
    grind
  | [], _, _, _ => by simp [lc]
  | _ :: _, [], _, _ => by simp [lc]
  | _ :: _, _ :: _, [], _ => by simp [lc]
  | _ :: _, _ :: _, _ :: _, [] => by simp [lc]
theorem half_lin {p q x y : Int} {l r : List Int} (h : l.length = r.length) : halfN p q (lc x y l r) = lc x y (halfN p q l) (halfN p q r) := by
  rw [half_lc, half_lc, half_lc, lc_len h, ← h]
  have e1 : (lc x y l r).take (l.length / 2) = lc x y (l.take (l.length / 2)) (r.take (l.length / 2)) := by unfold lc; rw [List.take_zipWith]
  have e2 : (lc x y l r).drop (l.length / 2) = lc x y (l.drop (l.length / 2)) (r.drop (l.length / 2)) := by unfold lc; rw [List.drop_zipWith]
  rw [e1, e2]
  exact lc_swap ..
theorem val_lin {x y : Int} : ∀ (ps : List (Int × Int)) {l r : List Int}, l.length = 2 ^ ps.length → r.length = 2 ^ ps.length → valN (lc x y l r) ps = x * valN l ps + y * valN r ps
  | [], l, r, hl, hr => by
    match l, r, hl, hr with
    | [a], [b], _, _ => simp [valN, lc]
  | p :: ps, l, r, hl, hr => by
    simp only [valN]
    rw [half_lin (by rw [hl, hr])]
    exact val_lin ps (half_len (n := ps.length) hl) (half_len (n := ps.length) hr)
theorem val_cons {p : Int × Int} {ps : List (Int × Int)} {l r : List Int} (hl : l.length = 2 ^ ps.length) (hr : r.length = 2 ^ ps.length) : valN (l ++ r) (p :: ps) = p.1 * valN l ps + p.2 * valN r ps := by
  have e : halfN p.1 p.2 (l ++ r) = lc p.1 p.2 l r := by
    rw [half_lc, List.length_append, hl, hr, show (2 ^ ps.length + 2 ^ ps.length) / 2 = 2 ^ ps.length by omega, List.take_left' hl, List.drop_left' hl]
  simp only [valN]
  rw [e, val_lin ps hl hr]
theorem split_pow {ns : List Int} {n : Nat} (h : ns.length = 2 ^ (n + 1)) : ∃ l r, ns = l ++ r ∧ l.length = 2 ^ n ∧ r.length = 2 ^ n := by
  refine ⟨ns.take (2 ^ n), ns.drop (2 ^ n), (List.take_append_drop _ _).symm, ?_, ?_⟩
  · rw [List.length_take, h, Nat.pow_succ]; omega
  · rw [List.length_drop, h, Nat.pow_succ]; omega
def pairN (x y : Int) : List Int → List Int
  | a :: b :: l => (a * x + b * y) :: pairN x y l
  | _ => []
theorem pair_app (x y : Int) : ∀ (k : Nat) (l r : List Int), l.length = 2 * k → pairN x y (l ++ r) = pairN x y l ++ pairN x y r
  | 0, [], r, _ => rfl
  | k + 1, a :: b :: l, r, h => by
    simp only [List.length_cons] at h
    simp only [List.cons_append, pairN]
    rw [pair_app x y k l r (by omega)]
theorem pair_len (x y : Int) : ∀ (k : Nat) (l : List Int), l.length = 2 * k → (pairN x y l).length = k
  | 0, [], _ => rfl
  | k + 1, a :: b :: l, h => by
    simp only [List.length_cons] at h
    simp only [pairN, List.length_cons]
    rw [pair_len x y k l (by omega)]
def wL : List Int → List (Int × Int) → List Int
  | ns, [] => ns
  | ns, q :: qs => wL (pairN q.1 q.2 ns) qs
theorem wL_app (ns : List Int) (qs : List (Int × Int)) (q : Int × Int) : wL ns (qs ++ [q]) = pairN q.1 q.2 (wL ns qs) := by
  induction qs generalizing ns with
  | nil => rfl
  | cons p qs ih => exact ih _
theorem wL_two : ∀ (qs : List (Int × Int)) (l r : List Int), l.length = 2 ^ qs.length → r.length = 2 ^ qs.length → wL (l ++ r) qs = wL l qs ++ wL r qs
  | [], l, r, _, _ => rfl
  | q :: qs, l, r, hl, hr => by
    have e : 2 ^ (q :: qs).length = 2 * 2 ^ qs.length := by rw [List.length_cons, Nat.pow_succ]; omega
    simp only [wL]
    rw [pair_app _ _ (2 ^ qs.length) l r (by rw [hl, e])]
    exact wL_two qs _ _ (pair_len _ _ _ _ (by rw [hl, e])) (pair_len _ _ _ _ (by rw [hr, e]))
theorem wL_val : ∀ (ps : List (Int × Int)) (ns : List Int), ns.length = 2 ^ ps.length → wL ns ps.reverse = [valN ns ps]
  | [], ns, h => by
    match ns, h with
    | [a], _ => rfl
  | p :: ps, ns, h => by
    obtain ⟨l, r, rfl, hl, hr⟩ := split_pow (n := ps.length) h
    rw [List.reverse_cons, wL_app, wL_two _ _ _ (by rw [List.length_reverse, hl]) (by rw [List.length_reverse, hr]), wL_val ps l hl, wL_val ps r hr, val_cons hl hr]
    simp only [List.singleton_append, pairN]
    rw [Int.mul_comm, Int.mul_comm (valN r ps)]
theorem val_far : ∀ (ps : List (Int × Int)) (ns : List Int) (k : Nat) (x y : Int), ns.length = 2 ^ ps.length → ps[k]? = some (x, y) → valN ns (ps.set k (1, 0)) * x + valN ns (ps.set k (0, 1)) * y = valN ns ps
  | p :: ps, ns, 0, x, y, h, hk => by
    obtain ⟨l, r, rfl, hl, hr⟩ := split_pow (n := ps.length) h
    simp only [List.getElem?_cons_zero, Option.some.injEq] at hk
    subst hk
    simp only [List.set_cons_zero]
    rw [val_cons hl hr, val_cons hl hr, val_cons hl hr]
    simp only [Int.one_mul, Int.zero_mul, Int.add_zero, Int.zero_add]
    rw [Int.mul_comm, Int.mul_comm (valN r ps)]
  | p :: ps, ns, k + 1, x, y, h, hk => by
    simp only [List.getElem?_cons_succ] at hk
    simp only [List.set_cons_succ, valN]
    exact val_far ps _ k x y (half_len (n := ps.length) h) hk
  | [], _, _, _, _, _, hk => by simp at hk
theorem half_lt2 {x y : Int} {ns : List Int} {b m : Nat} (hx : Lt m x) (hy : Lt m y) (hb : ∀ n ∈ ns, Lt b n) : ∀ n ∈ halfN x y ns, Lt (m + b + 1) n := by
  intro n hm
  unfold halfN at hm
  obtain ⟨u, v, hu, hv, rfl⟩ := zip_mem hm
  have h1 : Lt b u := hb _ (List.mem_of_mem_take hu)
  have h2 : Lt b v := hb _ (List.mem_of_mem_drop hv)
  have a1 : Lt (m + b) _ := @Lt.mul _ _ _ _ hx h1
  have a2 : Lt (m + b) _ := @Lt.mul _ _ _ _ hy h2
  exact (@Lt.add _ _ _ _ a1 a2).mono (by omega)
theorem val_lt {m : Nat} : ∀ (ps : List (Int × Int)) (ns : List Int) (b : Nat), ns.length = 2 ^ ps.length → (∀ p ∈ ps, Lt m p.1 ∧ Lt m p.2) → (∀ n ∈ ns, Lt b n) → Lt (b + ps.length * (m + 1)) (valN ns ps)
  | [], ns, b, h, _, hb => by
    match ns, h with
    | [a], _ => simpa [valN] using hb a (by simp)
  | p :: ps, ns, b, h, hp, hb => by
    obtain ⟨h1, h2⟩ := hp p (by simp)
    have := val_lt ps _ (m + b + 1) (half_len (n := ps.length) h) (fun q hq => hp q (List.mem_cons_of_mem _ hq)) (half_lt2 h1 h2 hb)
    simp only [valN]
    refine this.mono ?_
    rw [List.length_cons, Nat.succ_mul]
    omega
theorem pair_lt {x y : Int} {b : Nat} (hx : Lt 400 x) (hy : Lt 400 y) : ∀ (ns : List Int), (∀ n ∈ ns, Lt b n) → ∀ n ∈ pairN x y ns, Lt (b + 401) n
  | a :: c :: l, hb, n, hn => by
    simp only [pairN, List.mem_cons] at hn
    rcases hn with rfl | hn
    · have a1 : Lt (b + 400) _ := @Lt.mul _ _ _ _ (hb a (by simp)) hx
      have a2 : Lt (b + 400) _ := @Lt.mul _ _ _ _ (hb c (by simp)) hy
      exact (@Lt.add _ _ _ _ a1 a2).mono (by omega)
    · exact pair_lt hx hy l (fun n h => hb n (by simp [h])) n hn
  | [], _, _, hn => by simp [pairN] at hn
  | [_], _, _, hn => by simp [pairN] at hn
def nzF : D → Option D
  | .int n => if n = 0 then none else some (.int n)
  | _ => none
theorem nz_first : ∀ {ns : List Int}, (∃ n ∈ ns, n ≠ 0) → ∃ (f : Int) (r : List D), (ns.map D.int).filterMap nzF = .int f :: r ∧ sgL ns = if 0 < f then 1 else -1
  | [], h => by simp at h
  | a :: l, h => by
    by_cases ha : a = 0
    · subst ha
      have h2 : ∃ n ∈ l, n ≠ 0 := by
        obtain ⟨n, hn, hz⟩ := h
        rcases List.mem_cons.mp hn with rfl | hn
        · exact absurd rfl hz
        · exact ⟨n, hn, hz⟩
      obtain ⟨f, r, e1, e2⟩ := nz_first h2
      exact ⟨f, r, by simpa [nzF] using e1, by simpa [sgL] using e2⟩
    · exact ⟨a, l.map D.int |>.filterMap nzF, by simp [ha, nzF], by simp [sgL, ha]⟩
theorem sh_len (ns : List Int) : (shN ns).length = ns.length := by simp [shN]
theorem sizes_eq {d : D} {m : Int} (h : d = .int m) : eqOk d ∧ eqOk (.tup [.int 2, .int 4, .int 8, .int 16, .int 32, .int 64]) := by
  subst h
  exact ⟨.of rfl (by simp [lvl]), .of (by simp [flatD, flatDs]) (by simp [lvl, lvls])⟩
theorem pair_get {x y : Int} : ∀ (k : Nat) (l : List Int) (i : Nat), l.length = 2 * k → i < k → (pairN x y l)[i]? = some (l.getD (2 * i) 0 * x + l.getD (2 * i + 1) 0 * y)
  | k + 1, a :: b :: l, 0, _, _ => by simp [pairN]
  | k + 1, a :: b :: l, i + 1, h, hi => by
    simp only [List.length_cons] at h
    simp only [pairN, List.getElem?_cons_succ]
    rw [pair_get k l i (by omega) (by omega)]
    have e1 : 2 * (i + 1) = 2 * i + 1 + 1 := by omega
    rw [e1]
    simp [List.getD_eq_getElem?_getD]
def pgF (x y : Int) (ms : List Int) : D → Option D
  | .int j => some (.int (ms.getD j.toNat 0 * x + ms.getD (j.toNat + 1) 0 * y))
  | _ => none
theorem step_pair {x y : Int} {ms : List Int} {k : Nat} (h : ms.length = 2 * k) : (stepD 0 2 k).filterMap (pgF x y ms) = (pairN x y ms).map D.int := by
  have e1 : (stepD 0 2 k).filterMap (pgF x y ms) = (List.range k).map fun i => D.int (ms.getD (2 * i) 0 * x + ms.getD (2 * i + 1) 0 * y) := by
    unfold stepD
    rw [List.filterMap_map, ← List.filterMap_eq_map]
    congr 1
    funext i
    have : ((0 : Int) + (i : Int) * 2).toNat = 2 * i := by omega
    simp only [Function.comp_apply, pgF, this]
  rw [e1]
  apply List.ext_getElem?
  intro i
  by_cases hi : i < k
  · rw [List.getElem?_map, List.getElem?_range hi, List.getElem?_map, pair_get k ms i h hi]
    rfl
  · rw [List.getElem?_eq_none (by simp; omega), List.getElem?_eq_none (by rw [List.length_map, pair_len x y k ms h]; omega)]
theorem plV_bd {a b : Int} (n : Nat) (ha : Lt n a) (hb : Lt n b) : ∃ x y : Int, plV a b = .tup [.int x, .int y] ∧ Lt (n + 1) x ∧ Lt (n + 1) y := by
  have up : ∀ {m : Int} (g : Nat), Lt n m → Lt (n + 1) (m / g) := fun g h => ⟨Nat.lt_of_le_of_lt (Int.natAbs_ediv_le_natAbs _ _) (show Lt (n + 1) _ from h.mono (by omega)).h⟩
  have neg : ∀ {m : Int}, Lt (n + 1) m → Lt (n + 1) (-m) := fun h => ⟨by rw [Int.natAbs_neg]; exact h.h⟩
  have one : Lt (n + 1) 1 := ⟨by rw [Nat.pow_succ]; have := Nat.two_pow_pos n; show 1 < _; omega⟩
  have zero : Lt (n + 1) 0 := ⟨Nat.two_pow_pos _⟩
  unfold plV
  split
  · exact ⟨_, _, rfl, one, zero⟩
  · split
    · exact ⟨_, _, rfl, up _ ha, up _ hb⟩
    · exact ⟨_, _, rfl, neg (up _ ha), neg (up _ hb)⟩
theorem plV_pl {a b : Int} (h : ¬ (a = 0 ∧ b = 0)) : plD (plV a b) = true := by
  obtain ⟨x, y, k, hp, _, _, _, _, e⟩ := plV_is h
  rw [e]
  exact pl_of hp
theorem gcdL_mul (c : Int) : ∀ (ms : List Int) (x : Nat), (ms.map (· * c)).foldl (fun w n => Nat.gcd w n.natAbs) (x * c.natAbs) = ms.foldl (fun w n => Nat.gcd w n.natAbs) x * c.natAbs
  | [], x => rfl
  | m :: ms, x => by
    simp only [List.map_cons, List.foldl_cons]
    rw [Int.natAbs_mul, Nat.gcd_mul_right]
    exact gcdL_mul c ms _
theorem sgL_mul {c : Int} (hc : c ≠ 0) : ∀ ms : List Int, sgL (ms.map (· * c)) = sgL ms * (if 0 < c then 1 else -1)
  | [] => by simp [sgL]
  | m :: ms => by
    simp only [List.map_cons, sgL]
    by_cases h0 : m = 0
    · rw [if_pos h0, if_pos (by rw [h0, Int.zero_mul])]
      exact sgL_mul hc ms
    · rw [if_neg (Int.mul_ne_zero h0 hc), if_neg h0]
      by_cases hm : 0 < m
      · by_cases hp : 0 < c
        · rw [if_pos (Int.mul_pos hm hp), if_pos hm, if_pos hp]; rfl
        · have := Int.mul_neg_of_pos_of_neg hm (show c < 0 by omega)
          rw [if_neg (by omega), if_pos hm, if_neg hp]; rfl
      · by_cases hp : 0 < c
        · have := Int.mul_neg_of_neg_of_pos (show m < 0 by omega) hp
          rw [if_neg (by omega), if_neg hm, if_pos hp]; rfl
        · have := Int.mul_pos_of_neg_of_neg (show m < 0 by omega) (show c < 0 by omega)
          rw [if_pos this, if_neg hm, if_neg hp]; rfl
theorem sh_back {ns : List Int} (hex : ∃ n ∈ ns, n ≠ 0) : ns = (shN ns).map (· * (gcdL ns * sgL ns)) := by
  obtain ⟨n0, h0, hz⟩ := hex
  have hs := sgL_is h0 hz
  unfold shN
  rw [List.map_map]
  conv => lhs; rw [← List.map_id ns]
  refine List.map_congr_left fun n hn => ?_
  obtain ⟨k, hk⟩ := gcdL_dvd hn
  have hp := gcdL_pos h0 hz
  simp only [id, Function.comp_apply]
  have e : n / (gcdL ns : Int) = k := by
    rw [hk, Int.mul_ediv_cancel_left _ (by omega)]
  rw [e]
  rcases hs with hs | hs <;> rw [hs] <;> grind
theorem sh_rel {ns : List Int} (hex : ∃ n ∈ ns, n ≠ 0) : relN (shN ns) = true := by
  have eb := sh_back hex
  have hx := hex
  obtain ⟨n0, h0, hz⟩ := hex
  have hs := sgL_is h0 hz
  have hp := gcdL_pos h0 hz
  have nz : ((gcdL ns : Nat) : Int) * sgL ns ≠ 0 := by rcases hs with hs | hs <;> rw [hs] <;> omega
  have hex2 : ∃ n ∈ shN ns, n ≠ 0 := by
    rw [eb] at h0
    obtain ⟨m, hm, e⟩ := List.mem_map.mp h0
    refine ⟨m, hm, fun h => hz ?_⟩
    rw [← e, h]
    simp
  have g1 : gcdL (shN ns) = 1 := by
    have e1 : gcdL ns = gcdL (shN ns) * gcdL ns := by
      have e2 := gcdL_mul ((gcdL ns : Nat) * sgL ns) (shN ns) 0
      rw [← eb, Nat.zero_mul] at e2
      have e3 : (((gcdL ns : Nat) : Int) * sgL ns).natAbs = gcdL ns := by
        rcases hs with hs | hs <;> rw [hs] <;> simp
      rw [e3] at e2
      exact e2
    have e4 : 1 * gcdL ns = gcdL (shN ns) * gcdL ns := by rw [Nat.one_mul]; exact e1
    exact (Nat.eq_of_mul_eq_mul_right hp e4).symm
  have s1 : sgL (shN ns) = 1 := by
    have e2 := sgL_mul nz (shN ns)
    rw [← eb] at e2
    rcases hs with hs | hs
    · rw [hs, if_pos (by omega)] at e2
      omega
    · rw [hs, if_neg (by omega)] at e2
      omega
  unfold relN
  rw [int_some.mpr hex2, Bool.true_and, decide_eq_true_eq]
  show (shN ns).map (fun n => n / gcdL (shN ns) * sgL (shN ns)) = shN ns
  rw [g1, s1]
  conv => rhs; rw [← List.map_id (shN ns)]
  refine List.map_congr_left fun n _ => ?_
  simp
theorem sh_lt {w : Nat} {ns : List Int} (hex : ∃ n ∈ ns, n ≠ 0) (h : ∀ n ∈ ns, Lt w n) : ∀ n ∈ shN ns, Lt w n := by
  intro n hn
  obtain ⟨n0, h0, hz⟩ := hex
  obtain ⟨m, hm, rfl⟩ := List.mem_map.mp hn
  have b1 : Lt w (m / gcdL ns) := ⟨Nat.lt_of_le_of_lt (Int.natAbs_ediv_le_natAbs _ _) (h m hm).h⟩
  rcases sgL_is h0 hz with e | e
  · rw [e, Int.mul_one]; exact b1
  · rw [e, Int.mul_neg_one]; exact ⟨by rw [Int.natAbs_neg]; exact b1.h⟩
theorem ok_fd {k m : Nat} {d : D} (h : FD k m d) (h2 : m ≤ 100000) : Ok d := ⟨h.lf, Nat.le_trans h.sz h2⟩
theorem num_prs (ps : List (Int × Int)) : numD (.tup (prs ps)) = true := by
  have : ∀ ps : List (Int × Int), numDs (prs ps) = true := by
    intro ps
    induction ps with
    | nil => rfl
    | cons p ps ih => simp only [prs, List.map_cons, numDs, numD, Bool.true_and] at ih ⊢; exact ih
  exact this ps
theorem fd_prs {ps : List (Int × Int)} (hp : ∀ p ∈ ps, Lt 32 p.1 ∧ Lt 32 p.2) (h6 : ps.length ≤ 6) : FD 2 19 (.tup (prs ps)) := FD.tup (k := 1) (m := 3) (n := 6) (fun d hd => by
  obtain ⟨p, hm, rfl⟩ := List.mem_map.mp hd
  exact fd2 (by decide) (hp p hm).1 (hp p hm).2) (by rw [List.length_map]; exact h6)
theorem prs_ix {ps : List (Int × Int)} {i : Int} (h0 : 0 ≤ i) (h1 : i < ps.length) : ∃ p ∈ ps, ixD (prs ps) i = some (.tup [.int p.1, .int p.2]) ∧ ps[i.toNat]? = some p := by
  obtain ⟨n, rfl⟩ := Int.eq_ofNat_of_zero_le h0
  have hn : n < ps.length := by omega
  refine ⟨ps[n], List.getElem_mem hn, ?_, by simp [hn]⟩
  unfold ixD
  rw [if_pos h0]
  simp [prs, hn]
theorem rel_bd {ns : List Int} (hl : ns.length ≤ 64) (hb : ∀ n ∈ ns, Lt 21 n) : FD 1 65 (.tup (ns.map D.int)) := fdi (n := 64) (FD.all hb (by decide)) (by rw [List.length_map]; exact hl)
theorem fd_due {s : String} {d : D} (h : FD 8 8000 d) (hs : (Str.ofString s).length ≤ 20) : FD 9 24100 (.tup [.str (Str.ofString s), d, .bl true]) := (FD.tup (k := 8) (m := 8000) (n := 3) (by simp; exact ⟨(FD.text hs).mono (by decide) (by decide), h, FD.bl.mono (by decide) (by decide)⟩) (by simp)).mono (by decide) (by decide)
end DL
namespace DL
open PySem PySem.Spec L2
/-! ### bits; greatest, least, sum; sorted; a range as a list or tuple -/
def oBand : DO := oI0 fun i j => .int (Builtin.bitAnd i j)
theorem opd_band {X : Cx} : OpD X (binaryOp .BitAnd) oBand := ⟨_, L2.op_and, link_I0 fun _ _ _ _ => by simp only [At]⟩
def oBor : DO := oI0 fun i j => .int (Builtin.bitOr i j)
theorem opd_bor {X : Cx} : OpD X (binaryOp .BitOr) oBor := ⟨_, L2.op_or, link_I0 fun _ _ _ _ => by simp only [At]⟩
def oShr : DO := oI (fun _ j => 0 ≤ j) fun i j => .int (i / 2 ^ j.toNat)
theorem opd_shr {X : Cx} : OpD X (binaryOp .RShift) oShr := ⟨_, L2.op_shr, link_I fun _ _ _ _ => by simp only [At]⟩
def cSum : DC := fun ds G => ∃ ns : List Int, ds = [.lst (ns.map D.int)] ∧ G (.int ns.sum)
theorem cd_sum {X : Cx} (hc : X.calm = true) : CallD X (.builtin "sum") cSum := ⟨_, cr_sum hc, fun e env oa σ F H k vs ds Q G R a ⟨ns, hd, p⟩ q => by
  subst hd
  simp only [Ats, At] at a
  obtain ⟨v, _, rfl, ⟨x, us, rfl, h1, h2⟩, rfl⟩ := a
  have := ats_int h2
  subst this
  exact ⟨x, ns, rfl, SqL.of (R.wd.sub _ _ h1), q _ _ oa F H k p R (Grow.refl _ _) (by simp only [At])⟩⟩
def cMax1 : DC := fun ds G => ∃ ns : List Int, ds = [.lst (ns.map D.int)] ∧ ns ≠ [] ∧ ∀ m, m ∈ ns → (∀ y, y ∈ ns → y ≤ m) → G (.int m)
theorem cd_max1 {X : Cx} (hc : X.calm = true) : CallD X (.builtin "max") cMax1 := ⟨_, cr_max hc, fun e env oa σ F H k vs ds Q G R a ⟨ns, hd, hn, p⟩ q => by
  subst hd
  simp only [Ats, At] at a
  obtain ⟨v, _, rfl, ⟨x, us, rfl, h1, h2⟩, rfl⟩ := a
  have := ats_int h2
  subst this
  exact ⟨x, ns, rfl, SqL.of (R.wd.sub _ _ h1), List.length_pos_iff.mpr hn, fun m hm hy => q _ _ oa F H k (p m hm hy) R (Grow.refl _ _) (by simp only [At])⟩⟩
def cMin1 : DC := fun ds G => ∃ ns : List Int, ds = [.lst (ns.map D.int)] ∧ ns ≠ [] ∧ ∀ m, m ∈ ns → (∀ y, y ∈ ns → m ≤ y) → G (.int m)
theorem cd_min1 {X : Cx} (hc : X.calm = true) : CallD X (.builtin "min") cMin1 := ⟨_, cr_min hc, fun e env oa σ F H k vs ds Q G R a ⟨ns, hd, hn, p⟩ q => by
  subst hd
  simp only [Ats, At] at a
  obtain ⟨v, _, rfl, ⟨x, us, rfl, h1, h2⟩, rfl⟩ := a
  have := ats_int h2
  subst this
  exact ⟨x, ns, rfl, SqL.of (R.wd.sub _ _ h1), List.length_pos_iff.mpr hn, fun m hm hy => q _ _ oa F H k (p m hm hy) R (Grow.refl _ _) (by simp only [At])⟩⟩
section
open PyProof.Rows
/-- sorted, of a tuple of ints -/
theorem cr_sortedTup {X : Cx} : CallR X (.builtin "sorted") (fun vs H Q => ∃ (a : Addr) (ns : List Int), vs = [V.ref a] ∧ SqT X.K H a (ns.map V.int) ∧ ∀ (ns' : List Int) (p : Addr), ns'.Perm ns → ns'.Pairwise (· ≤ ·) → H p = none → Q (.ref p) (upd H p (.lst (ns'.map V.int)))) := by
  intro pins s σ H vs us Q I r h
  obtain ⟨a, ns, rfl, hs, q⟩ := h
  obtain ⟨its, rv, pl, hz⟩ := I.tuple hs
  rw [Vals.ref1 r]
  have hi := rv.ints
  obtain ⟨⟨cls, dd, dt, sl⟩, ho, hc, n, hd⟩ := pl
  simp only at hc hd
  subst hc hd
  have hl : its.length ≤ sizeLine := by rw [← rv.length]; exact hz
  refine Calls.call_function_entry kind_sorted plain_sorted entry_sorted (args_sorted1 _) ?_
  unfold Builtin.«sorted»
  refine wpAny_bind (m := checkCount "sorted" 1 1 _) (wpAny_pure ?_)
  refine wpAny_bind (wpAny_collect_seq a (.inr rfl) ho rfl rfl (fun h' hk => ?_) (by rw [List.size_toArray]; exact hl))
  refine wpAny_bind (wpAny_newList ?_ (by simpa using hl))
  have hoL : (h'.push (seqObj "list" its.toArray 0)).get? h'.objs.size = some (seqObj "list" its.toArray 0) := Heap.get?_push_size _ rfl
  have I1 : Inv X pins σ H { s with heap := h' } := I.kept (t' := s.toks) hk
  refine wpAny_bind (wpAny_holding (wpAny_call_entry slot_list_sort ⟨_, hoL, rfl⟩ entry_list_sort (SrtO.list_sort_ord SrtO.swo_int hoL hl (fun h2 => SrtO.ints_sortable hi h2) fun out hs hb => ⟨_, rfl, ?_⟩) (args_list_sort _)))
  refine wpAny_pure ⟨_, rfl, ?_⟩
  obtain ⟨k1, k2, k3⟩ := SrtO.ints_out hi hs hb
  obtain ⟨ep, he'⟩ := sortedHeap_at (out := out.toArray) hoL
  have hlen : ((out.map SrtO.iv).map V.int).length ≤ sizeLine := by
    rw [List.length_map, k2.length_eq]
    rw [List.length_map] at hz
    exact hz
  exact ⟨.ref _, upd H h'.objs.size (.lst ((out.map SrtO.iv).map V.int)), I1.laid (t' := s.toks) (fun b o e => (sortedHeap_old (Nat.ne_of_lt (Heap.lt_size e)) (by rw [size_push']; exact Nat.lt_succ_of_lt (Heap.lt_size e))).trans (Heap.get?_push_of_some _ e)) (Nat.le_refl _) ⟨hlen, out, ep, vals_of_ints k1, he'⟩, rfl, q _ _ k2 k3 (I1.hok.fresh (Nat.le_refl _))⟩
end
def cSorted : DC := fun ds G => ∃ ns : List Int, (ds = [.lst (ns.map D.int)] ∨ ds = [.tup (ns.map D.int)]) ∧ ∀ ms : List Int, ms.Perm ns → ms.Pairwise (· ≤ ·) → G (.lst (ms.map D.int))
theorem cd_sorted {X : Cx} : CallD X (.builtin "sorted") cSorted := ⟨_, call_or cr_sortedI cr_sortedTup, fun e env oa σ F H k vs ds Q G R a ⟨ns, hd, p⟩ q => by
  rcases hd with rfl | rfl
  · simp only [Ats, At] at a
    obtain ⟨v, _, rfl, ⟨x, us, rfl, h1, h2⟩, rfl⟩ := a
    have := ats_int h2
    subst this
    refine .inl ⟨x, ns, rfl, SqL.of (R.wd.sub _ _ h1), fun ms t h3 h4 ht => ?_⟩
    obtain ⟨R2, g2⟩ := R.laid ht (.lst (ms.map V.int))
    exact q _ _ oa _ _ k (p ms h3 h4) R2 g2 (by simp only [At]; exact ⟨t, _, rfl, upd_same, ats_ints ms⟩)
  · simp only [Ats, At] at a
    obtain ⟨v, _, rfl, ⟨x, us, rfl, h1, h2⟩, rfl⟩ := a
    have := ats_int h2
    subst this
    refine .inr ⟨x, ns, rfl, sqT_grow R.wd.sub h1, fun ms t h3 h4 ht => ?_⟩
    obtain ⟨R2, g2⟩ := R.laid ht (.lst (ms.map V.int))
    exact q _ _ oa _ _ k (p ms h3 h4) R2 g2 (by simp only [At]; exact ⟨t, _, rfl, upd_same, ats_ints ms⟩)⟩
/-! a range as a list, a tuple -/
def dRg1 (f : DE) : Evn → (Int → Int → Evn → Prop) → Prop := fun env Q => f env fun d env1 => match d with | .int n => Q 0 n env1 | _ => False
def dRg2 (f g : DE) : Evn → (Int → Int → Evn → Prop) → Prop := fun env Q => f env fun d env1 => g env1 fun d' env2 => match d, d' with | .int i, .int j => Q i j env2 | _, _ => False
def liftRg (K : Kx) (f : Evn → (Int → Int → Evn → Prop) → Prop) : L2.St → Hp → (Int → Int → Hp → Prop) → Prop := fun σ H Q => ∃ e env oa F k, ∃ P : Int → Int → Evn → Prop, Rel K e env oa σ F H k ∧ f env P ∧ ∀ a b env' oa' F' H' k', P a b env' → Rel K e env' oa' σ F' H' k' → Grow F F' k k' → Q a b H'
def dLstRg (f : Evn → (Int → Int → Evn → Prop) → Prop) : DE := fun env Q => f env fun a b env1 => (-16777216 ≤ a ∧ b ≤ 16777216 ∧ a ≤ 16777216 ∧ -16777216 ≤ b ∧ b - a ≤ 16777216) ∧ Q (.lst (rngD a (b - a).toNat)) env1
def dTupRg (f : Evn → (Int → Int → Evn → Prop) → Prop) : DE := fun env Q => f env fun a b env1 => (-16777216 ≤ a ∧ b ≤ 16777216 ∧ a ≤ 16777216 ∧ -16777216 ≤ b ∧ b - a ≤ 16777216) ∧ Q (.tup (rngD a (b - a).toNat)) env1
theorem PRg.w {X : Cx} {e : Expr} {t t' : L2.St → Hp → (Int → Int → Hp → Prop) → Prop} (h : L2.PRg X e t) (w : ∀ σ H Q, t' σ H Q → t σ H Q) : L2.PRg X e t' := fun pins s σ H Q I q => h pins s σ H Q I (w _ _ _ q)
theorem ats_rg {K : PySem.W.Frag} {F : Hp} {k : Dk} (a b : Int) : Ats K F k (rngD a (b - a).toNat) (L2.rgV a b) := by
  unfold rngD L2.rgV
  have : ∀ l : List Nat, Ats K F k (l.map fun (i : Nat) => D.int (a + i)) (l.map fun (i : Nat) => V.int (a + i)) := by
    intro l
    induction l with
    | nil => exact .nil
    | cons i l ih => exact .cons (by simp only [At]) ih
  exact this _
section
variable {wx : DX} {WW : WX} {ZZ : Fz} {X : Cx} {a b : Expr} {pos p : Pos} {f g : DE} {r : Evn → (Int → Int → Evn → Prop) → Prop}
theorem drg_1 (hg : Gl X "range") (hm : X.mg "range" = none) (ha : PE X a (lift (X.kx wx WW ZZ) f)) (na : starEach [a] X.env = (false, eval a X.env) :: starEach [] X.env := by rfl) : L2.PRg X (.Call (.Name "range" p) [a] [] pos) (liftRg (X.kx wx WW ZZ) (dRg1 f)) :=
  PRg.w (L2.prg_1 hg hm ha na) fun σ H Q ⟨e, env, oa, F, k, P, R, p, q⟩ => ⟨e, env, oa, F, k, _, R, p, fun d env1 v oa1 F1 H1 k1 p1 R1 g1 a1 => by
    cases d with
    | int n => simp only [At] at a1; exact ⟨n, a1, q _ _ _ _ _ _ _ p1 R1 g1⟩
    | _ => exact p1.elim⟩
theorem drg_2 (hg : Gl X "range") (hm : X.mg "range" = none) (ha : PE X a (lift (X.kx wx WW ZZ) f)) (hb : PE X b (lift (X.kx wx WW ZZ) g)) (na : starEach [a, b] X.env = (false, eval a X.env) :: starEach [b] X.env := by rfl)
    (nb : starEach [b] X.env = (false, eval b X.env) :: starEach [] X.env := by rfl) (hp : (backTo pos (starEach [b] X.env)).any (·.1) = false := by rfl) : L2.PRg X (.Call (.Name "range" p) [a, b] [] pos) (liftRg (X.kx wx WW ZZ) (dRg2 f g)) :=
  PRg.w (L2.prg_2 hg hm ha hb na nb hp) fun σ H Q ⟨e, env, oa, F, k, P, R, p, q⟩ => ⟨e, env, oa, F, k, _, R, p, fun d env1 v oa1 F1 H1 k1 p1 R1 g1 a1 => ⟨e, env1, oa1, F1, k1, _, R1, p1, fun d' env2 v' oa2 F2 H2 k2 p2 R2 g2 a2 => by
    cases d with
    | int i =>
      cases d' with
      | int j => simp only [At] at a1 a2; exact ⟨i, j, a1, a2, q _ _ _ _ _ _ _ p2 R2 (g1.trans g2)⟩
      | _ => exact p2.elim
    | _ => exact p2.elim⟩⟩
theorem rg_ok {a b : Int} (h : -16777216 ≤ a ∧ b ≤ 16777216 ∧ a ≤ 16777216 ∧ -16777216 ≤ b ∧ b - a ≤ 16777216) : L2.RgOk a b := ⟨by omega, by omega, by omega, by omega, by omega⟩
theorem dl_listRg (hc : X.calm = true) (hg : Gl X "list") (hm : X.mg "list" = none) (he : L2.PRg X a (liftRg (X.kx wx WW ZZ) r)) (na : starEach [a] X.env = (false, eval a X.env) :: starEach [] X.env := by rfl) : PE X (.Call (.Name "list" p) [a] [] pos) (lift (X.kx wx WW ZZ) (dLstRg r)) :=
  (L2.pe_listRg hc hg hm he na).w fun σ H Q ⟨e, env, oa, F, k, P, R, p, q⟩ => ⟨e, env, oa, F, k, _, R, p, fun a b env1 oa1 F1 H1 k1 ⟨c1, p1⟩ R1 g1 => ⟨rg_ok c1, fun t ht => by
    obtain ⟨R2, g2⟩ := R1.laid ht (.lst (L2.rgV a b))
    exact q _ env1 _ oa1 _ _ k1 p1 R2 (g1.trans g2) (by simp only [At]; exact ⟨t, _, rfl, upd_same, ats_rg a b⟩)⟩⟩
theorem dl_tupRg (hc : X.calm = true) (hg : Gl X "tuple") (hm : X.mg "tuple" = none) (he : L2.PRg X a (liftRg (X.kx wx WW ZZ) r)) (na : starEach [a] X.env = (false, eval a X.env) :: starEach [] X.env := by rfl) : PE X (.Call (.Name "tuple" p) [a] [] pos) (lift (X.kx wx WW ZZ) (dTupRg r)) :=
  (L2.pe_tupRg hc hg hm he na).w fun σ H Q ⟨e, env, oa, F, k, P, R, p, q⟩ => ⟨e, env, oa, F, k, _, R, p, fun a b env1 oa1 F1 H1 k1 ⟨c1, p1⟩ R1 g1 => ⟨rg_ok c1, fun t ht => by
    obtain ⟨R2, g2⟩ := R1.laid ht (.tup (L2.rgV a b))
    exact q _ env1 _ oa1 _ _ k1 p1 R2 (g1.trans g2) (by simp only [At]; exact ⟨t, _, rfl, SqT.of upd_same, ats_rg a b⟩)⟩⟩
end
section
variable {env : Evn} {Q : D → Evn → Prop} {f g : DE} {i j : Int} {G : D → Prop} {r : Evn → (Int → Int → Evn → Prop) → Prop} {QR : Int → Int → Evn → Prop}
@[simp ↓] theorem o_band : oBand (.int i) (.int j) G = G (.int (Builtin.bitAnd i j)) := rfl
@[simp ↓] theorem o_bor : oBor (.int i) (.int j) G = G (.int (Builtin.bitOr i j)) := rfl
@[simp ↓] theorem o_shr : oShr (.int i) (.int j) G = (0 ≤ j ∧ G (.int (i / 2 ^ j.toNat))) := rfl
@[simp ↓] theorem e_Rg1 : dRg1 f env QR = f env fun d env1 => match d with | .int n => QR 0 n env1 | _ => False := rfl
@[simp ↓] theorem e_Rg2 : dRg2 f g env QR = f env fun d env1 => g env1 fun d' env2 => match d, d' with | .int i, .int j => QR i j env2 | _, _ => False := rfl
@[simp ↓] theorem e_LstRg : dLstRg r env Q = r env fun a b env1 => (-16777216 ≤ a ∧ b ≤ 16777216 ∧ a ≤ 16777216 ∧ -16777216 ≤ b ∧ b - a ≤ 16777216) ∧ Q (.lst (rngD a (b - a).toNat)) env1 := rfl
@[simp ↓] theorem e_TupRg : dTupRg r env Q = r env fun a b env1 => (-16777216 ≤ a ∧ b ≤ 16777216 ∧ a ≤ 16777216 ∧ -16777216 ≤ b ∧ b - a ≤ 16777216) ∧ Q (.tup (rngD a (b - a).toNat)) env1 := rfl
end
end DL
namespace DL
open PySem PySem.Spec L2
/-! ### methods of lists and tuples: pop, extend, index -/
theorem pe_or {X : Cx} {a : Expr} {t t' : TE} (h : PE X a t) (h' : PE X a t') : PE X a (fun σ H Q => t σ H Q ∨ t' σ H Q) := ⟨fun pins s σ H Q I q => q.elim (h.run pins s σ H Q I) (h'.run pins s σ H Q I)⟩
theorem Ats.erase {K : PySem.W.Frag} {F : Hp} {k : Dk} : ∀ {ds : List D} {vs : List V} (n : Nat), Ats K F k ds vs → Ats K F k (ds.eraseIdx n) (vs.eraseIdx n)
  | [], vs, n, h => by simp only [Ats] at h; subst h; exact .nil
  | d :: ds, vs, 0, h => by
    simp only [Ats] at h
    obtain ⟨v, r, rfl, q, t⟩ := h
    exact t
  | d :: ds, vs, n + 1, h => by
    simp only [Ats] at h
    obtain ⟨v, r, rfl, q, t⟩ := h
    exact .cons q (Ats.erase n t)
theorem Ats.dropLast {K : PySem.W.Frag} {F : Hp} {k : Dk} : ∀ {ds : List D} {vs : List V}, Ats K F k ds vs → Ats K F k ds.dropLast vs.dropLast
  | [], vs, h => by simp only [Ats] at h; subst h; exact .nil
  | [d], vs, h => by
    simp only [Ats] at h
    obtain ⟨v, r, rfl, q, rfl⟩ := h
    exact .nil
  | d :: e :: ds, vs, h => by
    simp only [Ats] at h
    obtain ⟨v, r, rfl, q, v2, r2, rfl, q2, t⟩ := h
    exact .cons q (Ats.dropLast (.cons q2 t))
section
variable {wx : DX} {WW : WX} {ZZ : Fz} {X : Cx} {a : Expr} {pos : Pos} {f : DE}
/-- x.pop(k) -/
def dPopAt (i : Nat) (f : DE) : DE := fun env Q => isOwn env[i]? = true ∧ f env fun d env1 => match env1[i]?, d with
  | some (.own ds), .int j => ∃ k y, (seqIndex? j ds.length = some k ∧ -(2 ^ 63) ≤ j ∧ j < 2 ^ 63 ∧ ds[k]? = some y) ∧ Q y (env1.set i (.own (ds.eraseIdx k)))
  | _, _ => False
theorem dl_popAt {i : Nat} {o : Expr} {apos cpos : Pos} (ho : PE X o (tVar i)) (h : PE X a (lift (X.kx wx WW ZZ) f)) (hbase : attributeBase o "pop" X.env (eval o X.env) = eval o X.env := by rfl)
    (hfew : ((backTo cpos (starEach [a] X.env)).all (fun x => !x.1) && (backToKw cpos (keywordEach [] X.env)).all (fun x => x.1.isSome) && decide (([a] : List Expr).length + ([] : List Keyword).length + (if ([] : List Keyword).isEmpty then 0 else 1) < 30)) = true := by rfl)
    (hline : (apos.endLine == cpos.line) = true := by rfl) (hs : starEach [a] X.env = (false, eval a X.env) :: starEach [] X.env := by rfl) (hplain : (backTo cpos (starEach [] X.env)).any (·.1) = false := by rfl) :
    PE X (.Call (.Attribute o "pop" apos) [a] [] cpos) (lift (X.kx wx WW ZZ) (dPopAt i f)) :=
  (pe_bm PySem.F.plainAttrs_list PySem.F.slot_list_pop PySem.F.type_list_pop mt_popAt ho (pa_cons h pa_nil hs) hbase hfew hline hs hplain).w fun σ H Q ⟨e, env, oa, F, k, P, R, ⟨po, p⟩, q⟩ => by
    cases hq : env[i]? with
    | none => rw [hq] at po; cases po
    | some s =>
      cases s with
      | no => rw [hq] at po; cases po
      | val _ => rw [hq] at po; cases po
      | own ds0 =>
        obtain ⟨i1, ⟨vs0, i2, i3⟩, i4, i5, i6⟩ := R.own i ds0 hq
        refine ⟨_, i1, .inl ⟨rfl, vs0, SqL.of i2⟩, e, env, oa, F, k, _, R, p, fun d env1 v oa1 F1 H1 k1 p1 R1 g1 a1 => ?_⟩
        cases hq1 : env1[i]? with
        | none => rw [hq1] at p1; exact p1.elim
        | some s =>
          rw [hq1] at p1
          cases s with
          | no => exact p1.elim
          | val _ => exact p1.elim
          | own ds =>
            cases d with
            | int j =>
              obtain ⟨kk, y, ⟨c1, c2, c3, c4⟩, p2⟩ := p1
              simp only [At] at a1
              subst a1
              obtain ⟨j1, ⟨vs, j2, j3⟩, j4, j5, j6⟩ := R1.own i ds hq1
              have eo : oa i = oa1 i := by
                rw [i1] at j1
                exact V.ref.inj (Option.some.inj (Option.some.inj j1))
              obtain ⟨vy, v1, v2⟩ := Ats.get j3 kk y c4
              refine ⟨oa i, vs, j, kk, vy, rfl, rfl, by rw [eo]; exact j2, c2, c3, by rw [← Ats.length j3]; exact c1, v1, ?_⟩
              rw [eo]
              exact q y _ vy oa1 F1 _ k1 p2 (R1.setOwn hq1 (Ats.erase kk j3)) g1 v2
            | _ => exact p1.elim
/-- x.pop() -/
def dPop (i : Nat) : DE := fun env Q => match env[i]? with
  | some (.own ds) => ∃ y, ds[ds.length - 1]? = some y ∧ Q y (env.set i (.own ds.dropLast))
  | _ => False
theorem dl_pop {i : Nat} {o : Expr} {apos cpos : Pos} (ho : PE X o (tVar i)) (hbase : attributeBase o "pop" X.env (eval o X.env) = eval o X.env := by rfl) (hline : (apos.endLine == cpos.line) = true := by rfl) :
    PE X (.Call (.Attribute o "pop" apos) [] [] cpos) (lift (X.kx wx WW ZZ) (dPop i)) :=
  (pe_bm0 PySem.F.plainAttrs_list PySem.F.slot_list_pop PySem.F.type_list_pop mt_pop ho hbase hline).w fun σ H Q ⟨e, env, oa, F, k, P, R, p, q⟩ => by
    unfold dPop at p
    cases hq : env[i]? with
    | none => rw [hq] at p; exact p.elim
    | some s =>
      rw [hq] at p
      cases s with
      | no => exact p.elim
      | val _ => exact p.elim
      | own ds =>
        obtain ⟨y, c, p2⟩ := p
        obtain ⟨i1, ⟨vs, j2, j3⟩, i4, i5, i6⟩ := R.own i ds hq
        obtain ⟨vy, v1, v2⟩ := Ats.get j3 _ y c
        refine ⟨_, i1, .inl ⟨rfl, vs, SqL.of j2⟩, oa i, vs, vy, rfl, rfl, j2, by rw [← Ats.length j3]; exact v1, ?_⟩
        exact q y _ vy oa F _ k p2 (R.setOwn hq (Ats.dropLast j3)) (Grow.refl _ _) v2
/-- x.extend(l) -/
def dExtend (i : Nat) (f : DE) : DS := fun B env => isOwn env[i]? = true ∧ f env fun d env1 => match env1[i]?, d with
  | some (.own ds), .lst l => ds.length + l.length ≤ 10000000 ∧ B.nx (env1.set i (.own (ds ++ l)))
  | _, _ => False
theorem ds_extend {i : Nat} {o : Expr} {apos cpos : Pos} (ho : PE X o (tVar i)) (h : PE X a (lift (X.kx wx WW ZZ) f)) (hbase : attributeBase o "extend" X.env (eval o X.env) = eval o X.env := by rfl)
    (hfew : ((backTo cpos (starEach [a] X.env)).all (fun x => !x.1) && (backToKw cpos (keywordEach [] X.env)).all (fun x => x.1.isSome) && decide (([a] : List Expr).length + ([] : List Keyword).length + (if ([] : List Keyword).isEmpty then 0 else 1) < 30)) = true := by rfl)
    (hline : (apos.endLine == cpos.line) = true := by rfl) (hs : starEach [a] X.env = (false, eval a X.env) :: starEach [] X.env := by rfl) (hplain : (backTo cpos (starEach [] X.env)).any (·.1) = false := by rfl)
    (hsw : swapsWith (.Call (.Attribute o "extend" apos) [a] [] cpos) none pos.line X.env = pure false := by rfl) : PS X (.Expr (.Call (.Attribute o "extend" apos) [a] [] cpos) pos) (liftS (X.kx wx WW ZZ) (dExtend i f)) :=
  (ps_expr (pe_bm PySem.F.plainAttrs_list PySem.F.slot_list_extend PySem.F.type_list_extend mt_extend ho (pa_cons h pa_nil hs) hbase hfew hline hs hplain) hsw).w fun E σ H ⟨e, env, oa, F, k, B, R, ⟨po, p⟩, n, r, b, c⟩ => by
    cases hq : env[i]? with
    | none => rw [hq] at po; cases po
    | some s =>
      cases s with
      | no => rw [hq] at po; cases po
      | val _ => rw [hq] at po; cases po
      | own ds0 =>
        obtain ⟨i1, ⟨vs0, i2, i3⟩, i4, i5, i6⟩ := R.own i ds0 hq
        refine ⟨_, i1, .inl ⟨rfl, vs0, SqL.of i2⟩, e, env, oa, F, k, _, R, p, fun d env1 v oa1 F1 H1 k1 p1 R1 g1 a1 => ?_⟩
        cases hq1 : env1[i]? with
        | none => rw [hq1] at p1; exact p1.elim
        | some s =>
          rw [hq1] at p1
          cases s with
          | no => exact p1.elim
          | val _ => exact p1.elim
          | own ds =>
            cases d with
            | lst l =>
              simp only [At] at a1
              obtain ⟨b', zs, rfl, b1, b2⟩ := a1
              obtain ⟨j1, ⟨vs, j2, j3⟩, j4, j5, j6⟩ := R1.own i ds hq1
              have eo : oa i = oa1 i := by
                rw [i1] at j1
                exact V.ref.inj (Option.some.inj (Option.some.inj j1))
              refine ⟨oa i, b', vs, zs, rfl, rfl, by rw [eo]; exact j2, R1.wd.sub _ _ b1, by rw [← Ats.length j3, ← Ats.length b2]; exact size10 p1.1, ?_⟩
              rw [eo]
              exact n _ oa1 σ F1 _ k1 p1.2 (R1.setOwn hq1 (Ats.append j3 b2)) g1
            | _ => exact p1.elim
end
end DL
namespace DL
open PySem PySem.Spec L2
def idxD (l : List D) (x : D) (j : Nat) : Prop := ∃ z, l[j]? = some z ∧ eqv z x = true ∧ ∀ m z', m < j → l[m]? = some z' → eqv z' x = false
theorem pys_get : ∀ (l : List D) (m : Nat), (pys l)[m]? = l[m]?.map py
  | [], m => by simp [pys]
  | d :: l, 0 => by simp [pys]
  | d :: l, m + 1 => by simp [pys, pys_get l m]
theorem idx_py {l : List D} {x : D} {j : Nat} (h : idxD l x j) : ∃ z, (pys l)[j]? = some z ∧ PyData.eqv z (py x) = true ∧ ∀ (m : Nat) (z' : PyData), m < j → (pys l)[m]? = some z' → PyData.eqv z' (py x) = false := by
  obtain ⟨z, h1, h2, h3⟩ := h
  refine ⟨py z, by rw [pys_get, h1]; rfl, h2, fun m z' hm e => ?_⟩
  rw [pys_get] at e
  cases q : l[m]? with
  | none => rw [q] at e; cases e
  | some y =>
    rw [q] at e
    cases e
    exact h3 m y hm q
section
variable {wx : DX} {WW : WX} {ZZ : Fz} {X : Cx} {a : Expr} {f : DE}
/-- x.index(y), x a variable -/
def dIndexV (i : Nat) (g : DE) : DE := fun env Q => match env[i]? with
  | some (.val (.lst l)) => g env fun x env1 => ∃ j, (eqOk (.lst l) ∧ eqOk x ∧ idxD l x j) ∧ Q (.int (j : Nat)) env1
  | some (.own _) => g env fun x env1 => match env1[i]? with
    | some (.own l) => ∃ j, (eqOk (.lst l) ∧ eqOk x ∧ idxD l x j) ∧ Q (.int (j : Nat)) env1
    | _ => False
  | _ => False
theorem dl_indexV {i : Nat} {o : Expr} {apos cpos : Pos} (hu : X.A.units + 65 < cLine) (ho : PE X o (tVar i)) (h : PE X a (lift (X.kx wx WW ZZ) f)) (hbase : attributeBase o "index" X.env (eval o X.env) = eval o X.env := by rfl)
    (hfew : ((backTo cpos (starEach [a] X.env)).all (fun x => !x.1) && (backToKw cpos (keywordEach [] X.env)).all (fun x => x.1.isSome) && decide (([a] : List Expr).length + ([] : List Keyword).length + (if ([] : List Keyword).isEmpty then 0 else 1) < 30)) = true := by rfl)
    (hline : (apos.endLine == cpos.line) = true := by rfl) (hs : starEach [a] X.env = (false, eval a X.env) :: starEach [] X.env := by rfl) (hplain : (backTo cpos (starEach [] X.env)).any (·.1) = false := by rfl) :
    PE X (.Call (.Attribute o "index" apos) [a] [] cpos) (lift (X.kx wx WW ZZ) (dIndexV i f)) :=
  (pe_bm PySem.F.plainAttrs_list PySem.F.slot_list_index PySem.F.type_list_index (mt_indexD hu) ho (pa_cons h pa_nil hs) hbase hfew hline hs hplain).w fun σ H Q ⟨e, env, oa, F, k, P, R, p, q⟩ => by
    unfold dIndexV at p
    cases hq : env[i]? with
    | none => rw [hq] at p; exact p.elim
    | some s =>
      rw [hq] at p
      cases s with
      | no => exact p.elim
      | own l0 =>
        obtain ⟨i1, ⟨vs0, i2, i3⟩, i4, i5, i6⟩ := R.own i l0 hq
        refine ⟨_, i1, .inl ⟨rfl, vs0, SqL.of i2⟩, e, env, oa, F, k, _, R, p, fun x env1 v oa1 F1 H1 k1 p1 R1 g1 a1 => ?_⟩
        cases hq1 : env1[i]? with
        | none => rw [hq1] at p1; exact p1.elim
        | some s =>
          rw [hq1] at p1
          cases s with
          | no => exact p1.elim
          | val _ => exact p1.elim
          | own l =>
            obtain ⟨j, ⟨c1, c2, c3⟩, p2⟩ := p1
            obtain ⟨j1, ⟨vs, j2, j3⟩, j4, j5, j6⟩ := R1.own i l hq1
            have eo : oa i = oa1 i := by
              rw [i1] at j1
              exact V.ref.inj (Option.some.inj (Option.some.inj j1))
            obtain ⟨z, z1, z2, z3⟩ := idx_py c3
            have fl : flatDs l = true := by simpa only [flatD] using c1.1
            have e1 := c1.sh
            simp only [py] at e1
            exact ⟨oa i, v, py x, pys l, j, z, rfl, rfl, .lst (SqL.of (by rw [eo]; exact j2)) (dps_of R1.wd l vs fl j3), dp_of R1.wd x v c2.1 a1, e1, c2.sh, z1, z2, z3, q _ _ _ _ _ _ _ p2 R1 g1 (by simp only [At])⟩
      | val d =>
        obtain ⟨v, hv, hA⟩ := R.val i d hq
        cases d with
        | lst l =>
          have hA' := hA
          simp only [At] at hA'
          obtain ⟨x0, vs, rfl, h1, h2⟩ := hA'
          refine ⟨_, hv, .inl ⟨rfl, vs, SqL.of (R.wd.sub _ _ h1)⟩, e, env, oa, F, k, _, R, p, fun x env1 v oa1 F1 H1 k1 ⟨j, ⟨c1, c2, c3⟩, p2⟩ R1 g1 a1 => ?_⟩
          obtain ⟨z, z1, z2, z3⟩ := idx_py c3
          have e1 := c1.sh
          have d1 := dp_of R1.wd _ _ c1.1 (At.grow g1 _ _ hA)
          simp only [py] at e1 d1
          exact ⟨x0, v, py x, pys l, j, z, rfl, rfl, d1, dp_of R1.wd x v c2.1 a1, e1, c2.sh, z1, z2, z3, q _ _ _ _ _ _ _ p2 R1 g1 (by simp only [At])⟩
        | _ => exact p.elim
end
section
variable {env : Evn} {Q : D → Evn → Prop} {f g : DE} {i : Nat} {ds l : List D} {B : DEnd}
@[simp ↓] theorem e_popAt (h : env[i]? = some (.own ds)) : dPopAt i f env Q = f env fun d env1 => match env1[i]?, d with
    | some (.own ds), .int j => ∃ k y, (seqIndex? j ds.length = some k ∧ -(2 ^ 63) ≤ j ∧ j < 2 ^ 63 ∧ ds[k]? = some y) ∧ Q y (env1.set i (.own (ds.eraseIdx k)))
    | _, _ => False := by
  unfold dPopAt
  rw [h]
  exact propext ⟨fun x => x.2, fun x => ⟨rfl, x⟩⟩
@[simp ↓] theorem e_pop (h : env[i]? = some (.own ds)) : dPop i env Q = ∃ y, ds[ds.length - 1]? = some y ∧ Q y (env.set i (.own ds.dropLast)) := by unfold dPop; rw [h]
@[simp ↓] theorem e_extend (h : env[i]? = some (.own ds)) : dExtend i f B env = f env fun d env1 => match env1[i]?, d with
    | some (.own ds), .lst l => ds.length + l.length ≤ 10000000 ∧ B.nx (env1.set i (.own (ds ++ l)))
    | _, _ => False := by
  unfold dExtend
  rw [h]
  exact propext ⟨fun x => x.2, fun x => ⟨rfl, x⟩⟩
@[simp ↓] theorem e_indexL (h : env[i]? = some (.val (.lst l))) : dIndexV i g env Q = g env fun x env1 => ∃ j, (eqOk (.lst l) ∧ eqOk x ∧ idxD l x j) ∧ Q (.int (j : Nat)) env1 := by unfold dIndexV; rw [h]
@[simp ↓] theorem e_indexO (h : env[i]? = some (.own ds)) : dIndexV i g env Q = g env fun x env1 => match env1[i]? with
    | some (.own l) => ∃ j, (eqOk (.lst l) ∧ eqOk x ∧ idxD l x j) ∧ Q (.int (j : Nat)) env1
    | _ => False := by unfold dIndexV; rw [h]
end
end DL
set_option maxHeartbeats 4000000
namespace DL
open PySem PySem.Spec L2
/-! ### fresh lists, which a variable may own -/
abbrev DN := Evn → (List D → Evn → Prop) → Prop
def liftN (K : Kx) (f : DN) : TE := fun σ H Q => ∃ e env oa F k, ∃ P : List D → Evn → Prop, Rel K e env oa σ F H k ∧ f env P ∧ ∀ ds env' p vs oa' F' H' k', P ds env' → Gd (tabK K.f) e p → Rel K (gd e p (.lst vs)) env' oa' σ F' H' k' → Grow F F' k k' → Ats K.f F' k' ds vs → Q (.ref p) H'
def dnLst (fa : DA) : DN := fun env Q => fa env fun ds env1 => ds.length ≤ 10000000 ∧ Q ds env1
def dnList (f : DE) : DN := fun env Q => f env fun d env1 => match d with
  | .tup l => Q l env1
  | .lst l => Q l env1
  | _ => False
def dnSorted (f : DE) : DN := fun env Q => f env fun d env1 => ∃ ns : List Int, (d = .lst (ns.map D.int) ∨ d = .tup (ns.map D.int)) ∧ ∀ ms : List Int, ms.Perm ns → ms.Pairwise (· ≤ ·) → Q (ms.map D.int) env1
def dnListRg (r : Evn → (Int → Int → Evn → Prop) → Prop) : DN := fun env Q => r env fun a b env1 => (-16777216 ≤ a ∧ b ≤ 16777216 ∧ a ≤ 16777216 ∧ -16777216 ≤ b ∧ b - a ≤ 16777216) ∧ Q (rngD a (b - a).toNat) env1
def dnAdd (f g : DE) : DN := fun env Q => f env fun x env1 => g env1 fun y env2 => match x, y with
  | .lst l, .lst m => l.length + m.length ≤ 10000000 ∧ Q (l ++ m) env2
  | _, _ => False
def dnRep (f g : DE) : DN := fun env Q => f env fun x env1 => g env1 fun y env2 => match x, y with
  | .lst l, .int k => (-(2 ^ 63) ≤ k ∧ k < 2 ^ 63 ∧ l.length * k.toNat ≤ 10000000) ∧ Q (List.replicate k.toNat l).flatten env2
  | _, _ => False
def dnLc (fi : DA) (g : DG) (t : DT) (f : DE) (vs : List Nat) : DN := fun env Q => fi env fun ds env1 => compL g t f vs ds [] env1 Q
section
variable {wx : DX} {WW : WX} {ZZ : Fz} {X : Cx} {a b : Expr} {es : List Expr} {pos p : Pos} {f g : DE} {fa : DA}
theorem dn_lst (h : PA X es (liftA (X.kx wx WW ZZ) fa)) : PE X (.List es pos) (liftN (X.kx wx WW ZZ) (dnLst fa)) :=
  (pe_lst h).w fun σ H Q ⟨e, env, oa, F, k, P, R, p, q⟩ => ⟨e, env, oa, F, k, _, R, p, fun ds env1 vs oa1 F1 H1 k1 ⟨z, p1⟩ R1 g1 a1 => ⟨by rw [← Ats.length a1]; exact size10 z, fun t ht => by
    obtain ⟨G, R2⟩ := R1.guard (o := .lst vs) ht
    exact q _ _ _ _ _ _ _ _ p1 G R2 g1 a1⟩⟩
theorem dn_list (hg : Gl X "list") (hm : X.mg "list" = none) (ha : PE X a (lift (X.kx wx WW ZZ) f)) (he : starEach [a] X.env = (false, eval a X.env) :: starEach [] X.env := by rfl) (hpl : (backTo pos (starEach [] X.env)).any (·.1) = false := by rfl) : PE X (.Call (.Name "list" p) [a] [] pos) (liftN (X.kx wx WW ZZ) (dnList f)) :=
  (pe_callTy call_list_of hg hm bt_list (pa_cons ha pa_nil he) (by decide) (by decide) he hpl).w fun σ H Q ⟨e, env, oa, F, k, P, R, p, q⟩ => ⟨e, env, oa, F, k, _, R, p, fun d env1 v oa1 F1 H1 k1 p1 R1 g1 a1 => by
    cases d with
    | tup l =>
      simp only [At] at a1
      obtain ⟨x, us, rfl, h1, h2⟩ := a1
      refine ⟨x, us, rfl, .inr (sqT_grow R1.wd.sub h1), fun t ht => ?_⟩
      obtain ⟨G, R2⟩ := R1.guard (o := .lst us) ht
      exact q _ _ _ _ _ _ _ _ p1 G R2 g1 h2
    | lst l =>
      simp only [At] at a1
      obtain ⟨x, us, rfl, h1, h2⟩ := a1
      refine ⟨x, us, rfl, .inl (SqL.of (R1.wd.sub _ _ h1)), fun t ht => ?_⟩
      obtain ⟨G, R2⟩ := R1.guard (o := .lst us) ht
      exact q _ _ _ _ _ _ _ _ p1 G R2 g1 h2
    | _ => exact p1.elim⟩
theorem dn_sorted (hg : Gl X "sorted") (hm : X.mg "sorted" = none) (ha : PE X a (lift (X.kx wx WW ZZ) f)) (he : starEach [a] X.env = (false, eval a X.env) :: starEach [] X.env := by rfl) (hpl : (backTo pos (starEach [] X.env)).any (·.1) = false := by rfl) : PE X (.Call (.Name "sorted" p) [a] [] pos) (liftN (X.kx wx WW ZZ) (dnSorted f)) :=
  (pe_callB (call_or cr_sortedI cr_sortedTup) hg hm bt_sorted (pa_cons ha pa_nil he) (by decide) (by decide) he hpl).w fun σ H Q ⟨e, env, oa, F, k, P, R, p, q⟩ => ⟨e, env, oa, F, k, _, R, p, fun d env1 v oa1 F1 H1 k1 ⟨ns, hd, p1⟩ R1 g1 a1 => by
    rcases hd with rfl | rfl
    · simp only [At] at a1
      obtain ⟨x, us, rfl, h1, h2⟩ := a1
      have := ats_int h2
      subst this
      refine .inl ⟨x, ns, rfl, SqL.of (R1.wd.sub _ _ h1), fun ms t h3 h4 ht => ?_⟩
      obtain ⟨G, R2⟩ := R1.guard (o := .lst (ms.map V.int)) ht
      exact q _ _ _ _ _ _ _ _ (p1 ms h3 h4) G R2 g1 (ats_ints ms)
    · simp only [At] at a1
      obtain ⟨x, us, rfl, h1, h2⟩ := a1
      have := ats_int h2
      subst this
      refine .inr ⟨x, ns, rfl, sqT_grow R1.wd.sub h1, fun ms t h3 h4 ht => ?_⟩
      obtain ⟨G, R2⟩ := R1.guard (o := .lst (ms.map V.int)) ht
      exact q _ _ _ _ _ _ _ _ (p1 ms h3 h4) G R2 g1 (ats_ints ms)⟩
theorem dn_listRg {r : Evn → (Int → Int → Evn → Prop) → Prop} (hc : X.calm = true) (hg : Gl X "list") (hm : X.mg "list" = none) (he : L2.PRg X a (liftRg (X.kx wx WW ZZ) r)) (na : starEach [a] X.env = (false, eval a X.env) :: starEach [] X.env := by rfl) : PE X (.Call (.Name "list" p) [a] [] pos) (liftN (X.kx wx WW ZZ) (dnListRg r)) :=
  (L2.pe_listRg hc hg hm he na).w fun σ H Q ⟨e, env, oa, F, k, P, R, p, q⟩ => ⟨e, env, oa, F, k, _, R, p, fun a b env1 oa1 F1 H1 k1 ⟨c1, p1⟩ R1 g1 => ⟨rg_ok c1, fun t ht => by
    obtain ⟨G, R2⟩ := R1.guard (o := .lst (L2.rgV a b)) ht
    exact q _ _ _ _ _ _ _ _ p1 G R2 g1 (ats_rg a b)⟩⟩
theorem dn_add (ha : PE X a (lift (X.kx wx WW ZZ) f)) (hb : PE X b (lift (X.kx wx WW ZZ) g)) : PE X (.BinOp a .Add b pos) (liftN (X.kx wx WW ZZ) (dnAdd f g)) :=
  (pe_op op_cat ha hb).w fun σ H Q ⟨e, env, oa, F, k, P, R, p, q⟩ => ⟨e, env, oa, F, k, _, R, p, fun d env1 v oa1 F1 H1 k1 p1 R1 g1 a1 => ⟨e, env1, oa1, F1, k1, _, R1, p1, fun d' env2 v' oa2 F2 H2 k2 p2 R2 g2 a2 => by
    cases d with
    | lst l =>
      cases d' with
      | lst m =>
        have a1' := At.grow g2 _ _ a1
        simp only [At] at a1' a2
        obtain ⟨x, us, rfl, h1, h2⟩ := a1'
        obtain ⟨y, ws, rfl, h3, h4⟩ := a2
        refine ⟨x, y, us, ws, rfl, rfl, R2.wd.sub _ _ h1, R2.wd.sub _ _ h3, by rw [← Ats.length h2, ← Ats.length h4]; exact size10 p2.1, fun t ht => ?_⟩
        obtain ⟨G, R3⟩ := R2.guard (o := .lst (us ++ ws)) ht
        exact q _ _ _ _ _ _ _ _ p2.2 G R3 (g1.trans g2) (Ats.append h2 h4)
      | _ => exact p2.elim
    | _ => exact p2.elim⟩⟩
theorem dn_rep (ha : PE X a (lift (X.kx wx WW ZZ) f)) (hb : PE X b (lift (X.kx wx WW ZZ) g)) : PE X (.BinOp a .Mult b pos) (liftN (X.kx wx WW ZZ) (dnRep f g)) :=
  (pe_op op_rep ha hb).w fun σ H Q ⟨e, env, oa, F, k, P, R, p, q⟩ => ⟨e, env, oa, F, k, _, R, p, fun d env1 v oa1 F1 H1 k1 p1 R1 g1 a1 => ⟨e, env1, oa1, F1, k1, _, R1, p1, fun d' env2 v' oa2 F2 H2 k2 p2 R2 g2 a2 => by
    cases d with
    | lst l =>
      cases d' with
      | int j =>
        have a1' := At.grow g2 _ _ a1
        simp only [At] at a1' a2
        obtain ⟨x, us, rfl, h1, h2⟩ := a1'
        subst a2
        refine ⟨x, j, us, rfl, rfl, R2.wd.sub _ _ h1, p2.1.1, p2.1.2.1, by rw [← Ats.length h2]; exact size10 p2.1.2.2, fun t ht => ?_⟩
        obtain ⟨G, R3⟩ := R2.guard (o := .lst (List.replicate j.toNat us).flatten) ht
        exact q _ _ _ _ _ _ _ _ p2.2 G R3 (g1.trans g2) (Ats.rep h2 _)
      | _ => exact p2.elim
    | _ => exact p2.elim⟩⟩
end
theorem lift_lcN {K : Kx} {fi : DA} {g : DG} {t : DT} {f : DE} {vs L : List Nat} (hL : ∀ i ∈ L, i ∈ vs) : ∀ σ H Q, liftN K (dnLc fi g t f vs) σ H Q → tLc (liftI K fi) (liftG K L g) (liftT K t) (lift K f) vs σ H Q := fun σ H Q ⟨e, env, oa, F, k, P, R, p, q⟩ =>
  ⟨e, env, oa, F, k, _, R, p, fun ds env1 oa1 F1 H1 k1 J p1 R1 g1 runs => fun Dd hD => by
    refine ⟨fun i m H' => m = ds.length - i ∧ i ≤ ds.length ∧ ∃ acc vacc env' oa' F' k', Gd (tabK K.f) e Dd ∧ Rel K (gd e Dd (.lst vacc)) env' oa' σ F' H' k' ∧ Grow F1 F' k1 k' ∧ Ats K F' k' acc vacc ∧ compL g t f vs (ds.drop i) acc env' P, ?_, ?_⟩
    · obtain ⟨G, R2⟩ := R1.guard (o := .lst []) hD
      exact ⟨ds.length, by simp, Nat.zero_le _, [], [], env1, oa1, F1, k1, G, R2, Grow.refl _ _, .nil, p1⟩
    rintro i m H2 ⟨rfl, hi, acc, vacc, env2, oa2, F2, k2, G, R2, g2, A2, p2⟩
    obtain ⟨hs, hg⟩ := runs _ env2 oa2 σ F2 H2 k2 i R2.toRel0 g2
    by_cases hlt : i < ds.length
    · refine .inr ⟨(hg ds[i] (by simp [hlt])).1, fun H' => ∃ acc vacc env' oa' F' k', Gd (tabK K.f) e Dd ∧ Rel K (gd e Dd (.lst vacc)) env' oa' σ F' H' k' ∧ Grow F1 F' k1 k' ∧ Ats K F' k' acc vacc ∧ compL g t f vs (ds.drop (i + 1)) acc env' P,
        fun H' h => ⟨ds.length - (i + 1), by omega, rfl, hlt, h⟩, fun y H3 hy => ?_⟩
      obtain ⟨F3, R30, g3, a3⟩ := (hg ds[i] (by simp [hlt])).2 y H3 hy
      have R3 := R2.up R30 g3
      rw [List.drop_eq_getElem_cons hlt] at p2
      refine ⟨_, wipeD env2 vs, oa2, F3, k2, ds[i], _, R3.wipe vs, a3, p2, fun env4 oa4 σ4 F4 H4 k4 p4 R4 g4 l4 s4 => ?_⟩
      have l4' : σ4.length = σ.length := l4.trans (wipe_length σ vs)
      have s4' : ∀ j, j ∉ vs → σ4[j]? = σ[j]? := fun j hj => (s4 j fun z => hj (hL j z)).trans (wipe_out hj)
      refine ⟨by
        have := wipe_ext (vs := vs) l4' s4'
        exact this, _, env4, oa4, F4, k4, _, R4, p4, fun b env5 oa5 F5 H5 k5 p5 R5 g5 => ?_⟩
      cases b with
      | false =>
        have g35 := g4.trans g5
        exact ⟨acc, vacc, _, oa5, F5, k5, G, R3.restore R5 g35 l4' s4', g2.trans (g3.trans g35), Ats.grow (g3.trans g35) _ _ A2, p5⟩
      | true =>
        refine ⟨_, env5, oa5, F5, k5, _, R5, p5, fun d env6 v oa6 F6 H6 k6 p6 R6 g6 a6 => ?_⟩
        have g36 := g4.trans (g5.trans g6)
        obtain ⟨hH, _⟩ := R6.guarded G
        have hlen : vacc.length < sizeLine := by
          rw [← Ats.length A2]
          exact Nat.lt_of_lt_of_le p6.1 (size10 (Nat.le_refl _))
        have R6' := R3.restore R6 g36 l4' s4'
        exact ⟨vacc, hH, hlen, acc ++ [d], vacc ++ [v], _, oa6, F6, k6, G, R6'.gset (R1.lnk.grow (g2.trans (g3.trans g36))) G _, g2.trans (g3.trans g36), Ats.append (Ats.grow (g3.trans g36) _ _ A2) (.cons a6 .nil), p6.2⟩
    · have ei : i = ds.length := by omega
      subst ei
      rw [List.drop_length] at p2
      exact .inl ⟨hs (Nat.le_refl _), q _ _ _ _ _ _ _ _ p2 G R2 (g1.trans g2) A2⟩⟩
section
variable {wx : DX} {WW : WX} {ZZ : Fz} {X : Cx}
theorem dn_lc {elt tg iter : Expr} {ifs : List Expr} {scope : Scope} {own : List (Str × Nat)} {pos : Pos} {fi : DA} {g : DG} {t : DT} {f : DE} {L : List Nat} (hc : X.calm = true) (hN : X.N.Nodup) (hi : PI X tg iter (liftI (X.kx wx WW ZZ) fi)) (ok : BlkOk X.N X.env.scope scope own)
    (hg : ∀ (s : Shared) (H : Hp) (C : Addr) (cl : List (Str × Addr)) (fp : List Addr), PG (X.blk s H scope (compEnvC scope cl C X.env) fp) tg (liftG (X.kx wx WW ZZ) L g)) (ht : ∀ (s : Shared) (H : Hp) (C : Addr) (cl : List (Str × Addr)) (fp : List Addr), PTs (X.blk s H scope (compEnvC scope cl C X.env) fp) ifs (liftT (X.kx wx WW ZZ) t))
    (he : ∀ (s : Shared) (H : Hp) (C : Addr) (cl : List (Str × Addr)) (fp : List Addr), PE (X.blk s H scope (compEnvC scope cl C X.env) fp) elt (lift (X.kx wx WW ZZ) f)) (hL : ∀ i ∈ L, i ∈ own.map (·.2)) (hs : ∀ x, foldedSetIterable iter X.env x = pure x := by intro _; rfl) :
    PE X (.ListComp elt [⟨tg, iter, ifs, 0⟩] scope pos) (liftN (X.kx wx WW ZZ) (dnLc fi g t f (own.map (·.2)))) :=
  (L2.pe_lc hc hN hi ok hg ht he hs).w fun σ H Q q => lift_lcN (K := X.kx wx WW ZZ) hL σ H Q q
end
/-! the parts of a tuple that is stored at once: values and fresh lists -/
def RelG (K : Kx) : Ent → List Slot → List V → Evn → (Nat → Addr) → L2.St → Hp → Hp → Dk → Prop
  | e, [], [], env, oa, σ, F, H, k => Rel K e env oa σ F H k
  | e, .val d :: ss, v :: vs, env, oa, σ, F, H, k => At K.f F k d v ∧ RelG K e ss vs env oa σ F H k
  | e, .own ds :: ss, v :: vs, env, oa, σ, F, H, k => ∃ p us, v = .ref p ∧ Gd (tabK K.f) e p ∧ Ats K.f F k ds us ∧ RelG K (gd e p (.lst us)) ss vs env oa σ F H k
  | _, _, _, _, _, _, _, _, _ => False
abbrev DCs := Evn → (List Slot → Evn → Prop) → Prop
def liftC (K : Kx) (f : DCs) : TA := fun σ H Q => ∃ e env oa F k, ∃ P : List Slot → Evn → Prop, Rel K e env oa σ F H k ∧ f env P ∧ ∀ ss env' vs oa' F' H' k', P ss env' → RelG K e ss vs env' oa' σ F' H' k' → Grow F F' k k' → Q vs H'
def dcNil : DCs := fun env Q => Q [] env
def dcVal (f : DE) (r : DCs) : DCs := fun env Q => f env fun d env1 => r env1 fun ss env2 => Q (.val d :: ss) env2
def dcOwn (f : DN) (r : DCs) : DCs := fun env Q => f env fun ds env1 => r env1 fun ss env2 => Q (.own ds :: ss) env2
def setR (env : Evn) : List Nat → List Slot → Evn
  | i :: is, s :: ss => (setR env is ss).set i s
  | _, _ => env
def setV (σ : L2.St) : List Nat → List V → L2.St
  | i :: is, v :: vs => (setV σ is vs).set i (some v)
  | _, _ => σ
theorem RelG.store {K : Kx} {env : Evn} {oa : Nat → Addr} {σ : L2.St} {F H : Hp} {k : Dk} : ∀ (is : List Nat) (ss : List Slot) (vs : List V) (e : Ent), Lnk K e F k → RelG K e ss vs env oa σ F H k → is.length = ss.length → ∃ oa', Rel K e (setR env is ss) oa' (setV σ is vs) F H k
  | [], [], [], e, L, R, _ => ⟨oa, R⟩
  | i :: is, .val d :: ss, v :: vs, e, L, R, hl => by
    simp only [RelG] at R
    obtain ⟨a, R⟩ := R
    obtain ⟨oa', R1⟩ := RelG.store is ss vs e L R (by simpa using hl)
    exact ⟨oa', R1.put a⟩
  | i :: is, .own ds :: ss, v :: vs, e, L, R, hl => by
    simp only [RelG] at R
    obtain ⟨p, us, rfl, G, A, R⟩ := R
    obtain ⟨oa', R1⟩ := RelG.store is ss vs _ (L.gd G) R (by simpa using hl)
    exact ⟨_, Rel.own' (e0 := e) L G R1 A i⟩
  | _, .no :: _, _, e, L, R, _ => by simp [RelG] at R
  | _, [], _ :: _, e, L, R, _ => by simp [RelG] at R
  | _, .val _ :: _, [], e, L, R, _ => by simp [RelG] at R
  | _, .own _ :: _, [], e, L, R, _ => by simp [RelG] at R
  | [], _ :: _, _, e, L, R, hl => by simp at hl
  | _ :: _, [], _, e, L, R, hl => by simp at hl
section
variable {wx : DX} {WW : WX} {ZZ : Fz} {X : Cx} {a b c : Expr} {es : List Expr} {pos : Pos} {f : DE} {fn : DN} {r fc : DCs}
theorem dc_nil : PA X [] (liftC (X.kx wx WW ZZ) dcNil) := pa_nil.w fun σ H Q ⟨e, env, oa, F, k, P, R, p, q⟩ => q [] env [] oa F H k p R (Grow.refl _ _)
theorem dc_val (ha : PE X a (lift (X.kx wx WW ZZ) f)) (hr : PA X es (liftC (X.kx wx WW ZZ) r)) (hs : starEach (a :: es) X.env = (false, eval a X.env) :: starEach es X.env := by rfl) : PA X (a :: es) (liftC (X.kx wx WW ZZ) (dcVal f r)) :=
  (pa_cons ha hr hs).w fun σ H Q ⟨e, env, oa, F, k, P, R, p, q⟩ => ⟨e, env, oa, F, k, _, R, p, fun d env1 v oa1 F1 H1 k1 p1 R1 g1 a1 => ⟨e, env1, oa1, F1, k1, _, R1, p1, fun ss env2 vs oa2 F2 H2 k2 p2 R2 g2 =>
    q (.val d :: ss) env2 (v :: vs) oa2 F2 H2 k2 p2 ⟨At.grow g2 _ _ a1, R2⟩ (g1.trans g2)⟩⟩
theorem dc_own (ha : PE X a (liftN (X.kx wx WW ZZ) fn)) (hr : PA X es (liftC (X.kx wx WW ZZ) r)) (hs : starEach (a :: es) X.env = (false, eval a X.env) :: starEach es X.env := by rfl) : PA X (a :: es) (liftC (X.kx wx WW ZZ) (dcOwn fn r)) :=
  (pa_cons ha hr hs).w fun σ H Q ⟨e, env, oa, F, k, P, R, p, q⟩ => ⟨e, env, oa, F, k, _, R, p, fun ds env1 t us oa1 F1 H1 k1 p1 G R1 g1 a1 => ⟨_, env1, oa1, F1, k1, _, R1, p1, fun ss env2 vs oa2 F2 H2 k2 p2 R2 g2 =>
    q (.own ds :: ss) env2 (.ref t :: vs) oa2 F2 H2 k2 p2 ⟨t, us, rfl, G, Ats.grow g2 _ _ a1, R2⟩ (g1.trans g2)⟩⟩
/-- x = fresh -/
def dNewF (i : Nat) (fn : DN) : DS := fun B env => fn env fun ds env1 => B.nx (env1.set i (.own ds))
theorem ds_newF {i : Nat} {x : Str} {pos' : Pos} (hN : X.N.Nodup) (hi : X.N[i]? = some x) (hx : Loc X.env.scope x) (h : PE X a (liftN (X.kx wx WW ZZ) fn)) (hs : swapsWith a (some (.Name x pos')) pos.line X.env = pure false := by rfl)
    (hf : X.fn x = true ∨ X.env.scope.names.lookup x = some .local := by first | exact .inl rfl | exact .inr rfl | assumption) : PS X (.Assign [.Name x pos'] a pos) (liftS (X.kx wx WW ZZ) (dNewF i fn)) :=
  (ps_set (i := i) hN hi hx h hs hf).w fun E σ H ⟨e, env, oa, F, k, B, R, p, n, r, b, c⟩ => ⟨e, env, oa, F, k, _, R, p, fun ds env1 t us oa1 F1 H1 k1 p1 G R1 g1 a1 => n _ _ _ F1 _ k1 p1 (Rel.own' (e0 := e) (R.lnk.grow g1) G R1 a1 i) g1⟩
def dParC (is : List Nat) (fc : DCs) : DS := fun B env => fc env fun ss env1 => is.length = ss.length ∧ B.nx (setR env1 is ss)
theorem ds_parC {i j : Nat} {x y : Str} {px py pt : Pos} {kt k2 : Nat} {pt2 : Pos} (hc : X.calm = true) (hN : X.N.Nodup) (hi : X.N[i]? = some x) (hj : X.N[j]? = some y) (hij : i ≠ j)
    (hx : X.env.scope.names.lookup x = some .local) (hy : X.env.scope.names.lookup y = some .local) (ha : PA X [a, b] (liftC (X.kx wx WW ZZ) fc))
    (hw : swappedStores [.Tuple [.Name x px, .Name y py] kt pt] (.Tuple [a, b] k2 pt2) X.env = pure (some [x, y])) (hs : swapsWithSole [.Tuple [.Name x px, .Name y py] kt pt] (.Tuple [a, b] k2 pt2) pos.line X.env = pure false := by rfl) :
    PS X (.Assign [.Tuple [.Name x px, .Name y py] kt pt] (.Tuple [a, b] k2 pt2) pos) (liftS (X.kx wx WW ZZ) (dParC [i, j] fc)) := (ps_par (i := i) (j := j) hc hN hi hj hij hx hy ha hw hs).w fun E σ H ⟨e, env, oa, F, k, B, R, p, n, r, b, c⟩ =>
  ⟨e, env, oa, F, k, _, R, p, fun ss env1 vs oa1 F1 H1 k1 ⟨hl, p1⟩ R1 g1 => by
    obtain ⟨oa', R2⟩ := RelG.store [i, j] ss vs e (R.lnk.grow g1) R1 hl
    match ss, vs, hl, R1, R2 with
    | [s, t], [v, w], _, R1, R2 =>
      refine ⟨v, w, rfl, ?_⟩
      simp only [setV] at R2
      rw [List.set_comm _ _ hij]
      exact n _ _ _ F1 _ k1 p1 R2 g1
    | [s, .val _], [v], _, R1, _ => cases s <;> simp [RelG] at R1
    | [s, .own _], [v], _, R1, _ => cases s <;> simp [RelG] at R1
    | [s, .no], [v], _, R1, _ => cases s <;> simp [RelG] at R1
    | [s, _], [], _, R1, _ => cases s <;> simp [RelG] at R1
    | [s, t], _ :: _ :: _ :: _, _, R1, _ => cases s <;> cases t <;> simp [RelG] at R1⟩
theorem ds_parC3 {i j l : Nat} {x y z : Str} {px py pz pt : Pos} {kt k2 : Nat} {pt2 : Pos} (hc : X.calm = true) (hN : X.N.Nodup) (hi : X.N[i]? = some x) (hj : X.N[j]? = some y) (hl : X.N[l]? = some z) (hij : i ≠ j) (hil : i ≠ l) (hjl : j ≠ l)
    (hx : X.env.scope.names.lookup x = some .local) (hy : X.env.scope.names.lookup y = some .local) (hz : X.env.scope.names.lookup z = some .local) (ha : PA X [a, b, c] (liftC (X.kx wx WW ZZ) fc))
    (hw : swappedStores [.Tuple [.Name x px, .Name y py, .Name z pz] kt pt] (.Tuple [a, b, c] k2 pt2) X.env = pure (some [x, y, z])) (hs : swapsWithSole [.Tuple [.Name x px, .Name y py, .Name z pz] kt pt] (.Tuple [a, b, c] k2 pt2) pos.line X.env = pure false := by rfl) :
    PS X (.Assign [.Tuple [.Name x px, .Name y py, .Name z pz] kt pt] (.Tuple [a, b, c] k2 pt2) pos) (liftS (X.kx wx WW ZZ) (dParC [i, j, l] fc)) := (L2.ps_par3 (i := i) (j := j) (l := l) hc hN hi hj hl hij hil hjl hx hy hz ha hw hs).w fun E σ H ⟨e, env, oa, F, k, B, R, p, n, r, b, c⟩ =>
  ⟨e, env, oa, F, k, _, R, p, fun ss env1 vs oa1 F1 H1 k1 ⟨hlen, p1⟩ R1 g1 => by
    obtain ⟨oa', R2⟩ := RelG.store [i, j, l] ss vs e (R.lnk.grow g1) R1 hlen
    have lv : ∀ (ss : List Slot) (vs : List V) (e : Ent), RelG (X.kx wx WW ZZ) e ss vs env1 oa1 σ F1 H1 k1 → vs.length = ss.length := by
      intro ss
      induction ss with
      | nil => intro vs e R; cases vs with
        | nil => rfl
        | cons v vs => simp [RelG] at R
      | cons s ss ih =>
        intro vs e R
        cases vs with
        | nil => cases s <;> simp [RelG] at R
        | cons v vs =>
          cases s with
          | no => simp [RelG] at R
          | val d => simp only [RelG] at R; simp [ih vs _ R.2]
          | own ds =>
            simp only [RelG] at R
            obtain ⟨p, us, _, _, _, R⟩ := R
            simp [ih vs _ R]
    have h3 := lv ss vs e R1
    match ss, vs, hlen, h3, R2 with
    | [s, t, u], [v, w, x], _, _, R2 =>
      refine ⟨v, w, x, rfl, ?_⟩
      simp only [setV] at R2
      rw [List.set_comm _ _ hij, List.set_comm _ _ hil, List.set_comm _ _ hjl]
      exact n _ _ _ F1 _ k1 p1 R2 g1⟩
end
section
variable {env : Evn} {Q : List D → Evn → Prop} {f g : DE} {fa : DA} {fn : DN} {r fc : DCs} {B : DEnd} {QC : List Slot → Evn → Prop} {i : Nat} {is : List Nat} {s : Slot} {ss : List Slot}
@[simp ↓] theorem n_Lst : dnLst fa env Q = fa env fun ds env1 => ds.length ≤ 10000000 ∧ Q ds env1 := rfl
@[simp ↓] theorem n_List : dnList f env Q = f env fun d env1 => match d with | .tup l => Q l env1 | .lst l => Q l env1 | _ => False := rfl
@[simp ↓] theorem n_ListRg {r : Evn → (Int → Int → Evn → Prop) → Prop} : dnListRg r env Q = r env fun a b env1 => (-16777216 ≤ a ∧ b ≤ 16777216 ∧ a ≤ 16777216 ∧ -16777216 ≤ b ∧ b - a ≤ 16777216) ∧ Q (rngD a (b - a).toNat) env1 := rfl
@[simp ↓] theorem n_Add : dnAdd f g env Q = f env fun x env1 => g env1 fun y env2 => match x, y with | .lst l, .lst m => l.length + m.length ≤ 10000000 ∧ Q (l ++ m) env2 | _, _ => False := rfl
@[simp ↓] theorem n_Rep : dnRep f g env Q = f env fun x env1 => g env1 fun y env2 => match x, y with | .lst l, .int k => (-(2 ^ 63) ≤ k ∧ k < 2 ^ 63 ∧ l.length * k.toNat ≤ 10000000) ∧ Q (List.replicate k.toNat l).flatten env2 | _, _ => False := rfl
@[simp ↓] theorem n_Lc {fi : DA} {g : DG} {t : DT} {vs : List Nat} : dnLc fi g t f vs env Q = fi env fun ds env1 => compL g t f vs ds [] env1 Q := rfl
@[simp ↓] theorem c_Nil : dcNil env QC = QC [] env := rfl
@[simp ↓] theorem c_Val : dcVal f r env QC = f env fun d env1 => r env1 fun ss env2 => QC (.val d :: ss) env2 := rfl
@[simp ↓] theorem c_Own : dcOwn fn r env QC = fn env fun ds env1 => r env1 fun ss env2 => QC (.own ds :: ss) env2 := rfl
@[simp ↓] theorem e_NewF : dNewF i fn B env = fn env fun ds env1 => B.nx (env1.set i (.own ds)) := rfl
@[simp ↓] theorem e_ParC : dParC is fc B env = fc env fun ss env1 => is.length = ss.length ∧ B.nx (setR env1 is ss) := rfl
@[simp] theorem setR_cons : setR env (i :: is) (s :: ss) = (setR env is ss).set i s := rfl
@[simp] theorem setR_nil : setR env [] ss = env := by cases ss <;> rfl
end
end DL
set_option maxHeartbeats 4000000
namespace DL
open PySem PySem.Spec L2
/-! ### comprehensions of two loops -/
def compL2 (g : DG) (t : DT) (fi1 : DA) (g1 : DG) (t1 : DT) (f : DE) (vs vs1 : List Nat) : List D → List D → Evn → (List D → Evn → Prop) → Prop
  | [], acc, env, Q => Q acc env
  | d :: ds, acc, env, Q => g d (wipeD env vs) fun env2 => t env2 fun b env3 =>
    if b = true then fi1 env3 fun es env4 => compL g1 t1 f vs1 es acc env4 fun acc' env5 => compL2 g t fi1 g1 t1 f vs vs1 ds acc' (restD env vs env5) Q
    else compL2 g t fi1 g1 t1 f vs vs1 ds acc (restD env vs env3) Q
def dLc2 (fi : DA) (g : DG) (t : DT) (fi1 : DA) (g1 : DG) (t1 : DT) (f : DE) (vs vs1 : List Nat) : DE := fun env Q => fi env fun ds env1 => compL2 g t fi1 g1 t1 f vs vs1 ds [] env1 fun acc env2 => Q (.lst acc) env2
theorem lift_lc2 {K : Kx} {fi : DA} {g : DG} {t : DT} {fi1 : DA} {g1 : DG} {t1 : DT} {f : DE} {vs vs1 L L1 : List Nat} (hL : ∀ i ∈ L, i ∈ vs) (hL1 : ∀ i ∈ L1, i ∈ vs1) (hv : ∀ i ∈ vs1, i ∈ vs) :
    ∀ σ H Q, lift K (dLc2 fi g t fi1 g1 t1 f vs vs1) σ H Q → tLc2 (liftI K fi) (liftG K L g) (liftT K t) (liftI K fi1) (liftG K L1 g1) (liftT K t1) (lift K f) vs vs1 σ H Q := fun σ H Q ⟨e, env, oa, F, k, P, R, p, q⟩ =>
  ⟨e, env, oa, F, k, _, R, p, fun ds env1 oa1 F1 H1 k1 J p1 R1 g1' runs => fun Dd hD => by
    refine ⟨fun i m H' => m = ds.length - i ∧ i ≤ ds.length ∧ ∃ acc vacc env' oa' F' k', Gd (tabK K.f) e Dd ∧ Rel K (gd e Dd (.lst vacc)) env' oa' σ F' H' k' ∧ Grow F1 F' k1 k' ∧ Ats K F' k' acc vacc ∧ compL2 g t fi1 g1 t1 f vs vs1 (ds.drop i) acc env' fun acc env2 => P (.lst acc) env2, ?_, ?_⟩
    · obtain ⟨G, R2⟩ := R1.guard (o := .lst []) hD
      exact ⟨ds.length, by simp, Nat.zero_le _, [], [], env1, oa1, F1, k1, G, R2, Grow.refl _ _, .nil, p1⟩
    rintro i m H2 ⟨rfl, hi, acc, vacc, env2, oa2, F2, k2, G, R2, g2, A2, p2⟩
    obtain ⟨hs, hg⟩ := runs _ env2 oa2 σ F2 H2 k2 i R2.toRel0 g2
    by_cases hlt : i < ds.length
    · refine .inr ⟨(hg ds[i] (by simp [hlt])).1, fun H' => ∃ acc vacc env' oa' F' k', Gd (tabK K.f) e Dd ∧ Rel K (gd e Dd (.lst vacc)) env' oa' σ F' H' k' ∧ Grow F1 F' k1 k' ∧ Ats K F' k' acc vacc ∧ compL2 g t fi1 g1 t1 f vs vs1 (ds.drop (i + 1)) acc env' fun acc env2 => P (.lst acc) env2,
        fun H' h => ⟨ds.length - (i + 1), by omega, rfl, hlt, h⟩, fun y H3 hy => ?_⟩
      obtain ⟨F3, R30, g3, a3⟩ := (hg ds[i] (by simp [hlt])).2 y H3 hy
      have R3 := R2.up R30 g3
      rw [List.drop_eq_getElem_cons hlt] at p2
      refine ⟨_, wipeD env2 vs, oa2, F3, k2, ds[i], _, R3.wipe vs, a3, p2, fun env4 oa4 σ4 F4 H4 k4 p4 R4 g4 l4 s4 => ?_⟩
      have l4' : σ4.length = σ.length := l4.trans (wipe_length σ vs)
      have s4' : ∀ j, j ∉ vs → σ4[j]? = σ[j]? := fun j hj => (s4 j fun z => hj (hL j z)).trans (wipe_out hj)
      refine ⟨by
        have := wipe_ext (vs := vs) l4' s4'
        exact this, _, env4, oa4, F4, k4, _, R4, p4, fun b env5 oa5 F5 H5 k5 p5 R5 g5 => ?_⟩
      cases b with
      | false =>
        have g35 := g4.trans g5
        exact ⟨acc, vacc, _, oa5, F5, k5, G, R3.restore R5 g35 l4' s4', g2.trans (g3.trans g35), Ats.grow (g3.trans g35) _ _ A2, p5⟩
      | true =>
        refine ⟨_, env5, oa5, F5, k5, _, R5, p5, fun es env6 oa6 F6 H6 k6 J1 p6 R6 g6 runs1 => ?_⟩
        have g36 := g4.trans (g5.trans g6)
        refine ⟨fun j k H' => k = es.length - j ∧ j ≤ es.length ∧ ∃ acc vacc env' oa' F' k', Rel K (gd e Dd (.lst vacc)) env' oa' σ4 F' H' k' ∧ Grow F6 F' k6 k' ∧ Ats K F' k' acc vacc ∧ compL g1 t1 f vs1 (es.drop j) acc env' fun acc' env5 => compL2 g t fi1 g1 t1 f vs vs1 (ds.drop (i + 1)) acc' (restD env2 vs env5) fun acc env2 => P (.lst acc) env2, ?_, ?_⟩
        · exact ⟨es.length, by simp, Nat.zero_le _, acc, vacc, env6, oa6, F6, k6, R6, Grow.refl _ _, Ats.grow (g3.trans g36) _ _ A2, p6⟩
        rintro j m H7 ⟨rfl, hj, acc7, vacc7, env7, oa7, F7, k7, R7, g7, A7, p7⟩
        obtain ⟨hs1, hg1⟩ := runs1 _ env7 oa7 σ4 F7 H7 k7 j R7.toRel0 g7
        by_cases hlt1 : j < es.length
        · refine .inr ⟨(hg1 es[j] (by simp [hlt1])).1, fun H' => ∃ acc vacc env' oa' F' k', Rel K (gd e Dd (.lst vacc)) env' oa' σ4 F' H' k' ∧ Grow F6 F' k6 k' ∧ Ats K F' k' acc vacc ∧ compL g1 t1 f vs1 (es.drop (j + 1)) acc env' fun acc' env5 => compL2 g t fi1 g1 t1 f vs vs1 (ds.drop (i + 1)) acc' (restD env2 vs env5) fun acc env2 => P (.lst acc) env2,
            fun H' h => ⟨es.length - (j + 1), by omega, rfl, hlt1, h⟩, fun y H8 hy => ?_⟩
          obtain ⟨F8, R80, g8, a8⟩ := (hg1 es[j] (by simp [hlt1])).2 y H8 hy
          have R8 := R7.up R80 g8
          rw [List.drop_eq_getElem_cons hlt1] at p7
          refine ⟨_, wipeD env7 vs1, oa7, F8, k7, es[j], _, R8.wipe vs1, a8, p7, fun env9 oa9 σ9 F9 H9 k9 p9 R9 g9 l9 s9 => ?_⟩
          have l9' : σ9.length = σ4.length := l9.trans (wipe_length σ4 vs1)
          have s9' : ∀ j, j ∉ vs1 → σ9[j]? = σ4[j]? := fun j hj => (s9 j fun z => hj (hL1 j z)).trans (wipe_out hj)
          refine ⟨by
            have := wipe_ext (vs := vs1) l9' s9'
            exact this, _, env9, oa9, F9, k9, _, R9, p9, fun b enva oaa Fa Ha ka pa Ra ga => ?_⟩
          cases b with
          | false =>
            have g9a := g9.trans ga
            exact ⟨acc7, vacc7, _, oaa, Fa, ka, R8.restore Ra g9a l9' s9', g7.trans (g8.trans g9a), Ats.grow (g8.trans g9a) _ _ A7, pa⟩
          | true =>
            refine ⟨_, enva, oaa, Fa, ka, _, Ra, pa, fun d envb v oab Fb Hb kb pb Rb gb ab => ?_⟩
            have g9b := g9.trans (ga.trans gb)
            obtain ⟨hH, _⟩ := Rb.guarded G
            have hlen : vacc7.length < sizeLine := by
              rw [← Ats.length A7]
              exact Nat.lt_of_lt_of_le pb.1 (size10 (Nat.le_refl _))
            have Rb' := R8.restore Rb g9b l9' s9'
            exact ⟨vacc7, hH, hlen, acc7 ++ [d], vacc7 ++ [v], _, oab, Fb, kb, Rb'.gset (R1.lnk.grow (g2.trans (g3.trans (g36.trans (g7.trans (g8.trans g9b)))))) G _, g7.trans (g8.trans g9b), Ats.append (Ats.grow (g8.trans g9b) _ _ A7) (.cons ab .nil), pb.2⟩
        · have ej : j = es.length := by omega
          subst ej
          rw [List.drop_length] at p7
          exact .inl ⟨hs1 (Nat.le_refl _), acc7, vacc7, _, oa7, F7, k7, G, R3.restore R7 (g36.trans g7) l4' s4', g2.trans (g3.trans (g36.trans g7)), A7, p7⟩
    · have ei : i = ds.length := by omega
      subst ei
      rw [List.drop_length] at p2
      refine .inl ⟨hs (Nat.le_refl _), ?_⟩
      obtain ⟨R3, g3⟩ := R2.give (R1.lnk.grow g2) G
      exact q _ _ _ _ _ _ _ p2 R3 (g1'.trans (g2.trans g3)) (by simp only [At]; exact ⟨Dd, vacc, rfl, upd_same, Ats.grow g3 _ _ A2⟩)⟩
section
variable {wx : DX} {WW : WX} {ZZ : Fz} {X : Cx}
theorem dl_lc2 {elt tg iter tg1 iter1 : Expr} {ifs ifs1 : List Expr} {scope : Scope} {own : List (Str × Nat)} {vs1 : List Nat} {pos : Pos} {fi fi1 : DA} {g g1 : DG} {t t1 : DT} {f : DE} {L L1 : List Nat} (hc : X.calm = true) (hN : X.N.Nodup) (hi : PI X tg iter (liftI (X.kx wx WW ZZ) fi)) (ok : BlkOk X.N X.env.scope scope own) (hv : ∀ i ∈ vs1, i ∈ own.map (·.2))
    (hg : ∀ (s : Shared) (H : Hp) (C : Addr) (cl : List (Str × Addr)) (fp : List Addr), PG (X.blk s H scope (compEnvC scope cl C X.env) fp) tg (liftG (X.kx wx WW ZZ) L g)) (ht : ∀ (s : Shared) (H : Hp) (C : Addr) (cl : List (Str × Addr)) (fp : List Addr), PTs (X.blk s H scope (compEnvC scope cl C X.env) fp) ifs (liftT (X.kx wx WW ZZ) t))
    (hi1 : ∀ (s : Shared) (H : Hp) (C : Addr) (cl : List (Str × Addr)) (fp : List Addr), PI (X.blk s H scope (compEnvC scope cl C X.env) fp) tg1 iter1 (liftI (X.kx wx WW ZZ) fi1))
    (hg1 : ∀ (s : Shared) (H : Hp) (C : Addr) (cl : List (Str × Addr)) (fp : List Addr), PG (X.blk s H scope (compEnvC scope cl C X.env) fp) tg1 (liftG (X.kx wx WW ZZ) L1 g1)) (ht1 : ∀ (s : Shared) (H : Hp) (C : Addr) (cl : List (Str × Addr)) (fp : List Addr), PTs (X.blk s H scope (compEnvC scope cl C X.env) fp) ifs1 (liftT (X.kx wx WW ZZ) t1))
    (he : ∀ (s : Shared) (H : Hp) (C : Addr) (cl : List (Str × Addr)) (fp : List Addr), PE (X.blk s H scope (compEnvC scope cl C X.env) fp) elt (lift (X.kx wx WW ZZ) f)) (hL : ∀ i ∈ L, i ∈ own.map (·.2)) (hL1 : ∀ i ∈ L1, i ∈ vs1) (hs : ∀ x, foldedSetIterable iter X.env x = pure x := by intro _; rfl) (hs1 : ∀ env x, foldedSetIterable iter1 env x = pure x := by intro _ _; rfl) :
    PE X (.ListComp elt [⟨tg, iter, ifs, 0⟩, ⟨tg1, iter1, ifs1, 0⟩] scope pos) (lift (X.kx wx WW ZZ) (dLc2 fi g t fi1 g1 t1 f (own.map (·.2)) vs1)) :=
  (L2.pe_lc2 hc hN hi ok hv hg ht hi1 hg1 ht1 he hs hs1).w fun σ H Q q => lift_lc2 (K := X.kx wx WW ZZ) hL hL1 hv σ H Q q
end
@[simp ↓] theorem e_Lc2 {fi : DA} {g : DG} {t : DT} {fi1 : DA} {g1 : DG} {t1 : DT} {f : DE} {vs vs1 : List Nat} {env : Evn} {Q : D → Evn → Prop} : dLc2 fi g t fi1 g1 t1 f vs vs1 env Q = fi env fun ds env1 => compL2 g t fi1 g1 t1 f vs vs1 ds [] env1 fun acc env2 => Q (.lst acc) env2 := rfl
/-- one turn of the outer loop -/
def turn2 (g : DG) (t : DT) (fi1 : DA) (vs : List Nat) (env : Evn) (d : D) (inner : List D → Evn → Prop) (skip : Evn → Prop) : Prop := g d (wipeD env vs) fun env2 => t env2 fun b env3 => if b = true then fi1 env3 inner else skip (restD env vs env3)
end DL
namespace DL
open PySem PySem.Spec L2
/-! ### a dial set at a place, any dial -/
theorem for_step {g : DG} {u : DS} {B : DEnd} {lo c : Int} {n : Nat} (I : Nat → Evn → Prop) (step : ∀ (i : Nat) (env : Evn) (N : Evn → Prop), i < n → I i env → (∀ env', I (i + 1) env' → N env') → g (.int (lo + i * c)) env fun env1 => u { B with nx := N, ct := N, bk := B.nx } env1)
    (fin : ∀ env, I n env → B.nx env) {env : Evn} (h : I 0 env) : forL g u (stepD lo c n) B env := by
  have key : ∀ (k j : Nat) (env : Evn), j + k = n → I j env → forL g u ((List.range' j k).map fun (i : Nat) => D.int (lo + i * c)) B env := by
    intro k
    induction k with
    | zero =>
      intro j env e h
      have : j = n := by omega
      subst this
      exact fin env h
    | succ k ih =>
      intro j env e h
      rw [List.range'_succ, List.map_cons]
      exact step j env _ (by omega) h fun env' h' => ih (j + 1) env' (by omega) h'
  unfold stepD
  rw [List.range_eq_range']
  exact key n 0 env (by omega) h
def atN : Nat → Int → Int → List Int → List Int
  | 0, x, y, ns => halfN x y ns
  | d + 1, x, y, ns => atN d x y (ns.take (ns.length / 2)) ++ atN d x y (ns.drop (ns.length / 2))
def rowB (x y : Int) (S b : Nat) (ns : List Int) : List Int := (List.range S).map fun i => x * ns.getD (b + i) 0 + y * ns.getD (b + i + S) 0
def rawB (x y : Int) (S K : Nat) (ns : List Int) : List Int := (List.range K).flatMap fun k => rowB x y S (k * (2 * S)) ns
theorem rowB_len (x y : Int) (S b : Nat) (ns : List Int) : (rowB x y S b ns).length = S := by simp [rowB]
theorem rawB_succ (x y : Int) (S K : Nat) (ns : List Int) : rawB x y S (K + 1) ns = rawB x y S K ns ++ rowB x y S (K * (2 * S)) ns := by
  unfold rawB
  rw [List.range_succ, List.flatMap_append]
  simp
theorem rawB_len (x y : Int) (S : Nat) (ns : List Int) : ∀ K, (rawB x y S K ns).length = K * S
  | 0 => by simp [rawB]
  | K + 1 => by rw [rawB_succ, List.length_append, rawB_len x y S ns K, rowB_len, Nat.succ_mul]
theorem getD_take {ns : List Int} {m i : Nat} (h : i < m) : (ns.take m).getD i 0 = ns.getD i 0 := by
  rw [List.getD_eq_getElem?_getD, List.getD_eq_getElem?_getD, List.getElem?_take_of_lt h]
theorem getD_drop {ns : List Int} {m i : Nat} : (ns.drop m).getD i 0 = ns.getD (m + i) 0 := by
  rw [List.getD_eq_getElem?_getD, List.getD_eq_getElem?_getD, List.getElem?_drop]
theorem rowB_congr {x y : Int} {S b c : Nat} {ns ms : List Int} (h : ∀ i, i < 2 * S → ns.getD (b + i) 0 = ms.getD (c + i) 0) : rowB x y S b ns = rowB x y S c ms := by
  unfold rowB
  refine List.map_congr_left fun i hi => ?_
  have hi' := List.mem_range.mp hi
  rw [h i (by omega), show b + i + S = b + (i + S) by omega, show c + i + S = c + (i + S) by omega, h (i + S) (by omega)]
theorem rawB_add (x y : Int) (S : Nat) (ns : List Int) (K : Nat) : ∀ M, rawB x y S (K + M) ns = rawB x y S K ns ++ rawB x y S M (ns.drop (K * (2 * S)))
  | 0 => by simp [rawB]
  | M + 1 => by
    rw [← Nat.add_assoc, rawB_succ, rawB_add x y S ns K M, rawB_succ, List.append_assoc]
    congr 2
    refine rowB_congr fun i hi => ?_
    rw [getD_drop]
    congr 1
    rw [Nat.add_mul]
    omega
theorem rawB_take {x y : Int} {S K : Nat} {ns : List Int} : rawB x y S K ns = rawB x y S K (ns.take (K * (2 * S))) := by
  have key : ∀ M, M ≤ K → rawB x y S M ns = rawB x y S M (ns.take (K * (2 * S))) := by
    intro M
    induction M with
    | zero => intro _; simp [rawB]
    | succ M ih =>
      intro hM
      rw [rawB_succ, rawB_succ, ih (by omega)]
      congr 1
      refine rowB_congr fun i hi => (getD_take ?_).symm
      have : (M + 1) * (2 * S) ≤ K * (2 * S) := Nat.mul_le_mul_right _ hM
      rw [Nat.succ_mul] at this
      omega
  exact key K (Nat.le_refl _)
theorem pow_split (d e : Nat) : 2 ^ (d + 1 + e) = 2 ^ d * (2 * 2 ^ e) := by
  rw [Nat.pow_add, Nat.pow_succ, Nat.mul_assoc]
theorem rawB_at {x y : Int} {e : Nat} : ∀ (d : Nat) (ns : List Int), ns.length = 2 ^ (d + 1 + e) → rawB x y (2 ^ e) (2 ^ d) ns = atN d x y ns
  | 0, ns, h => by
    have hl : ns.length = 2 ^ (e + 1) := by rw [h]; congr 1; omega
    unfold atN
    apply List.ext_getElem?
    intro i
    by_cases hi : i < 2 ^ e
    · rw [half_get hl hi]
      simp [rawB, rowB, hi]
    · rw [List.getElem?_eq_none (by simp [rawB, rowB]; omega), List.getElem?_eq_none (by rw [half_len hl]; omega)]
  | d + 1, ns, h => by
    have e1 : ns.length = 2 * 2 ^ (d + 1 + e) := by rw [h, show d + 1 + 1 + e = d + 1 + e + 1 by omega, Nat.pow_succ]; omega
    have e2 : ns.length / 2 = 2 ^ (d + 1 + e) := by omega
    have e3 : 2 ^ d * (2 * 2 ^ e) = 2 ^ (d + 1 + e) := (pow_split d e).symm
    have e4 : 2 ^ (d + 1) = 2 ^ d + 2 ^ d := by rw [Nat.pow_succ]; omega
    unfold atN
    rw [e4, rawB_add, e3, rawB_take (K := 2 ^ d), e3, rawB_at d _ (by rw [List.length_take]; omega), rawB_at d _ (by rw [List.length_drop]; omega), e2]
theorem at_len {x y : Int} {e : Nat} (d : Nat) {ns : List Int} (h : ns.length = 2 ^ (d + 1 + e)) : (atN d x y ns).length = 2 ^ (d + e) := by
  rw [← rawB_at (e := e) d ns h, rawB_len, Nat.pow_add]
theorem at_lt {x y : Int} {b m : Nat} (hx : Lt m x) (hy : Lt m y) : ∀ (d : Nat) (ns : List Int), (∀ n ∈ ns, Lt b n) → ∀ n ∈ atN d x y ns, Lt (m + b + 1) n
  | 0, ns, hb => half_lt2 hx hy hb
  | d + 1, ns, hb => by
    intro n hn
    unfold atN at hn
    rcases List.mem_append.mp hn with hn | hn
    · exact at_lt hx hy d _ (fun n h => hb n (List.mem_of_mem_take h)) n hn
    · exact at_lt hx hy d _ (fun n h => hb n (List.mem_of_mem_drop h)) n hn
theorem cut_take (l : List D) (d : Nat) : cutD l none (some (d : Int)) = l.take d := by
  unfold cutD
  rw [HT.sIx_none, HT.sIx_nat, List.drop_zero, Nat.sub_zero]
  rcases Nat.le_total d l.length with h | h
  · rw [Nat.min_eq_left h]
  · rw [Nat.min_eq_right h, List.take_of_length_le (Nat.le_refl _), List.take_of_length_le h]
theorem cut_drop (l : List D) (d : Nat) : cutD l (some (d : Int)) none = l.drop d := by
  unfold cutD
  rw [HT.sIx_none, HT.sIx_nat]
  rcases Nat.le_total d l.length with h | h
  · rw [Nat.min_eq_left h]
    exact List.take_of_length_le (by rw [List.length_drop]; omega)
  · rw [Nat.min_eq_right h, List.drop_of_length_le (Nat.le_refl _), List.drop_of_length_le h]
    simp
/-- all but one dial set -/
def ins (k : Nat) (p : Int × Int) (ps : List (Int × Int)) : List (Int × Int) := ps.take k ++ p :: ps.drop k
def fold0 (ps : List (Int × Int)) (ns : List Int) : List Int := ps.foldl (fun ms p => halfN p.1 p.2 ms) ns
theorem val_fold : ∀ (ps qs : List (Int × Int)) (ns : List Int), valN ns (ps ++ qs) = valN (fold0 ps ns) qs
  | [], _, _ => rfl
  | p :: ps, qs, ns => val_fold ps qs _
theorem at1 {x y : Int} {l r : List Int} (h : l.length = r.length) : atN 1 x y (l ++ r) = halfN x y l ++ halfN x y r := by
  have e : (l ++ r).length / 2 = l.length := by rw [List.length_append]; omega
  unfold atN
  rw [e, List.take_left' rfl, List.drop_left' rfl]
  rfl
theorem ins_len {k : Nat} {p : Int × Int} {ps : List (Int × Int)} (h : k ≤ ps.length) : (ins k p ps).length = ps.length + 1 := by
  simp [ins]
  omega
theorem ins_mem {k : Nat} {p q : Int × Int} {ps : List (Int × Int)} (h : q ∈ ins k p ps) : q = p ∨ q ∈ ps := by
  simp only [ins, List.mem_append, List.mem_cons] at h
  rcases h with h | h | h
  · exact .inr (List.mem_of_mem_take h)
  · exact .inl h
  · exact .inr (List.mem_of_mem_drop h)
def dialD (n : Int) : D → Bool
  | .int i => decide (0 ≤ i ∧ i < n)
  | _ => false
def lpV (f n : Int) : D := if f = 0 ∧ n = 0 then .non else plV (-n) f
def lpD : D → D → D → D
  | .tup l, .int i, .tup m => lpV (valN (l.map toI) (ins i.toNat (1, 0) (m.map toP))) (valN (l.map toI) (ins i.toNat (0, 1) (m.map toP)))
  | _, _, _ => .non
def S_place_of : SD := fun ds P _ => match ds with
  | [.int a, .int b] => (Lt 8000 a ∧ Lt 8000 b) ∧ ¬ (a = 0 ∧ b = 0) ∧ P (plV a b)
  | _ => False
def S_raw_but_one : SD := fun ds P _ => ∃ (ns : List Int) (ps : List (Int × Int)) (d : Nat), ds = [.tup (ns.map D.int), .int d, .tup (prs ps)] ∧ ns.length = 2 ^ (ps.length + 1) ∧ d ≤ ps.length ∧ ps.length ≤ 5 ∧ (∀ n ∈ ns, Lt 400 n) ∧ (∀ p ∈ ps, Lt 400 p.1 ∧ Lt 400 p.2) ∧ P (.tup [.int (valN ns (ins d (1, 0) ps)), .int (valN ns (ins d (0, 1) ps))])
def S_last_place : SD := fun ds P PX => match ds with
  | [a, d, b] => (Ok a ∧ Ok d ∧ Ok b) ∧ (relD a = false → PX ("BadRelation", [("thing", a)])) ∧ (relD a = true → dialD (dls a) d = false → PX ("BadDial", [("dial", d)])) ∧ (relD a = true → dialD (dls a) d = true → plsD (dls a - 1) b = false → PX ("BadPlaces", [("thing", b)])) ∧ (relD a = true → dialD (dls a) d = true → plsD (dls a - 1) b = true → P (lpD a d b))
  | _ => False
def S_raw_at : SD := fun ds P _ => ∃ (ns : List Int) (x y : Int) (d e b : Nat), ds = [.tup (ns.map D.int), .int d, .tup [.int x, .int y]] ∧ ns.length = 2 ^ (d + 1 + e) ∧ d + e ≤ 5 ∧ (∀ n ∈ ns, Lt b n) ∧ b ≤ 100000 ∧ (Lt 1000 x ∧ Lt 1000 y) ∧ P (.tup ((atN d x y ns).map D.int))
end DL
namespace DL
open PySem PySem.Spec L2
/-! ### places again; what is no relation, no places -/
theorem plV_scale {a b c : Int} (hc : c ≠ 0) (h : ¬ (a = 0 ∧ b = 0)) : plV (c * a) (c * b) = plV a b := by
  obtain ⟨x, y, k, hp, hk, _, e1, e2, e3⟩ := plV_is h
  rw [e3, e1, e2, ← Int.mul_assoc, ← Int.mul_assoc]
  exact plV_mul hp (Int.mul_ne_zero hc hk)
theorem cross_nz {x1 y1 x2 y2 : Int} (h1 : IsP x1 y1) (h2 : IsP x2 y2) (h : ¬ (x1 = x2 ∧ y1 = y2)) : x1 * y2 - y1 * x2 ≠ 0 := by
  intro e
  by_cases z1 : y1 = 0
  · subst z1
    have hx1 : x1 = 1 := by
      rcases h1 with ⟨h, _⟩ | ⟨h, _⟩
      · omega
      · exact h
    subst hx1
    have z2 : y2 = 0 := by omega
    subst z2
    rcases h2 with ⟨h3, _⟩ | ⟨h3, _⟩
    · omega
    · exact h ⟨h3.symm, rfl⟩
  · by_cases z2 : y2 = 0
    · subst z2
      have hx2 : x2 = 1 := by
        rcases h2 with ⟨h, _⟩ | ⟨h, _⟩
        · omega
        · exact h
      subst hx2
      omega
    · have e1 := plV_mul h1 z2
      have e2 := plV_mul h2 z1
      have e3 : y2 * x1 = y1 * x2 := by grind
      have e4 : y2 * y1 = y1 * y2 := Int.mul_comm _ _
      rw [e3, e4, e2] at e1
      simp only [D.tup.injEq, List.cons.injEq, D.int.injEq, and_true] at e1
      exact h ⟨e1.1.symm, e1.2.symm⟩
theorem lead1 {a b c d u v : Int} (hp : IsP u v) (hc : c ≠ 0) (hd : d ≠ 0) (e1 : c * a = d * u) (e2 : c * b = d * v) : plV a b = .tup [.int u, .int v] := by
  have nz := isP_nz hp
  have h : ¬ (a = 0 ∧ b = 0) := by
    rintro ⟨rfl, rfl⟩
    rw [Int.mul_zero] at e1 e2
    exact nz ⟨(Int.mul_eq_zero.mp e1.symm).resolve_left hd, (Int.mul_eq_zero.mp e2.symm).resolve_left hd⟩
  rw [← plV_scale hc h, e1, e2]
  exact plV_mul hp hd
mutual
theorem eqv_self : ∀ d : D, PyData.eqv (py d) (py d) = true ∨ flatD d = false
  | .non | .bl _ | .int _ | .str _ => .inl (by simp [py, PyData.eqv])
  | .tup l => by
    rcases eqvs_self l with h | h
    · exact .inl (by simpa [py, PyData.eqv] using h)
    · exact .inr (by simpa [flatD] using h)
  | .lst l => by
    rcases eqvs_self l with h | h
    · exact .inl (by simpa [py, PyData.eqv] using h)
    · exact .inr (by simpa [flatD] using h)
  | .dic _ | .raw _ | .deck _ | .scr _ => .inr (by simp [flatD])
theorem eqvs_self : ∀ l : List D, PyData.eqvAll (pys l) (pys l) = true ∨ flatDs l = false
  | [] => .inl (by simp [pys, PyData.eqvAll])
  | d :: l => by
    rcases eqv_self d with h | h
    · rcases eqvs_self l with h2 | h2
      · exact .inl (by simp [pys, PyData.eqvAll, h, h2])
      · exact .inr (by simp [flatDs, h2])
    · exact .inr (by simp [flatDs, h])
end
theorem eqv_id {d : D} (h : flatD d = true) : eqv d d = true := by
  rcases eqv_self d with e | e
  · exact e
  · rw [h] at e; cases e
theorem cut_ins {ps : List (Int × Int)} {k : Nat} {x y : Int} : cutD (prs ps) none (some (k : Int)) ++ .tup [.int x, .int y] :: cutD (prs ps) (some (k : Int)) none = prs (ins k (x, y) ps) := by
  rw [cut_take, cut_drop]
  simp [ins, prs, List.map_take, List.map_drop]
theorem rel_hex {ns : List Int} (h : relN ns = true) : (∃ n ∈ ns, n ≠ 0) ∧ shN ns = ns := by
  unfold relN at h
  simp only [Bool.and_eq_true, decide_eq_true_eq] at h
  exact ⟨int_some.mp h.1, h.2⟩
theorem rel_gs {ns : List Int} (h : relN ns = true) : gcdL ns = 1 ∧ sgL ns = 1 := by
  obtain ⟨hex, hs⟩ := rel_hex h
  have eb := sh_back hex
  rw [hs] at eb
  obtain ⟨n0, h0, hz⟩ := hex
  have h1 := sgL_is h0 hz
  have hp := gcdL_pos h0 hz
  have nz : ((gcdL ns : Nat) : Int) * sgL ns ≠ 0 := by rcases h1 with h1 | h1 <;> rw [h1] <;> omega
  have e3 : (((gcdL ns : Nat) : Int) * sgL ns).natAbs = gcdL ns := by
    rcases h1 with h1 | h1 <;> rw [h1] <;> simp
  constructor
  · have e2 := gcdL_mul ((gcdL ns : Nat) * sgL ns) ns 0
    rw [← eb, Nat.zero_mul, e3] at e2
    have e4 : 1 * gcdL ns = gcdL ns * gcdL ns := by rw [Nat.one_mul]; exact e2
    exact (Nat.eq_of_mul_eq_mul_right hp e4).symm
  · have e2 := sgL_mul nz ns
    rw [← eb] at e2
    rcases h1 with h1 | h1
    · exact h1
    · rw [h1, if_neg (by omega)] at e2
      omega
theorem rel_mul_no {ns : List Int} {c : Int} (h : relN ns = true) (hc : c ≠ 0) (h1 : c ≠ 1) : relN (ns.map (· * c)) = false := by
  cases e : relN (ns.map (· * c)) with
  | false => rfl
  | true =>
    obtain ⟨g1, s1⟩ := rel_gs h
    obtain ⟨g2, s2⟩ := rel_gs e
    have e1 := gcdL_mul c ns 0
    rw [Nat.zero_mul] at e1
    have e2 := sgL_mul hc ns
    have e3 : gcdL (ns.map (· * c)) = gcdL ns * c.natAbs := e1
    rw [g1, g2] at e3
    rw [s1, s2] at e2
    split at e2 <;> omega
theorem rel_zero {ns : List Int} (h : ∀ n ∈ ns, n = 0) : relN ns = false := by
  have : (ns.any fun n => !(n == 0)) = false := by
    rw [List.any_eq_false]
    intro n hn
    simp [h n hn]
  unfold relN
  rw [this, Bool.false_and]
theorem relD_ints {ns : List Int} : relD (.tup (ns.map D.int)) = (decide (ns.length = 2 ∨ ns.length = 4 ∨ ns.length = 8 ∨ ns.length = 16 ∨ ns.length = 32 ∨ ns.length = 64) && relN ns) := by
  have h2 : (ns.map D.int).all intD = true := by
    rw [List.all_eq_true]
    intro d hd
    obtain ⟨i, _, rfl⟩ := List.mem_map.mp hd
    rfl
  simp only [relD, h2, toI_back, List.length_map, Bool.and_true]
theorem relD_no {ns : List Int} (h : relN ns = false) : relD (.tup (ns.map D.int)) = false := by rw [relD_ints, h, Bool.and_false]
theorem pls_no {n : Int} {l : List D} {d : D} (hd : d ∈ l) (h : plD d = false) : plsD n (.tup l) = false := by
  have : l.all plD = false := by
    rw [List.all_eq_false]
    exact ⟨d, hd, by rw [h]; decide⟩
  simp only [plsD, this, Bool.and_false]
theorem pls_len {n : Int} {l : List D} (h : (l.length : Int) ≠ n) : plsD n (.tup l) = false := by
  simp only [plsD, decide_eq_false h, Bool.false_and]
/-- a relation of one free dial holds at its last place alone -/
theorem lp_iff {f m x y : Int} (hz : ¬ (f = 0 ∧ m = 0)) (h : IsP x y) : x * f + y * m = 0 ↔ lpV f m = .tup [.int x, .int y] := by
  unfold lpV
  rw [if_neg hz]
  have hz2 : ¬ (-m = 0 ∧ f = 0) := by omega
  obtain ⟨u, v, k, hp, hk, _, e1, e2, e3⟩ := plV_is hz2
  rw [e3]
  constructor
  · intro e
    have key : k * (x * v - y * u) = 0 := by
      have : k * (x * v - y * u) = x * (k * v) - y * (k * u) := by grind
      rw [this, ← e1, ← e2]
      grind
    have c0 : x * v - y * u = 0 := (Int.mul_eq_zero.mp key).resolve_left hk
    have : u = x ∧ v = y := by
      false_or_by_contra
      rename_i hne
      exact cross_nz h hp (fun z => hne ⟨z.1.symm, z.2.symm⟩) c0
    rw [this.1, this.2]
  · intro e
    simp only [D.tup.injEq, List.cons.injEq, D.int.injEq, and_true] at e
    obtain ⟨rfl, rfl⟩ := e
    have : u * f + v * m = u * (k * v) - v * (k * u) := by rw [← e1, ← e2]; grind
    rw [this]
    grind
theorem plV_neg {a b : Int} (h : ¬ (a = 0 ∧ b = 0)) : plV (-a) (-b) = plV a b := by
  have := plV_scale (c := -1) (by decide) h
  rw [← this]
  congr 1 <;> omega
theorem val_ins {ns : List Int} {ps : List (Int × Int)} {k : Nat} (hl : ns.length = 2 ^ (ps.length + 1)) (hk : k ≤ ps.length) (x y : Int) : valN ns (ins k (x, y) ps) = x * valN ns (ins k (1, 0) ps) + y * valN ns (ins k (0, 1) ps) := by
  have h := val_far (ins k (x, y) ps) ns k x y (by rw [hl, ins_len hk]) (by
    unfold ins
    rw [List.getElem?_append_right (by rw [List.length_take]; omega)]
    have : k - (ps.take k).length = 0 := by rw [List.length_take]; omega
    rw [this]
    rfl)
  have st : ∀ p : Int × Int, (ins k (x, y) ps).set k p = ins k p ps := fun p => by
    unfold ins
    rw [List.set_append_right _ _ (by rw [List.length_take]; omega)]
    have : k - (ps.take k).length = 0 := by rw [List.length_take]; omega
    rw [this]
    rfl
  rw [st, st] at h
  rw [← h, Int.mul_comm, Int.mul_comm (valN ns (ins k (0, 1) ps))]
end DL
namespace DL
open PySem PySem.Spec L2
/-! ### changes, plainly -/
structure Chg where
  p : Int
  q : Int
  r : Int
  s : Int
structure CLt (m : Nat) (c : Chg) : Prop where
  p : Lt m c.p
  q : Lt m c.q
  r : Lt m c.r
  s : Lt m c.s
theorem CLt.mono {m n : Nat} {c : Chg} (h : CLt m c) (hn : m ≤ n) : CLt n c := ⟨h.p.mono hn, h.q.mono hn, h.r.mono hn, h.s.mono hn⟩
def chg (c : Chg) : D := .tup [.int c.p, .int c.q, .int c.r, .int c.s]
def chgs (cs : List Chg) : List D := cs.map chg
def detC (c : Chg) : Int := c.p * c.s - c.q * c.r
def chD : D → Bool
  | .tup [.int a, .int b, .int c, .int e] => !(a * e == b * c)
  | _ => false
def toC : D → Chg
  | .tup [.int a, .int b, .int c, .int e] => ⟨a, b, c, e⟩
  | _ => ⟨0, 0, 0, 0⟩
def chsD (n : Int) : D → Bool
  | .tup l => decide ((l.length : Int) = n) && l.all chD
  | _ => false
def mvD : D → D → D
  | .tup [.int p, .int q, .int r, .int s], .tup [.int x, .int y] => plV (p * x + q * y) (r * x + s * y)
  | _, _ => .non
def prD : D → D → D
  | .tup [.int p, .int q, .int r, .int s], .tup [.int t, .int u, .int v, .int w] => .tup [.int (p * t + q * v), .int (p * u + q * w), .int (r * t + s * v), .int (r * u + s * w)]
  | _, _ => .non
def invD : D → D
  | .tup [.int p, .int q, .int r, .int s] => .tup [.int s, .int (-q), .int (-r), .int p]
  | _ => .non
/-- the new item at a place: a change at the dial whose bit counts `S` -/
def chI (S : Nat) (c : Chg) (ns : List Int) (j : Nat) : Int := if j / S % 2 = 0 then c.p * ns.getD j 0 + c.r * ns.getD (j + S) 0 else c.q * ns.getD (j - S) 0 + c.s * ns.getD j 0
def chS (S : Nat) (c : Chg) (ns : List Int) : List Int := (List.range ns.length).map (chI S c ns)
def chN : List Chg → List Int → List Int
  | [], ns => ns
  | c :: cs, ns => chN cs (chS (2 ^ cs.length) c ns)
def csL : D → List Chg
  | .tup l => l.map toC
  | _ => []
def nsL : D → List Int
  | .tup l => l.map toI
  | _ => []
def cvD (a b : D) : D := .tup ((shN (chN (csL b) (nsL a))).map D.int)
def mulC (c d : Chg) : Chg := ⟨c.p * d.p + c.q * d.r, c.p * d.q + c.q * d.s, c.r * d.p + c.s * d.r, c.r * d.q + c.s * d.s⟩
def invC (c : Chg) : Chg := ⟨c.s, -c.q, -c.r, c.p⟩
def scC (k : Int) : Chg := ⟨k, 0, 0, k⟩
def mvC (c : Chg) (p : Int × Int) : Int × Int := (c.p * p.1 + c.q * p.2, c.r * p.1 + c.s * p.2)
def prodZ (ks : List Int) : Int := ks.foldr (· * ·) 1
/-! ### the laws of it -/
theorem chS_len {S : Nat} {c : Chg} {ns : List Int} : (chS S c ns).length = ns.length := by simp [chS]
theorem chS_get {S : Nat} {c : Chg} {ns : List Int} {j : Nat} (h : j < ns.length) : (chS S c ns)[j]? = some (chI S c ns j) := by
  unfold chS
  rw [List.getElem?_map, List.getElem?_range h]
  rfl
theorem chN_len : ∀ {cs : List Chg} {ns : List Int}, (chN cs ns).length = ns.length
  | [], _ => rfl
  | c :: cs, ns => by rw [chN, chN_len, chS_len]
theorem getD_l {l r : List Int} {i : Nat} (h : i < l.length) : (l ++ r).getD i 0 = l.getD i 0 := by
  rw [List.getD_eq_getElem?_getD, List.getD_eq_getElem?_getD, List.getElem?_append_left h]
theorem getD_r {l r : List Int} {i : Nat} (h : l.length ≤ i) : (l ++ r).getD i 0 = r.getD (i - l.length) 0 := by
  rw [List.getD_eq_getElem?_getD, List.getD_eq_getElem?_getD, List.getElem?_append_right h]
theorem div_lo {j S : Nat} : j / S % 2 = 0 → j % (2 * S) < S ∨ S = 0 := by
  intro h
  rcases Nat.eq_zero_or_pos S with h0 | h0
  · exact .inr h0
  · left
    rw [Nat.mul_comm, Nat.mod_mul, h, Nat.mul_zero, Nat.add_zero]
    exact Nat.mod_lt _ h0
theorem chS_app {S K : Nat} {c : Chg} {l r : List Int} (h0 : 0 < S) (hl : l.length = K * (2 * S)) (hr : ∃ M, r.length = M * (2 * S)) : chS S c (l ++ r) = chS S c l ++ chS S c r := by
  obtain ⟨M, hr⟩ := hr
  apply List.ext_getElem?
  intro j
  by_cases hj : j < (l ++ r).length
  case neg => rw [List.getElem?_eq_none (by rw [chS_len]; omega), List.getElem?_eq_none (by rw [List.length_append, chS_len, chS_len, ← List.length_append]; omega)]
  rw [chS_get hj]
  rw [List.length_append] at hj
  have dm := Nat.div_add_mod j (2 * S)
  by_cases h1 : j < l.length
  · rw [List.getElem?_append_left (by rw [chS_len]; exact h1), chS_get h1]
    congr 1
    unfold chI
    split
    · rename_i h
      have lo := (div_lo h).resolve_right (by omega)
      have h2 : j + S < l.length := by
        have q : j / (2 * S) < K := Nat.div_lt_of_lt_mul (by rw [Nat.mul_comm, ← hl]; exact h1)
        have : (j / (2 * S) + 1) * (2 * S) ≤ K * (2 * S) := Nat.mul_le_mul_right _ q
        rw [Nat.add_mul, Nat.mul_comm (j / (2 * S))] at this
        omega
      rw [getD_l h1, getD_l h2]
    · rw [getD_l h1, getD_l (by omega)]
  · rw [List.getElem?_append_right (by rw [chS_len]; omega), chS_len, chS_get (by omega)]
    congr 1
    have e1 : (j - l.length) / S % 2 = j / S % 2 := by
      have e : j = (j - l.length) + S * (2 * K) := by
        have : S * (2 * K) = K * (2 * S) := by rw [Nat.mul_comm S, Nat.mul_comm 2 K, Nat.mul_assoc]
        omega
      conv => rhs; rw [e, Nat.add_mul_div_left _ _ h0]
      omega
    unfold chI
    rw [e1]
    split
    · rw [getD_r (by omega), getD_r (by omega)]
      congr 3
      omega
    · rename_i h
      have h2 : l.length ≤ j - S := by
        have : S ≤ (j - l.length) := by
          false_or_by_contra
          rename_i hh
          refine h ?_
          rw [← e1, Nat.div_eq_of_lt (by omega)]
        omega
      rw [getD_r h2, getD_r (by omega)]
      congr 3
      omega
theorem chS_top {S : Nat} {c : Chg} {l r : List Int} (hl : l.length = S) (hr : r.length = S) : chS S c (l ++ r) = lc c.p c.r l r ++ lc c.q c.s l r := by
  rcases Nat.eq_zero_or_pos S with h0 | h0
  · have e1 : l = [] := List.eq_nil_of_length_eq_zero (by omega)
    have e2 : r = [] := List.eq_nil_of_length_eq_zero (by omega)
    subst e1 e2
    rfl
  have ll : ∀ x y, (lc x y l r).length = S := fun x y => by rw [lc_len (by rw [hl, hr]), hl]
  have gl : ∀ (x y : Int) (i : Nat), i < S → (lc x y l r)[i]? = some (x * l.getD i 0 + y * r.getD i 0) := fun x y i hi => by
    unfold lc
    rw [List.getElem?_zipWith, List.getElem?_eq_getElem (by omega : i < l.length), List.getElem?_eq_getElem (by omega : i < r.length), List.getD_eq_getElem?_getD, List.getD_eq_getElem?_getD, List.getElem?_eq_getElem (by omega : i < l.length), List.getElem?_eq_getElem (by omega : i < r.length)]
    rfl
  apply List.ext_getElem?
  intro j
  by_cases hj : j < (l ++ r).length
  case neg => rw [List.getElem?_eq_none (by rw [chS_len]; omega), List.getElem?_eq_none (by rw [List.length_append, ll, ll]; rw [List.length_append] at hj; omega)]
  rw [chS_get hj]
  rw [List.length_append] at hj
  by_cases h1 : j < S
  · rw [List.getElem?_append_left (by rw [ll]; exact h1), gl _ _ _ h1]
    unfold chI
    rw [Nat.div_eq_of_lt h1, if_pos rfl, getD_l (by omega), getD_r (by omega)]
    congr 4
    omega
  · rw [List.getElem?_append_right (by rw [ll]; omega), ll, gl _ _ _ (by omega)]
    have e : j / S = 1 := by
      rw [Nat.div_eq_iff h0]
      omega
    unfold chI
    rw [e, if_neg (by decide), getD_l (by omega), getD_r (by omega), hl]
theorem chN_app : ∀ {cs : List Chg} {l r : List Int} (K M : Nat), l.length = K * 2 ^ cs.length → r.length = M * 2 ^ cs.length → chN cs (l ++ r) = chN cs l ++ chN cs r
  | [], _, _, _, _, _, _ => rfl
  | c :: cs, l, r, K, M, hl, hr => by
    have e : 2 ^ (c :: cs).length = 2 * 2 ^ cs.length := by rw [List.length_cons, Nat.pow_succ, Nat.mul_comm]
    rw [e] at hl hr
    simp only [chN]
    rw [chS_app (Nat.two_pow_pos _) hl ⟨M, hr⟩]
    exact chN_app (K * 2) (M * 2) (by rw [chS_len, hl, Nat.mul_assoc]) (by rw [chS_len, hr, Nat.mul_assoc])
theorem chN_cons {c : Chg} {cs : List Chg} {l r : List Int} (hl : l.length = 2 ^ cs.length) (hr : r.length = 2 ^ cs.length) : chN (c :: cs) (l ++ r) = chN cs (lc c.p c.r l r) ++ chN cs (lc c.q c.s l r) := by
  simp only [chN]
  rw [chS_top hl hr]
  exact chN_app 1 1 (by rw [lc_len (by rw [hl, hr]), hl, Nat.one_mul]) (by rw [lc_len (by rw [hl, hr]), hl, Nat.one_mul])
theorem lc_map {x y k : Int} : ∀ {l r : List Int}, (lc x y l r).map (· * k) = lc x y (l.map (· * k)) (r.map (· * k))
  | [], _ => by simp [lc]
  | _ :: _, [] => by simp [lc]
  | a :: l, b :: r => by
    have := lc_map (x := x) (y := y) (k := k) (l := l) (r := r)
    simp only [lc, List.zipWith_cons_cons, List.map_cons] at this ⊢
    rw [this]
    congr 1
    grind
theorem lc_lc {a b x y u v : Int} : ∀ {l r : List Int}, lc a b (lc x y l r) (lc u v l r) = lc (a * x + b * u) (a * y + b * v) l r
  | [], _ => by simp [lc]
  | _ :: _, [] => by simp [lc]
  | i :: l, j :: r => by
    have := lc_lc (a := a) (b := b) (x := x) (y := y) (u := u) (v := v) (l := l) (r := r)
    simp only [lc, List.zipWith_cons_cons] at this ⊢
    rw [this]
    congr 1
    grind
theorem lc_ap {x y : Int} {l r l' r' : List Int} (h : l.length = r.length) : lc x y (l ++ l') (r ++ r') = lc x y l r ++ lc x y l' r' := by
  unfold lc
  rw [List.zipWith_append h]
theorem chN_lin : ∀ {cs : List Chg} {x y : Int} {l r : List Int}, l.length = 2 ^ cs.length → r.length = 2 ^ cs.length → chN cs (lc x y l r) = lc x y (chN cs l) (chN cs r)
  | [], _, _, _, _, _, _ => rfl
  | c :: cs, x, y, l, r, hl, hr => by
    obtain ⟨l1, l2, rfl, h1, h2⟩ := split_pow (n := cs.length) hl
    obtain ⟨r1, r2, rfl, g1, g2⟩ := split_pow (n := cs.length) hr
    rw [lc_ap (by rw [h1, g1]), chN_cons (by rw [lc_len (by rw [h1, g1]), h1]) (by rw [lc_len (by rw [h2, g2]), h2]), chN_cons h1 h2, chN_cons g1 g2]
    have s : ∀ a b, chN cs (lc a b (lc x y l1 r1) (lc x y l2 r2)) = lc x y (chN cs (lc a b l1 l2)) (chN cs (lc a b r1 r2)) := fun a b => by
      rw [lc_swap]
      exact chN_lin (by rw [lc_len (by rw [h1, h2]), h1]) (by rw [lc_len (by rw [g1, g2]), g1])
    rw [s, s, lc_ap (by simp only [chN_len]; rw [lc_len (by rw [h1, h2]), lc_len (by rw [g1, g2]), h1, g1])]
theorem chN_mul : ∀ {cs ds : List Chg} {ns : List Int}, cs.length = ds.length → ns.length = 2 ^ cs.length → chN ds (chN cs ns) = chN (List.zipWith mulC cs ds) ns
  | [], [], _, _, _ => rfl
  | c :: cs, d :: ds, ns, hc, hl => by
    simp only [List.length_cons, Nat.add_right_cancel_iff] at hc
    obtain ⟨l, r, rfl, h1, h2⟩ := split_pow (n := cs.length) hl
    have e1 : ∀ x y, (lc x y l r).length = 2 ^ cs.length := fun x y => by rw [lc_len (by rw [h1, h2]), h1]
    have e2 : (List.zipWith mulC cs ds).length = cs.length := by rw [List.length_zipWith, ← hc, Nat.min_self]
    rw [chN_cons h1 h2, chN_cons (by rw [chN_len, e1, hc]) (by rw [chN_len, e1, hc]), List.zipWith_cons_cons, chN_cons (by rw [e2, h1]) (by rw [e2, h2])]
    rw [← chN_lin (cs := cs) (e1 _ _) (e1 _ _), ← chN_lin (cs := cs) (e1 _ _) (e1 _ _), lc_lc, lc_lc, chN_mul hc (e1 _ _), chN_mul hc (e1 _ _)]
    simp only [mulC]
    congr 3 <;> grind
theorem lc_dia {k : Int} : ∀ {l r : List Int}, l.length = r.length → lc k 0 l r = l.map (· * k) ∧ lc 0 k l r = r.map (· * k)
  | [], [], _ => ⟨rfl, rfl⟩
  | a :: l, b :: r, h => by
    have := lc_dia (k := k) (l := l) (r := r) (by simpa using h)
    simp only [lc, List.zipWith_cons_cons, List.map_cons] at this ⊢
    rw [this.1, this.2]
    constructor <;> congr 1 <;> grind
theorem chN_map {k : Int} {cs : List Chg} {ns : List Int} (h : ns.length = 2 ^ cs.length) : chN cs (ns.map (· * k)) = (chN cs ns).map (· * k) := by
  rw [← (lc_dia (k := k) (r := ns) rfl).1, chN_lin h h, (lc_dia (k := k) rfl).1]
theorem chN_sc : ∀ {ks : List Int} {ns : List Int}, ns.length = 2 ^ ks.length → chN (ks.map scC) ns = ns.map (· * prodZ ks)
  | [], ns, _ => by
    simp only [List.map_nil, chN, prodZ, List.foldr_nil, Int.mul_one]
    exact (List.map_id _).symm
  | k :: ks, ns, h => by
    obtain ⟨l, r, rfl, h1, h2⟩ := split_pow (n := ks.length) h
    have e : (ks.map scC).length = ks.length := List.length_map ..
    rw [List.map_cons, chN_cons (by rw [e, h1]) (by rw [e, h2])]
    have d := lc_dia (k := k) (l := l) (r := r) (by rw [h1, h2])
    show chN _ (lc k 0 l r) ++ chN _ (lc 0 k l r) = _
    rw [d.1, d.2, chN_sc (by rw [List.length_map, h1]), chN_sc (by rw [List.length_map, h2]), List.map_map, List.map_map, List.map_append]
    have e2 : ((fun x => x * prodZ ks) ∘ fun x => x * k) = fun x : Int => x * prodZ (k :: ks) := by
      funext x
      simp only [Function.comp_apply, prodZ, List.foldr_cons]
      grind
    rw [e2]
theorem prodZ_nz : ∀ {ks : List Int}, (∀ k ∈ ks, k ≠ 0) → prodZ ks ≠ 0
  | [], _ => by decide
  | k :: ks, h => Int.mul_ne_zero (h k (by simp)) (prodZ_nz fun j hj => h j (List.mem_cons_of_mem _ hj))
theorem mul_inv {c : Chg} : mulC c (invC c) = scC (detC c) := by
  simp only [mulC, invC, scC, detC, Chg.mk.injEq]
  grind
theorem zip_inv : ∀ {cs : List Chg}, List.zipWith mulC cs (cs.map invC) = (cs.map detC).map scC
  | [] => rfl
  | c :: cs => by rw [List.map_cons, List.zipWith_cons_cons, mul_inv, zip_inv]; rfl
theorem chN_back {cs : List Chg} {ns : List Int} (h : ns.length = 2 ^ cs.length) : chN (cs.map invC) (chN cs ns) = ns.map (· * prodZ (cs.map detC)) := by
  rw [chN_mul (by rw [List.length_map]) h, zip_inv, chN_sc (by rw [List.length_map, h])]
theorem det_all {cs : List Chg} (hc : ∀ c ∈ cs, detC c ≠ 0) : prodZ (cs.map detC) ≠ 0 := prodZ_nz fun k hk => by
  obtain ⟨c, hm, rfl⟩ := List.mem_map.mp hk
  exact hc c hm
theorem chN_ex {cs : List Chg} {ns : List Int} (h : ns.length = 2 ^ cs.length) (hc : ∀ c ∈ cs, detC c ≠ 0) (hx : ∃ n ∈ ns, n ≠ 0) : ∃ n ∈ chN cs ns, n ≠ 0 := by
  false_or_by_contra
  rename_i hn
  obtain ⟨n, hm, hz⟩ := hx
  have z : chN cs ns = (chN cs ns).map (· * 0) := by
    conv => lhs; rw [← List.map_id (chN cs ns)]
    refine List.map_congr_left fun m hm => ?_
    have : m = 0 := by
      false_or_by_contra
      rename_i h0
      exact hn ⟨m, hm, h0⟩
    simp [this]
  have b := chN_back h
  have b2 : chN (cs.map invC) ((chN cs ns).map (· * 0)) = ns.map (· * prodZ (cs.map detC)) := by rw [← z]; exact b
  rw [chN_map (by rw [chN_len, List.length_map, h]), b, List.map_map] at b2
  have : n * prodZ (cs.map detC) ∈ ns.map (· * prodZ (cs.map detC)) := List.mem_map.mpr ⟨n, hm, rfl⟩
  rw [← b2] at this
  obtain ⟨m, _, e⟩ := List.mem_map.mp this
  simp only [Function.comp_apply, Int.mul_zero] at e
  exact Int.mul_ne_zero hz (det_all hc) e.symm
theorem val_ch : ∀ {cs : List Chg} {ps : List (Int × Int)} {ns : List Int}, cs.length = ps.length → ns.length = 2 ^ cs.length → valN (chN cs ns) ps = valN ns (List.zipWith mvC cs ps)
  | [], [], _, _, _ => rfl
  | c :: cs, p :: ps, ns, hc, hl => by
    simp only [List.length_cons, Nat.add_right_cancel_iff] at hc
    obtain ⟨l, r, rfl, h1, h2⟩ := split_pow (n := cs.length) hl
    have e1 : ∀ x y, (lc x y l r).length = 2 ^ cs.length := fun x y => by rw [lc_len (by rw [h1, h2]), h1]
    have e2 : (List.zipWith mvC cs ps).length = cs.length := by rw [List.length_zipWith, ← hc, Nat.min_self]
    rw [chN_cons h1 h2, val_cons (by rw [chN_len, e1, hc]) (by rw [chN_len, e1, hc]), List.zipWith_cons_cons, val_cons (by rw [e2, h1]) (by rw [e2, h2])]
    rw [chN_lin h1 h2, chN_lin h1 h2, val_lin _ (by rw [chN_len, h1, hc]) (by rw [chN_len, h2, hc]), val_lin _ (by rw [chN_len, h1, hc]) (by rw [chN_len, h2, hc]), val_ch hc h1, val_ch hc h2]
    simp only [mvC]
    grind
def scP (k : Int) (p : Int × Int) : Int × Int := (k * p.1, k * p.2)
theorem val_sc : ∀ {ks : List Int} {ps : List (Int × Int)} {ns : List Int}, ks.length = ps.length → ns.length = 2 ^ ps.length → valN ns (List.zipWith scP ks ps) = prodZ ks * valN ns ps
  | [], [], ns, _, _ => by simp [prodZ]
  | k :: ks, p :: ps, ns, hc, hl => by
    simp only [List.length_cons, Nat.add_right_cancel_iff] at hc
    obtain ⟨l, r, rfl, h1, h2⟩ := split_pow (n := ps.length) hl
    have e2 : (List.zipWith scP ks ps).length = ps.length := by rw [List.length_zipWith, hc, Nat.min_self]
    rw [List.zipWith_cons_cons, val_cons (by rw [e2, h1]) (by rw [e2, h2]), val_cons h1 h2, val_sc hc h1, val_sc hc h2]
    simp only [scP, prodZ, List.foldr_cons]
    grind
theorem sh_mul {ns : List Int} {c : Int} (hc : c ≠ 0) (hx : ∃ n ∈ ns, n ≠ 0) : shN (ns.map (· * c)) = shN ns := by
  have g := gcdL_mul c ns 0
  have s := sgL_mul hc ns
  rw [Nat.zero_mul] at g
  unfold shN
  rw [List.map_map]
  refine List.map_congr_left fun n hn => ?_
  obtain ⟨n0, h0, hz⟩ := hx
  have gp := gcdL_pos h0 hz
  obtain ⟨k, hk⟩ := gcdL_dvd hn
  have e1 : gcdL (ns.map (· * c)) = gcdL ns * c.natAbs := g
  simp only [Function.comp_apply]
  rw [e1, s]
  push_cast
  have e2 : n / (gcdL ns : Int) = k := by
    conv => lhs; rw [hk]
    exact Int.mul_ediv_cancel_left _ (by omega)
  have nz : (gcdL ns : Int) * (c.natAbs : Int) ≠ 0 := Int.mul_ne_zero (by omega) (by omega)
  rw [e2]
  by_cases hp : 0 < c
  · have ec : (c.natAbs : Int) = c := by omega
    rw [if_pos hp]
    have : n * c / ((gcdL ns : Int) * (c.natAbs : Int)) = k := by
      rw [show n * c = ((gcdL ns : Int) * (c.natAbs : Int)) * k by rw [ec]; grind]
      exact Int.mul_ediv_cancel_left _ nz
    rw [this]
    grind
  · have ec : (c.natAbs : Int) = -c := by omega
    rw [if_neg hp]
    have : n * c / ((gcdL ns : Int) * (c.natAbs : Int)) = -k := by
      rw [show n * c = ((gcdL ns : Int) * (c.natAbs : Int)) * (-k) by rw [ec]; grind]
      exact Int.mul_ediv_cancel_left _ nz
    rw [this]
    grind
/-- shortening on the way changes nothing -/
theorem sh_ch {cs : List Chg} {ns : List Int} (h : ns.length = 2 ^ cs.length) (hc : ∀ c ∈ cs, detC c ≠ 0) (hx : ∃ n ∈ ns, n ≠ 0) : shN (chN cs (shN ns)) = shN (chN cs ns) := by
  have eb := sh_back hx
  obtain ⟨n0, h0, hz⟩ := hx
  have hs := sgL_is h0 hz
  have gp := gcdL_pos h0 hz
  have nz : ((gcdL ns : Nat) : Int) * sgL ns ≠ 0 := by rcases hs with hs | hs <;> rw [hs] <;> omega
  have l2 : (shN ns).length = 2 ^ cs.length := by rw [sh_len, h]
  have hx2 : ∃ n ∈ shN ns, n ≠ 0 := by
    rw [eb] at h0
    obtain ⟨m, hm, e⟩ := List.mem_map.mp h0
    refine ⟨m, hm, fun h => hz ?_⟩
    rw [← e, h]
    simp
  conv => rhs; rw [eb, chN_map l2]
  exact (sh_mul nz (chN_ex l2 hc hx2)).symm
theorem chS_lt {S m b : Nat} {c : Chg} {ns : List Int} (hc : CLt m c) (hb : ∀ n ∈ ns, Lt b n) : ∀ n ∈ chS S c ns, Lt (m + b + 1) n := by
  have g : ∀ i, Lt b (ns.getD i 0) := fun i => by
    rw [List.getD_eq_getElem?_getD]
    cases e : ns[i]? with
    | none => exact ⟨Nat.two_pow_pos _⟩
    | some v => exact hb v (List.mem_of_getElem? e)
  intro n hn
  unfold chS at hn
  obtain ⟨j, _, rfl⟩ := List.mem_map.mp hn
  unfold chI
  split
  · have a1 : Lt (m + b) _ := @Lt.mul _ _ _ _ hc.p (g j)
    have a2 : Lt (m + b) _ := @Lt.mul _ _ _ _ hc.r (g (j + S))
    exact (@Lt.add _ _ _ _ a1 a2).mono (by omega)
  · have a1 : Lt (m + b) _ := @Lt.mul _ _ _ _ hc.q (g (j - S))
    have a2 : Lt (m + b) _ := @Lt.mul _ _ _ _ hc.s (g j)
    exact (@Lt.add _ _ _ _ a1 a2).mono (by omega)
theorem chN_lt {m : Nat} : ∀ {cs : List Chg} {ns : List Int} {b : Nat}, (∀ c ∈ cs, CLt m c) → (∀ n ∈ ns, Lt b n) → ∀ n ∈ chN cs ns, Lt (b + cs.length * (m + 1)) n
  | [], _, _, _, hb => by simpa [chN] using hb
  | c :: cs, ns, b, hc, hb => by
    intro n hn
    simp only [chN] at hn
    have := chN_lt (fun d hd => hc d (List.mem_cons_of_mem _ hd)) (chS_lt (hc c (by simp)) hb) n hn
    refine this.mono ?_
    rw [List.length_cons, Nat.succ_mul]
    omega
theorem ch_no {d : D} (h : areD d 4 = false) : chD d = false := by
  unfold chD
  split
  · simp [areD, intD] at h
  · rfl
theorem ch_four {d : D} (h : chD d = true) : ∃ p q r s : Int, d = .tup [.int p, .int q, .int r, .int s] ∧ p * s ≠ q * r := by
  unfold chD at h
  split at h
  · rename_i a b c e
    exact ⟨a, b, c, e, rfl, by simpa using h⟩
  · cases h
theorem ch_of {c : Chg} (h : detC c ≠ 0) : chD (chg c) = true := by
  simp only [chD, chg, detC] at h ⊢
  simp
  omega
theorem chs_of {cs : List Chg} (h : ∀ c ∈ cs, detC c ≠ 0) : chsD cs.length (.tup (chgs cs)) = true := by
  simp only [chsD, chgs, List.length_map, decide_true, Bool.true_and, List.all_eq_true]
  intro d hd
  obtain ⟨c, hm, rfl⟩ := List.mem_map.mp hd
  exact ch_of (h c hm)
theorem toC_back {cs : List Chg} : (chgs cs).map toC = cs := by
  unfold chgs
  rw [List.map_map]
  exact List.map_id'' (fun _ => rfl) _
theorem chs_is {n : Int} {d : D} (h : chsD n d = true) : ∃ cs : List Chg, d = .tup (chgs cs) ∧ (cs.length : Int) = n ∧ ∀ c ∈ cs, detC c ≠ 0 := by
  unfold chsD at h
  split at h
  case h_2 => cases h
  rename_i l
  simp only [Bool.and_eq_true, decide_eq_true_eq] at h
  obtain ⟨hl, ha⟩ := h
  have key : ∀ l : List D, l.all chD = true → ∃ cs : List Chg, l = chgs cs ∧ ∀ c ∈ cs, detC c ≠ 0 := by
    intro l
    induction l with
    | nil => exact fun _ => ⟨[], rfl, by simp⟩
    | cons d l ih =>
      intro h
      simp only [List.all_cons, Bool.and_eq_true] at h
      obtain ⟨p, q, r, s, rfl, nd⟩ := ch_four h.1
      obtain ⟨cs, rfl, hc⟩ := ih h.2
      refine ⟨⟨p, q, r, s⟩ :: cs, rfl, fun c hm => ?_⟩
      rcases List.mem_cons.mp hm with rfl | hm
      · simp only [detC]; omega
      · exact hc c hm
  obtain ⟨cs, rfl, hc⟩ := key l ha
  exact ⟨cs, rfl, by simpa [chgs] using hl, hc⟩
theorem chs_no {n : Int} {l : List D} {d : D} (hd : d ∈ l) (h : chD d = false) : chsD n (.tup l) = false := by
  have : l.all chD = false := List.all_eq_false.mpr ⟨d, hd, by rw [h]; decide⟩
  simp [chsD, this]
theorem chs_len {n : Int} {l : List D} (h : (l.length : Int) ≠ n) : chsD n (.tup l) = false := by
  simp [chsD, h]
theorem leaf4 {a b c e : Int} (h : leaf (.tup [.int a, .int b, .int c, .int e]) = true) : Lt 400 a ∧ Lt 400 b ∧ Lt 400 c ∧ Lt 400 e := by
  simp only [leaf, leafs, Bool.and_eq_true, decide_eq_true_eq, Bool.and_true] at h
  exact ⟨leaf_lt h.1, leaf_lt h.2.1, leaf_lt h.2.2.1, leaf_lt h.2.2.2⟩
theorem move_nz {p q r s x y : Int} (hd : p * s ≠ q * r) (hp : IsP x y) : ¬ (p * x + q * y = 0 ∧ r * x + s * y = 0) := by
  rintro ⟨h1, h2⟩
  have e1 : (p * s - q * r) * x = 0 := by
    have : (p * s - q * r) * x = s * (p * x + q * y) - q * (r * x + s * y) := by grind
    rw [this, h1, h2]; omega
  have e2 : (p * s - q * r) * y = 0 := by
    have : (p * s - q * r) * y = p * (r * x + s * y) - r * (p * x + q * y) := by grind
    rw [this, h1, h2]; omega
  have hd : p * s - q * r ≠ 0 := by omega
  exact isP_nz hp ⟨(Int.mul_eq_zero.mp e1).resolve_left hd, (Int.mul_eq_zero.mp e2).resolve_left hd⟩
/-! ### promises -/
def S_is_change : SD := fun ds P _ => match ds with
  | [d] => Ok d ∧ P (.bl (chD d))
  | _ => False
def S_check_change : SD := fun ds P PX => match ds with
  | [d] => Ok d ∧ (chD d = false → PX ("BadChange", [("thing", d)])) ∧ (chD d = true → P .non)
  | _ => False
def S_move : SD := fun ds P _ => match ds with
  | [.tup [.int p, .int q, .int r, .int s], .tup [.int x, .int y]] => (Lt 400 p ∧ Lt 400 q ∧ Lt 400 r ∧ Lt 400 s) ∧ (Lt 400 x ∧ Lt 400 y) ∧ ¬ (p * x + q * y = 0 ∧ r * x + s * y = 0) ∧ P (plV (p * x + q * y) (r * x + s * y))
  | _ => False
def S_moved : SD := fun ds P PX => match ds with
  | [a, b] => (Ok a ∧ Ok b) ∧ (chD a = false → PX ("BadChange", [("thing", a)])) ∧ (chD a = true → plD b = false → PX ("BadPlace", [("thing", b)])) ∧ (chD a = true → plD b = true → P (mvD a b))
  | _ => False
def S_product : SD := fun ds P _ => match ds with
  | [.tup [.int p, .int q, .int r, .int s], .tup [.int t, .int u, .int v, .int w]] => (Lt 400 p ∧ Lt 400 q ∧ Lt 400 r ∧ Lt 400 s) ∧ (Lt 400 t ∧ Lt 400 u ∧ Lt 400 v ∧ Lt 400 w) ∧ P (.tup [.int (p * t + q * v), .int (p * u + q * w), .int (r * t + s * v), .int (r * u + s * w)])
  | _ => False
def S_change_product : SD := fun ds P PX => match ds with
  | [a, b] => (Ok a ∧ Ok b) ∧ (chD a = false → PX ("BadChange", [("thing", a)])) ∧ (chD a = true → chD b = false → PX ("BadChange", [("thing", b)])) ∧ (chD a = true → chD b = true → P (prD a b))
  | _ => False
def S_change_inverse : SD := fun ds P PX => match ds with
  | [a] => Ok a ∧ (chD a = false → PX ("BadChange", [("thing", a)])) ∧ (chD a = true → P (invD a))
  | _ => False
def S_raw_changed_at : SD := fun ds P _ => ∃ (ns : List Int) (c : Chg) (d e : Nat), ds = [.tup (ns.map D.int), .int d, chg c] ∧ ns.length = 2 ^ (d + 1 + e) ∧ d + e ≤ 5 ∧ (∀ n ∈ ns, Lt 1000 n) ∧ CLt 1000 c ∧ P (.tup ((chS (2 ^ e) c ns).map D.int))
def S_raw_changed : SD := fun ds P _ => ∃ (ns : List Int) (cs : List Chg), ds = [.tup (ns.map D.int), .tup (chgs cs)] ∧ ns.length = 2 ^ cs.length ∧ cs.length ≤ 6 ∧ (∀ n ∈ ns, Lt 400 n) ∧ (∀ c ∈ cs, CLt 90 c) ∧ P (.tup ((chN cs ns).map D.int))
def S_changed : SD := fun ds P PX => match ds with
  | [a, b] => (Ok a ∧ Ok b) ∧ (relD a = false → PX ("BadRelation", [("thing", a)])) ∧ (relD a = true → chsD (dls a) b = false → PX ("BadChanges", [("thing", b)])) ∧ (relD a = true → chsD (dls a) b = true → (∀ c ∈ csL b, CLt 90 c) ∧ P (cvD a b))
  | _ => False
end DL
namespace DL
open PySem PySem.Spec L2
/-! ### an item of a list of one's own as a target among others -/
def gIx (i : Nat) (f : DE) : DG := fun d env Q => isOwn env[i]? = true ∧ f env fun k env2 => match env2[i]?, k with
  | some (.own ds), .int j => (0 ≤ j ∧ j < ds.length) ∧ Q (env2.set i (.own (ds.set j.toNat d)))
  | _, _ => False
section
variable {wx : DX} {WW : WX} {ZZ : Fz} {X : Cx} {a b c : Expr} {pos : Pos} {f g h : DE}
theorem dg_ix {i : Nat} {o ix : Expr} {tpos : Pos} (ho : PE X o (tVar i)) (hi : PE X ix (lift (X.kx wx WW ZZ) f))
    (ha : ∀ v, assign (.Subscript o ix tpos) X.env v = (do
      let ov ← holding [v] (eval o X.env)
      let iv ← holding [v, ov] (eval ix X.env)
      standAt tpos
      holding [v, ov, iv] (setItem ov iv v)
      release [v, ov, iv] []) := by intro _; rfl) : PG X (.Subscript o ix tpos) (liftG (X.kx wx WW ZZ) [] (gIx i f)) :=
  (pg_sub ho hi set_list ha).w fun v σ H Q ⟨e, env1, oa1, F1, k1, d, P, R1, a1, ⟨po, p1⟩, q⟩ => by
    cases hq : env1[i]? with
    | none => rw [hq] at po; cases po
    | some s =>
      cases s with
      | no => rw [hq] at po; cases po
      | val _ => rw [hq] at po; cases po
      | own ds0 =>
        obtain ⟨i1, _⟩ := R1.own i ds0 hq
        refine ⟨_, i1, e, env1, oa1, F1, k1, _, R1, p1, fun kd env2 vk oa2 F2 H2 k2 p2 R2 g2 a2 => ?_⟩
        cases hq2 : env2[i]? with
        | none => rw [hq2] at p2; exact p2.elim
        | some s =>
          rw [hq2] at p2
          cases s with
          | no => exact p2.elim
          | val _ => exact p2.elim
          | own ds =>
            cases kd with
            | int j =>
              obtain ⟨j1, ⟨vs, j2, j3⟩, j4, j5, j6⟩ := R2.own i ds hq2
              have eo : oa1 i = oa2 i := by
                rw [i1] at j1
                exact V.ref.inj (Option.some.inj (Option.some.inj j1))
              simp only [At] at a2
              subst a2
              have hl := Ats.length j3
              refine ⟨oa2 i, vs, j, j.toNat, by rw [eo], rfl, j2, ?_, ?_⟩
              · unfold ixN
                rw [if_pos p2.1.1, if_pos (by have := p2.1.2; have := p2.1.1; omega)]
              · exact q _ oa2 σ F2 _ k2 p2.2 (R2.setOwn hq2 (Ats.set (At.grow g2 _ _ a1) _ j3)) g2 rfl fun _ _ => rfl
            | _ => exact p2.elim
end
@[simp ↓] theorem e_gIx {i : Nat} {f : DE} {d : D} {env : Evn} {Q : Evn → Prop} : gIx i f d env Q = (isOwn env[i]? = true ∧ f env fun k env2 => match env2[i]?, k with
  | some (.own ds), .int j => (0 ≤ j ∧ j < ds.length) ∧ Q (env2.set i (.own (ds.set j.toNat d)))
  | _, _ => False) := rfl
/-! ### great powers -/
def CPowW (i j : Int) : Prop := 0 ≤ j ∧ (Builtin.Int.intBits i : Int) * j ≤ 2 ^ 27
theorem op_powW {X : Cx} : OpR X (binaryOp .Pow) (rI CPowW fun i j => .int (i ^ j.toNat)) := opI fun _ _ _ _ _ _ _ hc q => PyProof.Rows.pow_int hc.1 hc.2 q
def oPowW : DO := oI CPowW fun i j => .int (i ^ j.toNat)
theorem opd_powW {X : Cx} : OpD X (binaryOp .Pow) oPowW := ⟨_, op_powW, link_I fun _ _ _ _ => by simp only [At]⟩
@[simp ↓] theorem o_powW {i j : Int} {G : D → Prop} : oPowW (.int i) (.int j) G = (CPowW i j ∧ G (.int (i ^ j.toNat))) := rfl
end DL
namespace DL
open PySem PySem.Spec L2
/-! ### x.insert(i, e) -/
def dInsert (i : Nat) (g f : DE) : DS := fun B env => isOwn env[i]? = true ∧ g env fun ix env1 => f env1 fun d env2 => match env2[i]?, ix with
  | some (.own ds), .int j => (ds.length < 10000000 ∧ 0 ≤ j ∧ j < 2 ^ 63) ∧ B.nx (env2.set i (.own (ds.take j.toNat ++ [d] ++ ds.drop j.toNat)))
  | _, _ => False
section
variable {wx : DX} {WW : WX} {ZZ : Fz} {X : Cx} {a b c : Expr} {pos : Pos} {f g h : DE}
theorem ds_insert {i : Nat} {o : Expr} {apos cpos : Pos} (ho : PE X o (tVar i)) (h : PA X [a, b] (liftA (X.kx wx WW ZZ) (dCons g (dCons f dNil)))) (hbase : attributeBase o "insert" X.env (eval o X.env) = eval o X.env := by rfl)
    (hfew : ((backTo cpos (starEach [a, b] X.env)).all (fun x => !x.1) && (backToKw cpos (keywordEach [] X.env)).all (fun x => x.1.isSome) && decide (([a, b] : List Expr).length + ([] : List Keyword).length + (if ([] : List Keyword).isEmpty then 0 else 1) < 30)) = true := by rfl)
    (hline : (apos.endLine == cpos.line) = true := by rfl) (hs : starEach [a, b] X.env = (false, eval a X.env) :: starEach [b] X.env := by rfl) (hplain : (backTo cpos (starEach [b] X.env)).any (·.1) = false := by rfl)
    (hsw : swapsWith (.Call (.Attribute o "insert" apos) [a, b] [] cpos) none pos.line X.env = pure false := by rfl) : PS X (.Expr (.Call (.Attribute o "insert" apos) [a, b] [] cpos) pos) (liftS (X.kx wx WW ZZ) (dInsert i g f)) :=
  (ps_expr (pe_bm PySem.F.plainAttrs_list PySem.F.slot_list_insert PySem.F.type_list_insert mt_insert ho h hbase hfew hline hs hplain) hsw).w fun E σ H ⟨e, env, oa, F, k, B, R, ⟨po, p⟩, n, r, b, c⟩ => by
    cases hq : env[i]? with
    | none => rw [hq] at po; cases po
    | some s =>
      cases s with
      | no => rw [hq] at po; cases po
      | val _ => rw [hq] at po; cases po
      | own ds0 =>
        obtain ⟨i1, ⟨vs0, i2, i3⟩, i4, i5, i6⟩ := R.own i ds0 hq
        refine ⟨_, i1, .inl ⟨rfl, vs0, SqL.of i2⟩, e, env, oa, F, k, fun xs env2 => match xs with
          | [ix, d] => (match env2[i]?, ix with
            | some (.own ds), .int j => (ds.length < 10000000 ∧ 0 ≤ j ∧ j < 2 ^ 63) ∧ B.nx (env2.set i (.own (ds.take j.toNat ++ [d] ++ ds.drop j.toNat)))
            | _, _ => False)
          | _ => False, R, ?_, fun xs env1 vs1 oa1 F1 H1 k1 p1 R1 g1 a1 => ?_⟩
        · exact p
        · match xs, p1, a1 with
          | [ix, d], p1, a1 =>
            dsimp only at p1
            cases hq1 : env1[i]? with
            | none => rw [hq1] at p1; exact p1.elim
            | some s =>
              rw [hq1] at p1
              cases s with
              | no => exact p1.elim
              | val _ => exact p1.elim
              | own ds =>
                cases ix with
                | int j =>
                  simp only [Ats, At] at a1
                  obtain ⟨v1, r1, rfl, rfl, v2, r2, rfl, a2, rfl⟩ := a1
                  obtain ⟨j1, ⟨vs, j2, j3⟩, j4, j5, j6⟩ := R1.own i ds hq1
                  have eo : oa i = oa1 i := by
                    rw [i1] at j1
                    exact V.ref.inj (Option.some.inj (Option.some.inj j1))
                  refine ⟨oa i, vs, j, v2, rfl, rfl, by rw [eo]; exact j2, by rw [← Ats.length j3]; exact Nat.lt_of_lt_of_le p1.1.1 (size10 (Nat.le_refl _)), p1.1.2.1, p1.1.2.2, ?_⟩
                  rw [eo]
                  exact n _ oa1 σ F1 _ k1 p1.2 (R1.setOwn hq1 (((Ats.take j.toNat j3).append (.cons a2 .nil)).append (Ats.drop j.toNat j3))) g1
                | _ => exact p1.elim
end
@[simp ↓] theorem e_Insert {i : Nat} {f g : DE} {B : DEnd} {env : Evn} : dInsert i g f B env = (isOwn env[i]? = true ∧ g env fun ix env1 => f env1 fun d env2 => match env2[i]?, ix with
  | some (.own ds), .int j => (ds.length < 10000000 ∧ 0 ≤ j ∧ j < 2 ^ 63) ∧ B.nx (env2.set i (.own (ds.take j.toNat ++ [d] ++ ds.drop j.toNat)))
  | _, _ => False) := rfl
/-! ### a draw from a deck of cells and a mixed number -/
def kv2 (a b : Str) (l : Addr) (m : Int) : List (Key × V) := [(.inr a, .ref l), (.inr b, .int m)]
structure D2 (a b : Str) (H0 : Hp) (p : DkP) (H : Hp) (cs : List Int) (m : Int) : Prop where
  dk : H p.1 = some (.dK (kv2 a b p.2 m))
  ls : H p.2 = some (.lst (cs.map V.int))
  off : ∀ x o, H0 x = some o → x ≠ p.1 → x ≠ p.2 → H x = some o
  n1 : H0 p.1 ≠ none
  n2 : H0 p.2 ≠ none
section
variable {a b : Str} {H0 H : Hp} {p : DkP} {cs : List Int} {m : Int}
theorem D2.ne (d : D2 a b H0 p H cs m) : p.1 ≠ p.2 := ne_of d.dk d.ls fun z => by cases z
theorem D2.getC (d : D2 a b H0 p H cs m) : DGet H p.1 (.str a) (some (.ref p.2)) := by
  have := DGet.k (k := .inr a) d.dk
  simpa [kv2, valV, kV] using this
theorem D2.getM (d : D2 a b H0 p H cs m) (n : a ≠ b) : DGet H p.1 (.str b) (some (.int m)) := by
  have := DGet.k (k := .inr b) d.dk
  simpa [kv2, valV, kV, n] using this
theorem D2.putM (d : D2 a b H0 p H cs m) (n : a ≠ b) (m' : Int) : DPut H p.1 (.str b) (.int m') (upd H p.1 (.dK (kv2 a b p.2 m'))) := by
  have := DPut.k (k := .inr b) (v := .int m') d.dk (by show 2 < sizeLine; exact small1000 (by decide))
  simpa [kv2, putK, kV, n] using this
theorem D2.setD (d : D2 a b H0 p H cs m) (m' : Int) : D2 a b H0 p (upd H p.1 (.dK (kv2 a b p.2 m'))) cs m' :=
  ⟨upd_same, (upd_ne d.ne.symm).trans d.ls, fun x o h h1 h2 => (upd_ne h1).trans (d.off x o h h1 h2), d.n1, d.n2⟩
theorem D2.setL (d : D2 a b H0 p H cs m) (cs' : List Int) : D2 a b H0 p (upd H p.2 (.lst (cs'.map V.int))) cs' m :=
  ⟨(upd_ne d.ne).trans d.dk, upd_same, fun x o h h1 h2 => (upd_ne h2).trans (d.off x o h h1 h2), d.n1, d.n2⟩
theorem D2.laid (d : D2 a b H0 p H cs m) {l : Addr} (hl : H l = none) (u : HO) : D2 a b H0 p (upd H l u) cs m :=
  ⟨(upd_ne (ne_of_none d.dk hl)).trans d.dk, (upd_ne (ne_of_none d.ls hl)).trans d.ls, fun x o h h1 h2 => (upd_ne (ne_of_none (d.off x o h h1 h2) hl)).trans (d.off x o h h1 h2), d.n1, d.n2⟩
theorem D2.full {K : PySem.W.Frag} (d : D2 a b H0 p H cs m) {σ : St} (hσ : σ[0]? = some (some (.ref p.1))) {Q : Bool → Hp → Prop} (h : ∀ l, H l = none → Q (!cs.isEmpty) (upd H l (.lst []))) :
    tTest (tOp (rNeD K) (tDGet (tVar 0) (tC (.str a))) (tLst tNil)) σ H Q := by
  refine ⟨_, hσ, _, _, rfl, d.getC, Nat.zero_le _, fun l hl => ?_⟩
  have d' := d.laid hl (.lst [])
  refine ⟨.list (cs.map PyData.int), .list [], .lst (SqL.of d'.ls) (dp_ints cs), .lst (SqL.of upd_same) .nil, shaped_ints cs, by decide +kernel, _, rfl, ?_⟩
  have e : PyData.eqv (.list (cs.map PyData.int)) (.list []) = cs.isEmpty := by
    cases cs <;> simp [PyData.eqv, PyData.eqvAll]
  rw [e]
  exact h l hl
theorem D2.fin {K : PySem.W.Frag} {F : Hp} {k : Dk} {r : Int} (W : Wd (tabK K) ⟨H0, F, k⟩ F H0 k) (hk : k = some p) (d : D2 a b H0 p H cs m) (hd : DeckIs p.3 p.2 (kv2 a b p.2 m) cs) : Out K ⟨H0, F, k⟩ (.int r) (.int r) H := by
  obtain ⟨_, f1, f2⟩ := W.dk p hk
  refine ⟨F, k, ⟨fun x o h => ?_, fun _ _ h => h, fun _ _ h => .inl h, fun x o h z _ => ?_, fun _ h => h, fun z q hq => ?_, fun q hq => ?_, tabs_deck W hk d.off, W.tbf⟩, by simp only [At]⟩
  · exact d.off x o (W.sub x o h) (fun z => by rw [z, f1] at h; cases h) (fun z => by rw [z, f2] at h; cases h)
  · obtain ⟨z1, z2⟩ := z p hk
    exact d.off x o h z1 z2
  · have z' : k = none := z
    rw [z'] at hk; cases hk
  · rw [hk] at hq; cases hq
    exact ⟨⟨_, cs, d.dk, d.ls, hd⟩, f1, f2⟩
end
section
variable (K : PySem.W.Frag)
def drawC (a b : Str) (s z : Int) : TS :=
  tSeq (tIfS (tTest (tOp (rNeD K) (tKey a) (tLst tNil)))
    (tSeq (tAsg (tBM0 K "list" rPop (tKey a)) (L2.gName 2))
    (tSeq (tIfS (tTest (tOp (rI0 fun i j => V.bl (decide (j ≤ i))) (tVar 2) (tOp (rI CPow fun i j => V.int (i ^ j.toNat)) (tI 10) (tI 18))))
      (tSeq (tDrop (tBM K "list" rAppend (tKey a) (tCons (tOp (rI CDivW fun i j => V.int (i / j)) (tVar 2)
        (tCB (fun xs H Q => ∃ i j, xs = [V.int i, V.int j] ∧ Q (V.int (if j > i then j else i)) H) (tCons (tI 2) (tCons (tVar 1) tNil)))) tNil)))
      (tRet (tMo (tInt1 (tVar 2)) (tVar 1)))) tNext)
    (sDPut (tVar 0) (tC (.str b)) (tMo (tInt1 (tAd (tKey b) (tVar 2))) (tI 2147483647))))) tNext)
  (tSeq (sDPut (tVar 0) (tC (.str b)) (tMo (tInt1 (tAd (tMu (tKey b) (tI s)) (tI z))) (tI 2147483647)))
  (tRet (tMo (tOp (rI CDiv fun i j => V.int (i / j)) (tKey b) (tI 128)) (tVar 1))))
end
section
variable {K : PySem.W.Frag} {a b : Str} {H0 H : Hp} {p : DkP} {cs : List Int} {m below s z : Int} {D : Ends} {v2 : Option V}
theorem drawC_end (n : a ≠ b) (d : D2 a b H0 p H cs m) (hs : 0 ≤ s ∧ s < 2147483648) (hm : 0 ≤ m ∧ m < 2147483648) (hb : 0 < below) (fin : ∀ (H : Hp) (m r : Int), D2 a b H0 p H cs m → 0 ≤ m → m < 2147483648 → 0 ≤ r → r < below → D.rt (.int r) H) :
    tSeq (sDPut (tVar 0) (tC (.str b)) (tMo (tInt1 (tAd (tMu (tKey b) (tI s)) (tI z))) (tI 2147483647)))
      (tRet (tMo (tOp (rI CDiv fun i j => V.int (i / j)) (tKey b) (tI 128)) (tVar 1))) D [some (.ref p.1), some (.int below), v2] H := by
  have e := mm (m * s + z)
  have d' := d.setD ((m * s + z) % 2147483647)
  refine ⟨_, rfl, _, _, rfl, d.getM n, _, _, rfl, rfl, .inl ⟨by omega, by omega⟩, _, _, rfl, rfl, .inl ⟨_, rfl, _, _, rfl, rfl, show (0 : Int) < 2147483647 by decide, _, rfl, _, _, rfl, d.putM n _, ?_⟩⟩
  refine ⟨_, rfl, _, _, rfl, d'.getM n, _, _, rfl, rfl, ⟨by decide, by decide⟩, _, rfl, _, _, rfl, rfl, hb, ?_⟩
  exact fin _ _ _ d' e.1 (by omega) (Int.emod_nonneg _ (by omega)) (Int.emod_lt_of_pos _ hb)
theorem drawC_ok (n : a ≠ b) (d : D2 a b H0 p H cs m) (hl : cs.length ≤ 63) (hs : 0 ≤ s ∧ s < 2147483648) (hm : 0 ≤ m ∧ m < 2147483648) (hb : 0 < below) (hb2 : below < 2 ^ 8000)
    (fin : ∀ (H : Hp) (cs : List Int) (m r : Int), D2 a b H0 p H cs m → cs.length ≤ 63 → 0 ≤ m → m < 2147483648 → 0 ≤ r → r < below → D.rt (.int r) H) :
    drawC K a b s z D [some (.ref p.1), some (.int below), none] H := by
  refine d.full rfl fun l hl0 => ?_
  have d2 := d.laid hl0 (.lst [])
  by_cases hc : cs = []
  · subst hc
    exact drawC_end n d2 hs hm hb fun H m r x h1 h2 h3 h4 => fin H [] m r x hl h1 h2 h3 h4
  · have hcs : (!cs.isEmpty) = true := by cases cs <;> simp at hc ⊢
    rw [if_pos hcs]
    have hlen : 0 < cs.length := List.length_pos_iff.mpr hc
    obtain ⟨x, hx⟩ : ∃ x : Int, cs[cs.length - 1]? = some x := ⟨_, List.getElem?_eq_getElem (by omega)⟩
    have d3 := d2.setL cs.dropLast
    have hdl : (cs.map V.int).dropLast = cs.dropLast.map V.int := by rw [List.dropLast_eq_take, List.dropLast_eq_take, List.map_take, List.length_map]
    refine ⟨_, rfl, _, _, rfl, d2.getC, .inl ⟨rfl, _, SqL.of d2.ls⟩, _, cs.map V.int, .int x, rfl, rfl, d2.ls, by rw [List.length_map, List.getElem?_map, hx]; rfl, ?_⟩
    rw [hdl]
    refine ⟨_, rfl, _, _, rfl, rfl, ⟨by decide, by decide, by decide⟩, _, _, rfl, rfl, _, rfl, ?_⟩
    by_cases hg : (10 : Int) ^ (18 : Int).toNat ≤ x
    · rw [decide_eq_true hg]
      have hmx : CDivW x (if below > 2 then below else 2) := by
        split
        · exact ⟨hb, below_log hb hb2⟩
        · exact ⟨by decide, by decide⟩
      refine ⟨_, rfl, _, _, rfl, d3.getC, .inl ⟨rfl, _, SqL.of d3.ls⟩, _, rfl, _, rfl, _, _, rfl, _, _, rfl, rfl, hmx, _, _, _, rfl, rfl, d3.ls, ?_, ?_⟩
      · rw [List.length_map, List.length_dropLast]
        exact Nat.lt_of_le_of_lt (m := 63) (by omega) (by decide)
      · have d4 := d3.setL (cs.dropLast ++ [x / if below > 2 then below else 2])
        rw [List.map_append] at d4
        refine ⟨_, rfl, .inl ⟨_, rfl, _, rfl, _, _, rfl, rfl, hb, ?_⟩⟩
        refine fin _ _ _ _ d4 ?_ hm.1 hm.2 (Int.emod_nonneg _ (by omega)) (Int.emod_lt_of_pos _ hb)
        rw [List.length_append, List.length_dropLast, List.length_singleton]
        omega
    · rw [decide_eq_false hg]
      have e := mm (m + x)
      refine ⟨_, rfl, _, _, rfl, d3.getM n, _, rfl, _, _, rfl, rfl, .inl ⟨_, rfl, _, _, rfl, rfl, show (0 : Int) < 2147483647 by decide, _, rfl, _, _, rfl, d3.putM n _, ?_⟩⟩
      refine drawC_end n (d3.setD _) hs ⟨e.1, by omega⟩ hb fun H m r y h1 h2 h3 h4 => fin H _ m r y ?_ h1 h2 h3 h4
      rw [List.length_dropLast]
      omega
end
theorem drawC_fn {K : PySem.W.Frag} {mg : Str → Option Value} {vs : List V} {H : Hp} {Q : VK} {E : XK} {N : List Str} {s z : Int} (hN : N.length = 3) (hs : 0 ≤ s ∧ s < 2147483648) (h : spD K mg (S_draw 3) vs H Q E) : drawC K "cells" "mixed" s z { nx := fun _ H' => Q .non H', rt := Q } (L2.start N vs) H := by
  obtain ⟨ds, F, k, P, PX, W, a, h, q, _⟩ := h
  unfold S_draw at h
  split at h
  case h_2 => exact h.elim
  rename_i m b
  obtain ⟨rfl, hb, hb1, hr⟩ := h
  have hb2 : b < 2 ^ 8000 := Int.lt_trans hb1 (by decide +kernel)
  simp only [Ats, At] at a
  obtain ⟨v, _, rfl, ⟨p, e0, e1, e2⟩, v2, _, rfl, e3, rfl⟩ := a
  subst e0
  subst e2
  subst e3
  obtain ⟨⟨kvs, cs, h1, h2, h3⟩, f1, f2⟩ := W.dk p rfl
  rw [e1] at h3
  obtain ⟨hl, m, rfl, hm⟩ := h3
  have d : D2 "cells" "mixed" H p H cs m := ⟨h1, h2, fun _ _ h _ _ => h, by rw [h1]; simp, by rw [h2]; simp⟩
  have st : L2.start N [.ref p.1, .int b] = [some (.ref p.1), some (.int b), none] := by
    unfold L2.start
    rw [hN]
    rfl
  rw [st]
  refine drawC_ok (by decide) d hl hs hm hb hb2 fun H' cs' m' r d' hl' hm1 hm2 h0 h1 => q (.int r) _ H' (hr r h0 h1) (d'.fin W rfl ?_)
  rw [e1]
  exact ⟨hl', m', rfl, hm1, hm2⟩
end DL
namespace DL
open PySem PySem.Spec L2
/-! ### squares -/
def IsSq (n : Int) : Prop := ∃ m : Int, n = m * m
def SqF (n : Int) : Prop := n ≠ 0 ∧ ∀ d : Nat, d * d ∣ n.natAbs → d = 1
/-! ### links and rings -/
structure Lk where
  ns : List Int
  x : Int
  y : Int
def lnk (l : Lk) : D := .tup [.tup (l.ns.map D.int), .tup [.int l.x, .int l.y]]
def rngL (ls : List Lk) : List D := ls.map lnk
structure GL (l : Lk) : Prop where
  ln : l.ns.length = 8
  re : relN l.ns = true
  hb : ∀ n ∈ l.ns, Lt 8 n
  ip : IsP l.x l.y
  lx : Lt 8 l.x
  ly : Lt 8 l.y
def lkD : D → Bool
  | .tup [.tup l, b] => relD (.tup l) && decide (l.length = 8) && plD b
  | _ => false
def rgD : D → Bool
  | .tup l => decide (1 ≤ l.length ∧ l.length ≤ 8) && l.all lkD
  | _ => false
abbrev itL (l : Lk) (i : Nat) : Int := l.ns.getD i 0
def passC (l : Lk) : Chg := ⟨-(itL l 2 * l.x + itL l 3 * l.y), -(itL l 6 * l.x + itL l 7 * l.y), itL l 0 * l.x + itL l 1 * l.y, itL l 4 * l.x + itL l 5 * l.y⟩
def foldC (f : Chg) (ls : List Lk) : Chg := ls.foldl (fun g l => mulC (passC l) g) f
def roundC (ls : List Lk) (k : Nat) : Chg := foldC (scC 1) (ls.drop k ++ ls.take k)
def formC (c : Chg) : D := .tup [.int c.r, .int (c.s - c.p), .int (-c.q)]
def numC (c : Chg) : Int := (c.s - c.p) * (c.s - c.p) + 4 * c.q * c.r
theorem GL.bd {l : Lk} (g : GL l) (i : Nat) : Lt 8 (itL l i) := by
  unfold itL
  rw [List.getD_eq_getElem?_getD]
  cases e : l.ns[i]? with
  | none => exact ⟨Nat.two_pow_pos _⟩
  | some v => exact g.hb v (List.mem_of_getElem? e)
theorem GL.pass {l : Lk} (g : GL l) : CLt 17 (passC l) := by
  have s : ∀ i j, Lt 17 (itL l i * l.x + itL l j * l.y) := fun i j => @Lt.add _ _ _ _ (@Lt.mul _ _ _ _ (g.bd i) g.lx) (@Lt.mul _ _ _ _ (g.bd j) g.ly)
  have n : ∀ {i : Int}, Lt 17 i → Lt 17 (-i) := fun h => ⟨by rw [Int.natAbs_neg]; exact h.h⟩
  exact ⟨n (s 2 3), n (s 6 7), s 0 1, s 4 5⟩
theorem mul_lt {c d : Chg} {m n : Nat} (hc : CLt m c) (hd : CLt n d) : CLt (m + n + 1) (mulC c d) := by
  have s : ∀ {x y u v : Int}, Lt m x → Lt n y → Lt m u → Lt n v → Lt (m + n + 1) (x * y + u * v) := fun a b c d => (@Lt.add _ _ _ _ (@Lt.mul _ _ _ _ a b) (@Lt.mul _ _ _ _ c d)).mono (by omega)
  exact ⟨s hc.p hd.p hc.q hd.r, s hc.p hd.q hc.q hd.s, s hc.r hd.p hc.s hd.r, s hc.r hd.q hc.s hd.s⟩
theorem fold_lt : ∀ {ls : List Lk} {f : Chg} {n : Nat}, CLt n f → (∀ l ∈ ls, GL l) → CLt (n + ls.length * 18) (foldC f ls)
  | [], f, n, h, _ => by simpa [foldC] using h
  | l :: ls, f, n, h, g => by
    have := fold_lt (ls := ls) (mul_lt (g l (by simp)).pass h) (fun x hx => g x (List.mem_cons_of_mem _ hx))
    simp only [foldC, List.foldl_cons] at this ⊢
    refine this.mono ?_
    rw [List.length_cons]
    omega
theorem round_lt {ls : List Lk} {k : Nat} (h8 : ls.length ≤ 8) (g : ∀ l ∈ ls, GL l) : CLt 150 (roundC ls k) := by
  have o : CLt 1 (scC 1) := ⟨.of (by decide), .of (by decide), .of (by decide), .of (by decide)⟩
  refine (fold_lt o fun l hl => ?_).mono ?_
  · rcases List.mem_append.mp hl with hl | hl
    · exact g l (List.mem_of_mem_drop hl)
    · exact g l (List.mem_of_mem_take hl)
  · have : (ls.drop k ++ ls.take k).length ≤ 8 := by
      rw [List.length_append, List.length_drop, List.length_take]
      omega
    omega
theorem mul_one {c : Chg} : mulC c (scC 1) = c := by
  cases c
  simp [mulC, scC]
theorem lk_of {l : Lk} (g : GL l) : lkD (lnk l) = true := by
  have r := (rel_of (n := 2) (ns := l.ns) g.ln (by decide) g.re).1
  simp only [lkD, lnk, r, pl_of g.ip, List.length_map, g.ln]
  rfl
theorem fd_lnk {l : Lk} (g : GL l) : FD 2 20 (lnk l) := by
  have a := fdi (n := 8) (FD.all g.hb (by decide)) (by rw [List.length_map, g.ln]; exact Nat.le_refl _)
  have b := fd2 (n := 8) (by decide) g.lx g.ly
  exact (FD.tup (k := 1) (m := 9) (n := 2) (by simp; exact ⟨a, b.mono (by decide) (by decide)⟩) (by simp)).mono (by decide) (by decide)
theorem fd_ring {ls : List Lk} (h8 : ls.length ≤ 8) (g : ∀ l ∈ ls, GL l) : FD 3 200 (.tup (rngL ls)) := (FD.tup (k := 2) (m := 20) (n := 8) (fun d hd => by
  obtain ⟨l, hl, rfl⟩ := List.mem_map.mp hd
  exact fd_lnk (g l hl)) (by simpa [rngL] using h8)).mono (by decide) (by decide)
theorem rg_of {ls : List Lk} (h1 : 1 ≤ ls.length) (h8 : ls.length ≤ 8) (g : ∀ l ∈ ls, GL l) : rgD (.tup (rngL ls)) = true := by
  have a : (rngL ls).all lkD = true := List.all_eq_true.mpr fun d hd => by
    obtain ⟨l, hl, rfl⟩ := List.mem_map.mp hd
    exact lk_of (g l hl)
  have e : (rngL ls).length = ls.length := List.length_map ..
  simp only [rgD, a, e, Bool.and_true, decide_eq_true_eq]
  exact ⟨h1, h8⟩
/-- a cube of small items -/
structure Cb (ns : List Int) : Prop where
  ln : ns.length = 8
  re : relN ns = true
  hb : ∀ n ∈ ns, Lt 8 n
theorem gl_cb {l : Lk} (g : GL l) : Cb l.ns := ⟨g.ln, g.re, g.hb⟩
theorem Cb.gl {ns : List Int} {x y : Int} (c : Cb ns) (ip : IsP x y) (lx : Lt 8 x) (ly : Lt 8 y) : GL ⟨ns, x, y⟩ := ⟨c.ln, c.re, c.hb, ip, lx, ly⟩
/-! ### promises -/
def S_is_link : SD := fun ds P _ => match ds with
  | [d] => Ok d ∧ P (.bl (lkD d))
  | _ => False
def S_is_ring : SD := fun ds P _ => match ds with
  | [d] => Ok d ∧ P (.bl (rgD d))
  | _ => False
def S_check_ring : SD := fun ds P PX => match ds with
  | [d] => Ok d ∧ (rgD d = false → PX ("BadRing", [("thing", d)])) ∧ (rgD d = true → P .non)
  | _ => False
def S_check_seam : SD := fun ds P _ => match ds with
  | [.tup l, .int k] => (0 ≤ k ∧ k < l.length ∧ l.length ≤ 1000) ∧ P .non
  | _ => False
def S_table_of_link : SD := fun ds P _ => ∃ l : Lk, ds = [lnk l] ∧ GL l ∧ P (.tup [.int (itL l 0 * l.x + itL l 1 * l.y), .int (itL l 2 * l.x + itL l 3 * l.y), .int (itL l 4 * l.x + itL l 5 * l.y), .int (itL l 6 * l.x + itL l 7 * l.y)])
def S_pass_of : SD := fun ds P _ => ∃ l : Lk, ds = [lnk l] ∧ GL l ∧ P (chg (passC l))
def S_passes : SD := fun ds P _ => ∃ ls : List Lk, ds = [.tup (rngL ls)] ∧ 1 ≤ ls.length ∧ ls.length ≤ 8 ∧ (∀ l ∈ ls, GL l) ∧ P (.tup (chgs (ls.map passC)))
def S_raw_round : SD := fun ds P _ => ∃ (ls : List Lk) (k : Nat), ds = [.tup (rngL ls), .int k] ∧ ls.length ≤ 8 ∧ (∀ l ∈ ls, GL l) ∧ P (chg (roundC ls k))
def S_form_at : SD := fun ds P _ => ∃ (ls : List Lk) (k : Nat), ds = [.tup (rngL ls), .int k] ∧ ls.length ≤ 8 ∧ (∀ l ∈ ls, GL l) ∧ P (formC (roundC ls k))
def S_number_of : SD := fun ds P _ => ∃ ls : List Lk, ds = [.tup (rngL ls)] ∧ ls.length ≤ 8 ∧ (∀ l ∈ ls, GL l) ∧ P (.int (numC (roundC ls 0)))
def S_round_at : SD := fun ds P _ => ∃ (ls : List Lk) (k : Nat), ds = [.tup (rngL ls), .int k] ∧ k < ls.length ∧ ls.length ≤ 8 ∧ (∀ l ∈ ls, GL l) ∧ P (chg (roundC ls k))
def S_ring_form : SD := fun ds P _ => ∃ (ls : List Lk) (k : Nat), ds = [.tup (rngL ls), .int k] ∧ k < ls.length ∧ ls.length ≤ 8 ∧ (∀ l ∈ ls, GL l) ∧ P (formC (roundC ls k))
def S_ring_number : SD := fun ds P _ => ∃ ls : List Lk, ds = [.tup (rngL ls)] ∧ 1 ≤ ls.length ∧ ls.length ≤ 8 ∧ (∀ l ∈ ls, GL l) ∧ P (.int (numC (roundC ls 0)))
end DL
set_option maxHeartbeats 1000000
/-! ### zip of three tuples; sorted of any data; slices with a step -/
namespace DL
open PySem PySem.Spec PyProof.Rows L2
/-! #### zip of three tuples -/
def Itz3 (K : PySem.W.Frag) (a b c : Addr) : It :=
  ⟨fun i H => ∃ (xs ys zs : List V) (x y z : V), SqT K H a xs ∧ SqT K H b ys ∧ SqT K H c zs ∧ xs[i]? = some x ∧ ys[i]? = some y ∧ zs[i]? = some z,
    fun i H v H' => ∃ T x y z, v = .ref T ∧ H T = none ∧ H' = upd H T (.tup [x, y, z]) ∧ (∀ xs, SqT K H a xs → xs[i]? = some x) ∧ (∀ ys, SqT K H b ys → ys[i]? = some y) ∧ ∀ zs, SqT K H c zs → zs[i]? = some z,
    fun i H => ∃ xs ys zs : List V, SqT K H a xs ∧ SqT K H b ys ∧ SqT K H c zs ∧ (xs.length ≤ i ∨ ys.length ≤ i ∨ zs.length ≤ i)⟩
/-- a tuple's iterator that stands at k or behind -/
theorem draws_tupFrom {prog : Program} {w : World} {A : Around} (hh : A.handled = none) (it t : Addr) (hne : t ≠ it) (items : Array Value) (k : Nat) :
    Draws prog w A it [it, t] (max items.size k) (fun i v => items[i]? = some v) (fun i h => k ≤ i ∧ h.IsTupleIter it t i ∧ h.IsTuple t items) where
  live := fun _ _ st => let ⟨o, ho, _⟩ := st.2.1; ⟨o, ho⟩
  frame := fun _ _ _ st hk => ⟨st.1, st.2.1.at fun o e => hk it (by simp) o e, st.2.2.at fun o e => hk t (by simp) o e⟩
  item := fun i s Q E hi st hQ => by
    have h1 := st.1
    have hlt : i < items.size := by omega
    refine RZ.nextOf_tuple_item st.2.1 st.2.2 (x := items[i]) (by simp [hlt]) fun h' hit' hs' => ?_
    exact hQ _ h' s.toks (by simp [hlt]) ⟨by omega, hit', st.2.2.extBut hs'.extBut hne⟩ hs'
  done := fun s Q E st hE => RZ.nextOf_tuple_end hh st.2.1 st.2.2 (by simp; omega) hE
theorem turn_zip3 {P : Program} {w : World} {K : PySem.W.Frag} {elts : List Expr} {kk : Nat} {tpos : Pos} {a b c z TI TO i1 i2 i3 : Addr} (D : ZipSep3 z TI TO i1 i2 i3 [i1, a] [i2, b] [i3, c]) :
    Turn P w K (.Tuple elts kk tpos) (Itz3 K a b c) [z, TI, TO, i1, i2, i3] z (fun i h => IsZip h z TI TO .none ∧ IsTupOf3 h TI (.ref i1) (.ref i2) (.ref i3) ∧ (∃ x y u, IsTupOf3 h TO x y u) ∧ h.IsTupleIter i1 a i ∧ h.IsTupleIter i2 b i ∧ h.IsTupleIter i3 c i) where
  mem := by simp
  obj := fun i h st c hc => by
    obtain ⟨hz, hTI, ⟨x, y, u, hTO⟩, ⟨o1, e1, _, d1⟩, ⟨o2, e2, _, d2⟩, ⟨o3, e3, _, d3⟩⟩ := st
    have e' : c = z ∨ c = TI ∨ c = TO ∨ c = i1 ∨ c = i2 ∨ c = i3 := by simpa using hc
    rcases e' with q | q | q | q | q | q
    · rw [q]; exact ⟨_, hz, fun v q => nomatch q⟩
    · rw [q]; exact ⟨_, hTI, fun v q => nomatch q⟩
    · rw [q]; exact ⟨_, hTO, fun v q => nomatch q⟩
    · rw [q]; exact ⟨o1, e1, fun v q => by rw [d1] at q; cases q⟩
    · rw [q]; exact ⟨o2, e2, fun v q => by rw [d2] at q; cases q⟩
    · rw [q]; exact ⟨o3, e3, fun v q => by rw [d3] at q; cases q⟩
  keep := fun i h h' st k => by
    obtain ⟨hz, hTI, ⟨x, y, u, hTO⟩, h1, h2, h3⟩ := st
    exact ⟨k z (by simp) _ hz, k TI (by simp) _ hTI, ⟨x, y, u, k TO (by simp) _ hTO⟩, h1.at fun o q => k i1 (by simp) o q, h2.at fun o q => k i2 (by simp) o q, h3.at fun o q => k i3 (by simp) o q⟩
  item := by
    intro X hP hw hK hc i pins s σ H E I hf st hg
    subst hP hw hK
    obtain ⟨hz, hTI, ⟨x0, y0, u0, hTO⟩, h1, h2, h3⟩ := st
    obtain ⟨xs, ys, zs, x, y, u, hqx, hqy, hqz, hx, hy, hu⟩ := hg
    obtain ⟨its, rv, p, _⟩ := I.tuple hqx
    obtain ⟨its2, rv2, p2, _⟩ := I.tuple hqy
    obtain ⟨its3, rv3, p3, _⟩ := I.tuple hqz
    obtain ⟨v, hv, ru⟩ := rv.get hx
    obtain ⟨v2, hv2, ru2⟩ := rv2.get hy
    obtain ⟨v3, hv3, ru3⟩ := rv3.get hu
    have hzl : z < s.heap.objs.size := Heap.lt_size hz
    have n1 : a ≠ i1 := fun e => by
      obtain ⟨o, ho, ht, hd⟩ := h1
      obtain ⟨o', ho', ht', _⟩ := p
      rw [e, ho] at ho'
      cases ho'
      exact absurd (ht.symm.trans ht') (by decide)
    have n2 : b ≠ i2 := fun e => by
      obtain ⟨o, ho, ht, hd⟩ := h2
      obtain ⟨o', ho', ht', _⟩ := p2
      rw [e, ho] at ho'
      cases ho'
      exact absurd (ht.symm.trans ht') (by decide)
    have n3 : c ≠ i3 := fun e => by
      obtain ⟨o, ho, ht, hd⟩ := h3
      obtain ⟨o', ho', ht', _⟩ := p3
      rw [e, ho] at ho'
      cases ho'
      exact absurd (ht.symm.trans ht') (by decide)
    have l1 : i < its.toArray.size := by
      have := (List.getElem?_eq_some_iff.mp hv).1
      simpa using this
    have l2 : i < its2.toArray.size := by
      have := (List.getElem?_eq_some_iff.mp hv2).1
      simpa using this
    have l3 : i < its3.toArray.size := by
      have := (List.getElem?_eq_some_iff.mp hv3).1
      simpa using this
    have hh : X.A.in1.handled = none := I.ok.hd hc
    refine wpAny_pyNext_zipD3_item (i := i) D (draws_tupFrom hh i1 a n1 its.toArray 0) (draws_tupFrom hh i2 b n2 its2.toArray 0) (draws_tupFrom hh i3 c n3 its3.toArray 0) hz hTI hTO
      ⟨Nat.zero_le _, h1, p⟩ ⟨Nat.zero_le _, h2, p2⟩ ⟨Nat.zero_le _, h3, p3⟩ (by omega) (by omega) (by omega) fun w1 w2 w3 h' tk e1 e2 e3 z' TO' s1 s2 s3 hT hsz hk => ?_
    have f1 : w1 = v := by
      have e1' : its[i]? = some w1 := by simpa using e1
      rw [hv] at e1'
      exact (Option.some.inj e1').symm
    have f2 : w2 = v2 := by
      have e1' : its2[i]? = some w2 := by simpa using e2
      rw [hv2] at e1'
      exact (Option.some.inj e1').symm
    have f3 : w3 = v3 := by
      have e1' : its3[i]? = some w3 := by simpa using e3
      rw [hv3] at e1'
      exact (Option.some.inj e1').symm
    subst f1 f2 f3
    refine ⟨_, rfl, wpAny_letOwnedTupleGo_zip (s := { s with heap := h', toks := tk }) z' fun h'' z'' sb => ?_⟩
    have hT2 : h''.get? s.heap.objs.size = some { cls := .type "tuple", data := .seq #[w1, w2, w3] } := (sb.2 _ (Nat.ne_of_gt hzl)).trans hT
    have new : ObjOk X.prog X.w (upd H s.heap.objs.size (.tup [x, y, u])) h'' s.heap.objs.size (.tup [x, y, u]) :=
      ⟨by show 3 ≤ sizeLine; decide, [w1, w2, w3], .cons ru (.cons ru2 (.cons ru3 .nil)), ⟨_, hT2, rfl, _, rfl⟩⟩
    have I1 : Inv X pins σ (upd H s.heap.objs.size (.tup [x, y, u])) { s with heap := h'', toks := tk } :=
      I.turnedNew (t' := tk) (ch := [z, TI, TO, i1, i2, i3]) (fun c o hb q => (sb.2 c (fun q' => hb (by simp [q']))).trans (hk c o (fun q' => hb (by simp [q'])) (fun q' => hb (by simp [q'])) (fun q' => hb (by simp [q'])) (fun q' => hb (by simp [q'])) (fun q' => hb (by simp [q'])) q)) hf (Nat.le_refl _) new
    refine ⟨.ref s.heap.objs.size, _, I1, rfl, ⟨_, x, y, u, rfl, I.hok.fresh (Nat.le_refl _), rfl, fun l hl => by rw [I.tuple_inj hl hqx]; exact hx, fun l hl => by rw [I.tuple_inj hl hqy]; exact hy, fun l hl => by rw [I.tuple_inj hl hqz]; exact hu⟩, ⟨z'', ?_, ⟨w1, w2, w3, ?_⟩, ?_, ?_, ?_⟩, fun c hcm => ?_⟩
    · exact (sb.2 _ D.TIz).trans (hk _ _ D.TIz D.TITO D.TIi1 D.TIi2 D.TIi3 hTI)
    · exact (sb.2 _ D.TOz).trans TO'
    · exact s1.2.1.at fun o q => (sb.2 _ D.zi1.symm).trans q
    · exact s2.2.1.at fun o q => (sb.2 _ D.zi2.symm).trans q
    · exact s3.2.1.at fun o q => (sb.2 _ D.zi3.symm).trans q
    · have hlt : c < s.heap.objs.size := by
        have e' : c = z ∨ c = TI ∨ c = TO ∨ c = i1 ∨ c = i2 ∨ c = i3 := by simpa using hcm
        rcases e' with q | q | q | q | q | q
        · rw [q]; exact hzl
        · rw [q]; exact Heap.lt_size hTI
        · rw [q]; exact Heap.lt_size hTO
        · rw [q]; obtain ⟨_, e1, _⟩ := h1; exact Heap.lt_size e1
        · rw [q]; obtain ⟨_, e2, _⟩ := h2; exact Heap.lt_size e2
        · rw [q]; obtain ⟨_, e2, _⟩ := h3; exact Heap.lt_size e2
      rw [upd_ne (Nat.ne_of_lt hlt)]
      exact (hf c hcm).1
  done := by
    intro X hP hw hK hc i pins s σ H E I hf st hg
    subst hP hw hK
    obtain ⟨hz, hTI, ⟨x0, y0, u0, hTO⟩, h1, h2, h3⟩ := st
    obtain ⟨xs, ys, zs, hqx, hqy, hqz, hend⟩ := hg
    obtain ⟨its, rv, p, _⟩ := I.tuple hqx
    obtain ⟨its2, rv2, p2, _⟩ := I.tuple hqy
    obtain ⟨its3, rv3, p3, _⟩ := I.tuple hqz
    have n1 : a ≠ i1 := fun e => by
      obtain ⟨o, ho, ht, hd⟩ := h1
      obtain ⟨o', ho', ht', _⟩ := p
      rw [e, ho] at ho'
      cases ho'
      exact absurd (ht.symm.trans ht') (by decide)
    have n2 : b ≠ i2 := fun e => by
      obtain ⟨o, ho, ht, hd⟩ := h2
      obtain ⟨o', ho', ht', _⟩ := p2
      rw [e, ho] at ho'
      cases ho'
      exact absurd (ht.symm.trans ht') (by decide)
    have n3 : c ≠ i3 := fun e => by
      obtain ⟨o, ho, ht, hd⟩ := h3
      obtain ⟨o', ho', ht', _⟩ := p3
      rw [e, ho] at ho'
      cases ho'
      exact absurd (ht.symm.trans ht') (by decide)
    have l1 := rv.length
    have l2 := rv2.length
    have l3 := rv3.length
    have hh : X.A.in1.handled = none := I.ok.hd hc
    have he : i = max its.toArray.size i ∨ i = max its2.toArray.size i ∨ i = max its3.toArray.size i := by
      simp only [List.size_toArray]
      omega
    exact wpAny_pyNext_zipD3_end (i := i) D (draws_tupFrom hh i1 a n1 its.toArray i) (draws_tupFrom hh i2 b n2 its2.toArray i) (draws_tupFrom hh i3 c n3 its3.toArray i) hz hTI hTO
      ⟨Nat.le_refl _, h1, p⟩ ⟨Nat.le_refl _, h2, p2⟩ ⟨Nat.le_refl _, h3, p3⟩ (Nat.le_max_right _ _) (Nat.le_max_right _ _) (Nat.le_max_right _ _) he fun h' tk hk => ⟨rfl, I.turnedL (t' := tk) (ch := [z, TI, TO, i1, i2, i3]) (fun c o hb q =>
      hk c o (fun q' => hb (by simp [q'])) (fun q' => hb (by simp [q'])) (fun q' => hb (by simp [q'])) (fun q' => hb (by simp [q'])) (fun q' => hb (by simp [q'])) q) hf⟩
  self := fun A i s Q E st h => wpAny_pyIter_zip st.1 h
def iZip3 (K : PySem.W.Frag) (ta : TA) : TI := fun σ H R => ta σ H fun vs H1 => ∃ a b c xs ys zs, vs = [.ref a, .ref b, .ref c] ∧ SqT K H1 a xs ∧ SqT K H1 b ys ∧ SqT K H1 c zs ∧ R (Itz3 K a b c) H1
theorem pi_zip3 {X : Cx} {e e2 e3 : Expr} {ta : TA} {p pos tpos : Pos} {elts : List Expr} {kk : Nat} (hg : Gl X "zip") (hm : X.mg "zip" = none) (ha : PA X [e, e2, e3] ta)
    (hs : starEach [e, e2, e3] X.env = (false, eval e X.env) :: starEach [e2, e3] X.env := by rfl) (hpl : (backTo pos (starEach [e2, e3] X.env)).any (·.1) = false := by rfl) :
    PI X (.Tuple elts kk tpos) (.Call (.Name "zip" p) [e, e2, e3] [] pos) (iZip3 X.K ta) := by
  refine ⟨fun pins s σ H R I h => ?_⟩
  refine Call_ (ld_blt I hg hm PyProof.Rows.boot_zip (PyProof.Rows.callWith_type1 (thn (ha.run pos pins s σ H _ I h) fun us s1 ⟨vs, H1, I1, r1, q1⟩ => ?_) hs hpl))
  obtain ⟨a, b, c, xs, ys, zs, ex, hqx, hqy, hqz, q⟩ := q1
  subst ex
  cases r1 with
  | cons r rr =>
    cases rr with
    | cons r' rr =>
      cases rr with
      | cons r'' rr =>
        cases rr
        cases r
        cases r'
        cases r''
        have fresh6 : ∀ c, c ∈ [s1.heap.objs.size + 5, s1.heap.objs.size + 3, s1.heap.objs.size + 4, s1.heap.objs.size, s1.heap.objs.size + 1, s1.heap.objs.size + 2] → FpOk X pins H1 c := fun c hcm => by
          have e' : c = s1.heap.objs.size + 5 ∨ c = s1.heap.objs.size + 3 ∨ c = s1.heap.objs.size + 4 ∨ c = s1.heap.objs.size ∨ c = s1.heap.objs.size + 1 ∨ c = s1.heap.objs.size + 2 := by simpa using hcm
          have hle : s1.heap.objs.size ≤ c := by
            rcases e' with z | z | z | z | z | z
            · rw [z]; exact Nat.le_add_right _ _
            · rw [z]; exact Nat.le_add_right _ _
            · rw [z]; exact Nat.le_add_right _ _
            · rw [z]; exact Nat.le_refl _
            · rw [z]; exact Nat.le_add_right _ _
            · rw [z]; exact Nat.le_add_right _ _
          exact I1.fpOk hle (I1.hok.fresh hle)
        obtain ⟨its, rv, p1, _⟩ := I1.tuple hqx
        obtain ⟨its2, rv2, p2, _⟩ := I1.tuple hqy
        obtain ⟨its3, rv3, p3, _⟩ := I1.tuple hqz
        obtain ⟨o1, ho1, _⟩ := id p1
        obtain ⟨o2, ho2, _⟩ := id p2
        obtain ⟨o3, ho3, _⟩ := id p3
        refine zip_begins3 (begins_tuple a its.toArray) (begins_tuple b its2.toArray) (begins_tuple c its3.toArray) p1 p2 p3 fun h' hz hTI hTO h1 h2 h3 hsz hk => wpAny_pyIter_zip hz ?_
        have I2 : Inv X pins σ H1 { s1 with heap := h' } := I1.kept (t' := s1.toks) hk
        have D := zip_sep3 (N := s1.heap.objs.size) (fp1 := [a]) (fp2 := [b]) (fp3 := [c]) (fun x hx => by rw [List.mem_singleton.mp hx]; exact Heap.lt_size ho1) (fun x hx => by rw [List.mem_singleton.mp hx]; exact Heap.lt_size ho2) (fun x hx => by rw [List.mem_singleton.mp hx]; exact Heap.lt_size ho3)
        exact ⟨s1.heap.objs.size + 5, [s1.heap.objs.size + 5, s1.heap.objs.size + 3, s1.heap.objs.size + 4, s1.heap.objs.size, s1.heap.objs.size + 1, s1.heap.objs.size + 2], _, _, H1, rfl, I2, turn_zip3 D,
          ⟨hz, hTI, ⟨_, _, _, hTO⟩, ⟨_, h1, rfl, rfl⟩, ⟨_, h2, rfl, rfl⟩, ⟨_, h3, rfl, rfl⟩⟩, fresh6, q⟩
def zip3D : List D → List D → List D → List D
  | a :: l, b :: m, c :: n => .tup [a, b, c] :: zip3D l m n
  | _, _, _ => []
@[simp] theorem zip3D_cons {a b c : D} {l m n : List D} : zip3D (a :: l) (b :: m) (c :: n) = .tup [a, b, c] :: zip3D l m n := rfl
@[simp] theorem zip3D_n1 {m n : List D} : zip3D [] m n = [] := by cases m <;> rfl
@[simp] theorem zip3D_n2 {l n : List D} : zip3D l [] n = [] := by cases l <;> rfl
@[simp] theorem zip3D_n3 {l m : List D} : zip3D l m [] = [] := by cases l <;> cases m <;> rfl
theorem zip3D_get : ∀ (l m n : List D) (i : Nat) (d : D), (zip3D l m n)[i]? = some d → ∃ a b c, l[i]? = some a ∧ m[i]? = some b ∧ n[i]? = some c ∧ d = .tup [a, b, c]
  | a :: l, b :: m, c :: n, 0, d, h => ⟨a, b, c, rfl, rfl, rfl, by simp at h; exact h.symm⟩
  | a :: l, b :: m, c :: n, i + 1, d, h => by
    simp only [zip3D_cons, List.getElem?_cons_succ] at h ⊢
    exact zip3D_get l m n i d h
  | [], _, _, i, d, h => by simp at h
  | _ :: _, [], _, i, d, h => by simp at h
  | _ :: _, _ :: _, [], i, d, h => by simp at h
theorem zip3D_len : ∀ (l m n : List D), (zip3D l m n).length = min (min l.length m.length) n.length
  | a :: l, b :: m, c :: n => by
    simp only [zip3D_cons, List.length_cons, zip3D_len l m n]
    omega
  | [], _, _ => by simp
  | _ :: _, [], _ => by simp
  | _ :: _, _ :: _, [] => by simp
theorem at_three {K : PySem.W.Frag} {F : Hp} {k : Dk} {T : Addr} {a b c : D} {x y z : V} (hT : F T = none) (h1 : At K F k a x) (h2 : At K F k b y) (h3 : At K F k c z) : At K (upd F T (.tup [x, y, z])) k (.tup [a, b, c]) (.ref T) := by
  have g : Grow F (upd F T (.tup [x, y, z])) k k := ⟨fun c o q => by rw [upd_ne (ne_of_none q hT)]; exact q, fun _ q => q⟩
  simp only [At]
  exact ⟨T, [x, y, z], rfl, SqT.of upd_same, .cons (At.grow g _ _ h1) (.cons (At.grow g _ _ h2) (.cons (At.grow g _ _ h3) .nil))⟩
theorem runs_zip3 {K : PySem.W.Frag} {F : Hp} {k : Dk} {x y z : Addr} {vs us ws : List V} {l m n : List D} (h : SqT K F x vs) (hA : Ats K F k l vs) (h2 : SqT K F y us) (hB : Ats K F k m us) (h3 : SqT K F z ws) (hC : Ats K F k n ws) : Runs K (Itz3 K x y z) (zip3D l m n) F k := fun e env oa σ F' H k' i R g' => by
  have q1 : SqT K H x vs := sqT_grow R.wd.sub (sqT_grow g'.1 h)
  have q2 : SqT K H y us := sqT_grow R.wd.sub (sqT_grow g'.1 h2)
  have q3 : SqT K H z ws := sqT_grow R.wd.sub (sqT_grow g'.1 h3)
  refine ⟨fun hl => ⟨vs, us, ws, q1, q2, q3, by
    rw [zip3D_len, Ats.length hA, Ats.length hB, Ats.length hC] at hl
    omega⟩, fun d hd => ?_⟩
  obtain ⟨a, b, c, ha, hb, hc, rfl⟩ := zip3D_get _ _ _ _ _ hd
  obtain ⟨v, v1, v2⟩ := Ats.get hA i a ha
  obtain ⟨u, u1, u2⟩ := Ats.get hB i b hb
  obtain ⟨t, t1, t2⟩ := Ats.get hC i c hc
  refine ⟨⟨vs, us, ws, v, u, t, q1, q2, q3, v1, u1, t1⟩, fun z H' hy => ?_⟩
  obtain ⟨T, c1, c2, c3, rfl, hT, rfl, f1, f2, f3⟩ := hy
  have e1 := f1 vs q1
  have e2 := f2 us q2
  have e3 := f3 ws q3
  rw [v1] at e1
  rw [u1] at e2
  rw [t1] at e3
  cases e1
  cases e2
  cases e3
  obtain ⟨R2, g2⟩ := R.laid hT (.tup [v, u, t])
  exact ⟨_, R2, g2, at_three (R.wd.noF hT) (At.grow g' _ _ v2) (At.grow g' _ _ u2) (At.grow g' _ _ t2)⟩
def dZip3 (f g h : DE) : DA := fun env Q => f env fun d env1 => g env1 fun d' env2 => h env2 fun d'' env3 => match d, d', d'' with
  | .tup l, .tup m, .tup n => Q (zip3D l m n) env3
  | _, _, _ => False
section
variable {wx : DX} {WW : WX} {ZZ : Fz} {X : Cx} {a b c : Expr} {pos : Pos} {f g h : DE}
theorem di_zip3 {elts : List Expr} {kk : Nat} {tpos p : Pos} (hg : Gl X "zip") (hm : X.mg "zip" = none) (h1 : PE X a (lift (X.kx wx WW ZZ) f)) (h2 : PE X b (lift (X.kx wx WW ZZ) g)) (h3 : PE X c (lift (X.kx wx WW ZZ) h))
    (hs : starEach [a, b, c] X.env = [(false, eval a X.env), (false, eval b X.env), (false, eval c X.env)] := by rfl) (hs2 : starEach [b, c] X.env = [(false, eval b X.env), (false, eval c X.env)] := by rfl) (hs3 : starEach [c] X.env = [(false, eval c X.env)] := by rfl) :
    PI X (.Tuple elts kk tpos) (.Call (.Name "zip" p) [a, b, c] [] pos) (liftI (X.kx wx WW ZZ) (dZip3 f g h)) :=
  (pi_zip3 hg hm (pa_cons h1 (pa_cons h2 (pa_cons h3 pa_nil hs3) (by rw [hs2, hs3])) (by rw [hs, hs2])) (by rw [hs, hs2]) (by rw [hs2]; rfl)).w fun σ H Rr ⟨e, env, oa, F, k, P, R, p, q⟩ =>
    ⟨e, env, oa, F, k, _, R, p, fun d env1 v oa1 F1 H1 k1 p1 R1 g1 a1 => ⟨e, env1, oa1, F1, k1, _, R1, p1, fun d' env2 v' oa2 F2 H2 k2 p2 R2 g2 a2 => ⟨e, env2, oa2, F2, k2, _, R2, p2, fun d'' env3 v'' oa3 F3 H3 k3 p3 R3 g3 a3 => by
      cases d with
      | tup l =>
        cases d' with
        | tup m =>
          cases d'' with
          | tup n =>
            simp only [At] at a1 a2 a3
            obtain ⟨x, vs, rfl, x1, x2⟩ := a1
            obtain ⟨y, us, rfl, y1, y2⟩ := a2
            obtain ⟨z, ws, rfl, z1, z2⟩ := a3
            have x1' := sqT_grow g3.1 (sqT_grow g2.1 x1)
            have y1' := sqT_grow g3.1 y1
            exact ⟨x, y, z, vs, us, ws, rfl, sqT_grow R3.wd.sub x1', sqT_grow R3.wd.sub y1', sqT_grow R3.wd.sub z1, q _ env3 oa3 F3 H3 k3 _ p3 R3 ((g1.trans g2).trans g3) (runs_zip3 x1' (Ats.grow (g2.trans g3) _ _ x2) y1' (Ats.grow g3 _ _ y2) z1 z2)⟩
          | _ => exact p3.elim
        | _ => exact p3.elim
      | _ => exact p3.elim⟩⟩⟩
end
@[simp ↓] theorem e_Zip3 {env : Evn} {QA : List D → Evn → Prop} {f g h : DE} : dZip3 f g h env QA = f env fun d env1 => g env1 fun d' env2 => h env2 fun d'' env3 => match d, d', d'' with | .tup l, .tup m, .tup n => QA (zip3D l m n) env3 | _, _, _ => False := rfl
/-! #### sorted of any data -/
open PySem.W in
/-- data that can be sorted: plain, alike, and not deep; tuples that are not empty, or no tuples and no None -/
structure SortOk (l : List D) : Prop where
  pl : plainDs l = true
  al : AllAlike (l.map py)
  so : Sortable (l.map py)
  dp : ∀ d ∈ l, (py d).depth ≤ 40
def leD : D → D → Bool := PySem.W.dataLe false py
theorem ats_of_zip {K : PySem.W.Frag} {F : Hp} {k : Dk} : ∀ {zs : List (D × V)}, (∀ p ∈ zs, At K F k p.1 p.2) → Ats K F k (zs.map Prod.fst) (zs.map Prod.snd)
  | [], _ => .nil
  | z :: zs, h => .cons (h z List.mem_cons_self) (ats_of_zip fun p hp => h p (List.mem_cons_of_mem _ hp))
theorem ats_zip {K : PySem.W.Frag} {F : Hp} {k : Dk} : ∀ {l : List D} {vs : List V}, Ats K F k l vs → ∀ p ∈ l.zip vs, At K F k p.1 p.2
  | [], _, _, p, hp => by simp at hp
  | d :: l, vs, h, p, hp => by
    simp only [Ats] at h
    obtain ⟨v, r, rfl, h1, h2⟩ := h
    rw [List.zip_cons_cons] at hp
    rcases List.mem_cons.mp hp with rfl | hp
    · exact h1
    · exact ats_zip h2 p hp
theorem each_vals {R : Value → (D × V) → Prop} (hR : ∀ u p, R u p → RelV p.2 u) : ∀ {us : List Value} {zs : List (D × V)}, PySem.W.EachIs R us zs → Vals (zs.map Prod.snd) us
  | _, _, .nil => .nil
  | _, _, .cons h t => .cons (hR _ _ h) (each_vals hR t)
theorem vals_each {l : List D} : ∀ {l : List D} {vs : List V} {us : List Value}, l.length = vs.length → Vals vs us → PySem.W.EachIs (fun u p => RelV p.2 u) us (l.zip vs)
  | [], [], _, _, .nil => .nil
  | d :: l, v :: vs, _, e, .cons r t => by
    rw [List.zip_cons_cons]
    exact .cons r (vals_each (l := l) (by simpa using e) t)
theorem reads_each {X : Cx} {pins : List (Addr × Obj)} {σ : L2.St} {H : Hp} {s : Shared} {F : Hp} {k : Dk} (sy : SysOk X.K) (I : L2.Inv X pins σ H s) (sub : ∀ a o, F a = some o → H a = some o) : ∀ {l : List D} {vs : List V} {us : List Value}, plainDs l = true → Ats X.K F k l vs → Vals vs us → PySem.W.EachIs (fun u (p : D × V) => ∃ as, Reads s.heap u (py p.1) as) us (l.zip vs)
  | [], vs, us, z, h, r => by
    simp only [Ats] at h
    subst h
    cases r
    exact .nil
  | d :: l, vs, us, z, h, r => by
    simp only [Ats] at h
    obtain ⟨v, r', rfl, h1, h2⟩ := h
    simp only [plainDs, Bool.and_eq_true] at z
    cases r with
    | cons ru rt =>
      rw [List.zip_cons_cons]
      obtain ⟨as, hr, _⟩ := at_reads sy I sub d v _ z.1 h1 ru
      exact .cons ⟨as, hr⟩ (reads_each sy I sub z.2 h2 rt)
theorem zip_sorted {l : List D} {vs : List V} (e : l.length = vs.length) : ((l.zip vs).mergeSort (PySem.W.dataLe false fun p => py p.1)).map Prod.fst = l.mergeSort leD := by
  have h := PySem.W.sort_maps (r := PySem.W.dataLe false fun p : D × V => py p.1) (s := leD) Prod.fst (l := l.zip vs) (fun a _ b _ => rfl)
  rw [h, List.map_fst_zip (by omega)]
theorem cr_sortD {X : Cx} (sy : SysOk X.K) (hu : X.A.units + 64 < cLine) : CallR X (.builtin "sorted") (fun xs H Q => ∃ (F : Hp) (k : Dk) (a : Addr) (l : List D) (vs : List V), xs = [.ref a] ∧ (∀ a o, F a = some o → H a = some o) ∧ SqL X.K H a vs ∧ Ats X.K F k l vs ∧ SortOk l ∧
    ∀ (vs' : List V) (p : Addr), Ats X.K F k (l.mergeSort leD) vs' → H p = none → Q (.ref p) (upd H p (.lst vs'))) := by
  intro pins s σ H xs us Q I r h
  obtain ⟨F, k, a, l, vs, rfl, sub, hs, hA, ok, q⟩ := h
  obtain ⟨its, rv, hl, hz⟩ := I.list hs
  rw [Vals.ref1 r]
  have el : l.length = vs.length := Ats.length hA
  have e1 : (l.zip vs).map (fun p : D × V => py p.1) = l.map py := by
    have h : (l.zip vs).map (fun p : D × V => py p.1) = ((l.zip vs).map Prod.fst).map py := by rw [List.map_map] <;> rfl
    rw [h, List.map_fst_zip (by omega)]
  refine PySem.W.sorted_data (R := fun u (p : D × V) => RelV p.2 u) (enc := fun p : D × V => py p.1) (bs := l.zip vs) hl.isList (vals_each (l := l) el rv) (reads_each sy I sub ok.pl hA rv) (by rw [e1]; exact ok.al) (by rw [e1]; exact ok.so) ?_ ?_ fun out ho he => ?_
  · rw [List.length_zip, el, Nat.min_self]; exact hz
  · intro p hp
    have := ok.dp p.1 (List.of_mem_zip hp).1
    omega
  · have hz' : ((l.zip vs).mergeSort (PySem.W.dataLe false fun p : D × V => py p.1)).Perm (l.zip vs) := List.mergeSort_perm _ _
    have hA' : Ats X.K F k (l.mergeSort leD) (((l.zip vs).mergeSort (PySem.W.dataLe false fun p : D × V => py p.1)).map Prod.snd) := by
      rw [← zip_sorted el]
      exact ats_of_zip fun p hp => ats_zip hA p (hz'.mem_iff.mp hp)
    obtain ⟨ep, he'⟩ := PyProof.Rows.sortedAll_at s.heap its out.toArray
    have hv := each_vals (fun u p h => h) he
    have hlen : (((l.zip vs).mergeSort (PySem.W.dataLe false fun p : D × V => py p.1)).map Prod.snd).length ≤ sizeLine := by
      rw [List.length_map, hz'.length_eq, List.length_zip, el, Nat.min_self]
      exact hz
    exact ⟨.ref _, upd H (s.heap.objs.size + 1) (.lst (((l.zip vs).mergeSort (PySem.W.dataLe false fun p : D × V => py p.1)).map Prod.snd)), I.laid (t' := s.toks) (fun _ _ => PyProof.Rows.sortedAll_old) (Nat.le_succ _) ⟨hlen, out, ep, hv, he'⟩, rfl, q _ _ hA' (I.hok.fresh (Nat.le_succ _))⟩
def cSortD : DC := fun ds G => ∃ l : List D, ds = [.lst l] ∧ SortOk l ∧ G (.lst (l.mergeSort leD))
theorem cd_sortD {X : Cx} (sy : SysOk X.K) (hu : X.A.units + 64 < cLine) : CallD X (.builtin "sorted") cSortD := ⟨_, cr_sortD sy hu, fun e env oa σ F H k vs ds Q G R a ⟨l, hd, ok, p⟩ q => by
  subst hd
  simp only [Ats, At] at a
  obtain ⟨v, _, rfl, ⟨x, us, rfl, h1, h2⟩, rfl⟩ := a
  refine ⟨F, k, x, l, us, rfl, R.wd.sub, SqL.of (R.wd.sub _ _ h1), h2, ok, fun ms t h3 ht => ?_⟩
  obtain ⟨R2, g2⟩ := R.laid ht (.lst ms)
  exact q _ _ oa _ _ k p R2 g2 (by simp only [At]; exact ⟨t, _, rfl, upd_same, Ats.grow g2 _ _ h3⟩)⟩
end DL
namespace DL
open PySem PySem.Spec L2
/-! ### standings of rings: plain mathematics and promises -/
abbrev Pt := Int × Int
def plc (p : Pt) : D := .tup [.int p.1, .int p.2]
structure GP (n : Nat) (p : Pt) : Prop where
  ip : IsP p.1 p.2
  lx : Lt n p.1
  ly : Lt n p.2
theorem GP.mono {m n : Nat} {p : Pt} (g : GP m p) (h : m ≤ n) : GP n p := ⟨g.ip, g.lx.mono h, g.ly.mono h⟩
theorem gp_any : GP 1 (1, 0) := ⟨.inr ⟨rfl, rfl⟩, .of (by decide), .of (by decide)⟩
theorem GP.nz {n : Nat} {p : Pt} (g : GP n p) : ¬ (p.1 = 0 ∧ p.2 = 0) := isP_nz g.ip
theorem plc_is {a b : Int} {n : Nat} (h : ¬ (a = 0 ∧ b = 0)) (ha : Lt n a) (hb : Lt n b) : ∃ q : Pt, plV a b = plc q ∧ GP (n + 1) q ∧ ∃ k : Int, k ≠ 0 ∧ a = k * q.1 ∧ b = k * q.2 := by
  obtain ⟨x, y, k, ip, hk, _, e1, e2, e3⟩ := plV_is h
  obtain ⟨u, v, e4, lu, lv⟩ := plV_bd n ha hb
  rw [e3, D.tup.injEq, List.cons.injEq, List.cons.injEq, D.int.injEq, D.int.injEq] at e4
  obtain ⟨rfl, rfl, _⟩ := e4
  exact ⟨(x, y), e3, ⟨ip, lu, lv⟩, k, hk, e1, e2⟩
theorem plc_inj {p q : Pt} (h : plc p = plc q) : p = q := by
  unfold plc at h
  rw [D.tup.injEq, List.cons.injEq, List.cons.injEq, D.int.injEq, D.int.injEq] at h
  exact Prod.ext h.1 h.2.1
theorem gp_eq {m n : Nat} {p q : Pt} (hp : GP m p) (hq : GP n q) (h : p.1 * q.2 - p.2 * q.1 = 0) : p = q := by
  false_or_by_contra
  rename_i hn
  exact cross_nz hp.ip hq.ip (fun e => hn (Prod.ext e.1 e.2)) h
/-- the two numbers of a link's exit, of its entry -/
def exA (l : Lk) (p : Pt) : Int := (passC l).p * p.1 + (passC l).q * p.2
def exB (l : Lk) (p : Pt) : Int := (passC l).r * p.1 + (passC l).s * p.2
def enA (l : Lk) (p : Pt) : Int := -((itL l 4 * l.x + itL l 5 * l.y) * p.1 + (itL l 6 * l.x + itL l 7 * l.y) * p.2)
def enB (l : Lk) (p : Pt) : Int := (itL l 0 * l.x + itL l 1 * l.y) * p.1 + (itL l 2 * l.x + itL l 3 * l.y) * p.2
def exZ (l : Lk) (p : Pt) : Prop := exA l p = 0 ∧ exB l p = 0
def enZ (l : Lk) (p : Pt) : Prop := enA l p = 0 ∧ enB l p = 0
instance (l : Lk) (p : Pt) : Decidable (exZ l p) := by unfold exZ; infer_instance
instance (l : Lk) (p : Pt) : Decidable (enZ l p) := by unfold enZ; infer_instance
/-- the cube of a link at places of its entry and its exit -/
def met (l : Lk) (p q : Pt) : Int := p.1 * ((itL l 0 * l.x + itL l 1 * l.y) * q.1 + (itL l 2 * l.x + itL l 3 * l.y) * q.2) + p.2 * ((itL l 4 * l.x + itL l 5 * l.y) * q.1 + (itL l 6 * l.x + itL l 7 * l.y) * q.2)
theorem met_ex (l : Lk) (p q : Pt) : met l p q = exB l p * q.1 - exA l p * q.2 := by
  unfold met exB exA passC
  dsimp only
  generalize itL l 0 * l.x + itL l 1 * l.y = a
  generalize itL l 2 * l.x + itL l 3 * l.y = b
  generalize itL l 4 * l.x + itL l 5 * l.y = c
  generalize itL l 6 * l.x + itL l 7 * l.y = d
  grind
theorem met_en (l : Lk) (p q : Pt) : met l p q = p.1 * enB l q - p.2 * enA l q := by
  unfold met enB enA
  generalize itL l 0 * l.x + itL l 1 * l.y = a
  generalize itL l 2 * l.x + itL l 3 * l.y = b
  generalize itL l 4 * l.x + itL l 5 * l.y = c
  generalize itL l 6 * l.x + itL l 7 * l.y = d
  grind
theorem met_exZ {l : Lk} {p : Pt} (h : exZ l p) (q : Pt) : met l p q = 0 := by rw [met_ex, h.1, h.2]; simp
theorem met_enZ {l : Lk} {q : Pt} (h : enZ l q) (p : Pt) : met l p q = 0 := by rw [met_en, h.1, h.2]; simp
theorem ex_lt {l : Lk} {p : Pt} {n : Nat} (g : GL l) (hp : GP n p) : Lt (n + 18) (exA l p) ∧ Lt (n + 18) (exB l p) := by
  obtain ⟨a, b, c, d⟩ := g.pass
  have s : ∀ {x y : Int}, Lt 17 x → Lt 17 y → Lt (n + 18) (x * p.1 + y * p.2) := fun hx hy => (@Lt.add _ _ _ _ (@Lt.mul _ _ _ _ hx hp.lx) (@Lt.mul _ _ _ _ hy hp.ly)).mono (by omega)
  exact ⟨s a b, s c d⟩
theorem en_lt {l : Lk} {p : Pt} {n : Nat} (g : GL l) (hp : GP n p) : Lt (n + 18) (enA l p) ∧ Lt (n + 18) (enB l p) := by
  obtain ⟨a, b, c, d⟩ := g.pass
  have ng : ∀ {k : Nat} {i : Int}, Lt k (-i) → Lt k i := fun h => ⟨by have := h.h; rw [Int.natAbs_neg] at this; exact this⟩
  have s : ∀ {x y : Int}, Lt 17 x → Lt 17 y → Lt (n + 18) (x * p.1 + y * p.2) := fun hx hy => (@Lt.add _ _ _ _ (@Lt.mul _ _ _ _ hx hp.lx) (@Lt.mul _ _ _ _ hy hp.ly)).mono (by omega)
  refine ⟨?_, s c (ng a)⟩
  unfold enA
  exact ⟨by rw [Int.natAbs_neg]; exact (s d (ng b)).h⟩
def toPt : D → Pt
  | .tup [.int a, .int b] => (a, b)
  | _ => (0, 0)
@[simp] theorem toPt_plc (p : Pt) : toPt (plc p) = p := rfl
def exP (l : Lk) (p : Pt) : Pt := toPt (plV (exA l p) (exB l p))
theorem ex_is {l : Lk} {p : Pt} {n : Nat} (g : GL l) (hp : GP n p) (h : ¬ exZ l p) : plV (exA l p) (exB l p) = plc (exP l p) ∧ GP (n + 19) (exP l p) ∧ met l p (exP l p) = 0 ∧ ∃ k : Int, k ≠ 0 ∧ exA l p = k * (exP l p).1 ∧ exB l p = k * (exP l p).2 := by
  obtain ⟨ha, hb⟩ := ex_lt g hp
  obtain ⟨q, e, gq, k, hk, e1, e2⟩ := plc_is h ha hb
  have eq : exP l p = q := by unfold exP; rw [e]; rfl
  rw [eq]
  refine ⟨e, gq, ?_, k, hk, e1, e2⟩
  rw [met_ex, e1, e2]
  grind
theorem en_is {l : Lk} {q : Pt} {n : Nat} (g : GL l) (hq : GP n q) (h : ¬ enZ l q) : ∃ p : Pt, plV (enA l q) (enB l q) = plc p ∧ GP (n + 19) p ∧ met l p q = 0 := by
  obtain ⟨ha, hb⟩ := en_lt g hq
  obtain ⟨p, e, gp, k, hk, e1, e2⟩ := plc_is h ha hb
  refine ⟨p, e, gp, ?_⟩
  rw [met_en, e1, e2]
  grind
/-- the place that comes all along some links, none if every place will do -/
def runF : List Lk → Pt → Option Pt
  | [], p => some p
  | l :: ls, p => if exZ l p then none else runF ls (exP l p)
def reachB (ls : List Lk) (p : Pt) : Bool := match runF ls p with
  | none => true
  | some q => decide (q = p)
def Chn : List Lk → List Pt → Prop
  | [], [_] => True
  | l :: ls, p :: q :: qs => met l p q = 0 ∧ Chn ls (q :: qs)
  | _, _ => False
theorem chn_len : ∀ {ls : List Lk} {qs : List Pt}, Chn ls qs → qs.length = ls.length + 1
  | [], [_], _ => rfl
  | l :: ls, p :: q :: qs, h => by
    have := chn_len (ls := ls) (qs := q :: qs) h.2
    simp only [List.length_cons] at this ⊢
    omega
  | [], [], h => h.elim
  | [], _ :: _ :: _, h => h.elim
  | _ :: _, [], h => h.elim
  | _ :: _, [_], h => h.elim
theorem chn_app : ∀ {as bs : List Lk} {xs : List Pt} {y : Pt} {ys : List Pt}, Chn as (xs ++ [y]) → Chn bs (y :: ys) → Chn (as ++ bs) (xs ++ y :: ys)
  | [], bs, [], y, ys, _, h => h
  | [], bs, [_], y, ys, h, _ => h.elim
  | [], bs, _ :: _ :: _, y, ys, h, _ => h.elim
  | l :: as, bs, [], y, ys, h, _ => h.elim
  | l :: as, bs, [x], y, ys, h, h2 => ⟨h.1, chn_app (xs := []) h.2 h2⟩
  | l :: as, bs, x :: x' :: xs, y, ys, h, h2 => ⟨h.1, chn_app (xs := x' :: xs) h.2 h2⟩
theorem chn_split : ∀ {as bs : List Lk} {xs : List Pt} {y : Pt} {ys : List Pt}, xs.length = as.length → Chn (as ++ bs) (xs ++ y :: ys) → Chn as (xs ++ [y]) ∧ Chn bs (y :: ys)
  | [], bs, [], y, ys, _, h => ⟨trivial, h⟩
  | [], bs, _ :: _, y, ys, e, _ => by simp at e
  | l :: as, bs, [], y, ys, e, _ => by simp at e
  | l :: as, bs, [x], y, ys, e, h => by
    obtain ⟨a, b⟩ := chn_split (as := as) (xs := []) (by simp at e ⊢; simp [e]) h.2
    exact ⟨⟨h.1, a⟩, b⟩
  | l :: as, bs, x :: x' :: xs, y, ys, e, h => by
    obtain ⟨a, b⟩ := chn_split (as := as) (xs := x' :: xs) (by simpa using e) h.2
    exact ⟨⟨h.1, a⟩, b⟩
/-- standings, as lists of places -/
def Cyc (ls : List Lk) (ps : List Pt) : Prop := ps.length = ls.length ∧ Chn ls (ps ++ ps.take 1)
theorem cyc_rot {ls : List Lk} {ps : List Pt} {k : Nat} (hk : k < ls.length) (h : Cyc (ls.drop k ++ ls.take k) ps) : Cyc ls (ps.drop (ls.length - k) ++ ps.take (ls.length - k)) := by
  obtain ⟨hl, hc⟩ := h
  rw [List.length_append, List.length_drop, List.length_take] at hl
  have e0 : ps = ps.take (ls.length - k) ++ ps.drop (ls.length - k) := (List.take_append_drop _ _).symm
  refine ⟨by rw [List.length_append, List.length_drop, List.length_take]; omega, ?_⟩
  have el : ls = ls.take k ++ ls.drop k := (List.take_append_drop _ _).symm
  cases hx : ps.take (ls.length - k) with
  | nil =>
    have := congrArg List.length hx
    rw [List.length_take, List.length_nil] at this
    omega
  | cons a as =>
    have ha : ps.take 1 = [a] := by
      rw [e0, hx]
      rfl
    rw [ha] at hc
    cases hy : ps.drop (ls.length - k) with
    | nil =>
      have := congrArg List.length hy
      rw [List.length_drop, List.length_nil] at this
      have k0 : k = 0 := by omega
      subst k0
      rw [e0, hx, hy] at hc
      simpa using hc
    | cons b bs =>
      rw [e0, hx, hy, List.append_assoc] at hc
      obtain ⟨c1, c2⟩ := chn_split (as := ls.drop k) (bs := ls.take k) (xs := a :: as) (y := b) (ys := bs ++ [a]) (by
        have := congrArg List.length hx
        rw [List.length_take] at this
        rw [← this, List.length_drop]
        omega) hc
      have c3 := chn_app (as := ls.take k) (bs := ls.drop k) (xs := b :: bs) (y := a) (ys := as ++ [b]) c2 c1
      rw [List.take_append_drop] at c3
      simpa using c3
/-- what a change does to a place -/
def actA (c : Chg) (p : Pt) : Int := c.p * p.1 + c.q * p.2
def actB (c : Chg) (p : Pt) : Int := c.r * p.1 + c.s * p.2
theorem run_fold : ∀ {ls : List Lk} {f : Chg} {p h q : Pt} {n : Nat} {c : Int}, (∀ l ∈ ls, GL l) → GP n h → c ≠ 0 → actA f p = c * h.1 → actB f p = c * h.2 → runF ls h = some q → ∃ k : Int, k ≠ 0 ∧ actA (foldC f ls) p = k * q.1 ∧ actB (foldC f ls) p = k * q.2 ∧ GP (n + 19 * ls.length) q
  | [], f, p, h, q, n, c, _, gh, hc, e1, e2, hr => by
    simp only [runF, Option.some.injEq] at hr
    subst hr
    exact ⟨c, hc, by simpa [foldC] using e1, by simpa [foldC] using e2, gh⟩
  | l :: ls, f, p, h, q, n, c, g, gh, hc, e1, e2, hr => by
    have gl := g l (by simp)
    by_cases hz : exZ l h
    · simp [runF, hz] at hr
    simp only [runF, if_neg hz] at hr
    obtain ⟨_, gq, _, k, hk, x1, x2⟩ := ex_is gl gh hz
    have a1 : actA (mulC (passC l) f) p = (c * k) * (exP l h).1 := by
      have : actA (mulC (passC l) f) p = (passC l).p * actA f p + (passC l).q * actB f p := by unfold actA actB mulC; dsimp only; grind
      rw [this, e1, e2]
      unfold exA at x1
      grind
    have a2 : actB (mulC (passC l) f) p = (c * k) * (exP l h).2 := by
      have : actB (mulC (passC l) f) p = (passC l).r * actA f p + (passC l).s * actB f p := by unfold actA actB mulC; dsimp only; grind
      rw [this, e1, e2]
      unfold exB at x2
      grind
    obtain ⟨k', b1, b2, b3, b4⟩ := run_fold (ls := ls) (f := mulC (passC l) f) (fun x hx => g x (List.mem_cons_of_mem _ hx)) gq (Int.mul_ne_zero hc hk) a1 a2 hr
    exact ⟨k', b1, b2, b3, b4.mono (by rw [List.length_cons]; omega)⟩
/-- a place that the round keeps is reached -/
theorem reach_of {ls : List Lk} {p : Pt} {n : Nat} (g : ∀ l ∈ ls, GL l) (gp : GP n p) (h : actA (foldC (scC 1) ls) p * p.2 - actB (foldC (scC 1) ls) p * p.1 = 0) : reachB ls p = true := by
  unfold reachB
  cases hr : runF ls p with
  | none => rfl
  | some q =>
    obtain ⟨k, hk, e1, e2, gq⟩ := run_fold (f := scC 1) (p := p) (c := 1) g gp (by decide) (by simp [actA, scC]) (by simp [actB, scC]) hr
    rw [e1, e2] at h
    have : k * (q.1 * p.2 - q.2 * p.1) = 0 := by grind
    have h2 := (Int.mul_eq_zero.mp this).resolve_left hk
    exact decide_eq_true (gp_eq gq gp h2)
def zeF (c : Chg) : Bool := decide (c.r = 0 ∧ c.s - c.p = 0 ∧ -c.q = 0)
theorem act_cross (c : Chg) (p : Pt) : actA c p * p.2 - actB c p * p.1 = -(c.r * (p.1 * p.1) + (c.s - c.p) * (p.1 * p.2) + -c.q * (p.2 * p.2)) := by
  unfold actA actB
  grind
theorem reach_free {ls : List Lk} {k : Nat} {p : Pt} {n : Nat} (g : ∀ l ∈ ls, GL l) (gp : GP n p) (h : zeF (roundC ls k) = true) : reachB (ls.drop k ++ ls.take k) p = true := by
  refine reach_of (fun l hl => ?_) gp ?_
  · rcases List.mem_append.mp hl with hl | hl
    · exact g l (List.mem_of_mem_drop hl)
    · exact g l (List.mem_of_mem_take hl)
  · rw [act_cross]
    unfold roundC at h
    generalize foldC (scC 1) (ls.drop k ++ ls.take k) = c at *
    unfold zeF at h
    obtain ⟨h1, h2, h3⟩ := of_decide_eq_true h
    rw [h1, h2, h3]
    simp
theorem reach_zero {ls : List Lk} {p : Pt} {n : Nat} (g : ∀ l ∈ ls, GL l) (gp : GP n p) (h : (roundC ls 0).r * (p.1 * p.1) + ((roundC ls 0).s - (roundC ls 0).p) * (p.1 * p.2) + -(roundC ls 0).q * (p.2 * p.2) = 0) : reachB ls p = true := by
  have e : ls.drop 0 ++ ls.take 0 = ls := by simp
  have := reach_of (ls := ls) g gp (by
    rw [act_cross]
    unfold roundC at h
    rw [e] at h
    rw [h]
    rfl)
  exact this
def StB (n : Nat) (ls : List Lk) (ps : List Pt) : Prop := Cyc ls ps ∧ ∀ p ∈ ps, GP n p
/-! ### promises -/
def S_exit_place : SD := fun ds P _ => ∃ (l : Lk) (p : Pt), ds = [lnk l, plc p] ∧ GL l ∧ GP 500 p ∧ (exZ l p → P .non) ∧ (¬ exZ l p → P (plc (exP l p)))
def S_entry_place : SD := fun ds P _ => ∃ (l : Lk) (p : Pt) (n : Nat), ds = [lnk l, plc p] ∧ GL l ∧ GP n p ∧ n ≤ 500 ∧ (enZ l p → P .non) ∧ (¬ enZ l p → ∀ q : Pt, GP (n + 19) q → met l q p = 0 → P (plc q))
def S_is_met : SD := fun ds P _ => ∃ (l : Lk) (p q : Pt), ds = [lnk l, plc p, plc q] ∧ GL l ∧ GP 500 p ∧ GP 500 q ∧ P (.bl (met l p q == 0))
def S_row_forward : SD := fun ds P _ => ∃ (ls : List Lk) (p : Pt) (n : Nat), ds = [.tup (rngL ls), plc p] ∧ ls.length ≤ 8 ∧ (∀ l ∈ ls, GL l) ∧ GP n p ∧ n ≤ 200 ∧ ∀ qs : List Pt, Chn ls (p :: qs) → (∀ q ∈ qs, GP (n + 160) q) → P (.lst (prs qs))
def S_row_between : SD := fun ds P _ => ∃ (ls : List Lk) (p : Pt) (n : Nat), ds = [.tup (rngL ls), plc p] ∧ ls.length ≤ 8 ∧ (∀ l ∈ ls, GL l) ∧ GP n p ∧ n ≤ 200 ∧ ∀ qs : List Pt, Chn ls (qs ++ [p]) → (∀ q ∈ qs, GP (n + 160) q) → P (.lst (prs qs))
def S_standing_from : SD := fun ds P _ => ∃ (ls : List Lk) (p : Pt) (n : Nat), ds = [.tup (rngL ls), plc p] ∧ 1 ≤ ls.length ∧ ls.length ≤ 8 ∧ (∀ l ∈ ls, GL l) ∧ GP n p ∧ n ≤ 200 ∧ (reachB ls p = false → P .non) ∧ (reachB ls p = true → ∀ qs : List Pt, StB (n + 160) ls (p :: qs) → P (.tup (prs (p :: qs))))
def S_standing_at : SD := fun ds P _ => ∃ (ls : List Lk) (k : Nat) (p : Pt) (n : Nat), ds = [.tup (rngL ls), .int k, plc p] ∧ k < ls.length ∧ ls.length ≤ 8 ∧ (∀ l ∈ ls, GL l) ∧ GP n p ∧ n ≤ 200 ∧ (reachB (ls.drop k ++ ls.take k) p = false → P .non) ∧ (reachB (ls.drop k ++ ls.take k) p = true → ∀ qs : List Pt, StB (n + 160) ls qs → qs[k]? = some p → P (.tup (prs qs)))
def S_standing_with : SD := S_standing_at
def S_free_seam : SD := fun ds P _ => ∃ ls : List Lk, ds = [.tup (rngL ls)] ∧ ls.length ≤ 8 ∧ (∀ l ∈ ls, GL l) ∧ ((∀ k < ls.length, zeF (roundC ls k) = false) → P .non) ∧ ∀ k : Nat, k < ls.length → zeF (roundC ls k) = true → P (.int k)
def S_zeros_of : SD := fun ds P _ => ∃ (a b c r : Int), ds = [.tup [.int a, .int b, .int c], .int r] ∧ (Lt 152 a ∧ Lt 152 b ∧ Lt 152 c ∧ Lt 160 r) ∧ ¬ (a = 0 ∧ b = 0 ∧ c = 0) ∧ r * r = b * b - 4 * a * c ∧
  ∀ ps : List Pt, ps ≠ [] → ps.length ≤ 2 → (∀ p ∈ ps, GP 170 p ∧ a * (p.1 * p.1) + b * (p.1 * p.2) + c * (p.2 * p.2) = 0) → P (.lst (prs ps))
def S_judge_ring : SD := fun ds P _ => ∃ ls : List Lk, ds = [.tup (rngL ls)] ∧ 1 ≤ ls.length ∧ ls.length ≤ 8 ∧ (∀ l ∈ ls, GL l) ∧ (∀ r : Int, P (.tup [.str (.ofString "none"), .int r])) ∧
  ∀ (w : String) (sts : List (List Pt)), w = "many" ∨ w = "standings" → sts ≠ [] → sts.length ≤ 3 → (∀ s ∈ sts, StB 360 ls s) → P (.tup [.str (.ofString w), .tup (sts.map fun s => .tup (prs s))])
/-! ### edge forms -/
def setL (ls : List Lk) (k : Nat) (x y : Int) : List Lk := ls.take k ++ ⟨(ls.getD k ⟨[], 0, 0⟩).ns, x, y⟩ :: ls.drop (k + 1)
def edN (ls : List Lk) (k : Nat) (x y : Int) : Int := numC (roundC (setL ls k x y) 0)
def edgD (ls : List Lk) (k : Nat) : D := .tup [.int (edN ls k 1 0), .int (edN ls k 1 1 - edN ls k 1 0 - edN ls k 0 1), .int (edN ls k 0 1)]
def S_edge_form : SD := fun ds P _ => ∃ (ls : List Lk) (k : Nat), ds = [.tup (rngL ls), .int k] ∧ k < ls.length ∧ ls.length ≤ 8 ∧ (∀ l ∈ ls, GL l) ∧ P (edgD ls k)
theorem gl_set {ls : List Lk} {k : Nat} {x y : Int} (hk : k < ls.length) (g : ∀ l ∈ ls, GL l) (gp : GP 8 (x, y)) : ∀ l ∈ setL ls k x y, GL l := fun l hl => by
  unfold setL at hl
  rcases List.mem_append.mp hl with hl | hl
  · exact g l (List.mem_of_mem_take hl)
  · rcases List.mem_cons.mp hl with rfl | hl
    · have gk := g ls[k] (List.getElem_mem hk)
      rw [List.getD_eq_getElem?_getD, List.getElem?_eq_getElem hk]
      exact ⟨gk.ln, gk.re, gk.hb, gp.ip, gp.lx, gp.ly⟩
    · exact g l (List.mem_of_mem_drop hl)
theorem len_set {ls : List Lk} {k : Nat} {x y : Int} (hk : k < ls.length) : (setL ls k x y).length = ls.length := by
  unfold setL
  rw [List.length_append, List.length_cons, List.length_take, List.length_drop]
  omega
theorem set_set {ls : List Lk} {k : Nat} {x y u v : Int} (hk : k < ls.length) : setL (setL ls k x y) k u v = setL ls k u v := by
  have lt : (ls.take k).length = k := by rw [List.length_take]; omega
  unfold setL
  rw [List.take_append_of_le_length (by omega), List.take_of_length_le (by omega), List.drop_append, lt]
  have e1 : (ls.take k).drop (k + 1) = [] := List.drop_of_length_le (by omega)
  have e2 : k + 1 - k = 1 := by omega
  rw [e1, e2]
  simp only [List.nil_append, List.drop_succ_cons, List.drop_zero]
  congr 3
  rw [List.getD_eq_getElem?_getD, List.getElem?_append_right (by omega), lt, Nat.sub_self]
  rfl
def addC (a b : Int) (c d : Chg) : Chg := ⟨a * c.p + b * d.p, a * c.q + b * d.q, a * c.r + b * d.r, a * c.s + b * d.s⟩
theorem mul_add_l (a b : Int) (c d e : Chg) : mulC (addC a b c d) e = addC a b (mulC c e) (mulC d e) := by
  unfold mulC addC
  simp only [Chg.mk.injEq]
  refine ⟨?_, ?_, ?_, ?_⟩ <;> grind
theorem mul_add_r (a b : Int) (c d e : Chg) : mulC e (addC a b c d) = addC a b (mulC e c) (mulC e d) := by
  unfold mulC addC
  simp only [Chg.mk.injEq]
  refine ⟨?_, ?_, ?_, ?_⟩ <;> grind
theorem fold_add : ∀ (ls : List Lk) (a b : Int) (c d : Chg), foldC (addC a b c d) ls = addC a b (foldC c ls) (foldC d ls)
  | [], _, _, _, _ => rfl
  | l :: ls, a, b, c, d => by
    show foldC (mulC (passC l) (addC a b c d)) ls = addC a b (foldC (mulC (passC l) c) ls) (foldC (mulC (passC l) d) ls)
    rw [mul_add_r]
    exact fold_add ls a b _ _
theorem pass_add (ns : List Int) (x y : Int) : passC ⟨ns, x, y⟩ = addC x y (passC ⟨ns, 1, 0⟩) (passC ⟨ns, 0, 1⟩) := by
  unfold passC addC itL
  simp only [Chg.mk.injEq]
  refine ⟨?_, ?_, ?_, ?_⟩ <;> grind
theorem round_set (ls : List Lk) (k : Nat) (x y : Int) : roundC (setL ls k x y) 0 = addC x y (roundC (setL ls k 1 0) 0) (roundC (setL ls k 0 1) 0) := by
  unfold roundC setL
  simp only [List.drop_zero, List.take_zero, List.append_nil]
  have sp : ∀ (f : Chg) (as : List Lk) (l : Lk) (bs : List Lk), foldC f (as ++ l :: bs) = foldC (mulC (passC l) (foldC f as)) bs := fun f as l bs => by
    unfold foldC
    rw [List.foldl_append]
    rfl
  rw [sp, sp, sp, pass_add, mul_add_l, fold_add]
theorem edge_val (ls : List Lk) (k : Nat) (x y : Int) : edN ls k x y = edN ls k 1 0 * x * x + (edN ls k 1 1 - edN ls k 1 0 - edN ls k 0 1) * x * y + edN ls k 0 1 * y * y := by
  unfold edN
  rw [round_set ls k x y, round_set ls k 1 1]
  generalize roundC (setL ls k 1 0) 0 = c
  generalize roundC (setL ls k 0 1) 0 = d
  unfold numC addC
  grind
end DL
namespace DL
open PySem PySem.Spec L2
/-! ### x[:0:-1] -/
section
variable {prog : Program} {w : World} {A : Around} {E : Value → Shared → Prop} {s : Shared}
theorem back0_applied {sl : Addr} {t t2 : Tok} {n : Nat} {Q : Int × Int × Nat → Shared → Prop} (hs : s.heap.IsSliceOf sl .none (.int 0 t2) (.int (-1) t)) (h : Q ((n : Int) - 1, -1, n - 1) s) :
    wpAny (model prog w) A (Builtin.Slice.sliceApplied (.ref sl) (pure (n : Int))) Q E s := by
  obtain ⟨o, h1, h2, h3⟩ := id hs
  unfold Builtin.Slice.sliceApplied Builtin.Slice.sliceFields
  refine wpAny_bind (wpAny_bind (wpAny_field h1 h3 (x := .none) rfl ?_))
  refine wpAny_bind (wpAny_field h1 h3 (x := .int 0 t2) rfl ?_)
  refine wpAny_bind (wpAny_field h1 h3 (x := .int (-1) t) rfl (wpAny_pure ?_))
  refine wpAny_bind (HT.slicePart_ (.int (-1) t) ?_)
  show wpAny _ _ (if ((-1 : Int) == 0) = true then _ else _) _ _ s
  rw [if_neg (by decide)]
  refine wpAny_bind (HT.slicePart_ .none (wpAny_bind (HT.slicePart_ (.int 0 t2) (wpAny_bind (wpAny_pure ?_)))))
  have e1 : Builtin.Slice.sliceAdjust none (some 0) (-1) (n : Int) = ((n : Int) - 1, min 0 ((n : Int) - 1)) := by
    unfold Builtin.Slice.sliceAdjust
    simp
  have e2 : Builtin.Slice.slicePlaces ((n : Int) - 1) (min 0 ((n : Int) - 1)) (-1) = n - 1 := by
    unfold Builtin.Slice.slicePlaces
    rw [if_neg (by decide)]
    split
    · rw [show (- -1 : Int) = 1 by decide, Int.ediv_one]
      omega
    · omega
  show wpAny _ _ (match Builtin.Slice.sliceAdjust none (some 0) (-1) (n : Int) with | (lo, hi) => pure (lo, (-1 : Int), Builtin.Slice.slicePlaces lo hi (-1))) _ _ s
  rw [e1]
  show wpAny _ _ (pure ((n : Int) - 1, (-1 : Int), Builtin.Slice.slicePlaces ((n : Int) - 1) (min 0 ((n : Int) - 1)) (-1))) _ _ s
  rw [e2]
  exact wpAny_pure h
theorem pick_take {α : Type} : ∀ (l : List α) (k : Nat), (List.range k).filterMap (fun m => l[m]?) = l.take k
  | l, 0 => by simp
  | l, k + 1 => by
    rw [List.range_succ, List.filterMap_append, pick_take l k, List.take_add_one]
    congr 1
theorem back0_range (xs : Array Value) (f : Nat → Nat) (hf : ∀ m, m < xs.size - 1 → f m = xs.size - 1 - m) : (List.range (xs.size - 1)).filterMap (fun m => xs[f m]?) = (xs.toList.drop 1).reverse := by
  have e : (List.range (xs.size - 1)).filterMap (fun (m : Nat) => xs[f m]?) = (List.range (xs.size - 1)).filterMap (fun m => xs.toList.reverse[m]?) := by
    apply fm_congr
    intro m hm
    have hm' : m < xs.size - 1 := List.mem_range.mp hm
    rw [hf m hm', List.getElem?_reverse (by simpa using by omega), Array.length_toList, Array.getElem?_toList]
  rw [e, pick_take, List.reverse_drop, Array.length_toList]
theorem back0_pick (xs : Array Value) : ((List.range (xs.size - 1)).filterMap fun (m : Nat) => xs[(((xs.size : Int) - 1) + (m : Int) * (-1)).toNat]?).toArray = (xs.toList.drop 1).reverse.toArray := by
  congr 1
  exact back0_range xs (fun m => (((xs.size : Int) - 1) + (m : Int) * (-1)).toNat) fun m hm => by omega
theorem krv0_pick (items : Array Value) : slicePick items none (some 0) (some (-1)) = (items.toList.drop 1).reverse.toArray := by
  unfold slicePick
  have hb : sliceBounds none (some 0) (some (-1)) items.size = ((items.size : Int) - 1, max (-1) (min 0 ((items.size : Int) - 1)), -1) := by
    simp [sliceBounds]
  rw [hb]
  dsimp only
  have hr : sliceRange ((items.size : Int) - 1) (max (-1) (min 0 ((items.size : Int) - 1))) (-1) = (List.range (items.size - 1)).map fun (k : Nat) => ((items.size : Int) - 1 + -1 * (k : Int)).toNat := by
    unfold sliceRange
    rw [if_neg (by decide)]
    have e : (if (items.size : Int) - 1 > max (-1) (min 0 ((items.size : Int) - 1)) then ((items.size : Int) - 1 - max (-1) (min 0 ((items.size : Int) - 1)) - -1 - 1) / (- -1) else 0).toNat = items.size - 1 := by
      rw [show (- -1 : Int) = 1 by decide, Int.ediv_one]
      split <;> omega
    dsimp only
    rw [e]
  rw [hr, List.filterMap_map]
  congr 1
  exact back0_range items (fun k => ((items.size : Int) - 1 + -1 * (k : Int)).toNat) fun m hm => by omega
theorem getItem_tuple_back0 {t sl : Addr} {items : Array Value} {u u2 : Tok} {Q : Value → Shared → Prop} (ht : PyProof.Rows.IsTup s.heap t items) (hs : s.heap.IsSliceOf sl .none (.int 0 u2) (.int (-1) u))
    (h : Q (.ref s.heap.objs.size) { s with heap := s.heap.push { cls := .type "tuple", data := .seq (items.toList.drop 1).reverse.toArray } }) (hsz : items.size ≤ sizeLine) : wpAny (model prog w) A (getItem (.ref t) (.ref sl)) Q E s := by
  have room : sizeOk (.seq (items.toList.drop 1).reverse.toArray) := by
    show (items.toList.drop 1).reverse.toArray.size ≤ sizeLine
    simp
    omega
  obtain ⟨os, hos, hcs, hds⟩ := id hs
  have ty : s.TypeIs (.ref sl) "slice" := ⟨os, hos, hcs⟩
  unfold getItem
  try with_reducible refine wpAny_holding ?_
  first | refine wpAny_bind (wpAny_pure ?_) | skip
  refine wpAny_bind (wpAny_sequenceKey ht.typeIs (by decide) ?_)
  refine wpAny_bind (wpAny_callSpecial?_slot (name := Str.ofString "__getitem__") ht.typeIs PyProof.Rows.slot_tuple_getitem ?_)
  refine wpAny_call_entry PyProof.Rows.slot_tuple_getitem ht.typeIs PyProof.Rows.entry_tuple_getitem ?_ (PyProof.Rows.args_tuple_getitem _ _)
  show wpAny _ _ (Builtin.Tuple.tupleItemsOf (.ref t) >>= _) _ _ s
  refine wpAny_bind (PyProof.Rows.tupleItemsOf_ ht ?_)
  refine wpAny_bind (wpAny_typeOf ty ?_)
  rw [if_pos (by decide)]
  refine wpAny_bind (back0_applied hs ?_)
  show wpAny _ _ (if (((items.size : Int) - 1) == 0 && (-1 : Int) == 1 && items.size - 1 == items.size) = true then _ else _) _ _ s
  rw [if_neg (by simp), back0_pick]
  first
    | exact wpAny_bind (m := Builtin.Tuple.tupleExact _) (wpAny_newObj_type (wpAny_pure ⟨_, rfl, wpAny_pure h⟩) room)
    | exact wpAny_bind (m := Builtin.Tuple.tupleExact _) (wpAny_newObj_type (wpAny_bind (wpAny_pure (wpAny_pure ⟨_, rfl, wpAny_pure h⟩))) room)
    | exact wpAny_bind (wpAny_bind (m := Builtin.Tuple.tupleExact _) (wpAny_newObj_type (wpAny_pure (wpAny_pure ⟨_, rfl, wpAny_pure h⟩)) room))
end
def dRev0 (f : DE) : DE := fun env Q => f env fun d env1 => match d with
  | .tup l => Q (.tup (l.drop 1).reverse) env1
  | .lst l => Q (.lst (l.drop 1).reverse) env1
  | _ => False
@[simp ↓] theorem e_Rev0 {env : Evn} {Q : D → Evn → Prop} {f : DE} : dRev0 f env Q = f env fun d env1 => match d with | .tup l => Q (.tup (l.drop 1).reverse) env1 | .lst l => Q (.lst (l.drop 1).reverse) env1 | _ => False := rfl
theorem vals_drop1 {xs : List V} {us : List Value} (h : Vals xs us) : Vals (xs.drop 1) (us.drop 1) := by
  cases h with
  | nil => exact .nil
  | cons _ t => exact t
section
variable {wx : DX} {WW : WX} {ZZ : Fz} {X : Cx} {a : Expr} {f : DE}
theorem dl_rev0 {k0 kk : Nat} {p0 pa pb pc pos : Pos} (h : PE X a (lift (X.kx wx WW ZZ) f)) : PE X (.Subscript a (.Slice none (some (.Constant (.int 0) k0 p0)) (some (.UnaryOp .USub (.Constant (.int 1) kk pa) pb)) pc) pos) (lift (X.kx wx WW ZZ) (dRev0 f)) := by
  refine ⟨fun pins s σ H Q I ⟨e, env, oa, F, k, P, R, p, q⟩ => ?_⟩
  refine PyProof.Rows.Subscript_ (thn (h.run pins s σ H (fun v H1 => ∃ env1 oa1 F1 k1 d, dRev0 (fun _ Q => Q d env1) env1 P ∧ Rel (X.kx wx WW ZZ) e env1 oa1 σ F1 H1 k1 ∧ Grow F F1 k k1 ∧ At X.K F1 k1 d v) I ⟨e, env, oa, F, k, _, R, p, fun d env1 v oa1 F1 H1 k1 p1 R1 g1 a1 => ⟨env1, oa1, F1, k1, d, p1, R1, g1, a1⟩⟩) ?_)
  rintro v s1 ⟨x, H1, I1, r1, env1, oa1, F1, k1, d, p1, R1, g1, a1⟩
  have hst : PO X (some (.UnaryOp .USub (.Constant (.int 1) kk pa) pb)) (tPart (tUn (rU fun i => .int (-i)) (tC (.int 1)))) := po_some (pe_un un_neg pe_int)
  have hup : PO X (some (.Constant (.int 0) k0 p0)) (tPart (tC (.int 0))) := po_some pe_int
  refine PySem.wpAny_Slice (thn (po_none.run pins s1 σ H1 (fun o H2 => o = none ∧ H2 = H1) I1 ⟨rfl, rfl⟩) ?_)
  rintro vl s2 ⟨l, H2, I2, pl, rfl, rfl⟩
  refine thn (hup.run pins s2 σ H2 (fun o H3 => o = some 0 ∧ H3 = H2) I2 ⟨0, rfl, rfl, rfl⟩) ?_
  rintro vu s3 ⟨u, H3, I3, pu, rfl, rfl⟩
  refine thn (hst.run pins s3 σ H3 (fun o H4 => o = some (-1) ∧ H4 = H3) I3 ⟨1, rfl, -1, rfl, rfl, rfl⟩) ?_
  rintro vs s4 ⟨o, H4, I4, ps, rfl, rfl⟩
  have I5 : L2.Inv X pins σ H4 { s4 with heap := s4.heap.push { cls := .type "slice", data := .fields #[vl, vu, vs] } } := I4.kept (t' := s4.toks) fun b ob q => Heap.get?_push_of_some _ q
  have fresh := I5.hok.fresh (Nat.le_refl _)
  cases pl
  cases d with
  | lst l =>
    simp only [At] at a1
    obtain ⟨ad, xs, rfl, h1, h2⟩ := a1
    cases r1
    obtain ⟨its, rv, ht, hz⟩ := I5.list (SqL.of (R1.wd.sub _ _ h1))
    show wpAny (model X.prog X.w) X.A (PyProof.Rows.subscriptTail _ _ (.ref ad) (.ref s4.heap.objs.size)) _ _ _
    refine PyProof.Rows.tail_any (ops := [.ref ad, .ref s4.heap.objs.size]) ht.isList.typeIs (PySem.slot_list_getitem.lookup) ?_ (by with_unfolding_all rfl)
    refine PySem.wpAny_getItem_list_slice ht.isList (Heap.IsSliceOf.new _ _ _ _) .none pu ps (by decide) ?_ (by rw [List.size_toArray, ← rv.length]; exact hz)
    rw [krv0_pick]
    obtain ⟨R2, g2⟩ := R1.laid fresh (.lst (xs.drop 1).reverse)
    refine ⟨.ref _, _, I5.laid (t' := s4.toks) (o := .lst (xs.drop 1).reverse) (fun b ob q => Heap.get?_push_of_some _ q) (Nat.le_refl _) ⟨by rw [List.length_reverse, List.length_drop]; omega, _, 0, (vals_drop1 rv).reverse, Heap.get?_push_size _ rfl⟩, rfl, q _ env1 _ oa1 _ _ k1 p1 R2 (g1.trans g2) ?_⟩
    simp only [At]
    exact ⟨_, _, rfl, upd_same, ((Ats.grow g2 _ _ h2).drop 1).rev⟩
  | tup l =>
    simp only [At] at a1
    obtain ⟨ad, xs, rfl, h1, h2⟩ := a1
    cases r1
    obtain ⟨its, rv, ht, hz⟩ := I5.tuple (sqT_grow R1.wd.sub h1)
    cases ps with
    | int _ t =>
      cases pu with
      | int _ t2 =>
        show wpAny (model X.prog X.w) X.A (PyProof.Rows.subscriptTail _ _ (.ref ad) (.ref s4.heap.objs.size)) _ _ _
        refine PyProof.Rows.tail_any (ops := [.ref ad, .ref s4.heap.objs.size]) ht.typeIs (PyProof.Rows.slot_tuple_getitem.lookup) ?_ (by with_unfolding_all rfl)
        refine getItem_tuple_back0 ht (Heap.IsSliceOf.new _ _ _ _) ?_ (by rw [List.size_toArray, ← rv.length]; exact hz)
        obtain ⟨R2, g2⟩ := R1.laid fresh (.tup (xs.drop 1).reverse)
        refine ⟨.ref _, _, I5.laid (t' := s4.toks) (o := .tup (xs.drop 1).reverse) (fun b ob q => Heap.get?_push_of_some _ q) (Nat.le_refl _) ⟨by rw [List.length_reverse, List.length_drop]; omega, _, (vals_drop1 rv).reverse, PyProof.Rows.IsTup.new _ _⟩, rfl, q _ env1 _ oa1 _ _ k1 p1 R2 (g1.trans g2) ?_⟩
        simp only [At]
        exact ⟨_, _, rfl, SqT.of upd_same, ((Ats.grow g2 _ _ h2).drop 1).rev⟩
  | _ => exact p1.elim
end
end DL
namespace DL
open PySem PySem.Spec L2
/-! ### what the readings of rings share -/
section
variable {Q : D → Prop} {PX : Ex → Prop}
theorem cm400 {a b : Int} {m n : Nat} (ha : Lt m a) (hb : Lt n b) (h : m + n ≤ 4000) : CMulW a b := @Lt.cm _ _ _ _ ha hb (by omega)
theorem lnk_ix {ls : List Lk} {i : Nat} (h : i < ls.length) : ixD (rngL ls) (i : Int) = some (lnk ls[i]) := by
  unfold ixD rngL
  rw [if_pos (by omega), Int.toNat_natCast, List.getElem?_map, List.getElem?_eq_getElem h]
  rfl
theorem cut_rng_drop {ls : List Lk} (k : Nat) : cutD (rngL ls) (some (k : Int)) none = rngL (ls.drop k) := by rw [cut_drop, rngL, rngL, List.map_drop]
theorem cut_rng_take {ls : List Lk} (k : Nat) : cutD (rngL ls) none (some (k : Int)) = rngL (ls.take k) := by rw [cut_take, rngL, rngL, List.map_take]
theorem cut_last (l : List D) (d : D) : cutD (l ++ [d]) none (some (-1)) = l := by
  unfold cutD
  have e : HT.sIx (l.length + 1) (l.length + 1) (some (-1)) = l.length := by
    unfold HT.sIx
    simp
    omega
  simp [HT.sIx_none, e]
theorem eqv_plc (p q : Pt) : eqv (plc p) (plc q) = decide (p = q) := by
  rw [Bool.eq_iff_iff]
  simp [plc, Prod.ext_iff]
theorem ok_plc (p : Pt) : eqOk (plc p) := flat_two
theorem prs_cons (p : Pt) (qs : List Pt) : prs (p :: qs) = plc p :: prs qs := rfl
theorem pl_zero {a b c x y : Int} (hx : ¬ (x = 0 ∧ y = 0)) {n : Nat} (lx : Lt n x) (ly : Lt n y) (h : a * (x * x) + b * (x * y) + c * (y * y) = 0) :
    ∃ p : Pt, plV x y = plc p ∧ GP (n + 1) p ∧ a * (p.1 * p.1) + b * (p.1 * p.2) + c * (p.2 * p.2) = 0 := by
  obtain ⟨p, e, gp, k, hk, e1, e2⟩ := plc_is hx lx ly
  refine ⟨p, e, gp, ?_⟩
  rw [e1, e2] at h
  have : (k * k) * (a * (p.1 * p.1) + b * (p.1 * p.2) + c * (p.2 * p.2)) = 0 := by grind
  exact (Int.mul_eq_zero.mp this).resolve_left (Int.mul_ne_zero hk hk)
def stD (s : List Pt) : D := .tup (prs s)
def StP (n : Nat) (ls : List Lk) (d : D) : Prop := ∃ s : List Pt, d = stD s ∧ StB n ls s
theorem sts_of {n : Nat} {ls : List Lk} : ∀ {l : List D}, (∀ d ∈ l, StP n ls d) → ∃ sts : List (List Pt), l = sts.map stD ∧ ∀ s ∈ sts, StB n ls s
  | [], _ => ⟨[], rfl, by simp⟩
  | d :: l, h => by
    obtain ⟨s, rfl, hs⟩ := h d (by simp)
    obtain ⟨sts, rfl, hh⟩ := sts_of (l := l) fun e he => h e (List.mem_cons_of_mem _ he)
    refine ⟨s :: sts, rfl, fun x hx => ?_⟩
    rcases List.mem_cons.mp hx with rfl | hx
    · exact hs
    · exact hh x hx
theorem plain_prs : ∀ s : List Pt, plainDs (prs s) = true
  | [] => rfl
  | p :: s => by
    show (plainD (plc p) && plainDs (prs s)) = true
    rw [plain_prs s]
    rfl
theorem plain_sts : ∀ sts : List (List Pt), plainDs (sts.map stD) = true
  | [] => rfl
  | s :: sts => by
    show (plainDs (prs s) && plainDs (sts.map stD)) = true
    rw [plain_prs, plain_sts sts]
    rfl
theorem alike_plc (p q : Pt) : PySem.W.alike (py (plc p)) (py (plc q)) = true := by simp [plc, py, pys, PySem.W.alike, PySem.W.alikeAll]
theorem alike_prs : ∀ s t : List Pt, PySem.W.alikeAll (pys (prs s)) (pys (prs t)) = true
  | [], t => by simp [pys, PySem.W.alikeAll]
  | p :: s, [] => by simp [pys, PySem.W.alikeAll]
  | p :: s, q :: t => by
    show PySem.W.alikeAll (py (plc p) :: pys (prs s)) (py (plc q) :: pys (prs t)) = true
    rw [PySem.W.alikeAll, alike_plc, alike_prs s t]
    rfl
theorem depth_prs : ∀ s : List Pt, PyData.depthAll (pys (prs s)) ≤ 10
  | [] => by simp [pys, PyData.depthAll]
  | p :: s => by
    show PyData.depthAll (py (plc p) :: pys (prs s)) ≤ 10
    have := depth_prs s
    simp [plc, py, pys, PyData.depthAll, PyData.depth]
    omega
theorem sort_sts {n : Nat} {ls : List Lk} {sts : List (List Pt)} (h1 : 1 ≤ ls.length) (h : ∀ s ∈ sts, StB n ls s) : SortOk (sts.map stD) where
  pl := plain_sts sts
  al := by
    intro d hd d' hd'
    rw [List.map_map] at hd hd'
    obtain ⟨s, _, rfl⟩ := List.mem_map.mp hd
    obtain ⟨t, _, rfl⟩ := List.mem_map.mp hd'
    show PySem.W.alike (.tuple (pys (prs s))) (.tuple (pys (prs t))) = true
    rw [PySem.W.alike]
    exact alike_prs s t
  so := .inl fun d hd => by
    rw [List.map_map] at hd
    obtain ⟨s, hs, rfl⟩ := List.mem_map.mp hd
    cases s with
    | nil =>
      have := (h _ hs).1.1
      simp at this
      omega
    | cons p s => exact ⟨_, _, rfl⟩
  dp := fun d hd => by
    obtain ⟨s, _, rfl⟩ := List.mem_map.mp hd
    show (PyData.tuple (pys (prs s))).depth ≤ 40
    have := depth_prs s
    simp [PyData.depth]
    omega
theorem num_lt {ls : List Lk} {k : Nat} (h8 : ls.length ≤ 8) (g : ∀ l ∈ ls, GL l) : Lt 304 (numC (roundC ls k)) := by
  obtain ⟨hp, hq, hr, hs⟩ := round_lt (k := k) h8 g
  unfold numC
  generalize roundC ls k = c at *
  have d : Lt 151 (c.s - c.p) := (@Lt.sub _ _ _ _ hs hp).mono (by decide)
  have f : Lt 3 4 := .of (by decide)
  have a : Lt 302 ((c.s - c.p) * (c.s - c.p)) := (@Lt.mul _ _ _ _ d d).mono (by decide)
  have b : Lt 303 (4 * c.q * c.r) := (@Lt.mul _ _ _ _ (@Lt.mul _ _ _ _ f hq) hr).mono (by decide)
  exact (@Lt.add _ _ _ _ a b).mono (by decide)
theorem root_lt {n r : Int} {k : Nat} (h : Lt (2 * k) n) (e : r * r = n) : Lt k r := by
  refine ⟨?_⟩
  false_or_by_contra
  rename_i hn
  have h1 : 2 ^ k ≤ r.natAbs := by omega
  have h2 := h.h
  rw [← e, Int.natAbs_mul, Nat.two_mul, Nat.pow_add] at h2
  have := Nat.mul_le_mul h1 h1
  omega
theorem told {w : String} {ls : List Lk} {sts : List (List Pt)} (h1 : 1 ≤ ls.length) (hw : w = "many" ∨ w = "standings") (hn : sts ≠ []) (hl : sts.length ≤ 3) (h : ∀ s ∈ sts, StB 360 ls s)
    (q : ∀ (w : String) (sts : List (List Pt)), w = "many" ∨ w = "standings" → sts ≠ [] → sts.length ≤ 3 → (∀ s ∈ sts, StB 360 ls s) → Q (.tup [.str (.ofString w), .tup (sts.map fun s => .tup (prs s))])) :
    cSortD [.lst (sts.map stD)] fun d => match d with | .lst l => Q (.tup [.str (.ofString w), .tup l]) | _ => False := by
  refine ⟨_, rfl, sort_sts h1 h, ?_⟩
  have pm : ((sts.map stD).mergeSort leD).Perm (sts.map stD) := List.mergeSort_perm _ _
  obtain ⟨out, e, ho⟩ := sts_of (n := 360) (ls := ls) (l := (sts.map stD).mergeSort leD) fun d hd => by
    obtain ⟨s, hs, rfl⟩ := List.mem_map.mp (pm.mem_iff.mp hd)
    exact ⟨s, rfl, h s hs⟩
  have len : out.length = sts.length := by
    have := pm.length_eq
    rw [e, List.length_map, List.length_map] at this
    exact this
  rw [e]
  exact q w out hw (by intro z; rw [z] at len; exact hn (List.length_eq_zero_iff.mp (by rw [← len]; rfl))) (by omega) ho
theorem set_rng {ls : List Lk} {k : Nat} {x y : Int} (hk : k < ls.length) : rngL (ls.take k) ++ .tup [.tup (ls[k].ns.map D.int), .tup [.int x, .int y]] :: rngL (ls.drop (k + 1)) = rngL (setL ls k x y) := by
  unfold setL rngL
  rw [List.getD_eq_getElem?_getD, List.getElem?_eq_getElem hk, List.map_append, List.map_cons]
  rfl
theorem gp_small {x y : Int} (hx : x = 0 ∨ x = 1) (hy : y = 0 ∨ y = 1) (h : ¬ (x = 0 ∧ y = 0)) : GP 8 (x, y) := by
  rcases hx with rfl | rfl <;> rcases hy with rfl | rfl
  · exact absurd ⟨rfl, rfl⟩ h
  · exact ⟨.inl ⟨by decide, by decide⟩, .of (by decide), .of (by decide)⟩
  · exact ⟨.inr ⟨rfl, rfl⟩, .of (by decide), .of (by decide)⟩
  · exact ⟨.inl ⟨by decide, by decide⟩, .of (by decide), .of (by decide)⟩
theorem zip3_chn : ∀ {ls : List Lk} {x : Pt} {qs : List Pt}, Chn ls (x :: qs) → ∀ d ∈ zip3D (rngL ls) (prs (x :: qs)) (prs qs), ∃ l ∈ ls, ∃ p ∈ x :: qs, ∃ r ∈ qs, d = .tup [lnk l, plc p, plc r] ∧ met l p r = 0
  | [], x, qs, _, d, hd => by simp [rngL] at hd
  | l :: ls, x, [], h, d, hd => by simp [rngL] at hd
  | l :: ls, x, q :: qs, h, d, hd => by
    rcases List.mem_cons.mp (show d ∈ .tup [lnk l, plc x, plc q] :: zip3D (rngL ls) (prs (q :: qs)) (prs qs) from hd) with rfl | hd
    · exact ⟨l, by simp, x, by simp, q, by simp, rfl, h.1⟩
    · obtain ⟨l', h1, p, h2, r, h3, e, hm⟩ := zip3_chn h.2 d hd
      exact ⟨l', by simp [h1], p, List.mem_cons_of_mem _ h2, r, List.mem_cons_of_mem _ h3, e, hm⟩
theorem zip3_take : ∀ (ls : List Lk) (xs : List Pt) (y : Pt) (zs : List Pt), xs.length = ls.length → zip3D (rngL ls) (prs (xs ++ [y])) (prs zs) = zip3D (rngL ls) (prs xs) (prs zs)
  | [], xs, y, zs, h => by simp [rngL]
  | l :: ls, [], y, zs, h => by simp at h
  | l :: ls, x :: xs, y, [], h => by simp
  | l :: ls, x :: xs, y, z :: zs, h => by
    have := zip3_take ls xs y zs (by simpa using h)
    simp only [rngL, List.map_cons, List.cons_append, zip3D_cons] at this ⊢
    rw [this]
theorem prs_at {ps : List Pt} {k : Nat} {p : Pt} (h : ps[k]? = some p) : ixD (prs ps) (k : Int) = some (plc p) := by
  have hlt : k < (prs ps).length := by rw [List.length_map]; exact (List.getElem?_eq_some_iff.mp h).1
  unfold ixD
  rw [if_pos (by omega), Int.toNat_natCast, List.getElem?_map, h]
  rfl
theorem plc_lt {a b : Int} {w : Nat} (h : ¬ (a = 0 ∧ b = 0)) (ha : a.natAbs < 2 ^ w) (hb : b.natAbs < 2 ^ w) : ∃ x y : Int, plV a b = .tup [.int x, .int y] ∧ IsP x y ∧ Lt (w + 1) x ∧ Lt (w + 1) y := by
  obtain ⟨q, e, gq, _⟩ := plc_is h ⟨ha⟩ ⟨hb⟩
  exact ⟨q.1, q.2, e, gq.ip, gq.lx, gq.ly⟩
theorem ed_lt {ls : List Lk} {k : Nat} {x y : Int} (hk : k < ls.length) (h8 : ls.length ≤ 8) (g : ∀ l ∈ ls, GL l) (gp : GP 8 (x, y)) : Lt 304 (edN ls k x y) :=
  num_lt (by rw [len_set hk]; exact h8) (gl_set hk g gp)
theorem edg_set {ls : List Lk} {k : Nat} {x y : Int} (hk : k < ls.length) : edgD (setL ls k x y) k = edgD ls k := by
  unfold edgD edN
  rw [set_set hk, set_set hk, set_set hk]
end
end DL
namespace DL
open PySem PySem.Spec L2
/-! ### rings begun elsewhere, turned round, changed: plain mathematics and promises -/
/-- a link whose cube's items may be greater -/
structure GB (b : Nat) (l : Lk) : Prop where
  ln : l.ns.length = 8
  re : relN l.ns = true
  hb : ∀ n ∈ l.ns, Lt b n
  ip : IsP l.x l.y
  lx : Lt 8 l.x
  ly : Lt 8 l.y
theorem GL.gb {l : Lk} (g : GL l) : GB 21 l := ⟨g.ln, g.re, fun n hn => (g.hb n hn).mono (by decide), g.ip, g.lx, g.ly⟩
instance {l : Lk} : CoeOut (GL l) (GB 21 l) := ⟨GL.gb⟩
theorem GB.bd {l : Lk} {b : Nat} (g : GB b l) (i : Nat) : Lt b (itL l i) := by
  unfold itL
  rw [List.getD_eq_getElem?_getD]
  cases e : l.ns[i]? with
  | none => exact ⟨Nat.two_pow_pos _⟩
  | some v => exact g.hb v (List.mem_of_getElem? e)
theorem gb_lk {l : Lk} {b : Nat} (g : GB b l) : lkD (lnk l) = true := by
  have r := (rel_of (n := 2) (ns := l.ns) g.ln (by decide) g.re).1
  simp only [lkD, lnk, r, pl_of g.ip, List.length_map, g.ln]
  rfl
theorem gb_fd {l : Lk} (g : GB 21 l) : FD 2 20 (lnk l) := by
  have a := fdi (n := 8) (FD.all g.hb (by decide)) (by rw [List.length_map, g.ln]; exact Nat.le_refl _)
  have b := fd2 (n := 8) (by decide) g.lx g.ly
  exact (FD.tup (k := 1) (m := 9) (n := 2) (by simp; exact ⟨a, b.mono (by decide) (by decide)⟩) (by simp)).mono (by decide) (by decide)
theorem gb_ring {ls : List Lk} (h8 : ls.length ≤ 8) (g : ∀ l ∈ ls, GB 21 l) : FD 3 200 (.tup (rngL ls)) := (FD.tup (k := 2) (m := 20) (n := 8) (fun d hd => by
  obtain ⟨l, hl, rfl⟩ := List.mem_map.mp hd
  exact gb_fd (g l hl)) (by simpa [rngL] using h8)).mono (by decide) (by decide)
theorem gb_rg {ls : List Lk} {b : Nat} (h1 : 1 ≤ ls.length) (h8 : ls.length ≤ 8) (g : ∀ l ∈ ls, GB b l) : rgD (.tup (rngL ls)) = true := by
  have a : (rngL ls).all lkD = true := List.all_eq_true.mpr fun d hd => by
    obtain ⟨l, hl, rfl⟩ := List.mem_map.mp hd
    exact gb_lk (g l hl)
  have e : (rngL ls).length = ls.length := List.length_map ..
  simp only [rgD, a, e, Bool.and_true, decide_eq_true_eq]
  exact ⟨h1, h8⟩
/-! #### turned round -/
def ixT : Nat → List Int
  | 0 => [0, 1, 2, 3, 4, 5, 6, 7]
  | 1 => [0, 1, 4, 5, 2, 3, 6, 7]
  | _ => [0, 4, 2, 6, 1, 5, 3, 7]
def trn (d : Nat) (ns : List Int) : List Int := (ixT d).map fun i => ns.getD i.toNat 0
def undL (l : Lk) : Lk := ⟨shN (trn 1 l.ns), l.x, l.y⟩
theorem fold_gcd {c : Nat} : ∀ (l : List Int) (x : Nat), c ∣ x → (∀ n ∈ l, (c : Int) ∣ n) → c ∣ l.foldl (fun w n => Nat.gcd w n.natAbs) x
  | [], x, h, _ => h
  | i :: l, x, h, hl => by
    rw [List.foldl_cons]
    exact fold_gcd l _ (Nat.dvd_gcd h (Int.ofNat_dvd_left.mp (hl i (by simp)))) fun n hn => hl n (List.mem_cons_of_mem _ hn)
theorem dvd_gcdL {ns : List Int} {c : Nat} (h : ∀ n ∈ ns, (c : Int) ∣ n) : c ∣ gcdL ns := fold_gcd ns 0 (Nat.dvd_zero c) h
theorem eight {ns : List Int} (h : ns.length = 8) : ∃ a0 a1 a2 a3 a4 a5 a6 a7, ns = [a0, a1, a2, a3, a4, a5, a6, a7] := by
  match ns, h with
  | [a0, a1, a2, a3, a4, a5, a6, a7], _ => exact ⟨a0, a1, a2, a3, a4, a5, a6, a7, rfl⟩
theorem trn_mem {ns : List Int} (h : ns.length = 8) (n : Int) : n ∈ trn 1 ns ↔ n ∈ ns := by
  obtain ⟨a0, a1, a2, a3, a4, a5, a6, a7, rfl⟩ := eight h
  simp [trn, ixT]
  grind
theorem sh_trn {ns : List Int} (hl : ns.length = 8) (hr : relN ns = true) : ∃ e : Int, e * e = 1 ∧ shN (trn 1 ns) = (trn 1 ns).map (· * e) := by
  obtain ⟨n, hn, hz⟩ := (rel_hex hr).1
  have g1 : gcdL (trn 1 ns) = 1 := by
    have h := dvd_gcdL (ns := ns) (c := gcdL (trn 1 ns)) fun m hm => gcdL_dvd ((trn_mem hl m).mpr hm)
    rw [(rel_gs hr).1] at h
    exact Nat.dvd_one.mp h
  refine ⟨sgL (trn 1 ns), ?_, ?_⟩
  · rcases sgL_is ((trn_mem hl n).mpr hn) hz with e | e <;> rw [e] <;> rfl
  · unfold shN
    rw [g1]
    apply List.map_congr_left
    intro m _
    simp
theorem trn_len {ns : List Int} : (trn 1 ns).length = 8 := rfl
theorem gl_und {l : Lk} (g : GL l) : GL (undL l) := by
  obtain ⟨e, he, hs⟩ := sh_trn g.ln g.re
  obtain ⟨n, hn, hz⟩ := (rel_hex g.re).1
  refine ⟨by show (shN _).length = 8; rw [sh_len, trn_len], sh_rel ⟨n, (trn_mem g.ln n).mpr hn, hz⟩, fun m hm => ?_, g.ip, g.lx, g.ly⟩
  have hm' : m ∈ shN (trn 1 l.ns) := hm
  rw [hs] at hm'
  obtain ⟨k, hk, rfl⟩ := List.mem_map.mp hm'
  have := g.hb k ((trn_mem g.ln k).mp hk)
  have e1 : e = 1 ∨ e = -1 := by
    have : (e - 1) * (e + 1) = 0 := by grind
    rcases Int.mul_eq_zero.mp this with h | h
    · exact .inl (by omega)
    · exact .inr (by omega)
  rcases e1 with rfl | rfl
  · simpa using this
  · exact ⟨by simpa using this.h⟩
theorem und_und {l : Lk} (g : GL l) : undL (undL l) = l := by
  obtain ⟨e, he, hs⟩ := sh_trn g.ln g.re
  have e0 : e ≠ 0 := fun h => by rw [h] at he; simp at he
  obtain ⟨hx, hsh⟩ := rel_hex g.re
  have key : shN (trn 1 (shN (trn 1 l.ns))) = l.ns := by
    rw [hs]
    obtain ⟨a0, a1, a2, a3, a4, a5, a6, a7, h8⟩ := eight g.ln
    have : trn 1 ((trn 1 l.ns).map (· * e)) = l.ns.map (· * e) := by rw [h8]; rfl
    rw [this, sh_mul e0 hx, hsh]
  show Lk.mk (shN (trn 1 (shN (trn 1 l.ns)))) l.x l.y = l
  rw [key]
def sclC (e : Int) (c : Chg) : Chg := ⟨e * c.p, e * c.q, e * c.r, e * c.s⟩
def trC (c : Chg) : Chg := ⟨-c.s, c.q, c.r, -c.p⟩
theorem pass_und {l : Lk} (g : GL l) : ∃ e : Int, e * e = 1 ∧ passC (undL l) = sclC e (trC (passC l)) := by
  obtain ⟨e, he, hs⟩ := sh_trn g.ln g.re
  refine ⟨e, he, ?_⟩
  obtain ⟨a0, a1, a2, a3, a4, a5, a6, a7, h8⟩ := eight g.ln
  unfold undL
  rw [hs]
  unfold passC itL sclC trC
  rw [h8]
  simp only [trn, ixT, List.map_cons, List.map_nil, Chg.mk.injEq]
  simp
  refine ⟨?_, ?_, ?_, ?_⟩ <;> grind
theorem met_und {l : Lk} (g : GL l) {p q : Pt} (h : met l p q = 0) : met (undL l) q p = 0 := by
  obtain ⟨e, he, hs⟩ := sh_trn g.ln g.re
  obtain ⟨a0, a1, a2, a3, a4, a5, a6, a7, h8⟩ := eight g.ln
  have : met (undL l) q p = e * met l p q := by
    unfold undL
    rw [hs]
    unfold met itL
    rw [h8]
    simp only [trn, ixT, List.map_cons, List.map_nil]
    simp
    grind
  rw [this, h, Int.mul_zero]
theorem fold_mul : ∀ (ls : List Lk) (f : Chg), foldC f ls = mulC (foldC (scC 1) ls) f
  | [], f => by cases f; simp [foldC, mulC, scC]
  | l :: ls, f => by
    show foldC (mulC (passC l) f) ls = mulC (foldC (mulC (passC l) (scC 1)) ls) f
    rw [fold_mul ls (mulC (passC l) f), fold_mul ls (mulC (passC l) (scC 1)), mul_one]
    unfold mulC
    simp only [Chg.mk.injEq]
    refine ⟨?_, ?_, ?_, ?_⟩ <;> grind
theorem fold_app (as bs : List Lk) (f : Chg) : foldC f (as ++ bs) = foldC (foldC f as) bs := by unfold foldC; rw [List.foldl_append]
theorem num_comm (a b : Chg) : numC (mulC a b) = numC (mulC b a) := by
  unfold numC mulC
  grind
theorem round_zero (ls : List Lk) : roundC ls 0 = foldC (scC 1) ls := by unfold roundC; simp
theorem num_begun (ls : List Lk) (k : Nat) : numC (roundC (ls.drop k ++ ls.take k) 0) = numC (roundC ls 0) := by
  rw [round_zero, round_zero, fold_app, fold_mul (ls.take k)]
  conv => rhs; rw [← List.take_append_drop k ls, fold_app, fold_mul (ls.drop k)]
  exact num_comm _ _
def turnL (ls : List Lk) : List Lk := (ls.map undL).reverse
theorem turn_fold : ∀ {ls : List Lk}, (∀ l ∈ ls, GL l) → ∃ e : Int, e * e = 1 ∧ foldC (scC 1) (turnL ls) = sclC e (trC (foldC (scC 1) ls))
  | [], _ => ⟨-1, rfl, by simp [turnL, foldC, sclC, trC, scC]⟩
  | l :: ls, g => by
    obtain ⟨e, he, hf⟩ := turn_fold (ls := ls) fun x hx => g x (List.mem_cons_of_mem _ hx)
    obtain ⟨e0, he0, hp⟩ := pass_und (g l (by simp))
    refine ⟨-(e0 * e), by grind, ?_⟩
    have e1 : turnL (l :: ls) = turnL ls ++ [undL l] := by unfold turnL; simp
    have e2 : foldC (scC 1) (l :: ls) = mulC (foldC (scC 1) ls) (passC l) := by
      show foldC (mulC (passC l) (scC 1)) ls = _
      rw [mul_one, fold_mul]
    rw [e1, fold_app, hf, e2]
    show mulC (passC (undL l)) _ = _
    rw [hp]
    generalize foldC (scC 1) ls = F
    generalize passC l = P
    unfold mulC sclC trC
    simp only [Chg.mk.injEq]
    refine ⟨?_, ?_, ?_, ?_⟩ <;> grind
theorem num_turned {ls : List Lk} (g : ∀ l ∈ ls, GL l) : numC (roundC (turnL ls) 0) = numC (roundC ls 0) := by
  obtain ⟨e, he, hf⟩ := turn_fold g
  rw [round_zero, round_zero, hf]
  generalize foldC (scC 1) ls = F
  unfold numC sclC trC
  dsimp only
  have : (e * -F.p - e * -F.s) * (e * -F.p - e * -F.s) + 4 * (e * F.q) * (e * F.r) = (e * e) * ((F.s - F.p) * (F.s - F.p) + 4 * F.q * F.r) := by grind
  rw [this, he, Int.one_mul]
theorem turn_len (ls : List Lk) : (turnL ls).length = ls.length := by unfold turnL; simp
theorem turn_gl {ls : List Lk} (g : ∀ l ∈ ls, GL l) : ∀ l ∈ turnL ls, GL l := fun l hl => by
  unfold turnL at hl
  obtain ⟨m, hm, rfl⟩ := List.mem_map.mp (List.mem_reverse.mp hl)
  exact gl_und (g m hm)
theorem turn_turn {ls : List Lk} (g : ∀ l ∈ ls, GL l) : turnL (turnL ls) = ls := by
  unfold turnL
  rw [List.map_reverse, List.reverse_reverse, List.map_map]
  conv => rhs; rw [← List.map_id ls]
  exact List.map_congr_left fun l hl => und_und (g l hl)
theorem chn_rev : ∀ {ls : List Lk} {qs : List Pt}, (∀ l ∈ ls, GL l) → Chn ls qs → Chn (turnL ls) qs.reverse
  | [], [_], _, _ => trivial
  | l :: ls, p :: q :: qs, g, h => by
    have ih := chn_rev (ls := ls) (qs := q :: qs) (fun x hx => g x (List.mem_cons_of_mem _ hx)) h.2
    rw [List.reverse_cons] at ih
    have e1 : turnL (l :: ls) = turnL ls ++ [undL l] := by unfold turnL; simp
    rw [e1, List.reverse_cons, List.reverse_cons, List.append_assoc]
    exact chn_app ih ⟨met_und (g l (by simp)) h.1, trivial⟩
  | [], [], _, h => h.elim
  | [], _ :: _ :: _, _, h => h.elim
  | _ :: _, [], _, h => h.elim
  | _ :: _, [_], _, h => h.elim
theorem cyc_turn {ls : List Lk} {ps : List Pt} (h1 : 1 ≤ ls.length) (g : ∀ l ∈ ls, GL l) (h : Cyc ls ps) : Cyc (turnL ls) (ps.take 1 ++ (ps.drop 1).reverse) := by
  obtain ⟨hl, hc⟩ := h
  cases ps with
  | nil => simp at hl; omega
  | cons a t =>
    refine ⟨by rw [turn_len, ← hl]; simp, ?_⟩
    have := chn_rev g hc
    simpa using this
theorem cyc_begin {ls : List Lk} {ps : List Pt} {k : Nat} (hk : k < ls.length) (h : Cyc ls ps) : Cyc (ls.drop k ++ ls.take k) (ps.drop k ++ ps.take k) := by
  by_cases k0 : k = 0
  · subst k0
    simpa using h
  · have ll : (ls.drop k ++ ls.take k).length = ls.length := by
      rw [List.length_append, List.length_drop, List.length_take]
      omega
    have dl : (ls.drop k).length = ls.length - k := List.length_drop
    have e : (ls.drop k ++ ls.take k).drop (ls.length - k) ++ (ls.drop k ++ ls.take k).take (ls.length - k) = ls := by
      have a : (ls.drop k ++ ls.take k).drop (ls.length - k) = ls.take k := by rw [← dl]; exact List.drop_left
      have b : (ls.drop k ++ ls.take k).take (ls.length - k) = ls.drop k := by rw [← dl]; exact List.take_left
      rw [a, b, List.take_append_drop]
    have := cyc_rot (ls := ls.drop k ++ ls.take k) (ps := ps) (k := ls.length - k) (by omega) (by rw [e]; exact h)
    rw [ll] at this
    have e2 : ls.length - (ls.length - k) = k := by omega
    rw [e2] at this
    exact this
/-! #### changed -/
def chL (c d : Chg) (l : Lk) : Lk := ⟨shN (chN [c, d, scC 1] l.ns), l.x, l.y⟩
abbrev lk0 : Lk := ⟨[], 0, 0⟩
def ledL (ls : List Lk) (cs : List Chg) : List Lk := (List.range ls.length).map fun i => chL (cs.getD i (scC 1)) (cs.getD ((i + 1) % ls.length) (scC 1)) (ls.getD i lk0)
theorem led_len (ls : List Lk) (cs : List Chg) : (ledL ls cs).length = ls.length := by simp [ledL]
theorem led_get {ls : List Lk} {cs : List Chg} {i : Nat} (h : i < ls.length) : (ledL ls cs).getD i lk0 = chL (cs.getD i (scC 1)) (cs.getD ((i + 1) % ls.length) (scC 1)) (ls.getD i lk0) := by
  unfold ledL
  rw [List.getD_eq_getElem?_getD, List.getElem?_map, List.getElem?_range h]
  rfl
theorem ch_gb {c d : Chg} {l : Lk} (g : GL l) (dc : detC c ≠ 0) (dd : detC d ≠ 0) (lc : CLt 3 c) (ld : CLt 3 d) : GB 21 (chL c d l) := by
  have o0 : detC (scC 1) ≠ 0 := by decide
  have o1 : CLt 3 (scC 1) := ⟨.of (by decide), .of (by decide), .of (by decide), .of (by decide)⟩
  have hx := chN_ex (cs := [c, d, scC 1]) (ns := l.ns) g.ln (by simp; exact ⟨dc, dd, o0⟩) (rel_hex g.re).1
  have hb := chN_lt (m := 3) (cs := [c, d, scC 1]) (ns := l.ns) (b := 8) (by simp; exact ⟨lc, ld, o1⟩) g.hb
  exact ⟨by show (shN _).length = 8; rw [sh_len, chN_len, g.ln], sh_rel hx, fun n hn => (sh_lt hx hb n hn).mono (by simp), g.ip, g.lx, g.ly⟩
theorem ch_back {c d : Chg} {l : Lk} (g : GL l) (dc : detC c ≠ 0) (dd : detC d ≠ 0) : chL (invC c) (invC d) (chL c d l) = l := by
  have o0 : detC (scC 1) ≠ 0 := by decide
  have all : ∀ x ∈ [c, d, scC 1], detC x ≠ 0 := by simp; exact ⟨dc, dd, o0⟩
  have di : ∀ x : Chg, detC x ≠ 0 → detC (invC x) ≠ 0 := fun x h => by
    have : detC (invC x) = detC x := by unfold detC invC; grind
    rw [this]
    exact h
  obtain ⟨hx, hsh⟩ := rel_hex g.re
  have hx2 := chN_ex (cs := [c, d, scC 1]) (ns := l.ns) g.ln all hx
  have inv : [invC c, invC d, scC 1] = [c, d, scC 1].map invC := by
    simp [invC, scC]
  have key : shN (chN [invC c, invC d, scC 1] (shN (chN [c, d, scC 1] l.ns))) = l.ns := by
    rw [sh_ch (by rw [chN_len]; exact g.ln) (by simp; exact ⟨di c dc, di d dd, o0⟩) hx2, inv, chN_back g.ln, sh_mul (det_all all) hx, hsh]
  show Lk.mk (shN (chN [invC c, invC d, scC 1] (shN (chN [c, d, scC 1] l.ns)))) l.x l.y = l
  rw [key]
theorem getD_mem {cs : List Chg} {i : Nat} (h : i < cs.length) : cs.getD i (scC 1) ∈ cs := by
  rw [List.getD_eq_getElem?_getD, List.getElem?_eq_getElem h]
  exact List.getElem_mem h
theorem getL_mem {ls : List Lk} {i : Nat} (h : i < ls.length) : ls.getD i lk0 ∈ ls := by
  rw [List.getD_eq_getElem?_getD, List.getElem?_eq_getElem h]
  exact List.getElem_mem h
theorem led_gb {ls : List Lk} {cs : List Chg} (hl : cs.length = ls.length) (g : ∀ l ∈ ls, GL l) (hc : ∀ c ∈ cs, detC c ≠ 0 ∧ CLt 3 c) : ∀ l ∈ ledL ls cs, GB 21 l := fun l hm => by
  unfold ledL at hm
  obtain ⟨i, hi, rfl⟩ := List.mem_map.mp hm
  have hi := List.mem_range.mp hi
  have h1 := hc _ (getD_mem (cs := cs) (i := i) (by omega))
  have h2 := hc _ (getD_mem (cs := cs) (i := (i + 1) % ls.length) (by rw [hl]; exact Nat.mod_lt _ (by omega)))
  exact ch_gb (g _ (getL_mem hi)) h1.1 h2.1 h1.2 h2.2
theorem led_back {ls : List Lk} {cs : List Chg} (hl : cs.length = ls.length) (g : ∀ l ∈ ls, GL l) (hc : ∀ c ∈ cs, detC c ≠ 0) : ledL (ledL ls cs) (cs.map invC) = ls := by
  have inv : ∀ i, i < cs.length → (cs.map invC).getD i (scC 1) = invC (cs.getD i (scC 1)) := fun i h => by
    rw [List.getD_eq_getElem?_getD, List.getElem?_map, List.getD_eq_getElem?_getD, List.getElem?_eq_getElem h]
    rfl
  apply List.ext_getElem
  · rw [led_len, led_len]
  · intro i h1 h2
    have hm : (i + 1) % ls.length < ls.length := Nat.mod_lt _ (by omega)
    have e1 : (ledL (ledL ls cs) (cs.map invC))[i] = (ledL (ledL ls cs) (cs.map invC)).getD i lk0 := by rw [List.getD_eq_getElem?_getD, List.getElem?_eq_getElem h1]; rfl
    have e2 : ls[i] = ls.getD i lk0 := by rw [List.getD_eq_getElem?_getD, List.getElem?_eq_getElem h2]; rfl
    rw [e1, e2, led_get (by rw [led_len]; exact h2), led_get h2, led_len, inv i (by omega), inv _ (by omega)]
    exact ch_back (g _ (getL_mem h2)) (hc _ (getD_mem (by omega))) (hc _ (getD_mem (by omega)))
theorem met_val {l : Lk} (hl : l.ns.length = 8) (p q : Pt) : met l p q = valN l.ns [p, q, (l.x, l.y)] := by
  obtain ⟨a0, a1, a2, a3, a4, a5, a6, a7, h8⟩ := eight hl
  unfold met itL
  rw [h8]
  simp [valN, halfN]
  grind
theorem met_sc (l : Lk) (a b : Int) (p q : Pt) : met l (a * p.1, a * p.2) (b * q.1, b * q.2) = a * b * met l p q := by
  unfold met
  generalize itL l 0 * l.x + itL l 1 * l.y = A
  generalize itL l 2 * l.x + itL l 3 * l.y = B
  generalize itL l 4 * l.x + itL l 5 * l.y = C
  generalize itL l 6 * l.x + itL l 7 * l.y = D
  grind
theorem met_map {ns : List Int} {x y k : Int} (hl : ns.length = 8) (p q : Pt) : met ⟨ns.map (· * k), x, y⟩ p q = k * met ⟨ns, x, y⟩ p q := by
  obtain ⟨a0, a1, a2, a3, a4, a5, a6, a7, rfl⟩ := eight hl
  unfold met itL
  simp
  grind
/-- the place that a change moves to a place -/
theorem met_led {c d : Chg} {l : Lk} (g : GL l) (dc : detC c ≠ 0) (dd : detC d ≠ 0) {p q P R : Pt} {k m : Int} (hk : k ≠ 0) (hm : m ≠ 0)
    (e1 : c.s * p.1 + -c.q * p.2 = k * P.1) (e2 : -c.r * p.1 + c.p * p.2 = k * P.2) (e3 : d.s * q.1 + -d.q * q.2 = m * R.1) (e4 : -d.r * q.1 + d.p * q.2 = m * R.2) (h : met l p q = 0) : met (chL c d l) P R = 0 := by
  have o0 : detC (scC 1) ≠ 0 := by decide
  have all : ∀ x ∈ [c, d, scC 1], detC x ≠ 0 := by simp; exact ⟨dc, dd, o0⟩
  have hx := chN_ex (cs := [c, d, scC 1]) (ns := l.ns) g.ln all (rel_hex g.re).1
  have hN : (chN [c, d, scC 1] l.ns).length = 8 := by rw [chN_len, g.ln]
  have s1 : met ⟨chN [c, d, scC 1] l.ns, l.x, l.y⟩ P R = met l (mvC c P) (mvC d R) := by
    rw [met_val hN, met_val g.ln]
    show valN (chN [c, d, scC 1] l.ns) [P, R, (l.x, l.y)] = _
    rw [val_ch (by rfl) g.ln]
    simp [mvC, scC]
  have s2 : k * m * met l (mvC c P) (mvC d R) = detC c * detC d * met l p q := by
    rw [← met_sc, ← met_sc]
    congr 1
    · unfold mvC detC
      refine Prod.ext ?_ ?_ <;> dsimp only <;> grind
    · unfold mvC detC
      refine Prod.ext ?_ ?_ <;> dsimp only <;> grind
  rw [h, Int.mul_zero] at s2
  have s3 : met l (mvC c P) (mvC d R) = 0 := (Int.mul_eq_zero.mp s2).resolve_left (Int.mul_ne_zero hk hm)
  rw [s3] at s1
  have s4 := sh_back hx
  rw [s4, met_map (by rw [sh_len]; exact hN)] at s1
  refine (Int.mul_eq_zero.mp s1).resolve_left ?_
  obtain ⟨n, hn, hz⟩ := hx
  have gp := gcdL_pos hn hz
  have sg := sgL_is hn hz
  refine Int.mul_ne_zero (by omega) ?_
  rcases sg with e | e <;> rw [e] <;> decide
theorem chn_ix : ∀ {ls : List Lk} {qs : List Pt}, qs.length = ls.length + 1 → (∀ i, i < ls.length → met (ls.getD i lk0) (qs.getD i (0, 0)) (qs.getD (i + 1) (0, 0)) = 0) → Chn ls qs
  | [], [_], _, _ => trivial
  | l :: ls, p :: q :: qs, h, hm => ⟨hm 0 (by simp), chn_ix (by simpa using h) fun i hi => hm (i + 1) (by simpa using hi)⟩
  | [], [], h, _ => by simp at h
  | [], _ :: _ :: _, h, _ => by simp at h
  | _ :: _, [], h, _ => by simp at h
  | _ :: _, [_], h, _ => by simp at h
theorem chn_at : ∀ {ls : List Lk} {qs : List Pt}, Chn ls qs → ∀ i, i < ls.length → met (ls.getD i lk0) (qs.getD i (0, 0)) (qs.getD (i + 1) (0, 0)) = 0
  | l :: ls, p :: q :: qs, h, 0, _ => h.1
  | l :: ls, p :: q :: qs, h, i + 1, hi => chn_at h.2 i (by simpa using hi)
  | [], _, _, i, hi => by simp at hi
  | _ :: _, [], h, _, _ => h.elim
  | _ :: _, [_], h, _, _ => h.elim
theorem wrap_get {ps : List Pt} {m i : Nat} (hm : ps.length = m) (hi : i < m) : (ps ++ ps.take 1).getD (i + 1) (0, 0) = ps.getD ((i + 1) % m) (0, 0) := by
  rw [List.getD_eq_getElem?_getD, List.getD_eq_getElem?_getD]
  by_cases h : i + 1 < m
  · rw [Nat.mod_eq_of_lt h, List.getElem?_append_left (by omega)]
  · have : i + 1 = m := by omega
    rw [this, Nat.mod_self, List.getElem?_append_right (by omega), hm, Nat.sub_self, List.getElem?_take_of_lt (by omega)]
theorem cyc_ix {ls : List Lk} {ps : List Pt} (hl : ps.length = ls.length) (h1 : 1 ≤ ls.length) : Cyc ls ps ↔ ∀ i, i < ls.length → met (ls.getD i lk0) (ps.getD i (0, 0)) (ps.getD ((i + 1) % ls.length) (0, 0)) = 0 := by
  have lw : (ps ++ ps.take 1).length = ls.length + 1 := by rw [List.length_append, List.length_take]; omega
  have g0 : ∀ i, i < ls.length → (ps ++ ps.take 1).getD i (0, 0) = ps.getD i (0, 0) := fun i hi => by
    rw [List.getD_eq_getElem?_getD, List.getD_eq_getElem?_getD, List.getElem?_append_left (by omega)]
  constructor
  · rintro ⟨_, hc⟩ i hi
    have := chn_at hc i hi
    rw [g0 i hi, wrap_get hl hi] at this
    exact this
  · intro h
    refine ⟨hl, chn_ix lw fun i hi => ?_⟩
    rw [g0 i hi, wrap_get hl hi]
    exact h i hi
/-- standings, moved back -/
theorem cyc_led {ls : List Lk} {cs : List Chg} {ps qs : List Pt} (hc : cs.length = ls.length) (h1 : 1 ≤ ls.length) (g : ∀ l ∈ ls, GL l) (dc : ∀ c ∈ cs, detC c ≠ 0) (h : Cyc ls ps) (hq : qs.length = ls.length)
    (hm : ∀ i, i < ls.length → ∃ k : Int, k ≠ 0 ∧ (cs.getD i (scC 1)).s * (ps.getD i (0, 0)).1 + -(cs.getD i (scC 1)).q * (ps.getD i (0, 0)).2 = k * (qs.getD i (0, 0)).1 ∧ -(cs.getD i (scC 1)).r * (ps.getD i (0, 0)).1 + (cs.getD i (scC 1)).p * (ps.getD i (0, 0)).2 = k * (qs.getD i (0, 0)).2) : Cyc (ledL ls cs) qs := by
  rw [cyc_ix (by rw [led_len]; exact hq) (by rw [led_len]; exact h1), led_len]
  intro i hi
  have hi2 : (i + 1) % ls.length < ls.length := Nat.mod_lt _ (by omega)
  obtain ⟨k, hk, e1, e2⟩ := hm i hi
  obtain ⟨m, hm', e3, e4⟩ := hm _ hi2
  rw [led_get hi]
  exact met_led (g _ (getL_mem hi)) (dc _ (getD_mem (by omega))) (dc _ (getD_mem (by omega))) hk hm' e1 e2 e3 e4 ((cyc_ix h.1 h1).mp h i hi)
end DL
namespace DL
open PySem PySem.Spec PyProof.Rows L2
/-! ### lambdas: the code object made, the maker's table written -/
theorem among_more {pos : Pos} {cv : Value} (m : List Value) : ∀ l : List Value, TriplesOk l → codeAmong pos l = some cv → codeAmong pos (l ++ m) = some cv := by
  intro l h hc
  fun_induction TriplesOk l with
  | case1 => simp [codeAmong] at hc
  | case2 a t b u x rest ih =>
    simp only [List.cons_append, codeAmong] at hc ⊢
    by_cases q : (a == (pos.line : Int) && b == (pos.col : Int)) = true
    · rw [if_pos q] at hc ⊢; exact hc
    · rw [if_neg q] at hc ⊢; exact ih h hc
  | case3 l h1 h2 => exact h.elim
theorem among_snoc {pos : Pos} {c : Value} : ∀ l : List Value, TriplesOk l → codeAmong pos l = none → codeAmong pos (l ++ [rawInt pos.line, rawInt pos.col, c]) = some c := by
  intro l h hc
  fun_induction TriplesOk l with
  | case1 => simp [codeAmong, rawInt]
  | case2 a t b u x rest ih =>
    simp only [List.cons_append, codeAmong] at hc ⊢
    by_cases q : (a == (pos.line : Int) && b == (pos.col : Int)) = true
    · rw [if_pos q] at hc; cases hc
    · rw [if_neg q] at hc ⊢; exact ih h hc
  | case3 l h1 h2 => exact h.elim
abbrev lamO (X : Cx) (params : Arguments) (body : Expr) (scope : Scope) (pm : Value) (c' : Addr) (ctv : Value) : Obj := PySem.W.kla_obj "<lambda>" (X.env.qual ++ "<lambda>") params body scope (cloFrom X.env.cells scope.names []) pm c' ctv
section
variable {X : Cx} {pins : List (Addr × Obj)} {σ : L2.St} {H : Hp} {s : Shared}
/-- a lambda made: nothing else is written than the table P -/
theorem lam_make3 {T : List (Addr × Str)} {c P : Addr} {params : Arguments} {body : Expr} {scope : Scope} {pos : Pos} {E Q : Value → Shared → Prop} (I : L2.Inv X pins σ H s) (B : LamX.TabB X.base X.mg c P) (ec : X.env.code = .ref c)
    (mT : (P, X.env.qual ++ "<lambda>") ∈ T) (uT : ∀ p ∈ T, p.1 = P → p.2 = X.env.qual ++ "<lambda>") (hT : LamX.Tabs T H) (nd : defaultsOf params X.env = ([], [])) (fr : ∀ y ∈ scope.names, y.2 = .free → ∃ c, X.env.cells.lookup y.1 = some c)
    (go : ∀ (f c' : Addr) (pm ctv : Value) (H1 : Hp) (s' : Shared), L2.Inv X pins σ H1 s' → (∀ b o, H b = some o → b ≠ P → H1 b = some o) → LamX.Tabs T H1 → s'.heap.get? f = some (lamO X params body scope pm c' ctv) → H1 f = none → f ∉ frs X.stack →
      (∃ ps : Array Value, H1 P = some (.tbl ps) ∧ TriplesOk ps.toList ∧ codeAmong pos ps.toList = some (.ref c')) → Q (.ref f) s') : wpAny (model X.prog X.w) X.A (eval (.Lambda params body scope pos) X.env) Q E s := by
  obtain ⟨ps, tP, trip, known⟩ := hT _ mT
  have bl : s.heap.BuiltinsAt X.mg P := B.bm.keeps I.bk
  have oP : s.heap.get? P = some { cls := .none, data := .fields ps } := I.hok P _ tP
  have out : ∀ f, s.heap.objs.size ≤ f → f ∉ frs X.stack := fun f big m => by
    cases List.mem_cons.mp (I.stkSub _ m) with
    | inl e => exact absurd (Nat.lt_of_lt_of_le (e ▸ I.lt) big) (Nat.lt_irrefl _)
    | inr e => exact I.nofs big e
  refine PySem.W.kla_eval nd ?_
  cases hc : codeAmong pos ps.toList with
  | some cv =>
    obtain ⟨c', e, _⟩ := known pos cv hc
    subst e
    refine PySem.W.kla_makeFunctionHit (mg := X.mg) (c := c) (P := P) (ps := ps) (closure_ok fr) I.ok.glob (I.mod.glob.keeps I.bk) ec (B.code.keeps I.bk) oP trip hc bl ?_
    intro ctv h' tk ext sz
    have J : L2.Inv X pins σ H { s with heap := h'.push (lamO X params body scope ((X.mg "__name__").getD .none) c' ctv), toks := tk } := I.kept fun b o q => Heap.get?_push_of_some _ (ext b o q)
    exact go h'.objs.size c' _ ctv H _ J (fun _ _ q _ => q) hT (Heap.get?_push_size _ rfl) (I.hok.fresh sz) (out _ sz) ⟨ps, tP, trip, hc⟩
  | none =>
    refine PySem.W.kla_makeFunction (mg := X.mg) (c := c) (P := P) (ps := ps) (closure_ok fr) I.ok.glob (I.mod.glob.keeps I.bk) ec (B.code.keeps I.bk) oP trip hc B.gP bl ?_
    intro c' ctv h' tk ext ge lt ⟨c2, oc, vs, t, e2, g1, g2, g3⟩ tb
    cases e2
    have sz : s.heap.objs.size ≤ h'.objs.size := Nat.le_trans ge (Nat.le_of_lt lt)
    have new : H c' = none := I.hok.fresh ge
    have nP : P ≠ c' := ne_of_none tP new
    have J := LamX.inv_table (q := X.env.qual ++ "<lambda>") (t' := tk) (more := #[rawInt pos.line, rawInt pos.col, .ref c']) (h' := h'.push (lamO X params body scope ((X.mg "__name__").getD .none) c' ctv)) I tP
      (fun b o n q => Heap.get?_push_of_some _ (ext b o n q)) (Heap.get?_push_of_some _ tb) ge ⟨oc, vs, t, Heap.get?_push_of_some _ g1, g2, g3⟩
    have keep : ∀ b o, H b = some o → b ≠ P → upd (upd H P (.tbl (ps ++ #[rawInt pos.line, rawInt pos.col, .ref c']))) c' (LamX.CodeO c' (X.env.qual ++ "<lambda>")) b = some o := fun b o q n => by
      rw [upd_ne (ne_of_none q new), upd_ne n]; exact q
    have nT : ∀ {q : Str} {c0 : Addr}, H c0 = some (LamX.CodeO c0 q) → c0 ≠ P := fun {q c0} z y => by
      rw [y, tP] at z
      unfold LamX.CodeO at z
      cases z
    have l3 : (ps ++ #[rawInt pos.line, rawInt pos.col, .ref c']).toList = ps.toList ++ [rawInt pos.line, rawInt pos.col, .ref c'] := by simp
    have t3 := PySem.TriplesOk_snoc (pos.line : Int) (pos.col : Int) (Value.ref c') _ trip
    have atP : upd (upd H P (.tbl (ps ++ #[rawInt pos.line, rawInt pos.col, .ref c']))) c' (LamX.CodeO c' (X.env.qual ++ "<lambda>")) P = some (.tbl (ps ++ #[rawInt pos.line, rawInt pos.col, .ref c'])) := by rw [upd_ne nP, upd_same]
    refine go h'.objs.size c' _ ctv _ _ J keep (fun p hp => ?_) (Heap.get?_push_size _ rfl) ?_ (out _ sz) ⟨_, atP, by rw [l3]; exact t3, by rw [l3]; exact among_snoc _ trip hc⟩
    · by_cases hb : p.1 = P
      · rw [uT p hp hb, hb]
        refine ⟨_, atP, by rw [l3]; exact t3, fun p' cv z => ?_⟩
        rw [l3] at z
        cases LamX.among_app _ trip z with
        | inl y =>
          obtain ⟨c0, y1, y2⟩ := known p' cv y
          exact ⟨c0, y1, keep _ _ y2 (nT y2)⟩
        | inr y => exact ⟨c', y, upd_same⟩
      · obtain ⟨qs, y1, y2, y3⟩ := hT p hp
        refine ⟨qs, keep _ _ y1 hb, y2, fun p' cv z => ?_⟩
        obtain ⟨c0, x1, x2⟩ := y3 p' cv z
        exact ⟨c0, x1, keep _ _ x2 (nT x2)⟩
    · rw [upd_ne (Nat.ne_of_gt lt), upd_ne (Nat.ne_of_gt (Nat.lt_of_lt_of_le (Heap.lt_size oP) sz))]
      exact I.hok.fresh sz
end
end DL
namespace DL
open PySem PySem.Spec PyProof.Rows L2
/-! ### a lambda handed to a def, which calls it -/
/-- the lambda called, in the def that got it -/
theorem act_run {X : Cx} {pins : List (Addr × Obj)} {σ : L2.St} {H : Hp} {s : Shared} {CXg : CXT} {Eg : XK} {Ng : List Str} {qg : Str} {sg : Scope} {g f c' : Addr} {cdg pm ctv : Value} {params : Arguments} {body : Expr} {scope : Scope} {k i : Nat} {a : Str} {pn : List (Addr × Obj)} {xe : Value → Shared → Prop} {W : WX} {tb : TE} {p1 p2 : Pos}
    (I : L2.Inv X pins σ H s) (L : LamX.LamS X.env.scope scope) (of : s.heap.get? f = some (lamO X params body scope pm c' ctv)) (nf : H f = none) (ff : f ∉ frs X.stack)
    (bind0 : bindArgs (PySem.W.kla_fn "<lambda>" (X.env.qual ++ "<lambda>") params body scope (cloFrom X.env.cells scope.names []) pm (.ref c') ctv) ⟨[], []⟩ = pure [])
    (tk : Takes ((cxOf CXg X.prog X.w X.K X.mg X.base Ng qg sg g cdg X.A X.stack s H Eg).tr pn xe) W) (room : Room (k + 1) (X.A.deeper (envOfC qg sg s.heap.objs.size g cdg)))
    (at_ : Ng[i]? = some a) (vis : Vis sg a) (hd : (a == ("__debug__" : Str)) = false) (hcd : (a == ("__classdict__" : Str)) = false)
    {pinsZ : List (Addr × Obj)} {sZ : Shared} {σZ : L2.St} {HZ : Hp} {Q : VK} (IZ : L2.Inv ((cxOf CXg X.prog X.w X.K X.mg X.base Ng qg sg g cdg X.A X.stack s H Eg).tr pn xe) pinsZ σZ HZ sZ)
    (val : σZ[i]? = some (some (.ref f))) (cod : HZ c' = some (LamX.CodeO c' (X.env.qual ++ "<lambda>")))
    (inner : ∀ (t : Shared), Room k ((X.A.deeper (envOfC qg sg s.heap.objs.size g cdg)).deeper (LamX.lamEnv X scope t.heap.objs.size f c')) → PE (LamX.lamCx X (X.A.deeper (envOfC qg sg s.heap.objs.size g cdg)) (envOfC qg sg s.heap.objs.size g cdg :: X.stack) t HZ (WE W σZ) scope f c') body tb)
    (q : tb σ HZ Q) :
    wpAny (model X.prog X.w) ((cxOf CXg X.prog X.w X.K X.mg X.base Ng qg sg g cdg X.A X.stack s H Eg).tr pn xe).A (eval (.Call (.Name a p1) [] [] p2) ((cxOf CXg X.prog X.w X.K X.mg X.base Ng qg sg g cdg X.A X.stack s H Eg).tr pn xe).env)
      (EP ((cxOf CXg X.prog X.w X.K X.mg X.base Ng qg sg g cdg X.A X.stack s H Eg).tr pn xe) pinsZ σZ Q) ((cxOf CXg X.prog X.w X.K X.mg X.base Ng qg sg g cdg X.A X.stack s H Eg).tr pn xe).xe sZ := by
  apply wpAny_Call_Name_kw
  refine thn ((pe_var (pos := p1) (i := i) at_ vis hd hcd).run pinsZ sZ σZ HZ (fun v H1 => v = .ref f ∧ H1 = HZ) IZ ⟨.ref f, val, rfl, rfl⟩) ?_
  rintro u s1 ⟨v, H1, I1, rv1, ev, eH⟩
  subst ev
  subst eH
  cases (show u = Value.ref f from rv1)
  have of1 : s1.heap.get? f = some (lamO X params body scope pm c' ctv) := I1.base.keep f _ of nf ff fun z => absurd (show f ∈ ([] : List Addr) from z) (by simp)
  obtain ⟨⟨oc, vs, t, o1, o2, o3⟩, _, _⟩ := I1.hok c' _ cod
  have run : codeAny (model X.prog X.w) (X.A.deeper (envOfC qg sg s.heap.objs.size g cdg)) (.call (.ref f) ⟨[], []⟩) (CR (L2.CX X.prog X.w) (envOfC qg sg s.heap.objs.size g cdg :: X.stack) X.prog X.w H1 s1 Q (WE W σZ)) s1 := by
    refine PySem.W.kla_callFunE room.depth of1 rfl L.co L.gen rfl ⟨c', oc, vs, t, rfl, o1, o2, o3⟩ ?_
    rw [bind0]
    refine wpAny_pure (wpAny_newFunctionEnv (fun y hy => (L.own y hy).2) (fun y hy => absurd hy (by simp)) (fun h1 ns sb => ⟨I1.nolimit.fresh _ sb, ?_⟩) L.kind)
    have kept : ∀ b o, s1.heap.get? b = some o → h1.get? b = some o := fun b o z => sb.extBut b o (Nat.ne_of_lt (Heap.lt_size z)) (Heap.get?_push_of_some _ z)
    have J : L2.Inv (LamX.lamCx X (X.A.deeper (envOfC qg sg s.heap.objs.size g cdg)) (envOfC qg sg s.heap.objs.size g cdg :: X.stack) s1 H1 (WE W σZ) scope f c') [] σ H1 { s1 with heap := h1, toks := s1.toks + ([] : List (Str × Value)).length } := LamX.lam_start2 I L I1.env0 room.hd I1.base ns kept
    refine PySem.W.kla_codeExpr (wpAny_mono ((inner s1 (room.deeper _)).run [] _ _ H1 Q J q) ?_ fun e s' z => z)
    rintro v s' ⟨w', H', J', r', z⟩
    exact ⟨w', H', J'.os, J'.bare, J'.base, J'.hok, r', z⟩
  refine PySem.W.callWith_F0 ⟨_, _, _, _, of1⟩ (wpAny_call (codeAny_mono run fun r s' z => ?_))
  rcases r with e | fl
  · exact passAt tk σZ pinsZ H1 s1 e s' I1 z
  · cases fl
    case ret u => exact I1.after z
    all_goals exact False.elim z
/-- a def of the text run at one state -/
theorem run_at {CX : CXT} {P : Program} {w : World} {K : PySem.W.Frag} {mg : Str → Option Value} {base : Heap} {x qual : Str} {params : Arguments} {body : List Stmt} {scope : Scope} {dvs : List V} {kws : List (Str × V)} {f : Addr} {fd : FuncData} {N ps : List Str} {k : Nat}
    (F : FunD K x qual params body scope dvs kws f fd) (S : FnScope N ps scope) {A : Around} {outer : List PySem.Env} {s : Shared} {H : Hp} {args : Args} {us : List Value} {vs : List V} {Q : VK} {E : XK} (gd : A.guards = some []) (hr : Room (k + 1) A) (e0 : Env0 P w K mg base A outer s H) (hb : BindsTo s fd args (ps.zip us)) (rv : Vals vs us) (nvs : vs.length = ps.length)
    (walk : ∀ cdv : Value, Room k (A.deeper (envOfC qual scope s.heap.objs.size f cdv)) → ∃ t, PSs (cxOf CX P w K mg base N qual scope f cdv A outer s H E) body t ∧ t { nx := fun _ H' => Q .non H', rt := Q } (start N vs) H) :
    codeAny (model P w) A (.call (.ref f) args) (CR CX outer P w H s Q E) s := by
  obtain ⟨oc, od, dV, kV, doc, pm, an, cdv, ct, osl, rfl, lk, hcd, _, _⟩ := F.ex
  have sameB : ∀ b o, base.get? b = some o → s.heap.get? b = some o := fun b o q => (e0.bs b o q).1
  have inS : K.In s.heap := e0.mod.kin.keeps sameB
  have kinds : ∀ y ∈ ps.zip us, scope.names.lookup y.1 = some .local ∨ (scope.names.lookup y.1 = some .cell ∧ ((cellsFrom (s.heap.objs.size + 1) scope.names []).lookup y.1).isSome = true) := by
    rintro ⟨n, v⟩ hy
    cases S.par n (List.of_mem_zip hy).1 with
    | inl q => exact .inl q
    | inr q => exact .inr ⟨q, PySem.W.cellsFrom_some _ _ _ (.inl q)⟩
  apply codeAny_call_function hr.depth (inS _ _ lk) rfl S.co S.gen rfl (PySem.W.codeRec_of inS hcd)
  apply hb
  refine PySem.wpAny_newFunctionEnv_cells S.kind kinds ?_
  intro env he s1 ic
  cases he
  refine ⟨(e0.mod.nolimit.keeps sameB).keeps ic.toInCall.keep, codeAny_func ?_⟩
  obtain ⟨t, ht, hq⟩ := walk cdv (hr.deeper _)
  have J0 := inv_start (CX := CX) (E := E) (qual := qual) (f := f) (cd := cdv) S hr.hd e0 nvs rv ic
  apply wpAny_mono (ht.run [] s1 (start N vs) H _ J0 hq)
  · intro fl s' hs
    cases fl with
    | brk => obtain ⟨_, _, _, z⟩ := hs; exact z.elim
    | cont => obtain ⟨_, _, _, z⟩ := hs; exact z.elim
    | next => obtain ⟨σ', H', J, q⟩ := hs; exact ⟨V.non, H', J.os, J.bare, J.base, J.hok, rfl, q⟩
    | ret u => obtain ⟨v, σ', H', J, r, q⟩ := hs; exact ⟨v, H', J.os, J.bare, J.base, J.hok, r, q⟩
  · intro _ _ z; exact z
/-- what the maker of a lambda must know of its own code object -/
def LamOk (K : PySem.W.Frag) (base : Heap) (mg : Str → Option Value) (cd : Value) (q : Str) : Prop := ∃ c P, cd = .ref c ∧ LamX.TabB base mg c P ∧ (P, (q ++ ".<locals>.") ++ "<lambda>") ∈ tabK K ∧ ∀ p ∈ tabK K, p.1 = P → p.2 = (q ++ ".<locals>.") ++ "<lambda>"
theorem lamOk_of {K : PySem.W.Frag} {base h : Heap} {mg : Str → Option Value} {x qual : Str} {params : Arguments} {body : List Stmt} {scope : Scope} {dvs : List V} {kws : List (Str × V)} {f : Addr} {fd : FuncData} (F : FunD K x qual params body scope dvs kws f fd) (TB : ∀ t ∈ tabC K, LamX.TabB base mg t.1 t.2.1) (ta : TabsAt h K) (hB : hasTab K f = true) : LamOk K base mg fd.code qual := by
  obtain ⟨oc, od, dV, kV, doc, pm, an, cdv, ct, osl, rfl, lk, hcd, _, _⟩ := F.ex
  unfold hasTab at hB
  rw [lk] at hB
  obtain ⟨t, ht⟩ := Option.isSome_iff_exists.mp hB
  have mem : t ∈ tabC K := List.mem_filterMap.mpr ⟨_, He.lookup_mem lk, ht⟩
  obtain ⟨c, rfl⟩ := He.codeIn_ref hcd
  have e : t = (c, He.tabOf K c, qual) := by
    unfold tabOne at ht
    simp only [PySem.W.fnOf] at ht
    split at ht
    · exact (Option.some.inj ht).symm
    · cases ht
  subst e
  refine ⟨c, He.tabOf K c, rfl, TB _ mem, List.mem_map_of_mem (f := fun q : Addr × Addr × Str => (q.2.1, (q.2.2 ++ ".<locals>.") ++ "<lambda>")) mem, fun p hp z => ?_⟩
  obtain ⟨r, hr, e⟩ := List.mem_map.mp hp
  subst e
  show (r.2.2 ++ ".<locals>.") ++ "<lambda>" = _
  rw [ta.uni _ mem _ hr z]
/-- a lambda's body reads the maker's values, not its own lists -/
def noO : Slot → Slot
  | .own _ => .no
  | s => s
def noOwn (env : Evn) : Evn := env.map noO
theorem noOwn_val {env : Evn} {i : Nat} {d : D} (h : (noOwn env)[i]? = some (.val d)) : env[i]? = some (.val d) := by
  unfold noOwn at h
  rw [List.getElem?_map] at h
  cases q : env[i]? with
  | none => rw [q] at h; cases h
  | some s => rw [q] at h; cases s <;> first | exact h | cases h
theorem noOwn_own {env : Evn} {i : Nat} {ds : List D} (h : (noOwn env)[i]? = some (.own ds)) : False := by
  unfold noOwn at h
  rw [List.getElem?_map] at h
  cases q : env[i]? with
  | none => rw [q] at h; cases h
  | some s => rw [q] at h; cases s <;> cases h
@[simp ↓] theorem noOwn_nil : noOwn [] = [] := rfl
@[simp ↓] theorem noOwn_c {s : Slot} {l : Evn} : noOwn (s :: l) = noO s :: noOwn l := rfl
@[simp ↓] theorem noO_v {d : D} : noO (.val d) = .val d := rfl
@[simp ↓] theorem noO_n : noO .no = .no := rfl
@[simp ↓] theorem noO_o {ds : List D} : noO (.own ds) = .no := rfl
/-- call(), of what was handed in -/
def dAct (f : Addr) (w : DX) (p : D → Prop) (px : Ex → Prop) : DE := fun env Q => env[0]? = some (.val (.raw (.ref f))) ∧ (∀ d, p d → Q d env) ∧ ∀ x, px x → w x env
@[simp ↓] theorem e_Act {f : Addr} {w : DX} {p : D → Prop} {px : Ex → Prop} {env : Evn} {Q : D → Evn → Prop} : dAct f w p px env Q = (env[0]? = some (.val (.raw (.ref f))) ∧ (∀ d, p d → Q d env) ∧ ∀ x, px x → w x env) := rfl
abbrev kT (K : PySem.W.Frag) (mg : Str → Option Value) (z : Fz) : Kx := ⟨K, mg, fun _ _ => False, fun _ _ _ _ => False, z⟩
abbrev toldX (P : Program) (w : World) (K : PySem.W.Frag) (mg : Str → Option Value) (base : Heap) (Ng : List Str) (x : Str) (sg : Scope) (g : Addr) (cdv : Value) (A : Around) (outer : List PySem.Env) (s : Shared) (H : Hp) : Cx := cxOf (L2.CX P w) P w K mg base Ng x sg g cdv A outer s H E0
/-- the handed function's call, wherever a try is open -/
def ActOk (Z : Cx) (z : Fz) (a : Str) (f : Addr) (p : D → Prop) (px : Ex → Prop) : Prop := ∀ (w : DX) (W : WX) (pn : List (Addr × Obj)) (xe : Value → Shared → Prop) (p1 p2 : Pos), Takes (Z.tr pn xe) W → PE (Z.tr pn xe) (.Call (.Name a p1) [] [] p2) (lift ((Z.tr pn xe).kx w W z) (dAct f w p px))
/-- a def that calls the function that it gets: what it makes of the data, of the exceptions -/
structure Tol (P : Program) (w : World) (K : PySem.W.Frag) (mg : Str → Option Value) (base : Heap) (x : Str) (k : Nat) (T1 : (D → Prop) → D → Prop) (T2 : (D → Prop) → Ex → Prop) : Prop where
  ex : ∃ (g : Addr) (fd : FuncData) (pg : Arguments) (bg : List Stmt) (sg : Scope) (Ng : List Str) (a : Str) (gt : Addr → (D → Prop) → (Ex → Prop) → DS), FunD K x x pg bg sg [] [] g fd ∧ mg x = some (.ref g) ∧ PySem.W.keepIn K (.ref g) = true ∧ Binds K fd [a] [] ∧ FnScope Ng [a] sg ∧ Ng[0]? = some a ∧ Vis sg a ∧
    ((a == ("__debug__" : Str)) = false ∧ (a == ("__classdict__" : Str)) = false) ∧
    (∀ (f : Addr) (p : D → Prop) (px : Ex → Prop) (z : Fz) (cdv : Value) (A : Around) (outer : List PySem.Env) (s : Shared) (H : Hp), A.guards = some [] → Room (k + 1) (A.deeper (envOfC x sg s.heap.objs.size g cdv)) → ActOk (toldX P w K mg base Ng x sg g cdv A outer s H) z a f p px → PSs (toldX P w K mg base Ng x sg g cdv A outer s H).nox bg (liftS (kT K mg z) (gt f p px))) ∧
    ∀ (f : Addr) (PP : D → Prop), gt f (T1 PP) (T2 PP) { nx := fun _ => PP .non, rt := PP } (slots Ng.length [.raw (.ref f)])
/-- x(lambda: ..) -/
def dTold (T1 : (D → Prop) → D → Prop) (T2 : (D → Prop) → Ex → Prop) (f : DX → DE) : DE := fun env Q => f (fun x _ => T2 (fun d => Q d env) x) (noOwn env) fun d _ => T1 (fun d => Q d env) d
@[simp ↓] theorem e_Told {T1 : (D → Prop) → D → Prop} {T2 : (D → Prop) → Ex → Prop} {f : DX → DE} {env : Evn} {Q : D → Evn → Prop} : dTold T1 T2 f env Q = f (fun x _ => T2 (fun d => Q d env) x) (noOwn env) fun d _ => T1 (fun d => Q d env) d := rfl
theorem Rel0.kept {K : PySem.W.Frag} {e : Ent} {env : Evn} {oa : Nat → Addr} {σ : L2.St} {F H H1 : Hp} {k : Dk} {P : Addr} {q : Str} (R : Rel0 K e env oa σ F H k) (mT : (P, q) ∈ tabK K) (keep : ∀ b o, H b = some o → b ≠ P → H1 b = some o) (t : LamX.Tabs (tabK K) H1) : Rel0 K e env oa σ F H1 k := by
  have W := R.wd
  refine ⟨⟨fun a o z => keep a o (W.sub a o z) fun y => ?_, W.ini, W.new, fun a o z z2 z3 => keep a o (W.fr a o z z2 z3) (z3 _ mT), W.kk1, W.kk2, fun p hp => ?_, t, W.tbf⟩, R.len, R.val, fun i ds hi => ?_, R.inj⟩
  · rw [y, W.tbf _ mT] at z; cases z
  · obtain ⟨⟨kv, cs, h1, h2, h3⟩, h4⟩ := W.dk p hp
    exact ⟨⟨kv, cs, keep _ _ h1 (tabs_ndic W.tb h1 _ mT), keep _ _ h2 (tabs_nlst W.tb h2 _ mT), h3⟩, h4⟩
  · obtain ⟨h1, ⟨vs, h2, h3⟩, h4⟩ := R.own i ds hi
    exact ⟨h1, ⟨vs, keep _ _ h2 (tabs_nlst W.tb h2 _ mT), h3⟩, h4⟩
/-- the maker's values, at a later state -/
theorem Rel0.later {K : PySem.W.Frag} {e e2 : Ent} {env env2 : Evn} {oa oa2 : Nat → Addr} {σ σ2 : L2.St} {F F2 H H2 : Hp} {k k2 : Dk} (R : Rel0 K e env oa σ F H k) (R2 : Rel0 K e2 env2 oa2 σ2 F2 H2 k2) (g : Grow F F2 k k2) : Rel0 K ⟨H2, F2, k2⟩ (noOwn env) oa σ F2 H2 k2 := by
  refine ⟨R2.self, by unfold noOwn; rw [List.length_map]; exact R.len, fun i d hi => ?_, fun i ds hi => (noOwn_own hi).elim, fun i j ds es hi => (noOwn_own hi).elim⟩
  obtain ⟨v, h1, h2⟩ := R.val i d (noOwn_val hi)
  exact ⟨v, h1, At.grow g d v h2⟩
theorem dl_told {wx : DX} {WW : WX} {ZZ : Fz} {X : Cx} {x : Str} {k : Nat} {T1 : (D → Prop) → D → Prop} {T2 : (D → Prop) → Ex → Prop} {params : Arguments} {body : Expr} {scope : Scope} {p lpos pos : Pos} {fb : DX → DE} {q : Str}
    (C : Tol X.prog X.w X.K X.mg X.base x k T1 T2) (gd : X.A.guards = some []) (hr : Room (k + 2) X.A) (hg : Gl X x) (LO : LamOk X.K X.base X.mg X.env.code q) (eq : X.env.qual = q ++ ".<locals>.") (L : LamX.LamS X.env.scope scope) (hdef : defaultsOf params X.env = ([], []))
    (bind0 : ∀ (q : Str) (cl : List (Str × Addr)) (pm cv ctv : Value), bindArgs (PySem.W.kla_fn "<lambda>" q params body scope cl pm cv ctv) ⟨[], []⟩ = pure [])
    (hbody : ∀ (w : DX) (E : XK) (A : Around) (outer : List PySem.Env) (s : Shared) (H : Hp) (f c' : Addr), A.guards = some [] → Room k (A.deeper (LamX.lamEnv X scope s.heap.objs.size f c')) → Takes (LamX.lamCx X A outer s H E scope f c') (fun cls d _ H' => E cls d H') → PE (LamX.lamCx X A outer s H E scope f c') body (lift ((LamX.lamCx X A outer s H E scope f c').kx w (fun cls d _ H' => E cls d H') Fz.tt) (fb w)))
    (hdb : (x == ("__debug__" : Str)) = false := by decide) : PE X (.Call (.Name x p) [.Lambda params body scope lpos] [] pos) (lift (X.kx wx WW ZZ) (dTold T1 T2 fb)) := by
  obtain ⟨g, fd, pg, bg, sg, Ng, a, gt, F, hm, hk, hb, S, at_, vis, ⟨ha1, ha2⟩, walk, sem⟩ := C.ex
  obtain ⟨c, P, ec, TB, mT, uT⟩ := LO
  rw [← eq] at mT uT
  constructor
  intro pins s σ H Q I ⟨e, env, oa, F0, k0', PP, R, pp, qq⟩
  refine wpAny_Call_Name_kw (ld_glob I hg hm ?_ hdb)
  refine PySem.W.callWith_K (h₀ := X.base) I.ok.mod.kin hk ?_ (by rfl) (by rfl)
  show wpAny _ _ (spliced ((false, eval (.Lambda params body scope lpos) X.env) :: backTo pos (starEach [] X.env))) _ _ s
  refine Calls.spliced_cons (lam_make3 I TB ec mT uT R.wd.tb hdef (L.has I.ok) fun f c' pm ctv H1 s1 I1 keep tb1 of nf ff ⟨ps, tP, trip, among⟩ => ?_)
  refine Calls.spliced_nil ⟨I1.kIn, ?_⟩
  have R1 : Rel (X.kx wx WW ZZ) e env oa σ F0 H1 k0' := R.up (R.toRel0.kept mT keep tb1) (Grow.refl _ _)
  have run : codeAny (model X.prog X.w) X.A (.call (.ref g) ⟨[.ref f], []⟩) (CR (L2.CX X.prog X.w) X.stack X.prog X.w H1 s1 Q E0) s1 := by
    refine run_at (N := Ng) (ps := [a]) (us := [.ref f]) (vs := [.ref f]) (k := k + 1) F S gd hr I1.env0 (hb s1 [.ref f] I1.kIn rfl) (.cons rfl .nil) rfl fun cdv hr' => ?_
    refine ⟨_, (walk f (T1 fun d => PP d env) (T2 fun d => PP d env) ⟨fun F' k' => Grow F0 F' k0' k', fun g h => h.trans g⟩ cdv X.A X.stack s1 H1 gd hr' fun w W pn xe p1 p2 tk => ?_).nox, ?_⟩
    · constructor
      intro pinsZ sZ σZ HZ QZ IZ ⟨eZ, envZ, oaZ, FZ, kZ, PZ, RZ, ⟨z0, zP, zX⟩, qZ⟩
      obtain ⟨v, sv, av⟩ := RZ.val 0 _ z0
      simp only [At] at av
      subst av
      have cod : HZ c' = some (LamX.CodeO c' (X.env.qual ++ "<lambda>")) := by
        obtain ⟨more, hmore⟩ := IZ.base.tbls P ps tP
        obtain ⟨ps2, y1, y2, y3⟩ := RZ.wd.tb _ mT
        rw [hmore] at y1
        cases y1
        obtain ⟨c0, x1, x2⟩ := y3 lpos (.ref c') (by rw [Array.toList_append]; exact among_more _ _ trip among)
        cases x1
        exact x2
      refine act_run (tb := lift ((LamX.lamCx X (X.A.deeper (envOfC x sg s1.heap.objs.size g cdv)) (envOfC x sg s1.heap.objs.size g cdv :: X.stack) sZ HZ (WE W σZ) scope f c').kx (fun x _ => T2 (fun d => PP d env) x) (fun cls d _ H' => WE W σZ cls d H') Fz.tt) (fb fun x _ => T2 (fun d => PP d env) x)) I1 L of nf ff (bind0 _ _ _ _ _) tk hr' at_ vis ha1 ha2 IZ sv cod (fun t hr2 => ?_) ?_
      · exact hbody _ _ _ _ t HZ f c' gd hr2 (takes_of rfl rfl rfl rfl)
      · refine ⟨⟨HZ, FZ, kZ⟩, noOwn env, oa, FZ, kZ, _, ⟨R1.toRel0.later RZ.toRel0 RZ.pz, fun x env' oa' σ' F' H' k' cls d hx R' g' xa => ?_, trivial⟩, pp, fun d env' v oa' F' H' k' hd R' g' a' => ?_⟩
        · exact RZ.lnk x envZ oaZ σZ F' H' k' cls d (zX x hx) (RZ.toRel0.after R'.wd).1 g' xa
        · exact qZ d envZ v oaZ F' H' k' (zP d hd) (RZ.after R'.wd).1 g' a'
    · refine ⟨⟨H1, F0, k0'⟩, slots Ng.length [.raw (.ref f)], _, F0, k0', _, ⟨rel_start (N := Ng) R1.self (by simp [Ats, At]), fun _ _ _ _ _ _ _ _ _ z => False.elim z, Grow.refl _ _⟩, sem f fun d => PP d env, fun env' oa' σ' F' H' k' pz R' _ => ?_, fun d v H' hd ⟨F', k', V, av⟩ => ?_, fun env' _ _ _ _ _ z _ _ => z.elim, fun env' _ _ _ _ _ z _ _ => z.elim⟩
      · obtain ⟨R2, g2⟩ := R1.after R'.wd
        exact qq .non env .non oa F' H' k' pz R2 g2 (by simp only [At])
      · obtain ⟨R2, g2⟩ := R1.after V
        exact qq d env v oa F' H' k' hd R2 g2 av
  refine wpAny_call (codeAny_mono run fun r s' z => ?_)
  rcases r with z' | fl
  · obtain ⟨_, _, _, _, _, _, _, _, _, _, _, _, zz⟩ := z
    exact False.elim zz
  · cases fl
    case ret u => exact I1.after z
    all_goals exact False.elim z
end DL
namespace DL
open PySem PySem.Spec L2
/-! ### points and lines of the plane -/
abbrev T3 := Int × Int × Int
abbrev tr3 (p : T3) : D := .tup [.int p.1, .int p.2.1, .int p.2.2]
def ls3 (p : T3) : List Int := [p.1, p.2.1, p.2.2]
def crs (p q : T3) : T3 := (p.2.1 * q.2.2 - p.2.2 * q.2.1, p.2.2 * q.1 - p.1 * q.2.2, p.1 * q.2.1 - p.2.1 * q.1)
def dt3 (p q : T3) : Int := p.1 * q.1 + p.2.1 * q.2.1 + p.2.2 * q.2.2
def nz3 (p : T3) : Prop := ¬ (p.1 = 0 ∧ p.2.1 = 0 ∧ p.2.2 = 0)
def mul3 (p : T3) (t : Int) : T3 := (p.1 * t, p.2.1 * t, p.2.2 * t)
def sh3 (p : T3) : T3 := mul3 p 1 |> fun _ => (p.1 / gcdL (ls3 p) * sgL (ls3 p), p.2.1 / gcdL (ls3 p) * sgL (ls3 p), p.2.2 / gcdL (ls3 p) * sgL (ls3 p))
def lt3 (w : Nat) (p : T3) : Prop := Lt w p.1 ∧ Lt w p.2.1 ∧ Lt w p.2.2
def ptD : D → Bool
  | .tup [.int a, .int b, .int c] => relN [a, b, c]
  | _ => false
def PtR (p : T3) : Prop := relN (ls3 p) = true
def chd (p q : Pt) : T3 := (p.2 * q.2, -(p.1 * q.2 + p.2 * q.1), p.1 * q.1)
def bow (p : Pt) : T3 := (p.1 * p.1, p.1 * p.2, p.2 * p.2)
/-- all things looked at, the first bad one told -/
def chkB (f : D → Bool) (n : Str) (l : List D) (P : Prop) (PX : Ex → Prop) : Prop := match l.find? fun d => !f d with
  | none => P
  | some d => PX (n, [("thing", d)])
theorem chk_nil {f : D → Bool} {n : Str} {P : Prop} {PX : Ex → Prop} : chkB f n [] P PX = P := rfl
theorem chk_cons {f : D → Bool} {n : Str} {d : D} {l : List D} {P : Prop} {PX : Ex → Prop} : chkB f n (d :: l) P PX = if f d = true then chkB f n l P PX else PX (n, [("thing", d)]) := by
  unfold chkB
  cases e : f d <;> simp [e]
theorem chk_good {f : D → Bool} {n : Str} {l : List D} {P : Prop} {PX : Ex → Prop} (h : ∀ d ∈ l, f d = true) : chkB f n l P PX = P := by
  induction l with
  | nil => rfl
  | cons d l ih => rw [chk_cons, if_pos (h d (by simp)), ih fun e he => h e (List.mem_cons_of_mem _ he)]
theorem chk_mono {f : D → Bool} {n : Str} {l : List D} {P P' : Prop} {PX : Ex → Prop} (h : chkB f n l P PX) (g : (∀ d ∈ l, f d = true) → P → P') : chkB f n l P' PX := by
  induction l generalizing P P' with
  | nil => exact g (by simp) h
  | cons d l ih =>
    rw [chk_cons] at h ⊢
    by_cases e : f d = true
    · rw [if_pos e] at h ⊢
      exact ih h fun a b => g (fun x hx => (List.mem_cons.mp hx).elim (fun z => by rw [z]; exact e) (a x)) b
    · rw [if_neg e] at h ⊢; exact h
def colB (ps : List T3) : Bool := match ps with
  | [] => true
  | p :: _ => match ps.filter fun q => !decide (q = p) with
    | [] => true
    | u :: _ => ps.all fun q => decide (dt3 (crs p u) q = 0)
/-! ### what bends -/
mutual
def inB (w : Nat) : D → Bool
  | .int i => decide (i.natAbs < 2 ^ w)
  | .tup l => inBs w l
  | .lst l => inBs w l
  | .dic l => inBk w l
  | _ => true
def inBs (w : Nat) : List D → Bool
  | [] => true
  | d :: l => inB w d && inBs w l
def inBk (w : Nat) : List (Key × D) → Bool
  | [] => true
  | q :: l => inB w q.2 && inBk w l
end
structure OkW (w m : Nat) (d : D) : Prop where
  fd : FD (m + 1) (2000 * m) d
  ib : inB w d = true
/-- tuples in one another, of ints: at most n long, k deep -/
def Sh (n w : Nat) : Nat → D → Prop
  | _, .int i => Lt w i
  | k + 1, .tup l => l ≠ [] ∧ l.length ≤ n ∧ ∀ d ∈ l, Sh n w k d
  | _, _ => False
def SbP : Nat → SD
  | 0 => fun _ _ _ => False
  | k + 1 => fun ds P _ => ∃ (n w : Nat) (d : D), (n ≤ 9 ∧ w ≤ 320 ∧ k ≤ 3) ∧ ds = [.deck 0, d] ∧ Sh n w k d ∧ ∀ d', OkW (w + 1) (k + 1) d' → P d'
/-! ### plain mathematics of the plane -/
theorem tr3_sh (p : T3) : tr3 (sh3 p) = .tup ((shN (ls3 p)).map D.int) := rfl
theorem nz_ex {p : T3} : nz3 p ↔ ∃ n ∈ ls3 p, n ≠ 0 := by
  unfold nz3 ls3
  simp only [List.mem_cons, List.not_mem_nil, or_false, exists_eq_or_imp, exists_eq_left]
  omega
theorem ls3_inj {p q : T3} (h : ls3 p = ls3 q) : p = q := by
  obtain ⟨a, b, c⟩ := p
  obtain ⟨d, e, f⟩ := q
  simp [ls3] at h
  obtain ⟨rfl, rfl, rfl⟩ := h
  rfl
theorem ls3_sh (p : T3) : ls3 (sh3 p) = shN (ls3 p) := rfl
theorem ls3_mul (p : T3) (t : Int) : ls3 (mul3 p t) = (ls3 p).map (· * t) := rfl
theorem sh3_pt {p : T3} (h : nz3 p) : PtR (sh3 p) := by
  unfold PtR
  rw [ls3_sh]
  exact sh_rel (nz_ex.mp h)
theorem pt_nz {p : T3} (h : PtR p) : nz3 p := by
  unfold PtR relN at h
  rw [Bool.and_eq_true] at h
  exact nz_ex.mpr (int_some.mp h.1)
theorem pt_sh {p : T3} (h : PtR p) : sh3 p = p := by
  unfold PtR relN at h
  rw [Bool.and_eq_true] at h
  exact ls3_inj (by rw [ls3_sh]; exact of_decide_eq_true h.2)
theorem sh3_mul {p : T3} {t : Int} (ht : t ≠ 0) (h : nz3 p) : sh3 (mul3 p t) = sh3 p := ls3_inj (by rw [ls3_sh, ls3_sh, ls3_mul, sh_mul ht (nz_ex.mp h)])
theorem sh3_back {p : T3} (h : nz3 p) : ∃ t : Int, t ≠ 0 ∧ p = mul3 (sh3 p) t := by
  refine ⟨gcdL (ls3 p) * sgL (ls3 p), fun z => ?_, ls3_inj ?_⟩
  · have e := sh_back (nz_ex.mp h)
    rw [z] at e
    obtain ⟨n, hn, hz⟩ := nz_ex.mp h
    rw [e] at hn
    obtain ⟨m, _, rfl⟩ := List.mem_map.mp hn
    simp at hz
  · rw [ls3_mul, ls3_sh]
    exact sh_back (nz_ex.mp h)
theorem dt_mul (p q : T3) (t : Int) : dt3 p (mul3 q t) = dt3 p q * t := by unfold dt3 mul3; grind
theorem dt_sh {p q : T3} (h : nz3 q) : dt3 p (sh3 q) = 0 ↔ dt3 p q = 0 := by
  obtain ⟨t, ht, e⟩ := sh3_back h
  have : dt3 p q = dt3 p (sh3 q) * t := by rw [← dt_mul, ← e]
  rw [this]
  constructor
  · intro z; rw [z]; simp
  · intro z; exact (Int.mul_eq_zero.mp z).resolve_right ht
theorem sh3_lt {w : Nat} {p : T3} (h : nz3 p) (b : lt3 w p) : lt3 w (sh3 p) := by
  have := sh_lt (w := w) (nz_ex.mp h) (by
    intro n hn
    unfold ls3 at hn
    simp only [List.mem_cons, List.not_mem_nil, or_false] at hn
    rcases hn with rfl | rfl | rfl
    · exact b.1
    · exact b.2.1
    · exact b.2.2)
  rw [← ls3_sh] at this
  exact ⟨this _ (by simp [ls3]), this _ (by simp [ls3]), this _ (by simp [ls3])⟩
theorem mz {a b : Int} (h : a * b = 0) (n : a ≠ 0) : b = 0 := (Int.mul_eq_zero.mp h).resolve_left n
/-- parallel points are one -/
theorem crs_zero {p q : T3} (hp : PtR p) (hq : PtR q) (h : ¬ nz3 (crs p q)) : p = q := by
  have np := pt_nz hp
  have nq := pt_nz hq
  have key : ∀ t s : Int, t ≠ 0 → s ≠ 0 → mul3 q t = mul3 p s → p = q := fun t s ht hs e => by
    have h1 := sh3_mul ht nq
    have h2 := sh3_mul hs np
    rw [e, h2, pt_sh hp, pt_sh hq] at h1
    exact h1
  obtain ⟨a, b, c⟩ := p
  obtain ⟨d, e, f⟩ := q
  unfold nz3 crs at h
  simp only [Classical.not_not] at h
  obtain ⟨h1, h2, h3⟩ := h
  have e1 : b * f = c * e := by omega
  have e2 : c * d = a * f := by omega
  have e3 : a * e = b * d := by omega
  unfold nz3 at np nq
  simp only at np nq
  by_cases ha : a = 0
  · by_cases hb : b = 0
    · have hc : c ≠ 0 := fun z => np ⟨ha, hb, z⟩
      subst ha hb
      have d0 : d = 0 := mz (by grind : c * d = 0) hc
      have e0 : e = 0 := mz (by grind : c * e = 0) hc
      subst d0 e0
      exact key c f hc (fun z => nq ⟨rfl, rfl, z⟩) (by simp [mul3]; grind)
    · subst ha
      have d0 : d = 0 := mz (by grind : b * d = 0) hb
      subst d0
      have hE : e ≠ 0 := fun z => by
        subst z
        have : f = 0 := mz (by grind : b * f = 0) hb
        exact nq ⟨rfl, rfl, this⟩
      exact key b e hb hE (by simp [mul3]; grind)
  · have hd : d ≠ 0 := fun z => by
      subst z
      have z1 : e = 0 := mz (by grind : a * e = 0) ha
      have z2 : f = 0 := mz (by grind : a * f = 0) ha
      exact nq ⟨rfl, z1, z2⟩
    exact key a d ha hd (by simp [mul3]; grind)
/-! ### the bow -/
theorem chd_dt (p q r : Pt) : dt3 (bow r) (chd p q) = (p.2 * r.1 - p.1 * r.2) * (q.2 * r.1 - q.1 * r.2) := by unfold dt3 bow chd; grind
theorem bow_crs (p q : Pt) : crs (bow p) (bow q) = mul3 (chd p q) (p.1 * q.2 - p.2 * q.1) := by
  unfold crs bow chd mul3
  refine Prod.ext ?_ (Prod.ext ?_ ?_) <;> simp only <;> grind
theorem isP_eq {p q : Pt} (hp : IsP p.1 p.2) (hq : IsP q.1 q.2) : p.1 * q.2 - p.2 * q.1 = 0 ↔ p = q := by
  constructor
  · intro z
    refine Classical.byContradiction fun n => ?_
    exact cross_nz hp hq (fun e => n (Prod.ext e.1 e.2)) z
  · rintro rfl; grind
theorem reln_of {ns : List Int} (hg : gcdL ns = 1) (hs : sgL ns = 1) : relN ns = true := by
  have e : shN ns = ns := by
    unfold shN
    rw [hg, hs]
    simp
  have nz : ∃ n ∈ ns, n ≠ 0 := by
    refine Classical.byContradiction fun h => ?_
    have : ∀ l : List Int, (∀ n ∈ l, n = 0) → sgL l = 0 := by
      intro l
      induction l with
      | nil => intro _; rfl
      | cons a l ih =>
        intro hl
        unfold sgL
        rw [if_pos (hl a (by simp))]
        exact ih fun n hn => hl n (List.mem_cons_of_mem _ hn)
    rw [this ns fun n hn => Classical.byContradiction fun z => h ⟨n, hn, z⟩] at hs
    cases hs
  unfold relN
  rw [int_some.mpr nz, e]
  simp
theorem bow_pt {p : Pt} (h : IsP p.1 p.2) : PtR (bow p) := by
  obtain ⟨a, b⟩ := p
  unfold IsP at h
  simp only at h
  unfold PtR ls3 bow
  simp only
  rcases h with ⟨hb, hg⟩ | ⟨rfl, rfl⟩
  · refine reln_of ?_ ?_
    · unfold gcdL
      simp only [List.foldl, Nat.gcd_zero_left, Int.natAbs_mul]
      rw [Nat.gcd_mul_left, hg, Nat.mul_one]
      exact Nat.Coprime.mul_right hg hg
    · unfold sgL
      by_cases ha : a = 0
      · subst ha
        have : (0 : Int) < b * b := Int.mul_pos hb hb
        simp [sgL]
        omega
      · have h2 : 0 < a * a := by
          rcases Int.lt_or_gt_of_ne ha with z | z
          · exact Int.mul_pos_of_neg_of_neg z z
          · exact Int.mul_pos z z
        rw [if_neg (by omega), if_pos h2]
  · decide
theorem chd_nz {p q : Pt} (hp : IsP p.1 p.2) (hq : IsP q.1 q.2) : nz3 (chd p q) := by
  have h1 := isP_nz hp
  have h2 := isP_nz hq
  rintro ⟨z1, z2, z3⟩
  unfold chd at z1 z2 z3
  simp only at z1 z2 z3
  rcases Int.mul_eq_zero.mp z1 with a | a <;> rcases Int.mul_eq_zero.mp z3 with b | b
  · exact h1 ⟨b, a⟩
  · rw [a, b] at z2
    rcases Int.mul_eq_zero.mp (by grind : p.1 * q.2 = 0) with c | c
    · exact h1 ⟨c, a⟩
    · exact h2 ⟨b, c⟩
  · rw [a, b] at z2
    rcases Int.mul_eq_zero.mp (by grind : p.2 * q.1 = 0) with c | c
    · exact h1 ⟨b, c⟩
    · exact h2 ⟨c, a⟩
  · exact h2 ⟨b, a⟩
theorem bow_inj {p q : Pt} (hp : IsP p.1 p.2) (hq : IsP q.1 q.2) : bow p = bow q ↔ p = q := by
  constructor
  · intro e
    have h := bow_crs p q
    rw [e] at h
    have z : crs (bow q) (bow q) = (0, 0, 0) := by unfold crs; refine Prod.ext ?_ (Prod.ext ?_ ?_) <;> simp only <;> grind
    rw [z] at h
    have nz := chd_nz hp hq
    refine (isP_eq hp hq).mp (Classical.byContradiction fun n => nz ?_)
    unfold mul3 at h
    simp only [Prod.ext_iff] at h
    obtain ⟨x, y, w⟩ := h
    exact ⟨(Int.mul_eq_zero.mp x.symm).resolve_right n, (Int.mul_eq_zero.mp y.symm).resolve_right n, (Int.mul_eq_zero.mp w.symm).resolve_right n⟩
  · rintro rfl; rfl
theorem bow_dt {p q r : Pt} (hp : IsP p.1 p.2) (hq : IsP q.1 q.2) (hr : IsP r.1 r.2) (n : p ≠ q) : dt3 (crs (bow p) (bow q)) (bow r) = 0 ↔ r = p ∨ r = q := by
  have e : dt3 (crs (bow p) (bow q)) (bow r) = (p.2 * r.1 - p.1 * r.2) * (q.2 * r.1 - q.1 * r.2) * (p.1 * q.2 - p.2 * q.1) := by
    rw [bow_crs, ← chd_dt]
    unfold dt3 mul3
    grind
  rw [e]
  have n1 : p.1 * q.2 - p.2 * q.1 ≠ 0 := fun z => n ((isP_eq hp hq).mp z)
  have k1 := isP_eq hr hp
  have k2 := isP_eq hr hq
  constructor
  · intro z
    rcases Int.mul_eq_zero.mp ((Int.mul_eq_zero.mp z).resolve_right n1) with z | z
    · exact .inl (k1.mp (by grind))
    · exact .inr (k2.mp (by grind))
  · rintro (rfl | rfl) <;> grind
theorem bow_col {p q r : Pt} (hp : IsP p.1 p.2) (hq : IsP q.1 q.2) (hr : IsP r.1 r.2) : colB [bow p, bow q, bow r] = (decide (p = q) || decide (q = r) || decide (p = r)) := by
  unfold colB
  simp only [List.filter_cons, List.filter_nil, bow_inj hq hp, bow_inj hr hp]
  by_cases e1 : q = p
  · subst e1
    by_cases e2 : r = q
    · subst e2; simp
    · simp [e2, bow_dt hq hr hq (Ne.symm e2), bow_dt hq hr hr (Ne.symm e2)]
  · simp [e1, bow_dt hp hq hp (Ne.symm e1), bow_dt hp hq hq (Ne.symm e1), bow_dt hp hq hr (Ne.symm e1)]
    rw [Bool.eq_iff_iff]
    simp
    constructor
    · rintro (h | h)
      · exact .inr h.symm
      · exact .inl (.inr h.symm)
    · rintro ((h | h) | h)
      · exact absurd h.symm e1
      · exact .inr h.symm
      · exact .inl h.symm
end DL
namespace DL
open PySem PySem.Spec L2
/-! ### what the readings of the plane share -/
theorem cm700 {a b : Int} {m n : Nat} (ha : Lt m a) (hb : Lt n b) (h : m + n ≤ 90000) : CMulW a b := @Lt.cm _ _ _ _ ha hb (by omega)
theorem areT {d : D} (h : areD d 3 = true) : ∃ p : T3, d = tr3 p := by
  unfold areD at h
  split at h
  · rename_i l
    rw [Bool.and_eq_true, List.all_eq_true] at h
    obtain ⟨h1, h2⟩ := h
    have hl : l.length = 3 := by have := of_decide_eq_true h1; omega
    match l, hl with
    | [a, b, c], _ =>
      have k : ∀ d, intD d = true → ∃ i, d = .int i := fun d hd => by unfold intD at hd; split at hd <;> first | exact ⟨_, rfl⟩ | cases hd
      obtain ⟨a, rfl⟩ := k a (h2 a (by simp))
      obtain ⟨b, rfl⟩ := k b (h2 b (by simp))
      obtain ⟨c, rfl⟩ := k c (h2 c (by simp))
      exact ⟨(a, b, c), rfl⟩
  · cases h
theorem pt_no {d : D} (h : areD d 3 = false) : ptD d = false := by
  cases e : ptD d with
  | false => rfl
  | true =>
    unfold ptD at e
    split at e
    · simp [areD, intD] at h
    · cases e
theorem lf3 {p : T3} (h : leaf (tr3 p) = true) : lt3 340 p := by
  simp only [leaf, leafs, Bool.and_eq_true, decide_eq_true_eq, and_true] at h
  have k : (10 : Nat) ^ 100 < 2 ^ 340 := by decide +kernel
  exact ⟨.of (Nat.lt_trans h.1 k), .of (Nat.lt_trans h.2.1 k), .of (Nat.lt_trans h.2.2 k)⟩
theorem pt_tr {d : D} (h : ptD d = true) : ∃ p : T3, d = tr3 p ∧ PtR p := by
  unfold ptD at h
  split at h
  · rename_i a b c
    exact ⟨(a, b, c), rfl, h⟩
  · cases h
theorem two_ok {d1 d2 : D} (h : Ok d1 ∧ Ok d2) : ∀ d ∈ [d1, d2], Ok d := fun d hd => by
  simp only [List.mem_cons, List.not_mem_nil, or_false] at hd
  rcases hd with rfl | rfl
  · exact h.1
  · exact h.2
theorem eqv_tr (p q : T3) : eqv (tr3 p) (tr3 q) = decide (p = q) := by
  rw [Bool.eq_iff_iff]
  simp [Prod.ext_iff]
theorem ok_tr (p : T3) : eqOk (tr3 p) := (ok_ints (all_is (ls3 p))).2
theorem lt_up {w v : Nat} {p : T3} (h : lt3 w p) (k : w ≤ v) : lt3 v p := ⟨h.1.mono k, h.2.1.mono k, h.2.2.mono k⟩
theorem crs_lt {w : Nat} {p q : T3} (h : lt3 w p) (k : lt3 w q) : lt3 (w + w + 1) (crs p q) := by
  obtain ⟨p0, p1, p2⟩ := h
  obtain ⟨q0, q1, q2⟩ := k
  have m : ∀ {a b c d : Int}, Lt w a → Lt w b → Lt w c → Lt w d → Lt (w + w + 1) (a * b - c * d) := fun {a b c d} ha hb hc hd => by
    have h1 : (a * b).natAbs < 2 ^ (w + w) := by rw [Int.natAbs_mul, Nat.pow_add]; exact Nat.mul_lt_mul'' ha.h hb.h
    have h2 : (c * d).natAbs < 2 ^ (w + w) := by rw [Int.natAbs_mul, Nat.pow_add]; exact Nat.mul_lt_mul'' hc.h hd.h
    have h3 : (a * b - c * d).natAbs ≤ (a * b).natAbs + (c * d).natAbs := by omega
    exact .of (by rw [Nat.pow_succ]; omega)
  exact ⟨m p1 q2 p2 q1, m p2 q0 p0 q2, m p0 q1 p1 q0⟩
theorem short3 {p : T3} {R : D → Prop} (h : nz3 p) (b : lt3 900 p) (q : R (tr3 (sh3 p))) : ∃ ns : List Int, [tr3 p] = [D.tup (ns.map D.int)] ∧ ns.length ≤ 1000 ∧ (∃ n ∈ ns, n ≠ 0) ∧ (∀ n ∈ ns, Lt 1000 n) ∧ R (.tup ((shN ns).map D.int)) := by
  refine ⟨ls3 p, rfl, by unfold ls3; simp, nz_ex.mp h, fun n hn => ?_, q⟩
  unfold ls3 at hn
  simp only [List.mem_cons, List.not_mem_nil, or_false] at hn
  rcases hn with rfl | rfl | rfl
  · exact b.1.mono (by decide)
  · exact b.2.1.mono (by decide)
  · exact b.2.2.mono (by decide)
theorem trs_of : ∀ {l : List D}, (∀ d ∈ l, ptD d = true) → ∃ ps : List T3, l = ps.map tr3 ∧ ∀ p ∈ ps, PtR p
  | [], _ => ⟨[], rfl, by simp⟩
  | d :: l, h => by
    obtain ⟨p, rfl, hp⟩ := pt_tr (h d (by simp))
    obtain ⟨ps, rfl, hq⟩ := trs_of (l := l) fun e he => h e (List.mem_cons_of_mem _ he)
    exact ⟨p :: ps, rfl, fun x hx => (List.mem_cons.mp hx).elim (fun z => by rw [z]; exact hp) (hq x)⟩
theorem log9 {n w : Nat} (h : n < 2 ^ w) (hw : w ≤ 9000) : n.log2 < 9000 := by
  by_cases h0 : n = 0
  · rw [h0]; decide
  · exact Nat.lt_of_lt_of_le ((Nat.log2_lt h0).mpr h) hw
theorem in_all {w : Nat} : ∀ {l : List D}, (∀ d ∈ l, inB w d = true) → inBs w l = true
  | [], _ => rfl
  | d :: l, h => by
    unfold inBs
    rw [h d (by simp), in_all fun e he => h e (List.mem_cons_of_mem _ he)]
    rfl
theorem in_int {w v : Nat} {i : Int} (h : Lt w i) (hv : w ≤ v) : inB v (.int i) = true := by simp only [inB, decide_eq_true_eq]; exact (h.mono hv).h
theorem sh_fd {n w v : Nat} (hn : n ≤ 9) (hw : w ≤ 320) (hv : w ≤ v) : ∀ (k : Nat) (d : D), Sh n w k d → FD k (10 ^ k) d ∧ inB v d = true
  | 0, .int i, h => ⟨@FD.int' _ _ h (by omega), in_int h hv⟩
  | k + 1, .int i, h => ⟨(@FD.int' _ _ (show Lt w i from h) (by omega)).mono (by omega) (Nat.one_le_pow _ _ (by decide)), in_int (show Lt w i from h) hv⟩
  | k + 1, .tup l, h => by
    have ih := fun d hd => sh_fd hn hw hv k d (h.2.2 d hd)
    have h3 : 1 ≤ 10 ^ k := Nat.one_le_pow _ _ (by decide)
    exact ⟨(FD.tup (n := 9) (fun d hd => (ih d hd).1) (Nat.le_trans h.2.1 hn)).mono (Nat.le_refl _) (by rw [Nat.pow_succ]; omega), by simp only [inB]; exact in_all fun d hd => (ih d hd).2⟩
theorem sh_cases {n w : Nat} : ∀ {k : Nat} {d : D}, Sh n w k d → (∃ i, d = .int i ∧ Lt w i) ∨ ∃ j l, k = j + 1 ∧ d = .tup l ∧ l ≠ [] ∧ l.length ≤ n ∧ ∀ d ∈ l, Sh n w j d
  | 0, .int i, h => .inl ⟨i, rfl, h⟩
  | k + 1, .int i, h => .inl ⟨i, rfl, h⟩
  | k + 1, .tup l, h => .inr ⟨k, l, rfl, rfl, h⟩
theorem plc_ok {p : Pt} (a : Lt 41 p.1) (b : Lt 41 p.2) : FD 1 3 (plc p) := FD.tup (l := [.int p.1, .int p.2]) (n := 2) (fun d hd => by
  simp only [List.mem_cons, List.not_mem_nil, or_false] at hd
  rcases hd with rfl | rfl
  · exact @FD.int' _ _ a (by decide)
  · exact @FD.int' _ _ b (by decide)) (by simp)
theorem fok {k m : Nat} {d : D} (h : FD k m d) (h2 : m ≤ 100000) : Ok d := ⟨h.lf, Nat.le_trans h.sz h2⟩
theorem tr3_fd {p : T3} (h : lt3 330 p) : FD 1 4 (tr3 p) := FD.tup (l := [.int p.1, .int p.2.1, .int p.2.2]) (n := 3) (fun d hd => by
  simp only [List.mem_cons, List.not_mem_nil, or_false] at hd
  rcases hd with rfl | rfl | rfl
  · exact @FD.int' _ _ h.1 (by decide)
  · exact @FD.int' _ _ h.2.1 (by decide)
  · exact @FD.int' _ _ h.2.2 (by decide)) (by simp)
theorem mlt {a b : Int} (ha : Lt 41 a) (hb : Lt 41 b) : (a * b).natAbs < 2 ^ 82 := by
  rw [Int.natAbs_mul, show (2 : Nat) ^ 82 = 2 ^ 41 * 2 ^ 41 by decide]; exact Nat.mul_lt_mul'' ha.h hb.h
theorem chd_lt {p q : Pt} (p0 : Lt 41 p.1) (p1 : Lt 41 p.2) (q0 : Lt 41 q.1) (q1 : Lt 41 q.2) : lt3 83 (chd p q) := by
  have m1 := mlt p1 q1
  have m2 := mlt p0 q1
  have m3 := mlt p1 q0
  have m4 := mlt p0 q0
  have k2 : (2 : Nat) ^ 82 + 2 ^ 82 = 2 ^ 83 := by decide
  refine ⟨.of ?_, .of ?_, .of ?_⟩ <;> simp only [chd] <;> omega
theorem bow_lt {p : Pt} (p0 : Lt 41 p.1) (p1 : Lt 41 p.2) : lt3 83 (bow p) := by
  have m1 := mlt p0 p0
  have m2 := mlt p0 p1
  have m3 := mlt p1 p1
  have k2 : (2 : Nat) ^ 82 + 2 ^ 82 = 2 ^ 83 := by decide
  refine ⟨.of ?_, .of ?_, .of ?_⟩ <;> simp only [bow] <;> omega
structure Gp (p : Pt) : Prop where
  ip : IsP p.1 p.2
  l0 : Lt 40 p.1
  l1 : Lt 40 p.2
theorem Gp.ok {p : Pt} (h : Gp p) : Ok (plc p) := fok (plc_ok (h.l0.mono (by decide)) (h.l1.mono (by decide))) (by decide)
theorem Gp.pl {p : Pt} (h : Gp p) : plD (plc p) = true := pl_of h.ip
theorem tr3_inj {p q : T3} (h : tr3 p = tr3 q) : p = q := by
  simp only [D.tup.injEq, List.cons.injEq, D.int.injEq, and_true] at h
  exact Prod.ext h.1 (Prod.ext h.2.1 h.2.2)
theorem pt_ptD {p : T3} (h : PtR p) : ptD (tr3 p) = true := h
theorem show2 {d : D} {k m n : Nat} (h : FD k m d) (hk : k ≤ 40) (hm : m ≤ 1000) (hn : n ≤ 9) (l : List D) (hl : l.length = n) (he : ∀ x ∈ l, x = d) : ShowOk (.lst l) := ((FD.lst (n := 9) (k := k) (m := m) (fun x hx => by rw [he x hx]; exact h) (by omega)).fine (by omega) (by omega)).ok
theorem chd_comm (p q : Pt) : chd p q = chd q p := by unfold chd; refine Prod.ext ?_ (Prod.ext ?_ ?_) <;> simp only <;> grind
theorem o_plc {p q : Pt} {G : D → Prop} : oEq (plc p) (plc q) G = G (.bl (decide (p = q))) := by
  have e := eqv_plc p q
  have e2 : eqvs [D.int p.1, D.int p.2] [D.int q.1, D.int q.2] = decide (p = q) := e
  show oEq (.tup [.int p.1, .int p.2]) (.tup [.int q.1, .int q.2]) G = _
  rw [o_eq_tt, e2]
  simp
theorem ix_pt {ps : List Pt} {r : Int} (h0 : 0 ≤ r) (h1 : r < ps.length) : ∃ p ∈ ps, ixD (ps.map plc) r = some (plc p) ∧ ixD (ps.map fun p => tr3 (bow p)) r = some (tr3 (bow p)) := by
  have hl : r.toNat < ps.length := by omega
  refine ⟨ps[r.toNat], List.getElem_mem hl, ?_, ?_⟩
  · unfold ixD
    rw [if_pos h0, List.getElem?_map, List.getElem?_eq_getElem hl]
    rfl
  · unfold ixD
    rw [if_pos h0, List.getElem?_map, List.getElem?_eq_getElem hl]
    rfl
theorem two_of : ∀ {ps : List Pt}, 2 ≤ ps.length → ∃ p q pt, ps = p :: q :: pt
  | [], h => by simp at h
  | [_], h => by simp at h
  | p :: q :: pt, _ => ⟨p, q, pt, rfl⟩
theorem gp0 {a b : Int} (h : 0 < b) (g : Nat.gcd a.natAbs b.natAbs = 1) (ha : a.natAbs < 2 ^ 40) (hb : b.natAbs < 2 ^ 40) : Gp (a, b) := ⟨.inl ⟨h, g⟩, .of ha, .of hb⟩
theorem g10 : Gp (1, 0) := ⟨.inr ⟨rfl, rfl⟩, .of (by decide), .of (by decide)⟩
theorem places_of : ∀ {l : List D}, (∀ d ∈ l, ∃ p, d = plc p ∧ Gp p) → ∃ ps : List Pt, l = ps.map plc ∧ ∀ p ∈ ps, Gp p
  | [], _ => ⟨[], rfl, by simp⟩
  | d :: l, h => by
    obtain ⟨p, rfl, hp⟩ := h d (by simp)
    obtain ⟨ps, rfl, hq⟩ := places_of (l := l) fun e he => h e (List.mem_cons_of_mem _ he)
    exact ⟨p :: ps, rfl, fun x hx => (List.mem_cons.mp hx).elim (fun z => by rw [z]; exact hp) (hq x)⟩
end DL
namespace K17
open PySem PySem.Spec L2 DL
/-! ### the text -/
abbrev N_is_integer : List Str := ["thing"]
abbrev P_is_integer : List Str := ["thing"]
theorem sc_is_integer : FnScope N_is_integer P_is_integer (defScope s_is_integer) := ⟨rfl, rfl, rfl, by decide +kernel, rfl, by decide +kernel, by decide +kernel⟩
abbrev kw_is_integer : List (Nat × List Str × List Nat) := []
/-- lvl -/
abbrev lv_is_integer : Nat := 1
abbrev N_are_integers : List Str := ["thing", "many", "part"]
abbrev P_are_integers : List Str := ["thing", "many"]
theorem sc_are_integers : FnScope N_are_integers P_are_integers (defScope s_are_integers) := ⟨rfl, rfl, rfl, by decide +kernel, rfl, by decide +kernel, by decide +kernel⟩
abbrev kw_are_integers : List (Nat × List Str × List Nat) := []
/-- lvl -/
abbrev lv_are_integers : Nat := 2
abbrev N_common_divisor : List Str := ["one", "other"]
abbrev P_common_divisor : List Str := ["one", "other"]
theorem sc_common_divisor : FnScope N_common_divisor P_common_divisor (defScope s_common_divisor) := ⟨rfl, rfl, rfl, by decide +kernel, rfl, by decide +kernel, by decide +kernel⟩
abbrev kw_common_divisor : List (Nat × List Str × List Nat) := []
/-- lvl -/
abbrev lv_common_divisor : Nat := 1
abbrev N_product : List Str := ["one", "other", "p", "q", "r", "s", "t", "u", "v", "w"]
abbrev P_product : List Str := ["one", "other"]
theorem sc_product : FnScope N_product P_product (defScope s_product) := ⟨rfl, rfl, rfl, by decide +kernel, rfl, by decide +kernel, by decide +kernel⟩
abbrev kw_product : List (Nat × List Str × List Nat) := []
/-- lvl -/
abbrev lv_product : Nat := 1
abbrev N_discriminant_of : List Str := ["form", "a", "b", "c"]
abbrev P_discriminant_of : List Str := ["form"]
theorem sc_discriminant_of : FnScope N_discriminant_of P_discriminant_of (defScope s_discriminant_of) := ⟨rfl, rfl, rfl, by decide +kernel, rfl, by decide +kernel, by decide +kernel⟩
abbrev kw_discriminant_of : List (Nat × List Str × List Nat) := []
/-- lvl -/
abbrev lv_discriminant_of : Nat := 1
abbrev N_is_positive : List Str := ["thing"]
abbrev P_is_positive : List Str := ["thing"]
theorem sc_is_positive : FnScope N_is_positive P_is_positive (defScope s_is_positive) := ⟨rfl, rfl, rfl, by decide +kernel, rfl, by decide +kernel, by decide +kernel⟩
abbrev kw_is_positive : List (Nat × List Str × List Nat) := []
/-- lvl -/
abbrev lv_is_positive : Nat := 3
abbrev N_is_whole_change : List Str := ["thing"]
abbrev P_is_whole_change : List Str := ["thing"]
theorem sc_is_whole_change : FnScope N_is_whole_change P_is_whole_change (defScope s_is_whole_change) := ⟨rfl, rfl, rfl, by decide +kernel, rfl, by decide +kernel, by decide +kernel⟩
abbrev kw_is_whole_change : List (Nat × List Str × List Nat) := []
/-- lvl -/
abbrev lv_is_whole_change : Nat := 3
abbrev N_check_forms : List Str := ["forms", "form"]
abbrev P_check_forms : List Str := ["forms"]
theorem sc_check_forms : FnScope N_check_forms P_check_forms (defScope s_check_forms) := ⟨rfl, rfl, rfl, by decide +kernel, rfl, by decide +kernel, by decide +kernel⟩
abbrev kw_check_forms : List (Nat × List Str × List Nat) := []
/-- lvl -/
abbrev lv_check_forms : Nat := 4
abbrev N_lead : List Str := ["form", "change", "a", "b", "c", "p", "q", "r", "s", "first", "middle", "last"]
abbrev P_lead : List Str := ["form", "change"]
theorem sc_lead : FnScope N_lead P_lead (defScope s_lead) := ⟨rfl, rfl, rfl, by decide +kernel, rfl, by decide +kernel, by decide +kernel⟩
abbrev kw_lead : List (Nat × List Str × List Nat) := []
/-- lvl -/
abbrev lv_lead : Nat := 1
abbrev N_reduction : List Str := ["form", "change", "a", "b", "c", "shift", "step"]
abbrev P_reduction : List Str := ["form"]
theorem sc_reduction : FnScope N_reduction P_reduction (defScope s_reduction) := ⟨rfl, rfl, rfl, by decide +kernel, rfl, by decide +kernel, by decide +kernel⟩
abbrev kw_reduction : List (Nat × List Str × List Nat) := []
/-- lvl -/
abbrev lv_reduction : Nat := 2
abbrev N_led_form : List Str := ["form", "change"]
abbrev P_led_form : List Str := ["form", "change"]
theorem sc_led_form : FnScope N_led_form P_led_form (defScope s_led_form) := ⟨rfl, rfl, rfl, by decide +kernel, rfl, by decide +kernel, by decide +kernel⟩
abbrev kw_led_form : List (Nat × List Str × List Nat) := [(0, ["change", "form"], [1, 0])]
/-- lvl -/
abbrev lv_led_form : Nat := 5
abbrev N_class_of : List Str := ["form"]
abbrev P_class_of : List Str := ["form"]
theorem sc_class_of : FnScope N_class_of P_class_of (defScope s_class_of) := ⟨rfl, rfl, rfl, by decide +kernel, rfl, by decide +kernel, by decide +kernel⟩
abbrev kw_class_of : List (Nat × List Str × List Nat) := [(0, ["form"], [0])]
/-- lvl -/
abbrev lv_class_of : Nat := 5
abbrev N_reducing : List Str := ["form"]
abbrev P_reducing : List Str := ["form"]
theorem sc_reducing : FnScope N_reducing P_reducing (defScope s_reducing) := ⟨rfl, rfl, rfl, by decide +kernel, rfl, by decide +kernel, by decide +kernel⟩
abbrev kw_reducing : List (Nat × List Str × List Nat) := [(0, ["form"], [0])]
/-- lvl -/
abbrev lv_reducing : Nat := 5
abbrev N__law_deck : List Str := ["script", "cells", "mixed", "cell"]
abbrev P__law_deck : List Str := ["script"]
theorem sc__law_deck : FnScope N__law_deck P__law_deck (defScope s__law_deck) := ⟨rfl, rfl, rfl, by decide +kernel, rfl, by decide +kernel, by decide +kernel⟩
abbrev kw__law_deck : List (Nat × List Str × List Nat) := []
/-- lvl -/
abbrev lv__law_deck : Nat := 1
abbrev N__law_draw : List Str := ["deck", "below", "cell"]
abbrev P__law_draw : List Str := ["deck", "below"]
theorem sc__law_draw : FnScope N__law_draw P__law_draw (defScope s__law_draw) := ⟨rfl, rfl, rfl, by decide +kernel, rfl, by decide +kernel, by decide +kernel⟩
abbrev kw__law_draw : List (Nat × List Str × List Nat) := []
/-- lvl -/
abbrev lv__law_draw : Nat := 1
abbrev N__law_pick : List Str := ["deck", "some"]
abbrev P__law_pick : List Str := ["deck", "some"]
theorem sc__law_pick : FnScope N__law_pick P__law_pick (defScope s__law_pick) := ⟨rfl, rfl, rfl, by decide +kernel, rfl, by decide +kernel, by decide +kernel⟩
abbrev kw__law_pick : List (Nat × List Str × List Nat) := []
/-- lvl -/
abbrev lv__law_pick : Nat := 2
abbrev N__law_common : List Str := ["some", "whole", "one", "other"]
abbrev P__law_common : List Str := ["some"]
theorem sc__law_common : FnScope N__law_common P__law_common (defScope s__law_common) := ⟨rfl, rfl, rfl, by decide +kernel, rfl, by decide +kernel, by decide +kernel⟩
abbrev kw__law_common : List (Nat × List Str × List Nat) := []
/-- lvl -/
abbrev lv__law_common : Nat := 1
abbrev N__law_are_integers : List Str := ["many", "thing", "one"]
abbrev P__law_are_integers : List Str := ["many", "thing"]
theorem sc__law_are_integers : FnScope N__law_are_integers P__law_are_integers (defScope s__law_are_integers) := ⟨rfl, rfl, rfl, by decide +kernel, rfl, by decide +kernel, by decide +kernel⟩
abbrev kw__law_are_integers : List (Nat × List Str × List Nat) := []
/-- lvl -/
abbrev lv__law_are_integers : Nat := 1
abbrev N__law_is_positive : List Str := ["thing"]
abbrev P__law_is_positive : List Str := ["thing"]
theorem sc__law_is_positive : FnScope N__law_is_positive P__law_is_positive (defScope s__law_is_positive) := ⟨rfl, rfl, rfl, by decide +kernel, rfl, by decide +kernel, by decide +kernel⟩
abbrev kw__law_is_positive : List (Nat × List Str × List Nat) := []
/-- lvl -/
abbrev lv__law_is_positive : Nat := 2
abbrev N__law_is_whole : List Str := ["thing"]
abbrev P__law_is_whole : List Str := ["thing"]
theorem sc__law_is_whole : FnScope N__law_is_whole P__law_is_whole (defScope s__law_is_whole) := ⟨rfl, rfl, rfl, by decide +kernel, rfl, by decide +kernel, by decide +kernel⟩
abbrev kw__law_is_whole : List (Nat × List Str × List Nat) := []
/-- lvl -/
abbrev lv__law_is_whole : Nat := 2
abbrev N__law_led : List Str := ["form", "change", "a", "b", "c", "p", "q", "r", "s", "first", "last"]
abbrev P__law_led : List Str := ["form", "change"]
theorem sc__law_led : FnScope N__law_led P__law_led (defScope s__law_led) := ⟨rfl, rfl, rfl, by decide +kernel, rfl, by decide +kernel, by decide +kernel⟩
abbrev kw__law_led : List (Nat × List Str × List Nat) := []
/-- lvl -/
abbrev lv__law_led : Nat := 1
abbrev N__law_product : List Str := ["one", "other", "p", "q", "r", "s", "t", "u", "v", "w"]
abbrev P__law_product : List Str := ["one", "other"]
theorem sc__law_product : FnScope N__law_product P__law_product (defScope s__law_product) := ⟨rfl, rfl, rfl, by decide +kernel, rfl, by decide +kernel, by decide +kernel⟩
abbrev kw__law_product : List (Nat × List Str × List Nat) := []
/-- lvl -/
abbrev lv__law_product : Nat := 1
abbrev N__law_reducing : List Str := ["form", "whole", "turn", "a", "b", "c", "step"]
abbrev P__law_reducing : List Str := ["form"]
theorem sc__law_reducing : FnScope N__law_reducing P__law_reducing (defScope s__law_reducing) := ⟨rfl, rfl, rfl, by decide +kernel, rfl, by decide +kernel, by decide +kernel⟩
abbrev kw__law_reducing : List (Nat × List Str × List Nat) := []
/-- lvl -/
abbrev lv__law_reducing : Nat := 2
abbrev N__law_classes : List Str := ["discriminant", "found", "a", "b", "c"]
abbrev P__law_classes : List Str := ["discriminant"]
theorem sc__law_classes : FnScope N__law_classes P__law_classes (defScope s__law_classes) := ⟨rfl, rfl, rfl, by decide +kernel, rfl, by decide +kernel, by decide +kernel⟩
abbrev kw__law_classes : List (Nat × List Str × List Nat) := []
/-- lvl -/
abbrev lv__law_classes : Nat := 2
abbrev N__law_discriminant : List Str := ["deck", "most"]
abbrev P__law_discriminant : List Str := ["deck", "most"]
theorem sc__law_discriminant : FnScope N__law_discriminant P__law_discriminant (defScope s__law_discriminant) := ⟨rfl, rfl, rfl, by decide +kernel, rfl, by decide +kernel, by decide +kernel⟩
abbrev kw__law_discriminant : List (Nat × List Str × List Nat) := []
/-- lvl -/
abbrev lv__law_discriminant : Nat := 3
abbrev N__law_change : List Str := ["deck", "many", "found", "turn", "x"]
abbrev P__law_change : List Str := ["deck", "many"]
theorem sc__law_change : FnScope N__law_change P__law_change (defScope s__law_change) := ⟨rfl, rfl, rfl, by decide +kernel, rfl, by decide +kernel, by decide +kernel⟩
abbrev kw__law_change : List (Nat × List Str × List Nat) := []
/-- lvl -/
abbrev lv__law_change : Nat := 3
abbrev N__law_form : List Str := ["deck", "discriminant", "many"]
abbrev P__law_form : List Str := ["deck", "discriminant", "many"]
theorem sc__law_form : FnScope N__law_form P__law_form (defScope s__law_form) := ⟨rfl, rfl, rfl, by decide +kernel, rfl, by decide +kernel, by decide +kernel⟩
abbrev kw__law_form : List (Nat × List Str × List Nat) := []
/-- lvl -/
abbrev lv__law_form : Nat := 4
abbrev N__law_wide : List Str := ["deck", "found", "turn", "a", "form", "near", "x"]
abbrev P__law_wide : List Str := ["deck"]
theorem sc__law_wide : FnScope N__law_wide P__law_wide (defScope s__law_wide) := ⟨rfl, rfl, rfl, by decide +kernel, rfl, by decide +kernel, by decide +kernel⟩
abbrev kw__law_wide : List (Nat × List Str × List Nat) := []
/-- lvl -/
abbrev lv__law_wide : Nat := 4
abbrev N__law_bent : List Str := ["deck", "thing", "at"]
abbrev P__law_bent : List Str := ["deck", "thing"]
theorem sc__law_bent : FnScope N__law_bent P__law_bent (defScope s__law_bent) := ⟨rfl, rfl, rfl, by decide +kernel, rfl, by decide +kernel, by decide +kernel⟩
abbrev kw__law_bent : List (Nat × List Str × List Nat) := []
/-- lvl -/
abbrev lv__law_bent : Nat := 6
abbrev N__law_value : List Str := ["form", "x", "y"]
abbrev P__law_value : List Str := ["form", "x", "y"]
theorem sc__law_value : FnScope N__law_value P__law_value (defScope s__law_value) := ⟨rfl, rfl, rfl, by decide +kernel, rfl, by decide +kernel, by decide +kernel⟩
abbrev kw__law_value : List (Nat × List Str × List Nat) := []
/-- lvl -/
abbrev lv__law_value : Nat := 1
abbrev N__law_told : List Str := ["call", "told", "e"]
abbrev P__law_told : List Str := ["call"]
theorem sc__law_told : FnScope N__law_told P__law_told (defScope s__law_told) := ⟨rfl, rfl, rfl, by decide +kernel, rfl, by decide +kernel, by decide +kernel⟩
abbrev kw__law_told : List (Nat × List Str × List Nat) := []
/-- lvl -/
abbrev lv__law_told : Nat := 7
/-- lvl -/
abbrev lk__law_told : Nat := 5
abbrev N__law_is_right : List Str := ["form", "change", "more", "due", "least", "whole", "told", "x", "y"]
abbrev P__law_is_right : List Str := ["form", "change", "more"]
theorem sc__law_is_right : FnScope N__law_is_right P__law_is_right (defScope s__law_is_right) := ⟨rfl, rfl, rfl, by decide +kernel, rfl, by decide +kernel, by decide +kernel⟩
abbrev kw__law_is_right : List (Nat × List Str × List Nat) := []
/-- lvl -/
abbrev lv__law_is_right : Nat := 6
abbrev N_law : List Str := ["script", "deck", "discriminant", "form", "change", "more", "near", "wide", "turn", "bad", "wrong", "told", "x"]
abbrev P_law : List Str := ["script"]
theorem sc_law : FnScope N_law P_law (defScope s_law) := ⟨rfl, rfl, rfl, by decide +kernel, rfl, by decide +kernel, by decide +kernel⟩
abbrev kw_law : List (Nat × List Str × List Nat) := []
structure Zs (mg : Str → Option Value) : Prop where
  z_abs : mg "abs" = none
  z_all : mg "all" = none
  z_bool : mg "bool" = none
  z_int : mg "int" = none
  z_isinstance : mg "isinstance" = none
  z_len : mg "len" = none
  z_list : mg "list" = none
  z_max : mg "max" = none
  z_range : mg "range" = none
  z_repr : mg "repr" = none
  z_str : mg "str" = none
  z_tuple : mg "tuple" = none
/-! ### known promises -/
abbrev S_is_integer : SD := S_isint
abbrev S_are_integers : SD := S_areints
abbrev S_common_divisor : SD := S_gcd
abbrev S__law_deck : SD := S_deck 0
abbrev S__law_draw : SD := S_draw 0
def S__law_pick : SD := fun ds P _ => match ds with
  | [.deck m, .tup l] => m = 0 ∧ l ≠ [] ∧ l.length ≤ 1000000 ∧ ∀ d ∈ l, P d
  | [.deck m, .lst l] => m = 0 ∧ l ≠ [] ∧ l.length ≤ 1000000 ∧ ∀ d ∈ l, P d
  | _ => False
def S__law_common : SD := fun ds P _ => ∃ ns : List Int, ds = [.tup (ns.map D.int)] ∧ P (.int (gcdL ns))
def S__law_are_integers : SD := fun ds P _ => match ds with
  | [.int n, d] => Ok d ∧ P (.bl (areD d n))
  | _ => False
def S__law_product : SD := fun ds P _ => ∃ c d : Chg, ds = [chg c, chg d] ∧ CLt 400 c ∧ CLt 400 d ∧ P (chg (mulC c d))
abbrev S__law_bent : SD := SbP 4
/-! ### what each def promises -/
def posD : D → Bool
  | .tup [.int a, .int b, .int c] => decide (0 < a) && decide (b * b - 4 * a * c < 0) && (Nat.gcd (Nat.gcd a.natAbs b.natAbs) c.natAbs == 1)
  | _ => false
def whD : D → Bool
  | .tup [.int a, .int b, .int c, .int d] => decide (a * d - b * c = 1)
  | _ => false
def redB (a b c : Int) : Bool := (decide (-a < b) && decide (b ≤ a) && decide (a ≤ c)) && (decide (0 ≤ b) || decide (a < c))
def GoodF (e a b c : Int) : Prop := 0 < a ∧ b * b - 4 * a * c = e ∧ Nat.gcd (Nat.gcd a.natAbs b.natAbs) c.natAbs = 1
def DD (e : Int) : Prop := -2003 ≤ e ∧ e ≤ -3
def Dis (e : Int) : Prop := DD e ∧ (e % 4 = 0 ∨ e % 4 = 1)
def itemOf (e a b : Int) : Option D := if (b * b - e) % (4 * a) = 0 ∧ redB a b ((b * b - e) / (4 * a)) = true ∧ Nat.gcd (Nat.gcd a.natAbs b.natAbs) ((b * b - e) / (4 * a)).natAbs = 1 then some (.tup [.int a, .int b, .int ((b * b - e) / (4 * a))]) else none
def rowF (e a : Int) (n : Nat) : List D := (List.range n).filterMap fun (i : Nat) => itemOf e a (1 - a + i)
def cls (e : Int) (m : Nat) : List D := (List.range m).flatMap fun (k : Nat) => rowF e ((k : Int) + 1) (2 * (k + 1))
def disF (f : T3) : Int := f.2.1 * f.2.1 - 4 * f.1 * f.2.2
abbrev redF (f : T3) : Prop := redB f.1 f.2.1 f.2.2 = true
abbrev Gf (e : Int) (f : T3) : Prop := GoodF e f.1 f.2.1 f.2.2
def WD (e : Int) : Prop := -1000000100 ≤ e ∧ e < 0
def ldF (f : T3) (m : Chg) : T3 := (f.1 * m.p * m.p + f.2.1 * m.p * m.r + f.2.2 * m.r * m.r, 2 * f.1 * m.p * m.q + f.2.1 * (m.p * m.s + m.q * m.r) + 2 * f.2.2 * m.r * m.s, f.1 * m.q * m.q + f.2.1 * m.q * m.s + f.2.2 * m.s * m.s)
structure LdTo (f g : T3) (m : Chg) : Prop where
  ld : ldF f m = g
  dt : detC m = 1
def S_discriminant_of : SD := fun ds P _ => ∃ f : T3, ds = [tr3 f] ∧ lt3 400 f ∧ P (.int (disF f))
def S_is_positive : SD := fun ds P _ => ∃ d : D, ds = [d] ∧ Ok d ∧ P (.bl (posD d))
def S_is_whole_change : SD := fun ds P _ => ∃ d : D, ds = [d] ∧ Ok d ∧ P (.bl (whD d))
def S_check_forms : SD := fun ds P PX => ∃ d : D, ds = [.tup [d]] ∧ Ok d ∧ (posD d = true → P .non) ∧ (posD d = false → PX ("BadForm", [("thing", d)]))
def S_lead : SD := fun ds P _ => ∃ (f : T3) (m : Chg), ds = [tr3 f, chg m] ∧ lt3 400 f ∧ CLt 400 m ∧ P (tr3 (ldF f m))
def S_reduction : SD := fun ds P _ => ∃ (e : Int) (f : T3), ds = [tr3 f] ∧ WD e ∧ Gf e f ∧ lt3 240 f ∧ ∀ (g : T3) (m : Chg), redF g → LdTo f g m → lt3 240 g → CLt 250 m → P (.tup [tr3 g, chg m])
def S_led_form : SD := fun ds P PX => ∃ d1 d2 : D, ds = [d1, d2] ∧ (Ok d1 ∧ Ok d2) ∧ (posD d1 = false → PX ("BadForm", [("thing", d1)])) ∧ (posD d1 = true → whD d2 = false → PX ("BadChange", [("thing", d2)])) ∧ (posD d1 = true → ∀ (f : T3) (m : Chg), d1 = tr3 f → d2 = chg m → detC m = 1 → P (tr3 (ldF f m)))
def S_class_of : SD := fun ds P PX => ∃ d : D, ds = [d] ∧ Ok d ∧ (posD d = false → PX ("BadForm", [("thing", d)])) ∧ (posD d = true → ∃ (e : Int) (f : T3), d = tr3 f ∧ WD e ∧ Gf e f ∧ lt3 240 f ∧ ∀ (g : T3) (m : Chg), redF g → LdTo f g m → lt3 240 g → P (tr3 g))
def S_reducing : SD := fun ds P PX => ∃ d : D, ds = [d] ∧ Ok d ∧ (posD d = false → PX ("BadForm", [("thing", d)])) ∧ (posD d = true → ∃ (e : Int) (f : T3), d = tr3 f ∧ WD e ∧ Gf e f ∧ lt3 240 f ∧ ∀ (g : T3) (m : Chg), redF g → LdTo f g m → CLt 250 m → P (chg m))
def S__law_is_positive : SD := fun ds P _ => ∃ d : D, ds = [d] ∧ Ok d ∧ P (.bl (posD d))
def S__law_is_whole : SD := fun ds P _ => ∃ d : D, ds = [d] ∧ Ok d ∧ P (.bl (whD d))
def S__law_led : SD := fun ds P _ => ∃ (f : T3) (m : Chg), ds = [tr3 f, chg m] ∧ lt3 400 f ∧ CLt 400 m ∧ P (tr3 (ldF f m))
def S__law_reducing : SD := fun ds P _ => ∃ (e : Int) (f : T3), ds = [tr3 f] ∧ WD e ∧ Gf e f ∧ lt3 240 f ∧ ∀ (g : T3) (m : Chg), redF g → LdTo f g m → lt3 240 g → P (.tup [tr3 g, chg m])
def S__law_classes : SD := fun ds P _ => match ds with
  | [.int e] => DD e ∧ P (.lst (cls e 29))
  | _ => False
def S__law_discriminant : SD := fun ds P _ => match ds with
  | [.deck n, .int m] => n = 0 ∧ 1 ≤ m ∧ m ≤ 499 ∧ ∀ e : Int, Dis e → P (.int e)
  | _ => False
def S__law_change : SD := fun ds P _ => ∃ m : Int, ds = [.deck 0, .int m] ∧ (0 ≤ m ∧ m ≤ 8) ∧ ∀ c : Chg, CLt 30 c → detC c = 1 → P (chg c)
def S__law_form : SD := fun ds P _ => ∃ e m : Int, ds = [.deck 0, .int e, .int m] ∧ Dis e ∧ (0 ≤ m ∧ m ≤ 8) ∧ ∀ f : T3, Gf e f → lt3 100 f → P (tr3 f)
def S__law_wide : SD := fun ds P _ => ds = [.deck 0] ∧ ∀ (e : Int) (f : T3), WD e → Gf e f → lt3 100 f → P (tr3 f)
def S__law_value : SD := fun ds P _ => ∃ (f : T3) (x y : Int), ds = [tr3 f, .int x, .int y] ∧ lt3 400 f ∧ (Lt 400 x ∧ Lt 400 y) ∧ P (.int (f.1 * x * x + f.2.1 * x * y + f.2.2 * y * y))
def T1__law_told (PP : D → Prop) (d : D) : Prop := PP (.tup [.str "told", d])
def T2__law_told (PP : D → Prop) (x : Ex) : Prop := (∃ d, x = (("BadForm", [("thing", d)]) : Ex) ∧ PP (.tup [.str "form", d, .bl true])) ∨ ∃ d, x = (("BadChange", [("thing", d)]) : Ex) ∧ PP (.tup [.str "change", d, .bl true])
def S__law_is_right : SD := fun ds P _ => ∃ (e : Int) (f : T3) (c m : Chg), ds = [tr3 f, chg c, chg m] ∧ WD e ∧ Gf e f ∧ lt3 100 f ∧ (CLt 30 c ∧ CLt 30 m) ∧ (detC c = 1 ∧ detC m = 1) ∧ P (.bl true)
section
variable {P : Program} {w : World} {K : PySem.W.Frag} {mg : Str → Option Value} {base : Heap} {a : Addr}
def g_is_integer : DS := (dRet (dAndV (dBlt cIsi (dCons (dVar 0) (dCons (dC (.raw (.ty "int"))) dNil))) (dNotV (dBlt cIsi (dCons (dVar 0) (dCons (dC (.raw (.ty "bool"))) dNil))))))
theorem w_is_integer (z : Zs mg) (sy : SysOk K)  : ∀ (cdv : Value) (A : Around) (outer : List PySem.Env) (s : Shared) (H : Hp) (E : XK), A.guards = some [] → Room 0 (A.deeper (PyProof.Rows.envOfC "is_integer" (defScope s_is_integer) s.heap.objs.size a cdv)) →
    PSs (cxOf (L2.CX P w) P w K mg base N_is_integer "is_integer" (defScope s_is_integer) a cdv A outer s H E).nox (defBody s_is_integer) (liftS (k0 K mg) g_is_integer) := by
  intro cdv A outer s H E gd hr
  exact (ds_one (ds_ret (dl_and (dl_callB cd_isi (by rfl) z.z_isinstance bt_isinstance (da_cons (dl_var (pv 0)) (da_cons (dl_raw (pe_bltn (by rfl) z.z_int bt_int (by exact rfl))) da_nil))) (dl_one (dl_not (dl_callB cd_isi (by rfl) z.z_isinstance bt_isinstance (da_cons (dl_var (pv 0)) (da_cons (dl_raw (pe_bltn (by rfl) z.z_bool bt_bool (by exact rfl))) da_nil))))))))
def g_are_integers : DS := (dRet (dAndV (dBlt cIsi (dCons (dVar 0) (dCons (dC (.raw (.ty "tuple"))) dNil))) (dAndV (dBin oEq (dBlt cLen (dCons (dVar 0) dNil)) (dVar 1)) (dBlt cAll (dCons (dLc (dItems (dVar 0)) (gName 2) dYes (dCall S_is_integer (dCons (dVar 2) dNil)) [2]) dNil)))))
theorem w_are_integers (z : Zs mg) (sy : SysOk K) (C_is_integer : Cal P w K mg base "is_integer" P_is_integer lv_is_integer kw_is_integer S_is_integer) : ∀ (cdv : Value) (A : Around) (outer : List PySem.Env) (s : Shared) (H : Hp) (E : XK), A.guards = some [] → Room 1 (A.deeper (PyProof.Rows.envOfC "are_integers" (defScope s_are_integers) s.heap.objs.size a cdv)) →
    PSs (cxOf (L2.CX P w) P w K mg base N_are_integers "are_integers" (defScope s_are_integers) a cdv A outer s H E).nox (defBody s_are_integers) (liftS (k0 K mg) g_are_integers) := by
  intro cdv A outer s H E gd hr
  exact (ds_one (ds_ret (dl_and (dl_callB cd_isi (by rfl) z.z_isinstance bt_isinstance (da_cons (dl_var (pv 0)) (da_cons (dl_raw (pe_bltn (by rfl) z.z_tuple bt_tuple (by exact rfl))) da_nil))) (dl_and (dl_cm (opd_eq hr.units) (dl_callB cd_len (by rfl) z.z_len bt_len (da_cons (dl_var (pv 0)) da_nil)) (dl_var (pv 1)) (nomark _)) (dl_one (dl_callB (cd_all rfl) (by rfl) z.z_all bt_all (da_cons (dl_lc (own := [("part", 2)]) rfl sc_are_integers.nd (di_items (dl_var (pv 0))) (blkOk_by (N := N_are_integers) (sc := defScope s_are_integers) (by decide +kernel)) (fun _ _ _ _ _ => (dg_name (pg_name (i := 2) sc_are_integers.nd rfl (by first | exact Or.inl rfl | exact Or.inr rfl)))) (fun _ _ _ _ _ => dts_nil) (fun _ _ _ _ _ => (dc C_is_integer gd (hr.mono (by decide)) (by rfl) (da_cons (dl_var (pv 2)) da_nil))) (by decide)) da_nil)))))))
def g_common_divisor : DS := (dSeq (dPar 0 1 (dCons (dBlt cAbs (dCons (dVar 0) dNil)) (dCons (dBlt cAbs (dCons (dVar 1) dNil)) dNil)))
  (dSeq (dWhile (dTest (dBin oNe (dVar 1) (dC (.int 0)))) (dPar 0 1 (dCons (dVar 1) (dCons (dBin oMod (dVar 0) (dVar 1)) dNil))))
  (dRet (dVar 0))))
theorem w_common_divisor (z : Zs mg) (sy : SysOk K)  : ∀ (cdv : Value) (A : Around) (outer : List PySem.Env) (s : Shared) (H : Hp) (E : XK), A.guards = some [] → Room 0 (A.deeper (PyProof.Rows.envOfC "common_divisor" (defScope s_common_divisor) s.heap.objs.size a cdv)) →
    PSs (cxOf (L2.CX P w) P w K mg base N_common_divisor "common_divisor" (defScope s_common_divisor) a cdv A outer s H E).nox (defBody s_common_divisor) (liftS (k0 K mg) g_common_divisor) := by
  intro cdv A outer s H E gd hr
  exact (ds_cons ((ps_par (i := 0) (j := 1) (by rfl) sc_common_divisor.nd rfl rfl (by decide) rfl rfl (da_cons (dl_callB cd_abs (by rfl) z.z_abs bt_abs (da_cons (dl_var (pv 0)) da_nil)) (da_cons (dl_callB cd_abs (by rfl) z.z_abs bt_abs (da_cons (dl_var (pv 1)) da_nil)) da_nil)) (by rfl)).w lift_par)
  (ds_cons (ds_while PassesOwn.never (dt_cm (opd_ne hr.units) (dl_var (pv 1)) dl_int (nomark _)) (ds_one ((ps_par (i := 0) (j := 1) (by rfl) sc_common_divisor.nd rfl rfl (by decide) rfl rfl (da_cons (dl_var (pv 1)) (da_cons (dl_bin opd_mod (dl_var (pv 0)) (dl_var (pv 1))) da_nil)) (by rfl)).w lift_par)))
  (ds_one (ds_ret (dl_var (pv 0))))))
def g_product : DS := (dSeq (dAsg (dVar 0) (gTup 4 (gCons (gName 2) (gCons (gName 3) (gCons (gName 4) (gCons (gName 5) gNil))))))
  (dSeq (dAsg (dVar 1) (gTup 4 (gCons (gName 6) (gCons (gName 7) (gCons (gName 8) (gCons (gName 9) gNil))))))
  (dRet (dTup (dCons (dBin oAdd (dBin oMul (dVar 2) (dVar 6)) (dBin oMul (dVar 3) (dVar 8))) (dCons (dBin oAdd (dBin oMul (dVar 2) (dVar 7)) (dBin oMul (dVar 3) (dVar 9))) (dCons (dBin oAdd (dBin oMul (dVar 4) (dVar 6)) (dBin oMul (dVar 5) (dVar 8))) (dCons (dBin oAdd (dBin oMul (dVar 4) (dVar 7)) (dBin oMul (dVar 5) (dVar 9))) dNil))))))))
theorem w_product (z : Zs mg) (sy : SysOk K)  : ∀ (cdv : Value) (A : Around) (outer : List PySem.Env) (s : Shared) (H : Hp) (E : XK), A.guards = some [] → Room 0 (A.deeper (PyProof.Rows.envOfC "product" (defScope s_product) s.heap.objs.size a cdv)) →
    PSs (cxOf (L2.CX P w) P w K mg base N_product "product" (defScope s_product) a cdv A outer s H E).nox (defBody s_product) (liftS (k0 K mg) g_product) := by
  intro cdv A outer s H E gd hr
  exact (ds_cons (ds_asg (dl_var (pv 0)) (dg_tup rfl (dg_cons (dg_name (pg_name (i := 2) sc_product.nd rfl (Or.inl rfl))) (dg_cons (dg_name (pg_name (i := 3) sc_product.nd rfl (Or.inl rfl))) (dg_cons (dg_name (pg_name (i := 4) sc_product.nd rfl (Or.inl rfl))) (dg_cons (dg_name (pg_name (i := 5) sc_product.nd rfl (Or.inl rfl))) dg_nil))))))
  (ds_cons (ds_asg (dl_var (pv 1)) (dg_tup rfl (dg_cons (dg_name (pg_name (i := 6) sc_product.nd rfl (Or.inl rfl))) (dg_cons (dg_name (pg_name (i := 7) sc_product.nd rfl (Or.inl rfl))) (dg_cons (dg_name (pg_name (i := 8) sc_product.nd rfl (Or.inl rfl))) (dg_cons (dg_name (pg_name (i := 9) sc_product.nd rfl (Or.inl rfl))) dg_nil))))))
  (ds_one (ds_ret (dl_tup (da_cons (dl_bin opd_add (dl_bin opd_mul (dl_var (pv 2)) (dl_var (pv 6))) (dl_bin opd_mul (dl_var (pv 3)) (dl_var (pv 8)))) (da_cons (dl_bin opd_add (dl_bin opd_mul (dl_var (pv 2)) (dl_var (pv 7))) (dl_bin opd_mul (dl_var (pv 3)) (dl_var (pv 9)))) (da_cons (dl_bin opd_add (dl_bin opd_mul (dl_var (pv 4)) (dl_var (pv 6))) (dl_bin opd_mul (dl_var (pv 5)) (dl_var (pv 8)))) (da_cons (dl_bin opd_add (dl_bin opd_mul (dl_var (pv 4)) (dl_var (pv 7))) (dl_bin opd_mul (dl_var (pv 5)) (dl_var (pv 9)))) da_nil)))))))))
def g_discriminant_of : DS := (dSeq (dAsg (dVar 0) (gTup 3 (gCons (gName 1) (gCons (gName 2) (gCons (gName 3) gNil)))))
  (dRet (dBin oSub (dBin oMul (dVar 2) (dVar 2)) (dBin oMul (dBin oMul (dC (.int 4)) (dVar 1)) (dVar 3)))))
theorem w_discriminant_of (z : Zs mg) (sy : SysOk K)  : ∀ (cdv : Value) (A : Around) (outer : List PySem.Env) (s : Shared) (H : Hp) (E : XK), A.guards = some [] → Room 0 (A.deeper (PyProof.Rows.envOfC "discriminant_of" (defScope s_discriminant_of) s.heap.objs.size a cdv)) →
    PSs (cxOf (L2.CX P w) P w K mg base N_discriminant_of "discriminant_of" (defScope s_discriminant_of) a cdv A outer s H E).nox (defBody s_discriminant_of) (liftS (k0 K mg) g_discriminant_of) := by
  intro cdv A outer s H E gd hr
  exact (ds_cons (ds_asg (dl_var (pv 0)) (dg_tup rfl (dg_cons (dg_name (pg_name (i := 1) sc_discriminant_of.nd rfl (Or.inl rfl))) (dg_cons (dg_name (pg_name (i := 2) sc_discriminant_of.nd rfl (Or.inl rfl))) (dg_cons (dg_name (pg_name (i := 3) sc_discriminant_of.nd rfl (Or.inl rfl))) dg_nil)))))
  (ds_one (ds_ret (dl_bin opd_sub (dl_bin opd_mul (dl_var (pv 2)) (dl_var (pv 2))) (dl_bin opd_mul (dl_bin opd_mul dl_int (dl_var (pv 1))) (dl_var (pv 3)))))))
def g_is_positive : DS := (dSeq (dIf (dOr (dNot (dTest (dCall S_are_integers (dCons (dVar 0) (dCons (dC (.int 3)) dNil))))) (dOr (dTest (dBin oLe (dBin oIx (dVar 0) (dC (.int 0))) (dC (.int 0)))) (dTest (dBin oGe (dCall S_discriminant_of (dCons (dVar 0) dNil)) (dC (.int 0)))))) (dRet (dC (.bl false))) dNext)
  (dRet (dBin oEq (dCall S_common_divisor (dCons (dCall S_common_divisor (dCons (dBin oIx (dVar 0) (dC (.int 0))) (dCons (dBin oIx (dVar 0) (dC (.int 1))) dNil))) (dCons (dBin oIx (dVar 0) (dC (.int 2))) dNil))) (dC (.int 1)))))
theorem w_is_positive (z : Zs mg) (sy : SysOk K) (C_are_integers : Cal P w K mg base "are_integers" P_are_integers lv_are_integers kw_are_integers S_are_integers) (C_discriminant_of : Cal P w K mg base "discriminant_of" P_discriminant_of lv_discriminant_of kw_discriminant_of S_discriminant_of) (C_common_divisor : Cal P w K mg base "common_divisor" P_common_divisor lv_common_divisor kw_common_divisor S_common_divisor) : ∀ (cdv : Value) (A : Around) (outer : List PySem.Env) (s : Shared) (H : Hp) (E : XK), A.guards = some [] → Room 2 (A.deeper (PyProof.Rows.envOfC "is_positive" (defScope s_is_positive) s.heap.objs.size a cdv)) →
    PSs (cxOf (L2.CX P w) P w K mg base N_is_positive "is_positive" (defScope s_is_positive) a cdv A outer s H E).nox (defBody s_is_positive) (liftS (k0 K mg) g_is_positive) := by
  intro cdv A outer s H E gd hr
  exact (ds_cons (ds_if (dw_or (dt_not (dt_val (dc C_are_integers gd (hr.mono (by decide)) (by rfl) (da_cons (dl_var (pv 0)) (da_cons dl_int da_nil))))) (dw_or (dt_cm opd_le (dl_ix (dl_var (pv 0)) dl_int) dl_int (nomark _)) (dw_or1 (dt_cm opd_ge (dc C_discriminant_of gd (hr.mono (by decide)) (by rfl) (da_cons (dl_var (pv 0)) da_nil)) dl_int (nomark _))))).pt (ds_one (ds_ret dl_bl)) ds_nil)
  (ds_one (ds_ret (dl_cm (opd_eq hr.units) (dc C_common_divisor gd (hr.mono (by decide)) (by rfl) (da_cons (dc C_common_divisor gd (hr.mono (by decide)) (by rfl) (da_cons (dl_ix (dl_var (pv 0)) dl_int) (da_cons (dl_ix (dl_var (pv 0)) dl_int) da_nil))) (da_cons (dl_ix (dl_var (pv 0)) dl_int) da_nil))) dl_int (nomark _)))))
def g_is_whole_change : DS := (dRet (dAndV (dCall S_are_integers (dCons (dVar 0) (dCons (dC (.int 4)) dNil))) (dBin oEq (dBin oSub (dBin oMul (dBin oIx (dVar 0) (dC (.int 0))) (dBin oIx (dVar 0) (dC (.int 3)))) (dBin oMul (dBin oIx (dVar 0) (dC (.int 1))) (dBin oIx (dVar 0) (dC (.int 2))))) (dC (.int 1)))))
theorem w_is_whole_change (z : Zs mg) (sy : SysOk K) (C_are_integers : Cal P w K mg base "are_integers" P_are_integers lv_are_integers kw_are_integers S_are_integers) : ∀ (cdv : Value) (A : Around) (outer : List PySem.Env) (s : Shared) (H : Hp) (E : XK), A.guards = some [] → Room 2 (A.deeper (PyProof.Rows.envOfC "is_whole_change" (defScope s_is_whole_change) s.heap.objs.size a cdv)) →
    PSs (cxOf (L2.CX P w) P w K mg base N_is_whole_change "is_whole_change" (defScope s_is_whole_change) a cdv A outer s H E).nox (defBody s_is_whole_change) (liftS (k0 K mg) g_is_whole_change) := by
  intro cdv A outer s H E gd hr
  exact (ds_one (ds_ret (dl_and (dc C_are_integers gd (hr.mono (by decide)) (by rfl) (da_cons (dl_var (pv 0)) (da_cons dl_int da_nil))) (dl_one (dl_cm (opd_eq hr.units) (dl_bin opd_sub (dl_bin opd_mul (dl_ix (dl_var (pv 0)) dl_int) (dl_ix (dl_var (pv 0)) dl_int)) (dl_bin opd_mul (dl_ix (dl_var (pv 0)) dl_int) (dl_ix (dl_var (pv 0)) dl_int))) dl_int (nomark _))))))
def g_check_forms (wx : DX) : DS := (dSeq (dFor (dItems (dVar 0)) (gName 1) (dIf (dNot (dTest (dCall S_is_positive (dCons (dVar 1) dNil)))) (dRaise1 wx "BadForm" "thing" (dVar 1)) dNext))
  (dFor (dItems (dVar 0)) (gName 1) (dIf (dTest (dBin oNe (dCall S_discriminant_of (dCons (dVar 1) dNil)) (dCall S_discriminant_of (dCons (dBin oIx (dVar 0) (dC (.int 0))) dNil)))) (dRaise0 wx "OtherForms") dNext)))
theorem w_check_forms (z : Zs mg) (sy : SysOk K) (r_BadForm : XR1 K mg "BadForm" "thing") (r_OtherForms : XR0 K mg "OtherForms") (C_is_positive : Cal P w K mg base "is_positive" P_is_positive lv_is_positive kw_is_positive S_is_positive) (C_discriminant_of : Cal P w K mg base "discriminant_of" P_discriminant_of lv_discriminant_of kw_discriminant_of S_discriminant_of) : ∀ (cdv : Value) (A : Around) (outer : List PySem.Env) (s : Shared) (H : Hp) (E : XK) (wx : DX), A.guards = some [] → Room 3 (A.deeper (PyProof.Rows.envOfC "check_forms" (defScope s_check_forms) s.heap.objs.size a cdv)) →
    PSs (cxOf (L2.CX P w) P w K mg base N_check_forms "check_forms" (defScope s_check_forms) a cdv A outer s H E) (defBody s_check_forms) (liftS ⟨K, mg, wx, fun cls d _ H' => E cls d H', Fz.tt⟩ (g_check_forms wx)) := by
  intro cdv A outer s H E wx gd hr
  have tk : Takes (cxOf (L2.CX P w) P w K mg base N_check_forms "check_forms" (defScope s_check_forms) a cdv A outer s H E) (fun cls d _ H' => E cls d H') := takes_of rfl rfl rfl rfl
  have po : PassesOwn (model P w) (cxOf (L2.CX P w) P w K mg base N_check_forms "check_forms" (defScope s_check_forms) a cdv A outer s H E).A (cxOf (L2.CX P w) P w K mg base N_check_forms "check_forms" (defScope s_check_forms) a cdv A outer s H E).env (cxOf (L2.CX P w) P w K mg base N_check_forms "check_forms" (defScope s_check_forms) a cdv A outer s H E).xe := PassesOwn.leaving
  exact (ds_cons (ds_for po rfl (di_items (dl_var (pv 0))) (dg_name (pg_name (i := 1) sc_check_forms.nd rfl (Or.inl rfl))) (ds_one (ds_if (dt_not (dt_val (dc C_is_positive gd (hr.mono (by decide)) (by rfl) (da_cons (dl_var (pv 1)) da_nil)))) (ds_one (dr1 r_BadForm rfl tk hr (by rfl) (dl_var (pv 1)))) ds_nil)))
  (ds_one (ds_for po rfl (di_items (dl_var (pv 0))) (dg_name (pg_name (i := 1) sc_check_forms.nd rfl (Or.inl rfl))) (ds_one (ds_if (dt_cm (opd_ne hr.units) (dc C_discriminant_of gd (hr.mono (by decide)) (by rfl) (da_cons (dl_var (pv 1)) da_nil)) (dc C_discriminant_of gd (hr.mono (by decide)) (by rfl) (da_cons (dl_ix (dl_var (pv 0)) dl_int) da_nil)) (nomark _)) (ds_one (dr0 r_OtherForms rfl tk (by rfl))) ds_nil)))))
def g_lead : DS := (dSeq (dAsg (dVar 0) (gTup 3 (gCons (gName 2) (gCons (gName 3) (gCons (gName 4) gNil)))))
  (dSeq (dAsg (dVar 1) (gTup 4 (gCons (gName 5) (gCons (gName 6) (gCons (gName 7) (gCons (gName 8) gNil))))))
  (dSeq (dAsg (dBin oAdd (dBin oAdd (dBin oMul (dBin oMul (dVar 2) (dVar 5)) (dVar 5)) (dBin oMul (dBin oMul (dVar 3) (dVar 5)) (dVar 7))) (dBin oMul (dBin oMul (dVar 4) (dVar 7)) (dVar 7))) (gName 9))
  (dSeq (dAsg (dBin oAdd (dBin oAdd (dBin oMul (dBin oMul (dBin oMul (dC (.int 2)) (dVar 2)) (dVar 5)) (dVar 6)) (dBin oMul (dVar 3) (dBin oAdd (dBin oMul (dVar 5) (dVar 8)) (dBin oMul (dVar 6) (dVar 7))))) (dBin oMul (dBin oMul (dBin oMul (dC (.int 2)) (dVar 4)) (dVar 7)) (dVar 8))) (gName 10))
  (dSeq (dAsg (dBin oAdd (dBin oAdd (dBin oMul (dBin oMul (dVar 2) (dVar 6)) (dVar 6)) (dBin oMul (dBin oMul (dVar 3) (dVar 6)) (dVar 8))) (dBin oMul (dBin oMul (dVar 4) (dVar 8)) (dVar 8))) (gName 11))
  (dRet (dTup (dCons (dVar 9) (dCons (dVar 10) (dCons (dVar 11) dNil))))))))))
theorem w_lead (z : Zs mg) (sy : SysOk K)  : ∀ (cdv : Value) (A : Around) (outer : List PySem.Env) (s : Shared) (H : Hp) (E : XK), A.guards = some [] → Room 0 (A.deeper (PyProof.Rows.envOfC "lead" (defScope s_lead) s.heap.objs.size a cdv)) →
    PSs (cxOf (L2.CX P w) P w K mg base N_lead "lead" (defScope s_lead) a cdv A outer s H E).nox (defBody s_lead) (liftS (k0 K mg) g_lead) := by
  intro cdv A outer s H E gd hr
  exact (ds_cons (ds_asg (dl_var (pv 0)) (dg_tup rfl (dg_cons (dg_name (pg_name (i := 2) sc_lead.nd rfl (Or.inl rfl))) (dg_cons (dg_name (pg_name (i := 3) sc_lead.nd rfl (Or.inl rfl))) (dg_cons (dg_name (pg_name (i := 4) sc_lead.nd rfl (Or.inl rfl))) dg_nil)))))
  (ds_cons (ds_asg (dl_var (pv 1)) (dg_tup rfl (dg_cons (dg_name (pg_name (i := 5) sc_lead.nd rfl (Or.inl rfl))) (dg_cons (dg_name (pg_name (i := 6) sc_lead.nd rfl (Or.inl rfl))) (dg_cons (dg_name (pg_name (i := 7) sc_lead.nd rfl (Or.inl rfl))) (dg_cons (dg_name (pg_name (i := 8) sc_lead.nd rfl (Or.inl rfl))) dg_nil))))))
  (ds_cons (ds_set (i := 9) sc_lead.nd rfl (Or.inl rfl) (dl_bin opd_add (dl_bin opd_add (dl_bin opd_mul (dl_bin opd_mul (dl_var (pv 2)) (dl_var (pv 5))) (dl_var (pv 5))) (dl_bin opd_mul (dl_bin opd_mul (dl_var (pv 3)) (dl_var (pv 5))) (dl_var (pv 7)))) (dl_bin opd_mul (dl_bin opd_mul (dl_var (pv 4)) (dl_var (pv 7))) (dl_var (pv 7)))))
  (ds_cons (ds_set (i := 10) sc_lead.nd rfl (Or.inl rfl) (dl_bin opd_add (dl_bin opd_add (dl_bin opd_mul (dl_bin opd_mul (dl_bin opd_mul dl_int (dl_var (pv 2))) (dl_var (pv 5))) (dl_var (pv 6))) (dl_bin opd_mul (dl_var (pv 3)) (dl_bin opd_add (dl_bin opd_mul (dl_var (pv 5)) (dl_var (pv 8))) (dl_bin opd_mul (dl_var (pv 6)) (dl_var (pv 7)))))) (dl_bin opd_mul (dl_bin opd_mul (dl_bin opd_mul dl_int (dl_var (pv 4))) (dl_var (pv 7))) (dl_var (pv 8)))))
  (ds_cons (ds_set (i := 11) sc_lead.nd rfl (Or.inl rfl) (dl_bin opd_add (dl_bin opd_add (dl_bin opd_mul (dl_bin opd_mul (dl_var (pv 2)) (dl_var (pv 6))) (dl_var (pv 6))) (dl_bin opd_mul (dl_bin opd_mul (dl_var (pv 3)) (dl_var (pv 6))) (dl_var (pv 8)))) (dl_bin opd_mul (dl_bin opd_mul (dl_var (pv 4)) (dl_var (pv 8))) (dl_var (pv 8)))))
  (ds_one (ds_ret (dl_tup (da_cons (dl_var (pv 9)) (da_cons (dl_var (pv 10)) (da_cons (dl_var (pv 11)) da_nil)))))))))))
def b_reduction_1 : DS := (dAsg (dVar 0) (gTup 3 (gCons (gName 2) (gCons (gName 3) (gCons (gName 4) gNil)))))
def b_reduction_2 : DS := (dAsg (dBin oDiv (dBin oSub (dVar 2) (dVar 3)) (dBin oMul (dC (.int 2)) (dVar 2))) (gName 5))
def b_reduction_3 : DS := (dIf (dTest (dBin oNe (dVar 5) (dC (.int 0)))) (dAsg (dTup (dCons (dC (.int 1)) (dCons (dVar 5) (dCons (dC (.int 0)) (dCons (dC (.int 1)) dNil))))) (gName 6)) (dIf (dOr (dTest (dBin oGt (dVar 2) (dVar 4))) (dAnd (dTest (dBin oEq (dVar 2) (dVar 4))) (dTest (dBin oLt (dVar 3) (dC (.int 0)))))) (dAsg (dTup (dCons (dC (.int 0)) (dCons (dNeg (dC (.int 1))) (dCons (dC (.int 1)) (dCons (dC (.int 0)) dNil))))) (gName 6)) (dRet (dTup (dCons (dVar 0) (dCons (dVar 1) dNil))))))
def b_reduction_4 : DS := (dAsg (dCall S_lead (dCons (dVar 0) (dCons (dVar 6) dNil))) (gName 0))
def b_reduction_5 : DS := (dAsg (dCall S_product (dCons (dVar 1) (dCons (dVar 6) dNil))) (gName 1))
def b_reduction_6 : DS := (dWhile (dTru (dC (.bl true))) (dSeq b_reduction_1
  (dSeq b_reduction_2
  (dSeq b_reduction_3
  (dSeq b_reduction_4
  b_reduction_5)))))
def g_reduction : DS := (dSeq (dAsg (dC c_NO_CHANGE) (gName 1))
  b_reduction_6)
theorem w_reduction (z : Zs mg) (sy : SysOk K) (k_NO_CHANGE : CoK K mg "NO_CHANGE" c_NO_CHANGE) (C_lead : Cal P w K mg base "lead" P_lead lv_lead kw_lead S_lead) (C_product : Cal P w K mg base "product" P_product lv_product kw_product S_product) : ∀ (cdv : Value) (A : Around) (outer : List PySem.Env) (s : Shared) (H : Hp) (E : XK), A.guards = some [] → Room 1 (A.deeper (PyProof.Rows.envOfC "reduction" (defScope s_reduction) s.heap.objs.size a cdv)) →
    PSs (cxOf (L2.CX P w) P w K mg base N_reduction "reduction" (defScope s_reduction) a cdv A outer s H E).nox (defBody s_reduction) (liftS (k0 K mg) g_reduction) := by
  intro cdv A outer s H E gd hr
  exact (ds_cons (ds_set (i := 1) sc_reduction.nd rfl (Or.inl rfl) (dl_con k_NO_CHANGE (by rfl)))
  (ds_one (ds_while PassesOwn.never (dt_tru dl_bl) (ds_cons (ds_asg (dl_var (pv 0)) (dg_tup rfl (dg_cons (dg_name (pg_name (i := 2) sc_reduction.nd rfl (Or.inl rfl))) (dg_cons (dg_name (pg_name (i := 3) sc_reduction.nd rfl (Or.inl rfl))) (dg_cons (dg_name (pg_name (i := 4) sc_reduction.nd rfl (Or.inl rfl))) dg_nil)))))
  (ds_cons (ds_set (i := 5) sc_reduction.nd rfl (Or.inl rfl) (dl_bin opd_div (dl_bin opd_sub (dl_var (pv 2)) (dl_var (pv 3))) (dl_bin opd_mul dl_int (dl_var (pv 2)))))
  (ds_cons (ds_if (dt_cm (opd_ne hr.units) (dl_var (pv 5)) dl_int (nomark _)) (ds_one (ds_set (i := 6) sc_reduction.nd rfl (Or.inl rfl) (dl_tup (da_cons dl_int (da_cons (dl_var (pv 5)) (da_cons dl_int (da_cons dl_int da_nil))))))) (ds_one (ds_if (dw_or (dt_cm opd_gt (dl_var (pv 2)) (dl_var (pv 4)) (nomark _)) (dw_or1 (dw_and (dt_cm (opd_eq hr.units) (dl_var (pv 2)) (dl_var (pv 4)) (nomark _)) (dw_and1 (dt_cm opd_lt (dl_var (pv 3)) dl_int (nomark _)))).pt)).pt (ds_one (ds_set (i := 6) sc_reduction.nd rfl (Or.inl rfl) (dl_tup (da_cons dl_int (da_cons (dl_neg dl_int) (da_cons dl_int (da_cons dl_int da_nil))))))) (ds_one (ds_ret (dl_tup (da_cons (dl_var (pv 0)) (da_cons (dl_var (pv 1)) da_nil))))))))
  (ds_cons (ds_set (i := 0) sc_reduction.nd rfl (Or.inl rfl) (dc C_lead gd (hr.mono (by decide)) (by rfl) (da_cons (dl_var (pv 0)) (da_cons (dl_var (pv 6)) da_nil))))
  (ds_one (ds_set (i := 1) sc_reduction.nd rfl (Or.inl rfl) (dc C_product gd (hr.mono (by decide)) (by rfl) (da_cons (dl_var (pv 1)) (da_cons (dl_var (pv 6)) da_nil))))))))))))
def g_led_form (wx : DX) : DS := (dSeq (dDrop (dCallX wx S_check_forms (dCons (dTup (dCons (dVar 0) dNil)) dNil)))
  (dSeq (dIf (dNot (dTest (dCall S_is_whole_change (dCons (dVar 1) dNil)))) (dRaise1 wx "BadChange" "thing" (dVar 1)) dNext)
  (dRet (dCall S_lead (dCons (dVar 0) (dCons (dVar 1) dNil))))))
theorem w_led_form (z : Zs mg) (sy : SysOk K) (r_BadChange : XR1 K mg "BadChange" "thing") (C_check_forms : Cal P w K mg base "check_forms" P_check_forms lv_check_forms kw_check_forms S_check_forms) (C_is_whole_change : Cal P w K mg base "is_whole_change" P_is_whole_change lv_is_whole_change kw_is_whole_change S_is_whole_change) (C_lead : Cal P w K mg base "lead" P_lead lv_lead kw_lead S_lead) : ∀ (cdv : Value) (A : Around) (outer : List PySem.Env) (s : Shared) (H : Hp) (E : XK) (wx : DX), A.guards = some [] → Room 4 (A.deeper (PyProof.Rows.envOfC "led_form" (defScope s_led_form) s.heap.objs.size a cdv)) →
    PSs (cxOf (L2.CX P w) P w K mg base N_led_form "led_form" (defScope s_led_form) a cdv A outer s H E) (defBody s_led_form) (liftS ⟨K, mg, wx, fun cls d _ H' => E cls d H', Fz.tt⟩ (g_led_form wx)) := by
  intro cdv A outer s H E wx gd hr
  have tk : Takes (cxOf (L2.CX P w) P w K mg base N_led_form "led_form" (defScope s_led_form) a cdv A outer s H E) (fun cls d _ H' => E cls d H') := takes_of rfl rfl rfl rfl
  have po : PassesOwn (model P w) (cxOf (L2.CX P w) P w K mg base N_led_form "led_form" (defScope s_led_form) a cdv A outer s H E).A (cxOf (L2.CX P w) P w K mg base N_led_form "led_form" (defScope s_led_form) a cdv A outer s H E).env (cxOf (L2.CX P w) P w K mg base N_led_form "led_form" (defScope s_led_form) a cdv A outer s H E).xe := PassesOwn.leaving
  exact (ds_cons (ds_expr (dcx C_check_forms tk gd (hr.mono (by decide)) (by rfl) (da_cons (dl_tup (da_cons (dl_var (pv 0)) da_nil)) da_nil)))
  (ds_cons (ds_if (dt_not (dt_val (dc C_is_whole_change gd (hr.mono (by decide)) (by rfl) (da_cons (dl_var (pv 1)) da_nil)))) (ds_one (dr1 r_BadChange rfl tk hr (by rfl) (dl_var (pv 1)))) ds_nil)
  (ds_one (ds_ret (dc C_lead gd (hr.mono (by decide)) (by rfl) (da_cons (dl_var (pv 0)) (da_cons (dl_var (pv 1)) da_nil)))))))
def g_class_of (wx : DX) : DS := (dSeq (dDrop (dCallX wx S_check_forms (dCons (dTup (dCons (dVar 0) dNil)) dNil)))
  (dRet (dBin oIx (dCall S_reduction (dCons (dVar 0) dNil)) (dC (.int 0)))))
theorem w_class_of (z : Zs mg) (sy : SysOk K) (C_check_forms : Cal P w K mg base "check_forms" P_check_forms lv_check_forms kw_check_forms S_check_forms) (C_reduction : Cal P w K mg base "reduction" P_reduction lv_reduction kw_reduction S_reduction) : ∀ (cdv : Value) (A : Around) (outer : List PySem.Env) (s : Shared) (H : Hp) (E : XK) (wx : DX), A.guards = some [] → Room 4 (A.deeper (PyProof.Rows.envOfC "class_of" (defScope s_class_of) s.heap.objs.size a cdv)) →
    PSs (cxOf (L2.CX P w) P w K mg base N_class_of "class_of" (defScope s_class_of) a cdv A outer s H E) (defBody s_class_of) (liftS ⟨K, mg, wx, fun cls d _ H' => E cls d H', Fz.tt⟩ (g_class_of wx)) := by
  intro cdv A outer s H E wx gd hr
  have tk : Takes (cxOf (L2.CX P w) P w K mg base N_class_of "class_of" (defScope s_class_of) a cdv A outer s H E) (fun cls d _ H' => E cls d H') := takes_of rfl rfl rfl rfl
  have po : PassesOwn (model P w) (cxOf (L2.CX P w) P w K mg base N_class_of "class_of" (defScope s_class_of) a cdv A outer s H E).A (cxOf (L2.CX P w) P w K mg base N_class_of "class_of" (defScope s_class_of) a cdv A outer s H E).env (cxOf (L2.CX P w) P w K mg base N_class_of "class_of" (defScope s_class_of) a cdv A outer s H E).xe := PassesOwn.leaving
  exact (ds_cons (ds_expr (dcx C_check_forms tk gd (hr.mono (by decide)) (by rfl) (da_cons (dl_tup (da_cons (dl_var (pv 0)) da_nil)) da_nil)))
  (ds_one (ds_ret (dl_ix (dc C_reduction gd (hr.mono (by decide)) (by rfl) (da_cons (dl_var (pv 0)) da_nil)) dl_int))))
def g_reducing (wx : DX) : DS := (dSeq (dDrop (dCallX wx S_check_forms (dCons (dTup (dCons (dVar 0) dNil)) dNil)))
  (dRet (dBin oIx (dCall S_reduction (dCons (dVar 0) dNil)) (dC (.int 1)))))
theorem w_reducing (z : Zs mg) (sy : SysOk K) (C_check_forms : Cal P w K mg base "check_forms" P_check_forms lv_check_forms kw_check_forms S_check_forms) (C_reduction : Cal P w K mg base "reduction" P_reduction lv_reduction kw_reduction S_reduction) : ∀ (cdv : Value) (A : Around) (outer : List PySem.Env) (s : Shared) (H : Hp) (E : XK) (wx : DX), A.guards = some [] → Room 4 (A.deeper (PyProof.Rows.envOfC "reducing" (defScope s_reducing) s.heap.objs.size a cdv)) →
    PSs (cxOf (L2.CX P w) P w K mg base N_reducing "reducing" (defScope s_reducing) a cdv A outer s H E) (defBody s_reducing) (liftS ⟨K, mg, wx, fun cls d _ H' => E cls d H', Fz.tt⟩ (g_reducing wx)) := by
  intro cdv A outer s H E wx gd hr
  have tk : Takes (cxOf (L2.CX P w) P w K mg base N_reducing "reducing" (defScope s_reducing) a cdv A outer s H E) (fun cls d _ H' => E cls d H') := takes_of rfl rfl rfl rfl
  have po : PassesOwn (model P w) (cxOf (L2.CX P w) P w K mg base N_reducing "reducing" (defScope s_reducing) a cdv A outer s H E).A (cxOf (L2.CX P w) P w K mg base N_reducing "reducing" (defScope s_reducing) a cdv A outer s H E).env (cxOf (L2.CX P w) P w K mg base N_reducing "reducing" (defScope s_reducing) a cdv A outer s H E).xe := PassesOwn.leaving
  exact (ds_cons (ds_expr (dcx C_check_forms tk gd (hr.mono (by decide)) (by rfl) (da_cons (dl_tup (da_cons (dl_var (pv 0)) da_nil)) da_nil)))
  (ds_one (ds_ret (dl_ix (dc C_reduction gd (hr.mono (by decide)) (by rfl) (da_cons (dl_var (pv 0)) da_nil)) dl_int))))
def g__law_deck : DS := (dSeq (dPar 1 2 (dCons (dLc (dItems (dSlice (dVar 0) dNoP (dSomeP (dC (.int 63))))) (gName 3) dYes (dBlt cInt (dCons (dVar 3) dNil)) [3]) (dCons (dC (.int 10877017)) dNil)))
  (dSeq (dFor (dItems (dVar 1)) (gName 3) (dAsg (dBin oMod (dBlt cInt (dCons (dBin oAdd (dBin oAdd (dBin oMul (dVar 2) (dC (.int 48271))) (dBin oMod (dBlt cInt (dCons (dVar 3) dNil)) (dC (.int 2147483563)))) (dC (.int 17))) dNil)) (dC (.int 2147483647))) (gName 2)))
  (dRet (dDisp ["cells", "mixed", "turn"] [(dRev (dVar 1)), (dVar 2), (dC (.int 0))]))))
theorem w__law_deck (z : Zs mg) (sy : SysOk K)  : ∀ (cdv : Value) (A : Around) (outer : List PySem.Env) (s : Shared) (H : Hp) (E : XK), A.guards = some [] → Room 0 (A.deeper (PyProof.Rows.envOfC "_law_deck" (defScope s__law_deck) s.heap.objs.size a cdv)) →
    PSs (cxOf (L2.CX P w) P w K mg base N__law_deck "_law_deck" (defScope s__law_deck) a cdv A outer s H E).nox (defBody s__law_deck) (liftS (k0 K mg) g__law_deck) := by
  intro cdv A outer s H E gd hr
  exact (ds_cons ((ps_par (i := 1) (j := 2) (by rfl) sc__law_deck.nd rfl rfl (by decide) rfl rfl (da_cons (dl_lc (own := [("cell", 3)]) rfl sc__law_deck.nd (di_items (dl_slice (dl_var (pv 0)) dp_none (dp_some dl_int))) (blkOk_by (N := N__law_deck) (sc := defScope s__law_deck) (by decide +kernel)) (fun _ _ _ _ _ => (dg_name (pg_name (i := 3) sc__law_deck.nd rfl (by first | exact Or.inl rfl | exact Or.inr rfl)))) (fun _ _ _ _ _ => dts_nil) (fun _ _ _ _ _ => (dl_callT cd_int (by rfl) z.z_int bt_int (da_cons (dl_var (pv 3)) da_nil))) (by decide)) (da_cons dl_int da_nil)) (by rfl)).w lift_par)
  (ds_cons (ds_for PassesOwn.never rfl (di_items (dl_var (pv 1))) (dg_name (pg_name (i := 3) sc__law_deck.nd rfl (Or.inl rfl))) (ds_one (ds_set (i := 2) sc__law_deck.nd rfl (Or.inl rfl) (dl_bin opd_mod (dl_callT cd_int (by rfl) z.z_int bt_int (da_cons (dl_bin opd_add (dl_bin opd_add (dl_bin opd_mul (dl_var (pv 2)) dl_int) (dl_bin opd_mod (dl_callT cd_int (by rfl) z.z_int bt_int (da_cons (dl_var (pv 3)) da_nil)) dl_int)) dl_int) da_nil)) dl_int))))
  (ds_one (ds_ret (dl_disp (ks := ["cells", "mixed", "turn"]) (fs := [(dRev (dVar 1)), (dVar 2), (dC (.int 0))]) (pps_cons pe_str (dl_rev (dl_var (pv 1))) (pps_cons pe_str (dl_var (pv 2)) (pps_cons pe_str dl_int pps_nil))) rfl rfl (by simp) (by show 3 ≤ 15; decide) rfl (by show 3 ≤ 15; decide) (by decide +kernel))))))
def g__law_pick : DS := (dRet (dBin oIx (dVar 1) (dCall S__law_draw (dCons (dVar 0) (dCons (dBlt cLen (dCons (dVar 1) dNil)) dNil)))))
theorem w__law_pick (z : Zs mg) (sy : SysOk K) (C__law_draw : Cal P w K mg base "_law_draw" P__law_draw lv__law_draw kw__law_draw S__law_draw) : ∀ (cdv : Value) (A : Around) (outer : List PySem.Env) (s : Shared) (H : Hp) (E : XK), A.guards = some [] → Room 1 (A.deeper (PyProof.Rows.envOfC "_law_pick" (defScope s__law_pick) s.heap.objs.size a cdv)) →
    PSs (cxOf (L2.CX P w) P w K mg base N__law_pick "_law_pick" (defScope s__law_pick) a cdv A outer s H E).nox (defBody s__law_pick) (liftS (k0 K mg) g__law_pick) := by
  intro cdv A outer s H E gd hr
  exact (ds_one (ds_ret (dl_ix (dl_var (pv 1)) (dc C__law_draw gd (hr.mono (by decide)) (by rfl) (da_cons (dl_var (pv 0)) (da_cons (dl_callB cd_len (by rfl) z.z_len bt_len (da_cons (dl_var (pv 1)) da_nil)) da_nil))))))
def g__law_common : DS := (dSeq (dAsg (dC (.int 0)) (gName 1))
  (dSeq (dFor (dItems (dVar 0)) (gName 2) (dSeq (dAsg (dBlt cAbs (dCons (dVar 2) dNil)) (gName 3))
  (dWhile (dTest (dBin oGt (dVar 3) (dC (.int 0)))) (dPar 1 3 (dCons (dVar 3) (dCons (dBin oMod (dBlt cInt (dCons (dVar 1) dNil)) (dVar 3)) dNil))))))
  (dRet (dVar 1))))
theorem w__law_common (z : Zs mg) (sy : SysOk K)  : ∀ (cdv : Value) (A : Around) (outer : List PySem.Env) (s : Shared) (H : Hp) (E : XK), A.guards = some [] → Room 0 (A.deeper (PyProof.Rows.envOfC "_law_common" (defScope s__law_common) s.heap.objs.size a cdv)) →
    PSs (cxOf (L2.CX P w) P w K mg base N__law_common "_law_common" (defScope s__law_common) a cdv A outer s H E).nox (defBody s__law_common) (liftS (k0 K mg) g__law_common) := by
  intro cdv A outer s H E gd hr
  exact (ds_cons (ds_set (i := 1) sc__law_common.nd rfl (Or.inl rfl) dl_int)
  (ds_cons (ds_for PassesOwn.never rfl (di_items (dl_var (pv 0))) (dg_name (pg_name (i := 2) sc__law_common.nd rfl (Or.inl rfl))) (ds_cons (ds_set (i := 3) sc__law_common.nd rfl (Or.inl rfl) (dl_callB cd_abs (by rfl) z.z_abs bt_abs (da_cons (dl_var (pv 2)) da_nil)))
  (ds_one (ds_while PassesOwn.never (dt_cm opd_gt (dl_var (pv 3)) dl_int (nomark _)) (ds_one ((ps_par (i := 1) (j := 3) (by rfl) sc__law_common.nd rfl rfl (by decide) rfl rfl (da_cons (dl_var (pv 3)) (da_cons (dl_bin opd_mod (dl_callT cd_int (by rfl) z.z_int bt_int (da_cons (dl_var (pv 1)) da_nil)) (dl_var (pv 3))) da_nil)) (by rfl)).w lift_par))))))
  (ds_one (ds_ret (dl_var (pv 1))))))
def g__law_are_integers : DS := (dSeq (dIf (dOr (dNot (dTest (dBlt cIsi (dCons (dVar 1) (dCons (dC (.raw (.ty "tuple"))) dNil))))) (dTest (dBin oNe (dBlt cLen (dCons (dVar 1) dNil)) (dVar 0)))) (dRet (dC (.bl false))) dNext)
  (dRet (dBin oEq (dLc (dItems (dVar 1)) (gName 2) (dOr (dTest (dBlt cIsi (dCons (dVar 2) (dCons (dC (.raw (.ty "bool"))) dNil)))) (dNot (dTest (dBlt cIsi (dCons (dVar 2) (dCons (dC (.raw (.ty "int"))) dNil)))))) (dC (.int 1)) [2]) (dLst dNil))))
theorem w__law_are_integers (z : Zs mg) (sy : SysOk K)  : ∀ (cdv : Value) (A : Around) (outer : List PySem.Env) (s : Shared) (H : Hp) (E : XK), A.guards = some [] → Room 0 (A.deeper (PyProof.Rows.envOfC "_law_are_integers" (defScope s__law_are_integers) s.heap.objs.size a cdv)) →
    PSs (cxOf (L2.CX P w) P w K mg base N__law_are_integers "_law_are_integers" (defScope s__law_are_integers) a cdv A outer s H E).nox (defBody s__law_are_integers) (liftS (k0 K mg) g__law_are_integers) := by
  intro cdv A outer s H E gd hr
  exact (ds_cons (ds_if (dw_or (dt_not (dt_val (dl_callB cd_isi (by rfl) z.z_isinstance bt_isinstance (da_cons (dl_var (pv 1)) (da_cons (dl_raw (pe_bltn (by rfl) z.z_tuple bt_tuple (by exact rfl))) da_nil))))) (dw_or1 (dt_cm (opd_ne hr.units) (dl_callB cd_len (by rfl) z.z_len bt_len (da_cons (dl_var (pv 1)) da_nil)) (dl_var (pv 0)) (nomark _)))).pt (ds_one (ds_ret dl_bl)) ds_nil)
  (ds_one (ds_ret (dl_cm (opd_eq hr.units) (dl_lc (own := [("one", 2)]) rfl sc__law_are_integers.nd (di_items (dl_var (pv 1))) (blkOk_by (N := N__law_are_integers) (sc := defScope s__law_are_integers) (by decide +kernel)) (fun _ _ _ _ _ => (dg_name (pg_name (i := 2) sc__law_are_integers.nd rfl (by first | exact Or.inl rfl | exact Or.inr rfl)))) (fun _ _ _ _ _ => (ptsD (dw_or (dt_val (dl_callB cd_isi (by rfl) z.z_isinstance bt_isinstance (da_cons (dl_var (pv 2)) (da_cons (dl_raw (pe_bltn (by rfl) z.z_bool bt_bool (by exact rfl))) da_nil)))) (dw_or1 (dt_not (dt_val (dl_callB cd_isi (by rfl) z.z_isinstance bt_isinstance (da_cons (dl_var (pv 2)) (da_cons (dl_raw (pe_bltn (by rfl) z.z_int bt_int (by exact rfl))) da_nil))))))).pt)) (fun _ _ _ _ _ => dl_int) (by decide)) (dl_lst da_nil) (nomark _)))))
def g__law_is_positive : DS := (dSeq (dIf (dOr (dNot (dTest (dCall S__law_are_integers (dCons (dC (.int 3)) (dCons (dVar 0) dNil))))) (dTest (dBin oLt (dBin oIx (dVar 0) (dC (.int 0))) (dC (.int 1))))) (dRet (dC (.bl false))) dNext)
  (dRet (dAndV (dBin oLt (dBin oSub (dBin oMul (dBin oIx (dVar 0) (dC (.int 1))) (dBin oIx (dVar 0) (dC (.int 1)))) (dBin oMul (dBin oMul (dC (.int 4)) (dBin oIx (dVar 0) (dC (.int 0)))) (dBin oIx (dVar 0) (dC (.int 2))))) (dC (.int 0))) (dBin oEq (dCall S__law_common (dCons (dVar 0) dNil)) (dC (.int 1))))))
theorem w__law_is_positive (z : Zs mg) (sy : SysOk K) (C__law_are_integers : Cal P w K mg base "_law_are_integers" P__law_are_integers lv__law_are_integers kw__law_are_integers S__law_are_integers) (C__law_common : Cal P w K mg base "_law_common" P__law_common lv__law_common kw__law_common S__law_common) : ∀ (cdv : Value) (A : Around) (outer : List PySem.Env) (s : Shared) (H : Hp) (E : XK), A.guards = some [] → Room 1 (A.deeper (PyProof.Rows.envOfC "_law_is_positive" (defScope s__law_is_positive) s.heap.objs.size a cdv)) →
    PSs (cxOf (L2.CX P w) P w K mg base N__law_is_positive "_law_is_positive" (defScope s__law_is_positive) a cdv A outer s H E).nox (defBody s__law_is_positive) (liftS (k0 K mg) g__law_is_positive) := by
  intro cdv A outer s H E gd hr
  exact (ds_cons (ds_if (dw_or (dt_not (dt_val (dc C__law_are_integers gd (hr.mono (by decide)) (by rfl) (da_cons dl_int (da_cons (dl_var (pv 0)) da_nil))))) (dw_or1 (dt_cm opd_lt (dl_ix (dl_var (pv 0)) dl_int) dl_int (nomark _)))).pt (ds_one (ds_ret dl_bl)) ds_nil)
  (ds_one (ds_ret (dl_and (dl_cm opd_lt (dl_bin opd_sub (dl_bin opd_mul (dl_ix (dl_var (pv 0)) dl_int) (dl_ix (dl_var (pv 0)) dl_int)) (dl_bin opd_mul (dl_bin opd_mul dl_int (dl_ix (dl_var (pv 0)) dl_int)) (dl_ix (dl_var (pv 0)) dl_int))) dl_int (nomark _)) (dl_one (dl_cm (opd_eq hr.units) (dc C__law_common gd (hr.mono (by decide)) (by rfl) (da_cons (dl_var (pv 0)) da_nil)) dl_int (nomark _)))))))
def g__law_is_whole : DS := (dRet (dAndV (dCall S__law_are_integers (dCons (dC (.int 4)) (dCons (dVar 0) dNil))) (dBin oEq (dBin oSub (dBin oMul (dBin oIx (dVar 0) (dC (.int 0))) (dBin oIx (dVar 0) (dC (.int 3)))) (dBin oMul (dBin oIx (dVar 0) (dC (.int 1))) (dBin oIx (dVar 0) (dC (.int 2))))) (dC (.int 1)))))
theorem w__law_is_whole (z : Zs mg) (sy : SysOk K) (C__law_are_integers : Cal P w K mg base "_law_are_integers" P__law_are_integers lv__law_are_integers kw__law_are_integers S__law_are_integers) : ∀ (cdv : Value) (A : Around) (outer : List PySem.Env) (s : Shared) (H : Hp) (E : XK), A.guards = some [] → Room 1 (A.deeper (PyProof.Rows.envOfC "_law_is_whole" (defScope s__law_is_whole) s.heap.objs.size a cdv)) →
    PSs (cxOf (L2.CX P w) P w K mg base N__law_is_whole "_law_is_whole" (defScope s__law_is_whole) a cdv A outer s H E).nox (defBody s__law_is_whole) (liftS (k0 K mg) g__law_is_whole) := by
  intro cdv A outer s H E gd hr
  exact (ds_one (ds_ret (dl_and (dc C__law_are_integers gd (hr.mono (by decide)) (by rfl) (da_cons dl_int (da_cons (dl_var (pv 0)) da_nil))) (dl_one (dl_cm (opd_eq hr.units) (dl_bin opd_sub (dl_bin opd_mul (dl_ix (dl_var (pv 0)) dl_int) (dl_ix (dl_var (pv 0)) dl_int)) (dl_bin opd_mul (dl_ix (dl_var (pv 0)) dl_int) (dl_ix (dl_var (pv 0)) dl_int))) dl_int (nomark _))))))
def g__law_led : DS := (dSeq (dAsg (dTup (dCons (dVar 0) (dCons (dVar 1) dNil))) (gTup 2 (gCons (gTup 3 (gCons (gName 2) (gCons (gName 3) (gCons (gName 4) gNil)))) (gCons (gTup 4 (gCons (gName 5) (gCons (gName 6) (gCons (gName 7) (gCons (gName 8) gNil))))) gNil))))
  (dSeq (dPar 9 10 (dCons (dBin oAdd (dBin oAdd (dBin oMul (dBin oMul (dVar 2) (dVar 5)) (dVar 5)) (dBin oMul (dBin oMul (dVar 3) (dVar 5)) (dVar 7))) (dBin oMul (dBin oMul (dVar 4) (dVar 7)) (dVar 7))) (dCons (dBin oAdd (dBin oAdd (dBin oMul (dBin oMul (dVar 2) (dVar 6)) (dVar 6)) (dBin oMul (dBin oMul (dVar 3) (dVar 6)) (dVar 8))) (dBin oMul (dBin oMul (dVar 4) (dVar 8)) (dVar 8))) dNil)))
  (dRet (dTup (dCons (dVar 9) (dCons (dBin oAdd (dBin oAdd (dBin oMul (dBin oMul (dBin oMul (dC (.int 2)) (dVar 2)) (dVar 5)) (dVar 6)) (dBin oMul (dVar 3) (dBin oAdd (dBin oMul (dVar 5) (dVar 8)) (dBin oMul (dVar 6) (dVar 7))))) (dBin oMul (dBin oMul (dBin oMul (dC (.int 2)) (dVar 4)) (dVar 7)) (dVar 8))) (dCons (dVar 10) dNil)))))))
theorem w__law_led (z : Zs mg) (sy : SysOk K)  : ∀ (cdv : Value) (A : Around) (outer : List PySem.Env) (s : Shared) (H : Hp) (E : XK), A.guards = some [] → Room 0 (A.deeper (PyProof.Rows.envOfC "_law_led" (defScope s__law_led) s.heap.objs.size a cdv)) →
    PSs (cxOf (L2.CX P w) P w K mg base N__law_led "_law_led" (defScope s__law_led) a cdv A outer s H E).nox (defBody s__law_led) (liftS (k0 K mg) g__law_led) := by
  intro cdv A outer s H E gd hr
  exact (ds_cons (ds_asg (dl_tup (da_cons (dl_var (pv 0)) (da_cons (dl_var (pv 1)) da_nil))) (dg_tup rfl (dg_cons (dg_tup rfl (dg_cons (dg_name (pg_name (i := 2) sc__law_led.nd rfl (Or.inl rfl))) (dg_cons (dg_name (pg_name (i := 3) sc__law_led.nd rfl (Or.inl rfl))) (dg_cons (dg_name (pg_name (i := 4) sc__law_led.nd rfl (Or.inl rfl))) dg_nil)))) (dg_cons (dg_tup rfl (dg_cons (dg_name (pg_name (i := 5) sc__law_led.nd rfl (Or.inl rfl))) (dg_cons (dg_name (pg_name (i := 6) sc__law_led.nd rfl (Or.inl rfl))) (dg_cons (dg_name (pg_name (i := 7) sc__law_led.nd rfl (Or.inl rfl))) (dg_cons (dg_name (pg_name (i := 8) sc__law_led.nd rfl (Or.inl rfl))) dg_nil))))) dg_nil))))
  (ds_cons ((ps_par (i := 9) (j := 10) (by rfl) sc__law_led.nd rfl rfl (by decide) rfl rfl (da_cons (dl_bin opd_add (dl_bin opd_add (dl_bin opd_mul (dl_bin opd_mul (dl_var (pv 2)) (dl_var (pv 5))) (dl_var (pv 5))) (dl_bin opd_mul (dl_bin opd_mul (dl_var (pv 3)) (dl_var (pv 5))) (dl_var (pv 7)))) (dl_bin opd_mul (dl_bin opd_mul (dl_var (pv 4)) (dl_var (pv 7))) (dl_var (pv 7)))) (da_cons (dl_bin opd_add (dl_bin opd_add (dl_bin opd_mul (dl_bin opd_mul (dl_var (pv 2)) (dl_var (pv 6))) (dl_var (pv 6))) (dl_bin opd_mul (dl_bin opd_mul (dl_var (pv 3)) (dl_var (pv 6))) (dl_var (pv 8)))) (dl_bin opd_mul (dl_bin opd_mul (dl_var (pv 4)) (dl_var (pv 8))) (dl_var (pv 8)))) da_nil)) (by rfl)).w lift_par)
  (ds_one (ds_ret (dl_tup (da_cons (dl_var (pv 9)) (da_cons (dl_bin opd_add (dl_bin opd_add (dl_bin opd_mul (dl_bin opd_mul (dl_bin opd_mul dl_int (dl_var (pv 2))) (dl_var (pv 5))) (dl_var (pv 6))) (dl_bin opd_mul (dl_var (pv 3)) (dl_bin opd_add (dl_bin opd_mul (dl_var (pv 5)) (dl_var (pv 8))) (dl_bin opd_mul (dl_var (pv 6)) (dl_var (pv 7)))))) (dl_bin opd_mul (dl_bin opd_mul (dl_bin opd_mul dl_int (dl_var (pv 4))) (dl_var (pv 7))) (dl_var (pv 8)))) (da_cons (dl_var (pv 10)) da_nil))))))))
def g__law_product : DS := (dSeq (dAsg (dTup (dCons (dVar 0) (dCons (dVar 1) dNil))) (gTup 2 (gCons (gTup 4 (gCons (gName 2) (gCons (gName 3) (gCons (gName 4) (gCons (gName 5) gNil))))) (gCons (gTup 4 (gCons (gName 6) (gCons (gName 7) (gCons (gName 8) (gCons (gName 9) gNil))))) gNil))))
  (dRet (dTup (dCons (dBin oAdd (dBin oMul (dVar 2) (dVar 6)) (dBin oMul (dVar 3) (dVar 8))) (dCons (dBin oAdd (dBin oMul (dVar 2) (dVar 7)) (dBin oMul (dVar 3) (dVar 9))) (dCons (dBin oAdd (dBin oMul (dVar 4) (dVar 6)) (dBin oMul (dVar 5) (dVar 8))) (dCons (dBin oAdd (dBin oMul (dVar 4) (dVar 7)) (dBin oMul (dVar 5) (dVar 9))) dNil)))))))
theorem w__law_product (z : Zs mg) (sy : SysOk K)  : ∀ (cdv : Value) (A : Around) (outer : List PySem.Env) (s : Shared) (H : Hp) (E : XK), A.guards = some [] → Room 0 (A.deeper (PyProof.Rows.envOfC "_law_product" (defScope s__law_product) s.heap.objs.size a cdv)) →
    PSs (cxOf (L2.CX P w) P w K mg base N__law_product "_law_product" (defScope s__law_product) a cdv A outer s H E).nox (defBody s__law_product) (liftS (k0 K mg) g__law_product) := by
  intro cdv A outer s H E gd hr
  exact (ds_cons (ds_asg (dl_tup (da_cons (dl_var (pv 0)) (da_cons (dl_var (pv 1)) da_nil))) (dg_tup rfl (dg_cons (dg_tup rfl (dg_cons (dg_name (pg_name (i := 2) sc__law_product.nd rfl (Or.inl rfl))) (dg_cons (dg_name (pg_name (i := 3) sc__law_product.nd rfl (Or.inl rfl))) (dg_cons (dg_name (pg_name (i := 4) sc__law_product.nd rfl (Or.inl rfl))) (dg_cons (dg_name (pg_name (i := 5) sc__law_product.nd rfl (Or.inl rfl))) dg_nil))))) (dg_cons (dg_tup rfl (dg_cons (dg_name (pg_name (i := 6) sc__law_product.nd rfl (Or.inl rfl))) (dg_cons (dg_name (pg_name (i := 7) sc__law_product.nd rfl (Or.inl rfl))) (dg_cons (dg_name (pg_name (i := 8) sc__law_product.nd rfl (Or.inl rfl))) (dg_cons (dg_name (pg_name (i := 9) sc__law_product.nd rfl (Or.inl rfl))) dg_nil))))) dg_nil))))
  (ds_one (ds_ret (dl_tup (da_cons (dl_bin opd_add (dl_bin opd_mul (dl_var (pv 2)) (dl_var (pv 6))) (dl_bin opd_mul (dl_var (pv 3)) (dl_var (pv 8)))) (da_cons (dl_bin opd_add (dl_bin opd_mul (dl_var (pv 2)) (dl_var (pv 7))) (dl_bin opd_mul (dl_var (pv 3)) (dl_var (pv 9)))) (da_cons (dl_bin opd_add (dl_bin opd_mul (dl_var (pv 4)) (dl_var (pv 6))) (dl_bin opd_mul (dl_var (pv 5)) (dl_var (pv 8)))) (da_cons (dl_bin opd_add (dl_bin opd_mul (dl_var (pv 4)) (dl_var (pv 7))) (dl_bin opd_mul (dl_var (pv 5)) (dl_var (pv 9)))) da_nil))))))))
def b__law_reducing_1 : DS := (dAsg (dVar 0) (gTup 3 (gCons (gName 3) (gCons (gName 4) (gCons (gName 5) gNil)))))
def b__law_reducing_2 : DS := (dAsg (dTup (dCons (dC (.int 1)) (dCons (dBin oDiv (dBin oSub (dVar 3) (dVar 4)) (dBin oMul (dC (.int 2)) (dVar 3))) (dCons (dC (.int 0)) (dCons (dC (.int 1)) dNil))))) (gName 6))
def b__law_reducing_3 : DS := (dPar 0 1 (dCons (dCall S__law_led (dCons (dVar 0) (dCons (dVar 6) dNil))) (dCons (dCall S__law_product (dCons (dVar 1) (dCons (dVar 6) dNil))) dNil)))
def b__law_reducing_4 : DS := (dIf (dOr (dTest (dBin oLt (dBin oIx (dVar 0) (dC (.int 0))) (dBin oIx (dVar 0) (dC (.int 2))))) (dAnd (dTest (dBin oEq (dBin oIx (dVar 0) (dC (.int 0))) (dBin oIx (dVar 0) (dC (.int 2))))) (dTest (dBin oGe (dBin oIx (dVar 0) (dC (.int 1))) (dC (.int 0)))))) dBrk dNext)
def b__law_reducing_5 : DS := (dPar 0 1 (dCons (dCall S__law_led (dCons (dVar 0) (dCons (dTup (dCons (dC (.int 0)) (dCons (dNeg (dC (.int 1))) (dCons (dC (.int 1)) (dCons (dC (.int 0)) dNil))))) dNil))) (dCons (dCall S__law_product (dCons (dVar 1) (dCons (dTup (dCons (dC (.int 0)) (dCons (dNeg (dC (.int 1))) (dCons (dC (.int 1)) (dCons (dC (.int 0)) dNil))))) dNil))) dNil)))
def b__law_reducing_6 : DS := (dAsg (dTup (dCons (dC (.int 1)) (dCons (dC (.int 0)) (dCons (dC (.int 0)) (dCons (dC (.int 1)) dNil))))) (gName 1))
def b__law_reducing_7 : DS := (dFor (dRange1 (dC (.int 30000))) (gName 2) (dSeq b__law_reducing_1
  (dSeq b__law_reducing_2
  (dSeq b__law_reducing_3
  (dSeq b__law_reducing_4
  b__law_reducing_5)))))
def g__law_reducing : DS := (dSeq b__law_reducing_6
  (dSeq b__law_reducing_7
  (dRet (dTup (dCons (dVar 0) (dCons (dVar 1) dNil))))))
theorem w__law_reducing (z : Zs mg) (sy : SysOk K) (C__law_led : Cal P w K mg base "_law_led" P__law_led lv__law_led kw__law_led S__law_led) (C__law_product : Cal P w K mg base "_law_product" P__law_product lv__law_product kw__law_product S__law_product) : ∀ (cdv : Value) (A : Around) (outer : List PySem.Env) (s : Shared) (H : Hp) (E : XK), A.guards = some [] → Room 1 (A.deeper (PyProof.Rows.envOfC "_law_reducing" (defScope s__law_reducing) s.heap.objs.size a cdv)) →
    PSs (cxOf (L2.CX P w) P w K mg base N__law_reducing "_law_reducing" (defScope s__law_reducing) a cdv A outer s H E).nox (defBody s__law_reducing) (liftS (k0 K mg) g__law_reducing) := by
  intro cdv A outer s H E gd hr
  exact (ds_cons (ds_set (i := 1) sc__law_reducing.nd rfl (Or.inl rfl) (dl_tup (da_cons dl_int (da_cons dl_int (da_cons dl_int (da_cons dl_int da_nil))))))
  (ds_cons (ds_for PassesOwn.never rfl (di_range1 (by rfl) z.z_range dl_int) (dg_name (pg_name (i := 2) sc__law_reducing.nd rfl (Or.inl rfl))) (ds_cons (ds_asg (dl_var (pv 0)) (dg_tup rfl (dg_cons (dg_name (pg_name (i := 3) sc__law_reducing.nd rfl (Or.inl rfl))) (dg_cons (dg_name (pg_name (i := 4) sc__law_reducing.nd rfl (Or.inl rfl))) (dg_cons (dg_name (pg_name (i := 5) sc__law_reducing.nd rfl (Or.inl rfl))) dg_nil)))))
  (ds_cons (ds_set (i := 6) sc__law_reducing.nd rfl (Or.inl rfl) (dl_tup (da_cons dl_int (da_cons (dl_bin opd_div (dl_bin opd_sub (dl_var (pv 3)) (dl_var (pv 4))) (dl_bin opd_mul dl_int (dl_var (pv 3)))) (da_cons dl_int (da_cons dl_int da_nil))))))
  (ds_cons ((ps_par (i := 0) (j := 1) (by rfl) sc__law_reducing.nd rfl rfl (by decide) rfl rfl (da_cons (dc C__law_led gd (hr.mono (by decide)) (by rfl) (da_cons (dl_var (pv 0)) (da_cons (dl_var (pv 6)) da_nil))) (da_cons (dc C__law_product gd (hr.mono (by decide)) (by rfl) (da_cons (dl_var (pv 1)) (da_cons (dl_var (pv 6)) da_nil))) da_nil)) (by rfl)).w lift_par)
  (ds_cons (ds_if (dw_or (dt_cm opd_lt (dl_ix (dl_var (pv 0)) dl_int) (dl_ix (dl_var (pv 0)) dl_int) (nomark _)) (dw_or1 (dw_and (dt_cm (opd_eq hr.units) (dl_ix (dl_var (pv 0)) dl_int) (dl_ix (dl_var (pv 0)) dl_int) (nomark _)) (dw_and1 (dt_cm opd_ge (dl_ix (dl_var (pv 0)) dl_int) dl_int (nomark _)))).pt)).pt (ds_one ds_break) ds_nil)
  (ds_one ((ps_par (i := 0) (j := 1) (by rfl) sc__law_reducing.nd rfl rfl (by decide) rfl rfl (da_cons (dc C__law_led gd (hr.mono (by decide)) (by rfl) (da_cons (dl_var (pv 0)) (da_cons (dl_tup (da_cons dl_int (da_cons (dl_neg dl_int) (da_cons dl_int (da_cons dl_int da_nil))))) da_nil))) (da_cons (dc C__law_product gd (hr.mono (by decide)) (by rfl) (da_cons (dl_var (pv 1)) (da_cons (dl_tup (da_cons dl_int (da_cons (dl_neg dl_int) (da_cons dl_int (da_cons dl_int da_nil))))) da_nil))) da_nil)) (by rfl)).w lift_par)))))))
  (ds_one (ds_ret (dl_tup (da_cons (dl_var (pv 0)) (da_cons (dl_var (pv 1)) da_nil)))))))
def g__law_classes : DS := (dSeq (dNew 1 dNil)
  (dSeq (dFor (dRange2 (dC (.int 1)) (dC (.int 30))) (gName 2) (dFor (dRange2 (dBin oSub (dC (.int 1)) (dVar 2)) (dBin oAdd (dVar 2) (dC (.int 1)))) (gName 3) (dSeq (dAsg (dBin oDiv (dBin oSub (dBin oMul (dVar 3) (dVar 3)) (dVar 0)) (dBin oMul (dC (.int 4)) (dVar 2))) (gName 4))
  (dIf (dAnd (dTest (dBin oEq (dBin oMul (dBin oMul (dC (.int 4)) (dVar 2)) (dVar 4)) (dBin oSub (dBin oMul (dVar 3) (dVar 3)) (dVar 0)))) (dAnd (dTest (dBin oLe (dVar 2) (dVar 4))) (dAnd (dOr (dTest (dBin oGe (dVar 3) (dC (.int 0)))) (dTest (dBin oLt (dVar 2) (dVar 4)))) (dTest (dBin oEq (dCall S__law_common (dCons (dTup (dCons (dVar 2) (dCons (dVar 3) (dCons (dVar 4) dNil)))) dNil)) (dC (.int 1))))))) (dAppend 1 (dTup (dCons (dVar 2) (dCons (dVar 3) (dCons (dVar 4) dNil))))) dNext))))
  (dRet (dVar 1))))
theorem w__law_classes (z : Zs mg) (sy : SysOk K) (C__law_common : Cal P w K mg base "_law_common" P__law_common lv__law_common kw__law_common S__law_common) : ∀ (cdv : Value) (A : Around) (outer : List PySem.Env) (s : Shared) (H : Hp) (E : XK), A.guards = some [] → Room 1 (A.deeper (PyProof.Rows.envOfC "_law_classes" (defScope s__law_classes) s.heap.objs.size a cdv)) →
    PSs (cxOf (L2.CX P w) P w K mg base N__law_classes "_law_classes" (defScope s__law_classes) a cdv A outer s H E).nox (defBody s__law_classes) (liftS (k0 K mg) g__law_classes) := by
  intro cdv A outer s H E gd hr
  exact (ds_cons (ds_new (i := 1) sc__law_classes.nd rfl (Or.inl rfl) da_nil)
  (ds_cons (ds_for PassesOwn.never rfl (di_range2 (by rfl) z.z_range dl_int dl_int) (dg_name (pg_name (i := 2) sc__law_classes.nd rfl (Or.inl rfl))) (ds_one (ds_for PassesOwn.never rfl (di_range2 (by rfl) z.z_range (dl_bin opd_sub dl_int (dl_var (pv 2))) (dl_bin opd_add (dl_var (pv 2)) dl_int)) (dg_name (pg_name (i := 3) sc__law_classes.nd rfl (Or.inl rfl))) (ds_cons (ds_set (i := 4) sc__law_classes.nd rfl (Or.inl rfl) (dl_bin opd_div (dl_bin opd_sub (dl_bin opd_mul (dl_var (pv 3)) (dl_var (pv 3))) (dl_var (pv 0))) (dl_bin opd_mul dl_int (dl_var (pv 2)))))
  (ds_one (ds_if (dw_and (dt_cm (opd_eq hr.units) (dl_bin opd_mul (dl_bin opd_mul dl_int (dl_var (pv 2))) (dl_var (pv 4))) (dl_bin opd_sub (dl_bin opd_mul (dl_var (pv 3)) (dl_var (pv 3))) (dl_var (pv 0))) (nomark _)) (dw_and (dt_cm opd_le (dl_var (pv 2)) (dl_var (pv 4)) (nomark _)) (dw_and (dw_or (dt_cm opd_ge (dl_var (pv 3)) dl_int (nomark _)) (dw_or1 (dt_cm opd_lt (dl_var (pv 2)) (dl_var (pv 4)) (nomark _)))).pt (dw_and1 (dt_cm (opd_eq hr.units) (dc C__law_common gd (hr.mono (by decide)) (by rfl) (da_cons (dl_tup (da_cons (dl_var (pv 2)) (da_cons (dl_var (pv 3)) (da_cons (dl_var (pv 4)) da_nil)))) da_nil)) dl_int (nomark _)))))).pt (ds_one (ds_append (pv 1) (dl_tup (da_cons (dl_var (pv 2)) (da_cons (dl_var (pv 3)) (da_cons (dl_var (pv 4)) da_nil)))))) ds_nil))))))
  (ds_one (ds_ret (dl_var (pv 1))))))
def g__law_discriminant : DS := (dSeq (dIf (dTest (dBin oEq (dCall S__law_draw (dCons (dVar 0) (dCons (dC (.int 6)) dNil))) (dC (.int 0)))) (dRet (dCall S__law_pick (dCons (dVar 0) (dCons (dTup (dCons (dNeg (dC (.int 3))) (dCons (dNeg (dC (.int 4))) (dCons (dNeg (dC (.int 2000))) dNil)))) dNil)))) dNext)
  (dRet (dBin oSub (dBin oSub (dC (.int 0)) (dBin oMul (dC (.int 4)) (dBin oAdd (dC (.int 1)) (dCall S__law_draw (dCons (dVar 0) (dCons (dVar 1) dNil)))))) (dCall S__law_pick (dCons (dVar 0) (dCons (dTup (dCons (dC (.int 0)) (dCons (dC (.int 3)) dNil))) dNil))))))
theorem w__law_discriminant (z : Zs mg) (sy : SysOk K) (C__law_draw : Cal P w K mg base "_law_draw" P__law_draw lv__law_draw kw__law_draw S__law_draw) (C__law_pick : Cal P w K mg base "_law_pick" P__law_pick lv__law_pick kw__law_pick S__law_pick) : ∀ (cdv : Value) (A : Around) (outer : List PySem.Env) (s : Shared) (H : Hp) (E : XK), A.guards = some [] → Room 2 (A.deeper (PyProof.Rows.envOfC "_law_discriminant" (defScope s__law_discriminant) s.heap.objs.size a cdv)) →
    PSs (cxOf (L2.CX P w) P w K mg base N__law_discriminant "_law_discriminant" (defScope s__law_discriminant) a cdv A outer s H E).nox (defBody s__law_discriminant) (liftS (k0 K mg) g__law_discriminant) := by
  intro cdv A outer s H E gd hr
  exact (ds_cons (ds_if (dt_cm (opd_eq hr.units) (dc C__law_draw gd (hr.mono (by decide)) (by rfl) (da_cons (dl_var (pv 0)) (da_cons dl_int da_nil))) dl_int (nomark _)) (ds_one (ds_ret (dc C__law_pick gd (hr.mono (by decide)) (by rfl) (da_cons (dl_var (pv 0)) (da_cons (dl_tup (da_cons (dl_neg dl_int) (da_cons (dl_neg dl_int) (da_cons (dl_neg dl_int) da_nil)))) da_nil))))) ds_nil)
  (ds_one (ds_ret (dl_bin opd_sub (dl_bin opd_sub dl_int (dl_bin opd_mul dl_int (dl_bin opd_add dl_int (dc C__law_draw gd (hr.mono (by decide)) (by rfl) (da_cons (dl_var (pv 0)) (da_cons (dl_var (pv 1)) da_nil)))))) (dc C__law_pick gd (hr.mono (by decide)) (by rfl) (da_cons (dl_var (pv 0)) (da_cons (dl_tup (da_cons dl_int (da_cons dl_int da_nil))) da_nil)))))))
def g__law_change : DS := (dSeq (dAsg (dTup (dCons (dC (.int 1)) (dCons (dC (.int 0)) (dCons (dC (.int 0)) (dCons (dC (.int 1)) dNil))))) (gName 2))
  (dSeq (dFor (dRange1 (dCall S__law_draw (dCons (dVar 0) (dCons (dBin oAdd (dVar 1) (dC (.int 1))) dNil)))) (gName 3) (dSeq (dAsg (dBin oSub (dCall S__law_draw (dCons (dVar 0) (dCons (dC (.int 7)) dNil))) (dC (.int 3))) (gName 4))
  (dAsg (dCall S__law_product (dCons (dVar 2) (dCons (dCall S__law_pick (dCons (dVar 0) (dCons (dTup (dCons (dTup (dCons (dC (.int 1)) (dCons (dVar 4) (dCons (dC (.int 0)) (dCons (dC (.int 1)) dNil))))) (dCons (dTup (dCons (dC (.int 1)) (dCons (dC (.int 0)) (dCons (dVar 4) (dCons (dC (.int 1)) dNil))))) (dCons (dTup (dCons (dC (.int 0)) (dCons (dNeg (dC (.int 1))) (dCons (dC (.int 1)) (dCons (dC (.int 0)) dNil))))) (dCons (dTup (dCons (dNeg (dC (.int 1))) (dCons (dC (.int 0)) (dCons (dC (.int 0)) (dCons (dNeg (dC (.int 1))) dNil))))) dNil))))) dNil))) dNil))) (gName 2))))
  (dRet (dVar 2))))
theorem w__law_change (z : Zs mg) (sy : SysOk K) (C__law_draw : Cal P w K mg base "_law_draw" P__law_draw lv__law_draw kw__law_draw S__law_draw) (C__law_product : Cal P w K mg base "_law_product" P__law_product lv__law_product kw__law_product S__law_product) (C__law_pick : Cal P w K mg base "_law_pick" P__law_pick lv__law_pick kw__law_pick S__law_pick) : ∀ (cdv : Value) (A : Around) (outer : List PySem.Env) (s : Shared) (H : Hp) (E : XK), A.guards = some [] → Room 2 (A.deeper (PyProof.Rows.envOfC "_law_change" (defScope s__law_change) s.heap.objs.size a cdv)) →
    PSs (cxOf (L2.CX P w) P w K mg base N__law_change "_law_change" (defScope s__law_change) a cdv A outer s H E).nox (defBody s__law_change) (liftS (k0 K mg) g__law_change) := by
  intro cdv A outer s H E gd hr
  exact (ds_cons (ds_set (i := 2) sc__law_change.nd rfl (Or.inl rfl) (dl_tup (da_cons dl_int (da_cons dl_int (da_cons dl_int (da_cons dl_int da_nil))))))
  (ds_cons (ds_for PassesOwn.never rfl (di_range1 (by rfl) z.z_range (dc C__law_draw gd (hr.mono (by decide)) (by rfl) (da_cons (dl_var (pv 0)) (da_cons (dl_bin opd_add (dl_var (pv 1)) dl_int) da_nil)))) (dg_name (pg_name (i := 3) sc__law_change.nd rfl (Or.inl rfl))) (ds_cons (ds_set (i := 4) sc__law_change.nd rfl (Or.inl rfl) (dl_bin opd_sub (dc C__law_draw gd (hr.mono (by decide)) (by rfl) (da_cons (dl_var (pv 0)) (da_cons dl_int da_nil))) dl_int))
  (ds_one (ds_set (i := 2) sc__law_change.nd rfl (Or.inl rfl) (dc C__law_product gd (hr.mono (by decide)) (by rfl) (da_cons (dl_var (pv 2)) (da_cons (dc C__law_pick gd (hr.mono (by decide)) (by rfl) (da_cons (dl_var (pv 0)) (da_cons (dl_tup (da_cons (dl_tup (da_cons dl_int (da_cons (dl_var (pv 4)) (da_cons dl_int (da_cons dl_int da_nil))))) (da_cons (dl_tup (da_cons dl_int (da_cons dl_int (da_cons (dl_var (pv 4)) (da_cons dl_int da_nil))))) (da_cons (dl_tup (da_cons dl_int (da_cons (dl_neg dl_int) (da_cons dl_int (da_cons dl_int da_nil))))) (da_cons (dl_tup (da_cons (dl_neg dl_int) (da_cons dl_int (da_cons dl_int (da_cons (dl_neg dl_int) da_nil))))) da_nil))))) da_nil))) da_nil)))))))
  (ds_one (ds_ret (dl_var (pv 2))))))
def g__law_form : DS := (dRet (dCall S__law_led (dCons (dCall S__law_pick (dCons (dVar 0) (dCons (dCall S__law_classes (dCons (dVar 1) dNil)) dNil))) (dCons (dCall S__law_change (dCons (dVar 0) (dCons (dVar 2) dNil))) dNil))))
theorem w__law_form (z : Zs mg) (sy : SysOk K) (C__law_led : Cal P w K mg base "_law_led" P__law_led lv__law_led kw__law_led S__law_led) (C__law_pick : Cal P w K mg base "_law_pick" P__law_pick lv__law_pick kw__law_pick S__law_pick) (C__law_classes : Cal P w K mg base "_law_classes" P__law_classes lv__law_classes kw__law_classes S__law_classes) (C__law_change : Cal P w K mg base "_law_change" P__law_change lv__law_change kw__law_change S__law_change) : ∀ (cdv : Value) (A : Around) (outer : List PySem.Env) (s : Shared) (H : Hp) (E : XK), A.guards = some [] → Room 3 (A.deeper (PyProof.Rows.envOfC "_law_form" (defScope s__law_form) s.heap.objs.size a cdv)) →
    PSs (cxOf (L2.CX P w) P w K mg base N__law_form "_law_form" (defScope s__law_form) a cdv A outer s H E).nox (defBody s__law_form) (liftS (k0 K mg) g__law_form) := by
  intro cdv A outer s H E gd hr
  exact (ds_one (ds_ret (dc C__law_led gd (hr.mono (by decide)) (by rfl) (da_cons (dc C__law_pick gd (hr.mono (by decide)) (by rfl) (da_cons (dl_var (pv 0)) (da_cons (dc C__law_classes gd (hr.mono (by decide)) (by rfl) (da_cons (dl_var (pv 1)) da_nil)) da_nil))) (da_cons (dc C__law_change gd (hr.mono (by decide)) (by rfl) (da_cons (dl_var (pv 0)) (da_cons (dl_var (pv 2)) da_nil))) da_nil)))))
def g__law_wide : DS := (dSeq (dAsg (dTup (dCons (dC (.int 1)) (dCons (dC (.int 1)) (dCons (dC (.int 250000001)) dNil)))) (gName 1))
  (dSeq (dFor (dRange1 (dC (.int 20))) (gName 2) (dSeq (dAsg (dBin oAdd (dC (.int 1)) (dCall S__law_draw (dCons (dVar 0) (dCons (dCall S__law_pick (dCons (dVar 0) (dCons (dTup (dCons (dC (.int 30)) (dCons (dC (.int 1000)) (dCons (dC (.int 15000)) dNil)))) dNil))) dNil)))) (gName 3))
  (dSeq (dAsg (dTup (dCons (dVar 3) (dCons (dBin oSub (dCall S__law_draw (dCons (dVar 0) (dCons (dBin oAdd (dBin oMul (dC (.int 2)) (dVar 3)) (dC (.int 1))) dNil))) (dVar 3)) (dCons (dBin oAdd (dC (.int 1)) (dCall S__law_draw (dCons (dVar 0) (dCons (dBin oDiv (dC (.int 250000000)) (dVar 3)) dNil)))) dNil)))) (gName 4))
  (dIf (dTest (dCall S__law_is_positive (dCons (dVar 4) dNil))) (dSeq (dAsg (dVar 4) (gName 1))
  dBrk) dNext))))
  (dSeq (dAsg (dCall S__law_led (dCons (dVar 1) (dCons (dCall S__law_change (dCons (dVar 0) (dCons (dC (.int 8)) dNil))) dNil))) (gName 5))
  (dRet (dIfE (dTest (dBin oLe (dBlt cMax1 (dCons (dLc (dItems (dVar 5)) (gName 6) dYes (dBlt cAbs (dCons (dVar 6) dNil)) [6]) dNil)) (dBin oPow (dC (.int 10)) (dC (.int 12))))) (dVar 5) (dVar 1))))))
theorem w__law_wide (z : Zs mg) (sy : SysOk K) (C__law_draw : Cal P w K mg base "_law_draw" P__law_draw lv__law_draw kw__law_draw S__law_draw) (C__law_pick : Cal P w K mg base "_law_pick" P__law_pick lv__law_pick kw__law_pick S__law_pick) (C__law_is_positive : Cal P w K mg base "_law_is_positive" P__law_is_positive lv__law_is_positive kw__law_is_positive S__law_is_positive) (C__law_led : Cal P w K mg base "_law_led" P__law_led lv__law_led kw__law_led S__law_led) (C__law_change : Cal P w K mg base "_law_change" P__law_change lv__law_change kw__law_change S__law_change) : ∀ (cdv : Value) (A : Around) (outer : List PySem.Env) (s : Shared) (H : Hp) (E : XK), A.guards = some [] → Room 3 (A.deeper (PyProof.Rows.envOfC "_law_wide" (defScope s__law_wide) s.heap.objs.size a cdv)) →
    PSs (cxOf (L2.CX P w) P w K mg base N__law_wide "_law_wide" (defScope s__law_wide) a cdv A outer s H E).nox (defBody s__law_wide) (liftS (k0 K mg) g__law_wide) := by
  intro cdv A outer s H E gd hr
  exact (ds_cons (ds_set (i := 1) sc__law_wide.nd rfl (Or.inl rfl) (dl_tup (da_cons dl_int (da_cons dl_int (da_cons dl_int da_nil)))))
  (ds_cons (ds_for PassesOwn.never rfl (di_range1 (by rfl) z.z_range dl_int) (dg_name (pg_name (i := 2) sc__law_wide.nd rfl (Or.inl rfl))) (ds_cons (ds_set (i := 3) sc__law_wide.nd rfl (Or.inl rfl) (dl_bin opd_add dl_int (dc C__law_draw gd (hr.mono (by decide)) (by rfl) (da_cons (dl_var (pv 0)) (da_cons (dc C__law_pick gd (hr.mono (by decide)) (by rfl) (da_cons (dl_var (pv 0)) (da_cons (dl_tup (da_cons dl_int (da_cons dl_int (da_cons dl_int da_nil)))) da_nil))) da_nil)))))
  (ds_cons (ds_set (i := 4) sc__law_wide.nd rfl (Or.inl rfl) (dl_tup (da_cons (dl_var (pv 3)) (da_cons (dl_bin opd_sub (dc C__law_draw gd (hr.mono (by decide)) (by rfl) (da_cons (dl_var (pv 0)) (da_cons (dl_bin opd_add (dl_bin opd_mul dl_int (dl_var (pv 3))) dl_int) da_nil))) (dl_var (pv 3))) (da_cons (dl_bin opd_add dl_int (dc C__law_draw gd (hr.mono (by decide)) (by rfl) (da_cons (dl_var (pv 0)) (da_cons (dl_bin opd_div dl_int (dl_var (pv 3))) da_nil)))) da_nil)))))
  (ds_one (ds_if (dt_val (dc C__law_is_positive gd (hr.mono (by decide)) (by rfl) (da_cons (dl_var (pv 4)) da_nil))) (ds_cons (ds_set (i := 1) sc__law_wide.nd rfl (Or.inl rfl) (dl_var (pv 4)))
  (ds_one ds_break)) ds_nil)))))
  (ds_cons (ds_set (i := 5) sc__law_wide.nd rfl (Or.inl rfl) (dc C__law_led gd (hr.mono (by decide)) (by rfl) (da_cons (dl_var (pv 1)) (da_cons (dc C__law_change gd (hr.mono (by decide)) (by rfl) (da_cons (dl_var (pv 0)) (da_cons dl_int da_nil))) da_nil))))
  (ds_one (ds_ret (dl_ife (dt_cm opd_le (dl_callB (cd_max1 rfl) (by rfl) z.z_max bt_max (da_cons (dl_lc (own := [("x", 6)]) rfl sc__law_wide.nd (di_items (dl_var (pv 5))) (blkOk_by (N := N__law_wide) (sc := defScope s__law_wide) (by decide +kernel)) (fun _ _ _ _ _ => (dg_name (pg_name (i := 6) sc__law_wide.nd rfl (by first | exact Or.inl rfl | exact Or.inr rfl)))) (fun _ _ _ _ _ => dts_nil) (fun _ _ _ _ _ => (dl_callB cd_abs (by rfl) z.z_abs bt_abs (da_cons (dl_var (pv 6)) da_nil))) (by decide)) da_nil)) (dl_bin opd_pow dl_int dl_int) (nomark _)) (dl_var (pv 5)) (dl_var (pv 1))))))))
def x__law_bent_1 : DE := (dLst (dCons (dBlt cList (dCons (dVar 1) dNil)) (dCons (dSlice (dVar 1) dNoP (dSomeP (dNeg (dC (.int 1))))) (dCons (dBin oAdd (dVar 1) (dTup (dCons (dC (.int 0)) dNil))) (dCons (dBin oAdd (dVar 1) (dSlice (dVar 1) (dSomeP (dNeg (dC (.int 1)))) dNoP)) (dCons (dRev (dVar 1)) (dCons (dTup (dCons (dVar 1) dNil)) (dCons (dC .non) (dCons (dTup dNil) (dCons (dC (.str "()")) (dCons dDic0 (dCons (dC (.int 0)) (dCons (dLst (dCons (dVar 1) dNil)) (dCons (dBin oAdd (dSlice (dVar 1) (dSomeP (dC (.int 1))) dNoP) (dSlice (dVar 1) dNoP (dSomeP (dC (.int 1))))) (dCons (dDic1 "a" (dVar 1)) dNil)))))))))))))))
def x__law_bent_2 : DE := (dLst (dCons (dBin oAdd (dVar 1) (dC (.int 1))) (dCons (dBin oSub (dC (.int 0)) (dVar 1)) (dCons (dBin oSub (dVar 1) (dC (.int 1))) (dCons (dC (.int 0)) (dCons (dC (.bl true)) (dCons (dC (.bl false)) (dCons (dBlt cStrU (dCons (dVar 1) dNil)) (dCons (dC .non) (dCons (dTup (dCons (dVar 1) dNil)) (dCons (dLst (dCons (dVar 1) dNil)) (dCons (dC (.int 1)) dNil))))))))))))
def x__law_bent_3 : DE := (dLst (dCons (dVar 1) (dCons (dC .non) (dCons (dTup (dCons (dVar 1) dNil)) (dCons (dC (.int 0)) (dCons (dC (.str "x")) (dCons (dC (.str "")) (dCons (dLst (dCons (dVar 1) dNil)) dNil))))))))
def g__law_bent (Sr : SD) : DS := (dSeq (dIf (dAnd (dTest (dBlt cIsi (dCons (dVar 1) (dCons (dC (.raw (.ty "tuple"))) dNil)))) (dAnd (dTest (dBin oNe (dVar 1) (dTup dNil))) (dTest (dBin oGt (dCall S__law_draw (dCons (dVar 0) (dCons (dC (.int 3)) dNil))) (dC (.int 0)))))) (dSeq (dAsg (dCall S__law_draw (dCons (dVar 0) (dCons (dBlt cLen (dCons (dVar 1) dNil)) dNil))) (gName 2))
  (dRet (dBin oAdd (dBin oAdd (dSlice (dVar 1) dNoP (dSomeP (dVar 2))) (dTup (dCons (dCall Sr (dCons (dVar 0) (dCons (dBin oIx (dVar 1) (dVar 2)) dNil))) dNil))) (dSlice (dVar 1) (dSomeP (dBin oAdd (dVar 2) (dC (.int 1)))) dNoP)))) dNext)
  (dSeq (dIf (dTest (dBlt cIsi (dCons (dVar 1) (dCons (dC (.raw (.ty "tuple"))) dNil)))) (dRet (dCall S__law_pick (dCons (dVar 0) (dCons x__law_bent_1 dNil)))) dNext)
  (dSeq (dIf (dTest (dBlt cIsi (dCons (dVar 1) (dCons (dC (.raw (.ty "int"))) dNil)))) (dRet (dCall S__law_pick (dCons (dVar 0) (dCons x__law_bent_2 dNil)))) dNext)
  (dRet (dCall S__law_pick (dCons (dVar 0) (dCons x__law_bent_3 dNil)))))))
theorem w__law_bent {lr lq : Nat} (hl : lr ≤ lq) (hl2 : 2 ≤ lq) (Sr : SD) (z : Zs mg) (sy : SysOk K) (C__law_draw : Cal P w K mg base "_law_draw" P__law_draw lv__law_draw kw__law_draw S__law_draw) (C__law_bent : Cal P w K mg base "_law_bent" P__law_bent lr kw__law_bent Sr) (C__law_pick : Cal P w K mg base "_law_pick" P__law_pick lv__law_pick kw__law_pick S__law_pick) : ∀ (cdv : Value) (A : Around) (outer : List PySem.Env) (s : Shared) (H : Hp) (E : XK), A.guards = some [] → Room lq (A.deeper (PyProof.Rows.envOfC "_law_bent" (defScope s__law_bent) s.heap.objs.size a cdv)) →
    PSs (cxOf (L2.CX P w) P w K mg base N__law_bent "_law_bent" (defScope s__law_bent) a cdv A outer s H E).nox (defBody s__law_bent) (liftS (k0 K mg) (g__law_bent Sr)) := by
  intro cdv A outer s H E gd hr
  exact (ds_cons (ds_if (dw_and (dt_val (dl_callB cd_isi (by rfl) z.z_isinstance bt_isinstance (da_cons (dl_var (pv 1)) (da_cons (dl_raw (pe_bltn (by rfl) z.z_tuple bt_tuple (by exact rfl))) da_nil)))) (dw_and (dt_cm (opd_ne hr.units) (dl_var (pv 1)) (dl_tup da_nil) (nomark _)) (dw_and1 (dt_cm opd_gt (dc C__law_draw gd (hr.mono (Nat.le_trans (by decide : lv__law_draw ≤ 2) hl2)) (by rfl) (da_cons (dl_var (pv 0)) (da_cons dl_int da_nil))) dl_int (nomark _))))).pt (ds_cons (ds_set (i := 2) sc__law_bent.nd rfl (Or.inl rfl) (dc C__law_draw gd (hr.mono (Nat.le_trans (by decide : lv__law_draw ≤ 2) hl2)) (by rfl) (da_cons (dl_var (pv 0)) (da_cons (dl_callB cd_len (by rfl) z.z_len bt_len (da_cons (dl_var (pv 1)) da_nil)) da_nil))))
  (ds_one (ds_ret (dl_bin opd_add (dl_bin opd_add (dl_slice (dl_var (pv 1)) dp_none (dp_some (dl_var (pv 2)))) (dl_tup (da_cons (dc C__law_bent gd (hr.mono hl) (by rfl) (da_cons (dl_var (pv 0)) (da_cons (dl_ix (dl_var (pv 1)) (dl_var (pv 2))) da_nil))) da_nil))) (dl_slice (dl_var (pv 1)) (dp_some (dl_bin opd_add (dl_var (pv 2)) dl_int)) dp_none))))) ds_nil)
  (ds_cons (ds_if (dt_val (dl_callB cd_isi (by rfl) z.z_isinstance bt_isinstance (da_cons (dl_var (pv 1)) (da_cons (dl_raw (pe_bltn (by rfl) z.z_tuple bt_tuple (by exact rfl))) da_nil)))) (ds_one (ds_ret (dc C__law_pick gd (hr.mono (Nat.le_trans (by decide : lv__law_pick ≤ 2) hl2)) (by rfl) (da_cons (dl_var (pv 0)) (da_cons (dl_lst (da_cons (dl_callT cd_list (by rfl) z.z_list bt_list (da_cons (dl_var (pv 1)) da_nil)) (da_cons (dl_slice (dl_var (pv 1)) dp_none (dp_some (dl_neg dl_int))) (da_cons (dl_bin opd_add (dl_var (pv 1)) (dl_tup (da_cons dl_int da_nil))) (da_cons (dl_bin opd_add (dl_var (pv 1)) (dl_slice (dl_var (pv 1)) (dp_some (dl_neg dl_int)) dp_none)) (da_cons (dl_rev (dl_var (pv 1))) (da_cons (dl_tup (da_cons (dl_var (pv 1)) da_nil)) (da_cons dl_non (da_cons (dl_tup da_nil) (da_cons dl_str (da_cons dl_dic0 (da_cons dl_int (da_cons (dl_lst (da_cons (dl_var (pv 1)) da_nil)) (da_cons (dl_bin opd_add (dl_slice (dl_var (pv 1)) (dp_some dl_int) dp_none) (dl_slice (dl_var (pv 1)) dp_none (dp_some dl_int))) (da_cons (dl_dic1 (dl_var (pv 1))) da_nil))))))))))))))) da_nil))))) ds_nil)
  (ds_cons (ds_if (dt_val (dl_callB cd_isi (by rfl) z.z_isinstance bt_isinstance (da_cons (dl_var (pv 1)) (da_cons (dl_raw (pe_bltn (by rfl) z.z_int bt_int (by exact rfl))) da_nil)))) (ds_one (ds_ret (dc C__law_pick gd (hr.mono (Nat.le_trans (by decide : lv__law_pick ≤ 2) hl2)) (by rfl) (da_cons (dl_var (pv 0)) (da_cons (dl_lst (da_cons (dl_bin opd_add (dl_var (pv 1)) dl_int) (da_cons (dl_bin opd_sub dl_int (dl_var (pv 1))) (da_cons (dl_bin opd_sub (dl_var (pv 1)) dl_int) (da_cons dl_int (da_cons dl_bl (da_cons dl_bl (da_cons (dl_callT (cd_strU sy gd hr.units) (by rfl) z.z_str bt_str (da_cons (dl_var (pv 1)) da_nil)) (da_cons dl_non (da_cons (dl_tup (da_cons (dl_var (pv 1)) da_nil)) (da_cons (dl_lst (da_cons (dl_var (pv 1)) da_nil)) (da_cons dl_int da_nil)))))))))))) da_nil))))) ds_nil)
  (ds_one (ds_ret (dc C__law_pick gd (hr.mono (Nat.le_trans (by decide : lv__law_pick ≤ 2) hl2)) (by rfl) (da_cons (dl_var (pv 0)) (da_cons (dl_lst (da_cons (dl_var (pv 1)) (da_cons dl_non (da_cons (dl_tup (da_cons (dl_var (pv 1)) da_nil)) (da_cons dl_int (da_cons dl_str (da_cons dl_str (da_cons (dl_lst (da_cons (dl_var (pv 1)) da_nil)) da_nil)))))))) da_nil))))))))
def g__law_value : DS := (dRet (dBin oAdd (dBin oAdd (dBin oMul (dBin oMul (dBin oIx (dVar 0) (dC (.int 0))) (dVar 1)) (dVar 1)) (dBin oMul (dBin oMul (dBin oIx (dVar 0) (dC (.int 1))) (dVar 1)) (dVar 2))) (dBin oMul (dBin oMul (dBin oIx (dVar 0) (dC (.int 2))) (dVar 2)) (dVar 2))))
theorem w__law_value (z : Zs mg) (sy : SysOk K)  : ∀ (cdv : Value) (A : Around) (outer : List PySem.Env) (s : Shared) (H : Hp) (E : XK), A.guards = some [] → Room 0 (A.deeper (PyProof.Rows.envOfC "_law_value" (defScope s__law_value) s.heap.objs.size a cdv)) →
    PSs (cxOf (L2.CX P w) P w K mg base N__law_value "_law_value" (defScope s__law_value) a cdv A outer s H E).nox (defBody s__law_value) (liftS (k0 K mg) g__law_value) := by
  intro cdv A outer s H E gd hr
  exact (ds_one (ds_ret (dl_bin opd_add (dl_bin opd_add (dl_bin opd_mul (dl_bin opd_mul (dl_ix (dl_var (pv 0)) dl_int) (dl_var (pv 1))) (dl_var (pv 1))) (dl_bin opd_mul (dl_bin opd_mul (dl_ix (dl_var (pv 0)) dl_int) (dl_var (pv 1))) (dl_var (pv 2)))) (dl_bin opd_mul (dl_bin opd_mul (dl_ix (dl_var (pv 0)) dl_int) (dl_var (pv 2))) (dl_var (pv 2))))))
def g__law_told (f0 : Addr) (p0 : D → Prop) (px0 : Ex → Prop) : DS := (dSeq (dAsg (dC .non) (gName 1))
  (dSeq (dTry XN 2 (fun _ _ => False) (fun wx => (dAsg (dTup (dCons (dC (.str "told")) (dCons (dAct f0 wx p0 px0) dNil))) (gName 1))) [("BadForm", fun x a => (dAsg (dTup (dCons (dC (.str "form")) (dCons (dFld XN FS x a 2 "thing") (dCons (dIsE XN x a 2 "RulerError") dNil)))) (gName 1))), ("BadChange", fun x a => (dAsg (dTup (dCons (dC (.str "change")) (dCons (dFld XN FS x a 2 "thing") (dCons (dIsE XN x a 2 "RulerError") dNil)))) (gName 1)))])
  (dRet (dVar 1))))
theorem w__law_told (z : Zs mg) (sy : SysOk K) (xc : XcAll K mg XN FS) : ∀ (f0 : Addr) (p0 : D → Prop) (px0 : Ex → Prop) (zz : Fz) (cdv : Value) (A : Around) (outer : List PySem.Env) (s : Shared) (H : Hp), A.guards = some [] → Room (lk__law_told + 1) (A.deeper (PyProof.Rows.envOfC "_law_told" (defScope s__law_told) s.heap.objs.size a cdv)) → ActOk (toldX P w K mg base N__law_told "_law_told" (defScope s__law_told) a cdv A outer s H) zz "call" f0 p0 px0 →
    PSs (toldX P w K mg base N__law_told "_law_told" (defScope s__law_told) a cdv A outer s H).nox (defBody s__law_told) (liftS (kT K mg zz) (g__law_told f0 p0 px0)) := by
  intro f0 p0 px0 zz cdv A outer s H gd hr act
  exact (ds_cons (ds_set (i := 1) sc__law_told.nd rfl (Or.inl rfl) dl_non)
  (ds_cons (ds_try (xn := XN) (fs := FS) (i := 2) (hs := [("BadForm", fun x a => (dAsg (dTup (dCons (dC (.str "form")) (dCons (dFld XN FS x a 2 "thing") (dCons (dIsE XN x a 2 "RulerError") dNil)))) (gName 1))), ("BadChange", fun x a => (dAsg (dTup (dCons (dC (.str "change")) (dCons (dFld XN FS x a 2 "thing") (dCons (dIsE XN x a 2 "RulerError") dNil)))) (gName 1)))]) xc rfl rfl sc__law_told.nd rfl rfl takes0 (fun wx _ pn xe tk po => (ds_one (ds_set (i := 1) sc__law_told.nd rfl (Or.inl rfl) (dl_tup (da_cons dl_str (da_cons (act _ _ _ _ _ _ tk) da_nil))))))
  (by intro h hm; simp only [List.mem_cons, List.not_mem_nil, or_false] at hm; rcases hm with rfl | rfl <;> decide) (DH.cons (by rfl) (by decide) (fun x a oe cls d pn hz hf => (ds_one (ds_set (i := 1) sc__law_told.nd rfl (Or.inl rfl) (dl_tup (da_cons dl_str (da_cons (dl_fld xc hz hf (pv 2)) (da_cons (dl_isE xc hz hf (pv 2) (by rfl) z.z_isinstance (by rfl)) da_nil)))))))
  (DH.cons (by rfl) (by decide) (fun x a oe cls d pn hz hf => (ds_one (ds_set (i := 1) sc__law_told.nd rfl (Or.inl rfl) (dl_tup (da_cons dl_str (da_cons (dl_fld xc hz hf (pv 2)) (da_cons (dl_isE xc hz hf (pv 2) (by rfl) z.z_isinstance (by rfl)) da_nil)))))))
  DH.nil)))
  (ds_one (ds_ret (dl_var (pv 1))))))
def b__law_is_right_1 : DS := (dAsg (dTup (dCons (dCall S__law_led (dCons (dVar 0) (dCons (dVar 1) dNil))) (dCons (dCall S__law_reducing (dCons (dVar 0) dNil)) dNil))) (gTup 2 (gCons (gName 3) (gCons (gTup 2 (gCons (gName 4) (gCons (gName 5) gNil))) gNil))))
def b__law_is_right_2 : DS := (dAsg (dLst (dCons (dCall S_led_form (dCons (dVar 0) (dCons (dVar 1) dNil))) (dCons (dCallK S_led_form 0 2 [1, 0] dNil (dCons (dVar 1) (dCons (dVar 0) dNil))) dNil))) (gName 6))
def b__law_is_right_3 : DS := (dIf (dNot (dTest (dCall S__law_is_positive (dCons (dBin oIx (dVar 6) (dC (.int 0))) dNil)))) (dRet (dC (.bl false))) dNext)
def b__law_is_right_4 : DS := (dFor (dItems (dTup (dCons (dTup (dCons (dC (.int 1)) (dCons (dC (.int 0)) dNil))) (dCons (dTup (dCons (dC (.int 0)) (dCons (dC (.int 1)) dNil))) (dCons (dTup (dCons (dC (.int 1)) (dCons (dC (.int 1)) dNil))) (dCons (dTup (dCons (dC (.int 2)) (dCons (dNeg (dC (.int 3))) dNil))) (dCons (dTup (dCons (dC (.int 5)) (dCons (dC (.int 7)) dNil))) dNil))))))) (gTup 2 (gCons (gName 7) (gCons (gName 8) gNil))) (dIf (dTest (dBin oNe (dCall S__law_value (dCons (dBin oIx (dVar 6) (dC (.int 0))) (dCons (dVar 7) (dCons (dVar 8) dNil)))) (dCall S__law_value (dCons (dVar 0) (dCons (dBin oAdd (dBin oMul (dBin oIx (dVar 1) (dC (.int 0))) (dVar 7)) (dBin oMul (dBin oIx (dVar 1) (dC (.int 1))) (dVar 8))) (dCons (dBin oAdd (dBin oMul (dBin oIx (dVar 1) (dC (.int 2))) (dVar 7)) (dBin oMul (dBin oIx (dVar 1) (dC (.int 3))) (dVar 8))) dNil)))))) (dRet (dC (.bl false))) dNext))
def b__law_is_right_5 : DS := (dIf (dTest (dBin oNe (dBlt cRepr (dCons (dCall S_led_form (dCons (dBin oIx (dVar 6) (dC (.int 0))) (dCons (dVar 2) dNil))) dNil)) (dBlt cRepr (dCons (dCall S__law_led (dCons (dVar 0) (dCons (dCall S__law_product (dCons (dVar 1) (dCons (dVar 2) dNil))) dNil))) dNil)))) (dRet (dC (.bl false))) dNext)
def b__law_is_right_6 : DS := (dIf (dOr (dTest (dBin oNe (dBlt cRepr (dCons (dVar 6) dNil)) (dBlt cRepr (dCons (dLst (dCons (dVar 3) (dCons (dVar 3) dNil))) dNil)))) (dTest (dBin oNe (dBlt cRepr (dCons (dLst (dCons (dCall S_class_of (dCons (dVar 0) dNil)) (dCons (dCallK S_class_of 0 1 [0] dNil (dCons (dVar 3) dNil)) dNil))) dNil)) (dBlt cRepr (dCons (dLst (dCons (dVar 4) (dCons (dVar 4) dNil))) dNil))))) (dRet (dC (.bl false))) dNext)
def b__law_is_right_7 : DS := (dFor (dItems (dTup (dCons (dCall S_reducing (dCons (dVar 0) dNil)) (dCons (dCallK S_reducing 0 1 [0] dNil (dCons (dVar 0) dNil)) dNil)))) (gName 6) (dIf (dOr (dNot (dTest (dCall S__law_is_whole (dCons (dVar 6) dNil)))) (dTest (dBin oNe (dCall S__law_led (dCons (dVar 0) (dCons (dVar 6) dNil))) (dVar 4)))) (dRet (dC (.bl false))) dNext))
def g__law_is_right : DS := (dSeq b__law_is_right_1
  (dSeq b__law_is_right_2
  (dSeq b__law_is_right_3
  (dSeq b__law_is_right_4
  (dSeq b__law_is_right_5
  (dSeq b__law_is_right_6
  (dSeq b__law_is_right_7
  (dRet (dC (.bl true))))))))))
theorem w__law_is_right (z : Zs mg) (sy : SysOk K) (C__law_led : Cal P w K mg base "_law_led" P__law_led lv__law_led kw__law_led S__law_led) (C__law_reducing : Cal P w K mg base "_law_reducing" P__law_reducing lv__law_reducing kw__law_reducing S__law_reducing) (C_led_form : Cal P w K mg base "led_form" P_led_form lv_led_form kw_led_form S_led_form) (C__law_is_positive : Cal P w K mg base "_law_is_positive" P__law_is_positive lv__law_is_positive kw__law_is_positive S__law_is_positive) (C__law_value : Cal P w K mg base "_law_value" P__law_value lv__law_value kw__law_value S__law_value) (C__law_product : Cal P w K mg base "_law_product" P__law_product lv__law_product kw__law_product S__law_product) (C_class_of : Cal P w K mg base "class_of" P_class_of lv_class_of kw_class_of S_class_of) (C_reducing : Cal P w K mg base "reducing" P_reducing lv_reducing kw_reducing S_reducing) (C__law_is_whole : Cal P w K mg base "_law_is_whole" P__law_is_whole lv__law_is_whole kw__law_is_whole S__law_is_whole) : ∀ (cdv : Value) (A : Around) (outer : List PySem.Env) (s : Shared) (H : Hp) (E : XK), A.guards = some [] → Room 5 (A.deeper (PyProof.Rows.envOfC "_law_is_right" (defScope s__law_is_right) s.heap.objs.size a cdv)) →
    PSs (cxOf (L2.CX P w) P w K mg base N__law_is_right "_law_is_right" (defScope s__law_is_right) a cdv A outer s H E).nox (defBody s__law_is_right) (liftS (k0 K mg) g__law_is_right) := by
  intro cdv A outer s H E gd hr
  exact (ds_cons (ds_asg (dl_tup (da_cons (dc C__law_led gd (hr.mono (by decide)) (by rfl) (da_cons (dl_var (pv 0)) (da_cons (dl_var (pv 1)) da_nil))) (da_cons (dc C__law_reducing gd (hr.mono (by decide)) (by rfl) (da_cons (dl_var (pv 0)) da_nil)) da_nil))) (dg_tup rfl (dg_cons (dg_name (pg_name (i := 3) sc__law_is_right.nd rfl (Or.inl rfl))) (dg_cons (dg_tup rfl (dg_cons (dg_name (pg_name (i := 4) sc__law_is_right.nd rfl (Or.inl rfl))) (dg_cons (dg_name (pg_name (i := 5) sc__law_is_right.nd rfl (Or.inl rfl))) dg_nil))) dg_nil))))
  (ds_cons (ds_set (i := 6) sc__law_is_right.nd rfl (Or.inl rfl) (dl_lst (da_cons (dc C_led_form gd (hr.mono (by decide)) (by rfl) (da_cons (dl_var (pv 0)) (da_cons (dl_var (pv 1)) da_nil))) (da_cons (dck0 (ks := ["change", "form"]) (ix := [1, 0]) C_led_form gd (hr.mono (by decide)) (by rfl) (by first | exact List.mem_cons_self | (simp [kw_led_form]; done)) (dk_cons (dl_var (pv 1)) (dk_cons (dl_var (pv 0)) dk_nil))) da_nil))))
  (ds_cons (ds_if (dt_not (dt_val (dc C__law_is_positive gd (hr.mono (by decide)) (by rfl) (da_cons (dl_ix (dl_var (pv 6)) dl_int) da_nil)))) (ds_one (ds_ret dl_bl)) ds_nil)
  (ds_cons (ds_for PassesOwn.never rfl (di_items (dl_tup (da_cons (dl_tup (da_cons dl_int (da_cons dl_int da_nil))) (da_cons (dl_tup (da_cons dl_int (da_cons dl_int da_nil))) (da_cons (dl_tup (da_cons dl_int (da_cons dl_int da_nil))) (da_cons (dl_tup (da_cons dl_int (da_cons (dl_neg dl_int) da_nil))) (da_cons (dl_tup (da_cons dl_int (da_cons dl_int da_nil))) da_nil))))))) (dg_tup rfl (dg_cons (dg_name (pg_name (i := 7) sc__law_is_right.nd rfl (Or.inl rfl))) (dg_cons (dg_name (pg_name (i := 8) sc__law_is_right.nd rfl (Or.inl rfl))) dg_nil))) (ds_one (ds_if (dt_cm (opd_ne hr.units) (dc C__law_value gd (hr.mono (by decide)) (by rfl) (da_cons (dl_ix (dl_var (pv 6)) dl_int) (da_cons (dl_var (pv 7)) (da_cons (dl_var (pv 8)) da_nil)))) (dc C__law_value gd (hr.mono (by decide)) (by rfl) (da_cons (dl_var (pv 0)) (da_cons (dl_bin opd_add (dl_bin opd_mul (dl_ix (dl_var (pv 1)) dl_int) (dl_var (pv 7))) (dl_bin opd_mul (dl_ix (dl_var (pv 1)) dl_int) (dl_var (pv 8)))) (da_cons (dl_bin opd_add (dl_bin opd_mul (dl_ix (dl_var (pv 1)) dl_int) (dl_var (pv 7))) (dl_bin opd_mul (dl_ix (dl_var (pv 1)) dl_int) (dl_var (pv 8)))) da_nil)))) (nomark _)) (ds_one (ds_ret dl_bl)) ds_nil)))
  (ds_cons (ds_if (dt_cm (opd_ne hr.units) (dl_callB (cd_repr sy gd hr.units) (by rfl) z.z_repr bt_repr (da_cons (dc C_led_form gd (hr.mono (by decide)) (by rfl) (da_cons (dl_ix (dl_var (pv 6)) dl_int) (da_cons (dl_var (pv 2)) da_nil))) da_nil)) (dl_callB (cd_repr sy gd hr.units) (by rfl) z.z_repr bt_repr (da_cons (dc C__law_led gd (hr.mono (by decide)) (by rfl) (da_cons (dl_var (pv 0)) (da_cons (dc C__law_product gd (hr.mono (by decide)) (by rfl) (da_cons (dl_var (pv 1)) (da_cons (dl_var (pv 2)) da_nil))) da_nil))) da_nil)) (nomark _)) (ds_one (ds_ret dl_bl)) ds_nil)
  (ds_cons (ds_if (dw_or (dt_cm (opd_ne hr.units) (dl_callB (cd_repr sy gd hr.units) (by rfl) z.z_repr bt_repr (da_cons (dl_var (pv 6)) da_nil)) (dl_callB (cd_repr sy gd hr.units) (by rfl) z.z_repr bt_repr (da_cons (dl_lst (da_cons (dl_var (pv 3)) (da_cons (dl_var (pv 3)) da_nil))) da_nil)) (nomark _)) (dw_or1 (dt_cm (opd_ne hr.units) (dl_callB (cd_repr sy gd hr.units) (by rfl) z.z_repr bt_repr (da_cons (dl_lst (da_cons (dc C_class_of gd (hr.mono (by decide)) (by rfl) (da_cons (dl_var (pv 0)) da_nil)) (da_cons (dck0 (ks := ["form"]) (ix := [0]) C_class_of gd (hr.mono (by decide)) (by rfl) (by first | exact List.mem_cons_self | (simp [kw_class_of]; done)) (dk_cons (dl_var (pv 3)) dk_nil)) da_nil))) da_nil)) (dl_callB (cd_repr sy gd hr.units) (by rfl) z.z_repr bt_repr (da_cons (dl_lst (da_cons (dl_var (pv 4)) (da_cons (dl_var (pv 4)) da_nil))) da_nil)) (nomark _)))).pt (ds_one (ds_ret dl_bl)) ds_nil)
  (ds_cons (ds_for PassesOwn.never rfl (di_items (dl_tup (da_cons (dc C_reducing gd (hr.mono (by decide)) (by rfl) (da_cons (dl_var (pv 0)) da_nil)) (da_cons (dck0 (ks := ["form"]) (ix := [0]) C_reducing gd (hr.mono (by decide)) (by rfl) (by first | exact List.mem_cons_self | (simp [kw_reducing]; done)) (dk_cons (dl_var (pv 0)) dk_nil)) da_nil)))) (dg_name (pg_name (i := 6) sc__law_is_right.nd rfl (Or.inl rfl))) (ds_one (ds_if (dw_or (dt_not (dt_val (dc C__law_is_whole gd (hr.mono (by decide)) (by rfl) (da_cons (dl_var (pv 6)) da_nil)))) (dw_or1 (dt_cm (opd_ne hr.units) (dc C__law_led gd (hr.mono (by decide)) (by rfl) (da_cons (dl_var (pv 0)) (da_cons (dl_var (pv 6)) da_nil))) (dl_var (pv 4)) (nomark _)))).pt (ds_one (ds_ret dl_bl)) ds_nil)))
  (ds_one (ds_ret dl_bl)))))))))
def b_law_1 : DS := (dAsg (dTup (dCons (dCall S__law_bent (dCons (dVar 1) (dCons (dVar 3) dNil))) (dCons (dCall S__law_bent (dCons (dVar 1) (dCons (dVar 4) dNil))) dNil))) (gTup 2 (gCons (gName 9) (gCons (gName 10) gNil))))
def b_law_2 : DS := (dIf (dTest (dCall S__law_is_positive (dCons (dVar 9) dNil))) (dAsg (dTup (dCons (dBin oSub (dC (.int 0)) (dBin oIx (dVar 9) (dC (.int 0)))) (dCons (dBin oIx (dVar 9) (dC (.int 1))) (dCons (dBin oIx (dVar 9) (dC (.int 2))) dNil)))) (gName 9)) dNext)
def b_law_3 : DS := (dNew 11 (dCons (dTold T1__law_told T2__law_told (fun wx => (dCallX wx S_led_form (dCons (dVar 9) (dCons (dVar 10) dNil))))) dNil))
def b_law_4 : DS := (dAppend 11 (dTold T1__law_told T2__law_told (fun wx => (dCallX wx S_class_of (dCons (dVar 9) dNil)))))
def b_law_5 : DS := (dAppend 11 (dTold T1__law_told T2__law_told (fun wx => (dCallX wx S_reducing (dCons (dVar 9) dNil)))))
def b_law_6 : DS := (dIf (dPeekT 11 (dTest (dBin oNe (dBlt cRepr (dCons (dVar 11) dNil)) (dBlt cRepr (dCons (dBin oMul (dLst (dCons (dTup (dCons (dC (.str "form")) (dCons (dVar 9) (dCons (dC (.bl true)) dNil)))) dNil)) (dC (.int 3))) dNil))))) (dRet (dC (.bl false))) dNext)
def b_law_7 : DS := (dIf (dTest (dCall S__law_is_whole (dCons (dVar 10) dNil))) (dAsg (dCall S__law_pick (dCons (dVar 1) (dCons (dLst (dCons (dTup (dCons (dC (.int 1)) (dCons (dC (.int 0)) (dCons (dC (.int 0)) (dCons (dNeg (dC (.int 1))) dNil))))) (dCons (dSlice (dVar 10) dNoP (dSomeP (dC (.int 3)))) (dCons (dBlt cList (dCons (dVar 10) dNil)) dNil)))) dNil))) (gName 10)) dNext)
def b_law_8 : DS := (dIf (dTest (dBin oNe (dBlt cRepr (dCons (dTold T1__law_told T2__law_told (fun wx => (dCallX wx S_led_form (dCons (dVar 3) (dCons (dVar 10) dNil))))) dNil)) (dBlt cRepr (dCons (dTup (dCons (dC (.str "change")) (dCons (dVar 10) (dCons (dC (.bl true)) dNil)))) dNil)))) (dRet (dC (.bl false))) dNext)
def b_law_9 : DS := (dAsg (dCall S__law_discriminant (dCons (dVar 1) (dCons (dIfE (dTest (dBin oEq (dCall S__law_draw (dCons (dVar 1) (dCons (dC (.int 4)) dNil))) (dC (.int 0)))) (dC (.int 499)) (dC (.int 60))) dNil))) (gName 2))
def b_law_10 : DS := (dAsg (dTup (dCons (dCall S__law_form (dCons (dVar 1) (dCons (dVar 2) (dCons (dC (.int 8)) dNil)))) (dCons (dCall S__law_change (dCons (dVar 1) (dCons (dC (.int 4)) dNil))) (dCons (dCall S__law_change (dCons (dVar 1) (dCons (dC (.int 3)) dNil))) dNil)))) (gTup 3 (gCons (gName 3) (gCons (gName 4) (gCons (gName 5) gNil)))))
def b_law_11 : DS := (dAsg (dCall S__law_led (dCons (dVar 3) (dCons (dVar 4) dNil))) (gName 6))
def b_law_12 : DS := (dIf (dTest (dBin oGt (dBlt cMax1 (dCons (dLc (dItems (dBin oAdd (dBin oAdd (dVar 3) (dVar 6)) (dCall S__law_led (dCons (dVar 6) (dCons (dVar 5) dNil))))) (gName 12) dYes (dBlt cAbs (dCons (dVar 12) dNil)) [12]) dNil)) (dBin oPow (dC (.int 10)) (dC (.int 12))))) (dAsg (dTup (dCons (dCall S__law_form (dCons (dVar 1) (dCons (dVar 2) (dCons (dC (.int 1)) dNil)))) (dCons (dTup (dCons (dC (.int 1)) (dCons (dC (.int 2)) (dCons (dC (.int 0)) (dCons (dC (.int 1)) dNil))))) (dCons (dTup (dCons (dC (.int 0)) (dCons (dNeg (dC (.int 1))) (dCons (dC (.int 1)) (dCons (dC (.int 0)) dNil))))) dNil)))) (gTup 3 (gCons (gName 3) (gCons (gName 4) (gCons (gName 5) gNil))))) dNext)
def b_law_13 : DS := (dIf (dNot (dTest (dCall S__law_is_right (dCons (dVar 3) (dCons (dVar 4) (dCons (dVar 5) dNil)))))) (dRet (dC (.bl false))) dNext)
def b_law_14 : DS := (dPar3 7 4 5 (dCons (dCall S__law_wide (dCons (dVar 1) dNil)) (dCons (dCall S__law_change (dCons (dVar 1) (dCons (dC (.int 4)) dNil))) (dCons (dCall S__law_change (dCons (dVar 1) (dCons (dC (.int 3)) dNil))) dNil))))
def b_law_15 : DS := (dAsg (dCall S__law_led (dCons (dVar 7) (dCons (dVar 4) dNil))) (gName 6))
def b_law_16 : DS := (dIf (dTest (dBin oGt (dBlt cMax1 (dCons (dLc (dItems (dBin oAdd (dVar 6) (dCall S__law_led (dCons (dVar 6) (dCons (dVar 5) dNil))))) (gName 12) dYes (dBlt cAbs (dCons (dVar 12) dNil)) [12]) dNil)) (dBin oPow (dC (.int 10)) (dC (.int 12))))) (dAsg (dTup (dCons (dTup (dCons (dC (.int 0)) (dCons (dNeg (dC (.int 1))) (dCons (dC (.int 1)) (dCons (dC (.int 0)) dNil))))) (dCons (dTup (dCons (dC (.int 1)) (dCons (dC (.int 0)) (dCons (dC (.int 0)) (dCons (dC (.int 1)) dNil))))) dNil))) (gTup 2 (gCons (gName 4) (gCons (gName 5) gNil)))) dNext)
def b_law_17 : DS := (dIf (dNot (dTest (dCall S__law_is_right (dCons (dVar 7) (dCons (dVar 4) (dCons (dVar 5) dNil)))))) (dRet (dC (.bl false))) dNext)
def b_law_18 : DS := (dFor (dRange1 (dC (.int 5))) (gName 8) (dSeq b_law_1
  (dSeq b_law_2
  (dSeq b_law_3
  (dSeq b_law_4
  (dSeq b_law_5
  (dSeq b_law_6
  (dSeq b_law_7
  b_law_8))))))))
def g_law : DS := (dSeq b_law_9
  (dSeq b_law_10
  (dSeq b_law_11
  (dSeq b_law_12
  (dSeq b_law_13
  (dSeq b_law_14
  (dSeq b_law_15
  (dSeq b_law_16
  (dSeq b_law_17
  (dSeq b_law_18
  (dRet (dC (.bl true)))))))))))))
theorem w_law (z : Zs mg) (sy : SysOk K) (C__law_deck : Cal P w K mg base "_law_deck" P__law_deck lv__law_deck kw__law_deck (S_deck 0)) (C__law_discriminant : Cal P w K mg base "_law_discriminant" P__law_discriminant lv__law_discriminant kw__law_discriminant S__law_discriminant) (C__law_draw : Cal P w K mg base "_law_draw" P__law_draw lv__law_draw kw__law_draw S__law_draw) (C__law_form : Cal P w K mg base "_law_form" P__law_form lv__law_form kw__law_form S__law_form) (C__law_change : Cal P w K mg base "_law_change" P__law_change lv__law_change kw__law_change S__law_change) (C__law_led : Cal P w K mg base "_law_led" P__law_led lv__law_led kw__law_led S__law_led) (C__law_is_right : Cal P w K mg base "_law_is_right" P__law_is_right lv__law_is_right kw__law_is_right S__law_is_right) (C__law_wide : Cal P w K mg base "_law_wide" P__law_wide lv__law_wide kw__law_wide S__law_wide) (C__law_bent : Cal P w K mg base "_law_bent" P__law_bent lv__law_bent kw__law_bent S__law_bent) (C__law_is_positive : Cal P w K mg base "_law_is_positive" P__law_is_positive lv__law_is_positive kw__law_is_positive S__law_is_positive) (C__law_told : Tol P w K mg base "_law_told" lk__law_told T1__law_told T2__law_told) (C_led_form : Cal P w K mg base "led_form" P_led_form lv_led_form kw_led_form S_led_form) (C_class_of : Cal P w K mg base "class_of" P_class_of lv_class_of kw_class_of S_class_of) (C_reducing : Cal P w K mg base "reducing" P_reducing lv_reducing kw_reducing S_reducing) (C__law_is_whole : Cal P w K mg base "_law_is_whole" P__law_is_whole lv__law_is_whole kw__law_is_whole S__law_is_whole) (C__law_pick : Cal P w K mg base "_law_pick" P__law_pick lv__law_pick kw__law_pick S__law_pick) : ∀ (cdv : Value) (A : Around) (outer : List PySem.Env) (s : Shared) (H : Hp) (E : XK), A.guards = some [] → Room 7 (A.deeper (PyProof.Rows.envOfC "law" (defScope s_law) s.heap.objs.size a cdv)) → LamOk K base mg cdv "law" →
    PSs (cxOf (L2.CX P w) P w K mg base N_law "law" (defScope s_law) a cdv A outer s H E).nox (defBody s_law) (tSeq (tAsg (tCall (spD K mg (S_deck 0)) [] E0 (tCons (tVar 0) tNil)) (L2.gName 1)) (liftS (k0 K mg) g_law)) := by
  intro cdv A outer s H E gd hr LO
  obtain ⟨ad, fd, FG, hm, hk, hb, _⟩ := C__law_deck.ex
  exact pss_cons (ps_set (i := 1) sc_law.nd rfl (Or.inl rfl) (callG FG gd (hr.mono (by decide)) (by rfl) hm hk hb .nil passL (pa_cons (pv 0) pa_nil)))
    ((ds_cons (ds_set (i := 2) sc_law.nd rfl (Or.inl rfl) (dc C__law_discriminant gd (hr.mono (by decide)) (by rfl) (da_cons (dl_var (pv 1)) (da_cons (dl_ife (dt_cm (opd_eq hr.units) (dc C__law_draw gd (hr.mono (by decide)) (by rfl) (da_cons (dl_var (pv 1)) (da_cons dl_int da_nil))) dl_int (nomark _)) dl_int dl_int) da_nil))))
  (ds_cons (ds_asg (dl_tup (da_cons (dc C__law_form gd (hr.mono (by decide)) (by rfl) (da_cons (dl_var (pv 1)) (da_cons (dl_var (pv 2)) (da_cons dl_int da_nil)))) (da_cons (dc C__law_change gd (hr.mono (by decide)) (by rfl) (da_cons (dl_var (pv 1)) (da_cons dl_int da_nil))) (da_cons (dc C__law_change gd (hr.mono (by decide)) (by rfl) (da_cons (dl_var (pv 1)) (da_cons dl_int da_nil))) da_nil)))) (dg_tup rfl (dg_cons (dg_name (pg_name (i := 3) sc_law.nd rfl (Or.inr rfl))) (dg_cons (dg_name (pg_name (i := 4) sc_law.nd rfl (Or.inl rfl))) (dg_cons (dg_name (pg_name (i := 5) sc_law.nd rfl (Or.inl rfl))) dg_nil)))))
  (ds_cons (ds_set (i := 6) sc_law.nd rfl (Or.inl rfl) (dc C__law_led gd (hr.mono (by decide)) (by rfl) (da_cons (dl_var (pv 3)) (da_cons (dl_var (pv 4)) da_nil))))
  (ds_cons (ds_if (dt_cm opd_gt (dl_callB (cd_max1 rfl) (by rfl) z.z_max bt_max (da_cons (dl_lc (own := [("x", 12)]) rfl sc_law.nd (di_items (dl_bin opd_add (dl_bin opd_add (dl_var (pv 3)) (dl_var (pv 6))) (dc C__law_led gd (hr.mono (by decide)) (by rfl) (da_cons (dl_var (pv 6)) (da_cons (dl_var (pv 5)) da_nil))))) (blkOk_by (N := N_law) (sc := defScope s_law) (by decide +kernel)) (fun _ _ _ _ _ => (dg_name (pg_name (i := 12) sc_law.nd rfl (by first | exact Or.inl rfl | exact Or.inr rfl)))) (fun _ _ _ _ _ => dts_nil) (fun _ _ _ _ _ => (dl_callB cd_abs (by rfl) z.z_abs bt_abs (da_cons (dl_var (pv 12)) da_nil))) (by decide)) da_nil)) (dl_bin opd_pow dl_int dl_int) (nomark _)) (ds_one (ds_asg (dl_tup (da_cons (dc C__law_form gd (hr.mono (by decide)) (by rfl) (da_cons (dl_var (pv 1)) (da_cons (dl_var (pv 2)) (da_cons dl_int da_nil)))) (da_cons (dl_tup (da_cons dl_int (da_cons dl_int (da_cons dl_int (da_cons dl_int da_nil))))) (da_cons (dl_tup (da_cons dl_int (da_cons (dl_neg dl_int) (da_cons dl_int (da_cons dl_int da_nil))))) da_nil)))) (dg_tup rfl (dg_cons (dg_name (pg_name (i := 3) sc_law.nd rfl (Or.inr rfl))) (dg_cons (dg_name (pg_name (i := 4) sc_law.nd rfl (Or.inl rfl))) (dg_cons (dg_name (pg_name (i := 5) sc_law.nd rfl (Or.inl rfl))) dg_nil)))))) ds_nil)
  (ds_cons (ds_if (dt_not (dt_val (dc C__law_is_right gd (hr.mono (by decide)) (by rfl) (da_cons (dl_var (pv 3)) (da_cons (dl_var (pv 4)) (da_cons (dl_var (pv 5)) da_nil)))))) (ds_one (ds_ret dl_bl)) ds_nil)
  (ds_cons ((ps_par3 (i := 7) (j := 4) (l := 5) (by rfl) sc_law.nd rfl rfl rfl (by decide) (by decide) (by decide) rfl rfl rfl (da_cons (dc C__law_wide gd (hr.mono (by decide)) (by rfl) (da_cons (dl_var (pv 1)) da_nil)) (da_cons (dc C__law_change gd (hr.mono (by decide)) (by rfl) (da_cons (dl_var (pv 1)) (da_cons dl_int da_nil))) (da_cons (dc C__law_change gd (hr.mono (by decide)) (by rfl) (da_cons (dl_var (pv 1)) (da_cons dl_int da_nil))) da_nil))) (by rfl)).w lift_par3)
  (ds_cons (ds_set (i := 6) sc_law.nd rfl (Or.inl rfl) (dc C__law_led gd (hr.mono (by decide)) (by rfl) (da_cons (dl_var (pv 7)) (da_cons (dl_var (pv 4)) da_nil))))
  (ds_cons (ds_if (dt_cm opd_gt (dl_callB (cd_max1 rfl) (by rfl) z.z_max bt_max (da_cons (dl_lc (own := [("x", 12)]) rfl sc_law.nd (di_items (dl_bin opd_add (dl_var (pv 6)) (dc C__law_led gd (hr.mono (by decide)) (by rfl) (da_cons (dl_var (pv 6)) (da_cons (dl_var (pv 5)) da_nil))))) (blkOk_by (N := N_law) (sc := defScope s_law) (by decide +kernel)) (fun _ _ _ _ _ => (dg_name (pg_name (i := 12) sc_law.nd rfl (by first | exact Or.inl rfl | exact Or.inr rfl)))) (fun _ _ _ _ _ => dts_nil) (fun _ _ _ _ _ => (dl_callB cd_abs (by rfl) z.z_abs bt_abs (da_cons (dl_var (pv 12)) da_nil))) (by decide)) da_nil)) (dl_bin opd_pow dl_int dl_int) (nomark _)) (ds_one (ds_asg (dl_tup (da_cons (dl_tup (da_cons dl_int (da_cons (dl_neg dl_int) (da_cons dl_int (da_cons dl_int da_nil))))) (da_cons (dl_tup (da_cons dl_int (da_cons dl_int (da_cons dl_int (da_cons dl_int da_nil))))) da_nil))) (dg_tup rfl (dg_cons (dg_name (pg_name (i := 4) sc_law.nd rfl (Or.inl rfl))) (dg_cons (dg_name (pg_name (i := 5) sc_law.nd rfl (Or.inl rfl))) dg_nil))))) ds_nil)
  (ds_cons (ds_if (dt_not (dt_val (dc C__law_is_right gd (hr.mono (by decide)) (by rfl) (da_cons (dl_var (pv 7)) (da_cons (dl_var (pv 4)) (da_cons (dl_var (pv 5)) da_nil)))))) (ds_one (ds_ret dl_bl)) ds_nil)
  (ds_cons (ds_for PassesOwn.never rfl (di_range1 (by rfl) z.z_range dl_int) (dg_name (pg_name (i := 8) sc_law.nd rfl (Or.inl rfl))) (ds_cons (ds_asg (dl_tup (da_cons (dc C__law_bent gd (hr.mono (by decide)) (by rfl) (da_cons (dl_var (pv 1)) (da_cons (dl_var (pv 3)) da_nil))) (da_cons (dc C__law_bent gd (hr.mono (by decide)) (by rfl) (da_cons (dl_var (pv 1)) (da_cons (dl_var (pv 4)) da_nil))) da_nil))) (dg_tup rfl (dg_cons (dg_name (pg_name (i := 9) sc_law.nd rfl (Or.inr rfl))) (dg_cons (dg_name (pg_name (i := 10) sc_law.nd rfl (Or.inr rfl))) dg_nil))))
  (ds_cons (ds_if (dt_val (dc C__law_is_positive gd (hr.mono (by decide)) (by rfl) (da_cons (dl_var (pv 9)) da_nil))) (ds_one (ds_set (i := 9) sc_law.nd rfl (Or.inr rfl) (dl_tup (da_cons (dl_bin opd_sub dl_int (dl_ix (dl_var (pv 9)) dl_int)) (da_cons (dl_ix (dl_var (pv 9)) dl_int) (da_cons (dl_ix (dl_var (pv 9)) dl_int) da_nil)))))) ds_nil)
  (ds_cons (ds_new (i := 11) sc_law.nd rfl (Or.inl rfl) (da_cons (dl_told C__law_told gd (hr.mono (by decide)) (by rfl) LO (by rfl) (LamX.lamS_by (sc := defScope s_law) (by decide +kernel)) rfl (fun _ _ _ _ _ => rfl) (fun wx E A outer s H f c' gd hr tk => (dcx C_led_form tk gd (hr.mono (by decide)) (by rfl) (da_cons (dl_var (pv 9)) (da_cons (dl_var (pv 10)) da_nil))))) da_nil))
  (ds_cons (ds_append (pv 11) (dl_told C__law_told gd (hr.mono (by decide)) (by rfl) LO (by rfl) (LamX.lamS_by (sc := defScope s_law) (by decide +kernel)) rfl (fun _ _ _ _ _ => rfl) (fun wx E A outer s H f c' gd hr tk => (dcx C_class_of tk gd (hr.mono (by decide)) (by rfl) (da_cons (dl_var (pv 9)) da_nil)))))
  (ds_cons (ds_append (pv 11) (dl_told C__law_told gd (hr.mono (by decide)) (by rfl) LO (by rfl) (LamX.lamS_by (sc := defScope s_law) (by decide +kernel)) rfl (fun _ _ _ _ _ => rfl) (fun wx E A outer s H f c' gd hr tk => (dcx C_reducing tk gd (hr.mono (by decide)) (by rfl) (da_cons (dl_var (pv 9)) da_nil)))))
  (ds_cons (ds_if (dt_peek (i := 11) (dt_cm (opd_ne hr.units) (dl_callB (cd_repr sy gd hr.units) (by rfl) z.z_repr bt_repr (da_cons (dl_var (pv 11)) da_nil)) (dl_callB (cd_repr sy gd hr.units) (by rfl) z.z_repr bt_repr (da_cons (dl_bin opd_mul (dl_lst (da_cons (dl_tup (da_cons dl_str (da_cons (dl_var (pv 9)) (da_cons dl_bl da_nil)))) da_nil)) dl_int) da_nil)) (nomark _))) (ds_one (ds_ret dl_bl)) ds_nil)
  (ds_cons (ds_if (dt_val (dc C__law_is_whole gd (hr.mono (by decide)) (by rfl) (da_cons (dl_var (pv 10)) da_nil))) (ds_one (ds_set (i := 10) sc_law.nd rfl (Or.inr rfl) (dc C__law_pick gd (hr.mono (by decide)) (by rfl) (da_cons (dl_var (pv 1)) (da_cons (dl_lst (da_cons (dl_tup (da_cons dl_int (da_cons dl_int (da_cons dl_int (da_cons (dl_neg dl_int) da_nil))))) (da_cons (dl_slice (dl_var (pv 10)) dp_none (dp_some dl_int)) (da_cons (dl_callT cd_list (by rfl) z.z_list bt_list (da_cons (dl_var (pv 10)) da_nil)) da_nil)))) da_nil))))) ds_nil)
  (ds_one (ds_if (dt_cm (opd_ne hr.units) (dl_callB (cd_repr sy gd hr.units) (by rfl) z.z_repr bt_repr (da_cons (dl_told C__law_told gd (hr.mono (by decide)) (by rfl) LO (by rfl) (LamX.lamS_by (sc := defScope s_law) (by decide +kernel)) rfl (fun _ _ _ _ _ => rfl) (fun wx E A outer s H f c' gd hr tk => (dcx C_led_form tk gd (hr.mono (by decide)) (by rfl) (da_cons (dl_var (pv 3)) (da_cons (dl_var (pv 10)) da_nil))))) da_nil)) (dl_callB (cd_repr sy gd hr.units) (by rfl) z.z_repr bt_repr (da_cons (dl_tup (da_cons dl_str (da_cons (dl_var (pv 10)) (da_cons dl_bl da_nil)))) da_nil)) (nomark _)) (ds_one (ds_ret dl_bl)) ds_nil))))))))))
  (ds_one (ds_ret dl_bl)))))))))))))
end
end K17
namespace K17
open PySem PySem.Spec L2 DL
/-! ### known readings -/
section
variable {Q : D → Prop} {PX : Ex → Prop}
theorem r_is_integer {ds : List D} (h : S_isint ds Q PX) : g_is_integer (E0' Q) (slots 1 ds) := by
  unfold S_isint at h
  split at h
  case h_2 => exact h.elim
  rename_i d
  obtain ⟨hp, q⟩ := h
  have ht := plain_ty hp
  unfold g_is_integer
  cases d <;> simp [slots, isiS, tyS, intD] at ht q ⊢ <;> exact q
end
section
variable {Q : D → Prop} {PX : Ex → Prop}
theorem r_are_integers {ds : List D} (h : S_areints ds Q PX) : g_are_integers (E0' Q) (slots 3 ds) := by
  unfold S_areints at h
  split at h
  case h_2 => exact h.elim
  rename_i d n
  obtain ⟨hp, hn, q⟩ := h
  have ht := plain_ty hp
  unfold g_are_integers
  cases d with
  | tup l =>
    simp only [plainD] at hp
    simp only [nds] at hn
    have hl := len_nds l
    simp [slots, isiS, areD] at q ⊢
    by_cases hnl : (l.length : Int) = n
    · simp [hnl] at q ⊢
      refine comp_map (fun d => some (.bl (intD d))) l [] (fun d hd Q' hQ' => ?_) (by simp; omega) ?_
      · simp [turn, wipeD, S_isint]
        exact ⟨plain_mem hp d hd, hQ'⟩
      · refine ⟨l.map intD, ?_, ?_⟩
        · simp [List.filterMap_eq_map']
        · simpa [List.all_map] using q
    · simp [hnl] at q ⊢
      exact q
  | _ => simp [slots, isiS, tyS, areD] at ht q ⊢ <;> exact q
end
section
variable {Q : D → Prop} {PX : Ex → Prop}
theorem r_common_divisor {ds : List D} (h : S_gcd ds Q PX) : g_common_divisor (E0' Q) (slots 2 ds) := by
  unfold S_gcd at h
  split at h
  case h_2 => exact h.elim
  rename_i a b
  have q := h
  unfold g_common_divisor
  simp [slots]
  refine while_inv (fun env => ∃ x y : Nat, env = [.val (.int x), .val (.int y)] ∧ Nat.gcd x y = Nat.gcd a.natAbs b.natAbs) (fun env => match env with | [_, .val (.int y)] => y.toNat | _ => 0) ?_ ⟨a.natAbs, b.natAbs, rfl, rfl⟩
  rintro env N ⟨x, y, rfl, hg⟩ hN
  by_cases hy : y = 0
  · subst hy
    simp at hg ⊢
    rw [hg]
    exact q
  · have hy' : ¬ (y : Int) = 0 := by omega
    simp [hy, hy']
    refine ⟨by omega, hN _ ⟨y, x % y, ?_, ?_⟩ ?_⟩
    · simp
    · rw [← hg, Nat.gcd_comm x y, Nat.gcd_rec y x, Nat.gcd_comm]
    · have := Nat.mod_lt x (Nat.pos_of_ne_zero hy)
      simp
      omega
end
section
variable {Q : D → Prop} {PX : Ex → Prop}
theorem r_product {ds : List D} (h : S_product ds Q PX) : g_product (E0' Q) (slots 10 ds) := by
  unfold S_product at h
  split at h
  case h_2 => exact h.elim
  rename_i p q r s t u v w
  obtain ⟨⟨hp, hq, hr, hs⟩, ⟨ht, hu, hv, hw⟩, z⟩ := h
  have cm : ∀ {i j : Int}, Lt 400 i → Lt 400 j → CMulW i j := fun h1 h2 => cmulW h1.h h2.h (by omega)
  unfold g_product
  simp -implicitDefEqProofs [slots]
  exact ⟨cm hp ht, cm hq hv, cm hp hu, cm hq hw, cm hr ht, cm hs hv, cm hr hu, cm hs hw, z⟩
end
section
variable {Q : D → Prop} {PX : Ex → Prop}
theorem r__law_deck {ds : List D} (h : S_deck 0 ds Q PX) : g__law_deck (E0' Q) (slots 4 ds) := by
  obtain ⟨ns, rfl, hl, q⟩ := h
  unfold g__law_deck
  simp [slots]
  obtain ⟨ms, e, hms⟩ := cut_ints ns none (some 63)
  rw [e]
  refine comp_map (fun d => some d) _ [] (fun d hd Q' hQ' => ?_) (by simp; omega) ?_
  · obtain ⟨i, _, rfl⟩ := List.mem_map.mp hd
    simp [turn, wipeD, restD, keepS] at hQ' ⊢
    exact hQ'
  · simp
    refine for_ints (fun _ env => ∃ (m : Int) (s : Slot), env = [.val (.scr ns), .val (.lst (ms.map D.int)), .val (.int m), s] ∧ 0 ≤ m ∧ m < 2147483648) ?_ ?_ ⟨_, _, rfl, by decide, by decide⟩
    · rintro i l env N ⟨m, s, rfl, h0, h1⟩ hN
      simp
      have hm : Lt 31 m := .of (by omega)
      refine ⟨Lt.cm (by decide +kernel), hN _ ⟨_, _, rfl, ?_, ?_⟩⟩
      · exact Int.emod_nonneg _ (by decide)
      · exact Int.lt_trans (Int.emod_lt_of_pos _ (by decide)) (by decide)
    · rintro env ⟨m, s, rfl, h0, h1⟩
      simp [dDisp]
      refine q _ ⟨ms.reverse, m, 0, by rw [List.length_reverse]; omega, ?_, h0, h1⟩
      simp
end
section
theorem w__law_draw {P : Program} {w : World} {K : PySem.W.Frag} {mg : Str → Option Value} {base : Heap} {f : Addr} {fd : FuncData} {x : Str} {params : Arguments} (z : Zs mg) (F : FunD K x "_law_draw" params (defBody s__law_draw) (defScope s__law_draw) [] [] f fd) :
    FnG P w K mg base (L2.CX P w) 1 f fd ["deck", "below"] (spD K mg (S_draw 0)) := by
  refine fnG F sc__law_draw (fun vs H Q E hsp => sp_len (n := 2) (fun ds P PX h => by unfold S_draw at h; split at h; · rfl
                                                                                      · exact h.elim) hsp) fun cdv A outer s H vs Q E gd hr hsp => ?go
  case go =>
    have wk : PSs (cxOf (L2.CX P w) P w K mg base N__law_draw "_law_draw" (defScope s__law_draw) f cdv A outer s H E).nox (defBody s__law_draw) _ := (pss_cons (ps_dput (un1 hr) (pv 0) pe_str (pe_op op_add (pe_dget (un1 hr) (pv 0) pe_str (fun _ _ => rfl)) pe_int) (by rfl))
    (pss_cons (ps_if (pt_cmpR (op_neD hr.units) (pe_dget (un1 hr) (pv 0) pe_str (fun _ _ => rfl)) (pe_lst pa_nil) (nomark _))
      (pss_cons (ps_set (i := 2) sc__law_draw.nd rfl (Or.inl rfl) (pe_bm0 PySem.F.plainAttrs_list PySem.F.slot_list_pop PySem.F.type_list_pop mt_pop (pe_dget (un1 hr) (pv 0) pe_str (fun _ _ => rfl))))
      (pss_cons (ps_if (pt_cmpR op_ge (pv 2) (pe_op op_pow pe_int pe_int) (nomark _))
        (pss_cons (ps_expr (pe_bm PySem.F.plainAttrs_list PySem.F.slot_list_append PySem.F.type_list_append mt_append (pe_dget (un1 hr) (pv 0) pe_str (fun _ _ => rfl)) (pa_cons (pe_op op_fdivW (pv 2) (pe_callB (call_max2 rfl) (by rfl) z.z_max bt_max (pa_cons pe_int (pa_cons (pv 1) pa_nil)))) pa_nil)))
        (pss_one (ps_ret (pe_op op_mod (pe_callTy call_int1 (by rfl) z.z_int bt_int (pa_cons (pv 2) pa_nil)) (pv 1))))) pss_nil)
      (pss_one (ps_dput (un1 hr) (pv 0) pe_str (pe_op op_mod (pe_callTy call_int1 (by rfl) z.z_int bt_int (pa_cons (pe_op op_add (pe_dget (un1 hr) (pv 0) pe_str (fun _ _ => rfl)) (pv 2)) pa_nil)) pe_int) (by rfl))))) pss_nil)
    (pss_cons (ps_dput (un1 hr) (pv 0) pe_str (pe_op op_mod (pe_callTy call_int1 (by rfl) z.z_int bt_int (pa_cons (pe_op op_add (pe_op op_add (pe_op op_mul (pe_dget (un1 hr) (pv 0) pe_str (fun _ _ => rfl)) pe_int) (pe_op op_mul (pe_dget (un1 hr) (pv 0) pe_str (fun _ _ => rfl)) pe_int)) pe_int) pa_nil)) pe_int) (by rfl))
    (pss_one (ps_ret (pe_op op_mod (pe_op op_fdiv (pe_op op_mod (pe_callTy call_int1 (by rfl) z.z_int bt_int (pa_cons (pe_op op_mul (pe_dget (un1 hr) (pv 0) pe_str (fun _ _ => rfl)) (pe_dget (un1 hr) (pv 0) pe_str (fun _ _ => rfl))) pa_nil)) pe_int) pe_int) (pv 1)))))))
    refine ⟨_, wk.nox, ?_⟩
    exact drawA_fn rfl hsp
end
section
variable {Q : D → Prop} {PX : Ex → Prop}
theorem r__law_pick {ds : List D} (h : S__law_pick ds Q PX) : g__law_pick (E0' Q) (slots 2 ds) := by
  unfold S__law_pick at h
  have key : ∀ l : List D, l ≠ [] → l.length ≤ 1000000 → (∀ d ∈ l, Q d) → (0 < (l.length : Int) ∧ (l.length : Int) < 10 ^ 200 ∧ ∀ r : Int, 0 ≤ r → r < l.length → ∃ d, ixD l r = some d ∧ Q d) := by
    intro l hne hl q
    have hpos : 0 < l.length := List.length_pos_iff.mpr hne
    refine ⟨by omega, Int.lt_of_le_of_lt (b := 1000000) (by omega) (by decide +kernel), fun r h0 h1 => ?_⟩
    obtain ⟨d, hd, e⟩ := ix_mem h0 h1
    exact ⟨d, e, q d hd⟩
  split at h
  case h_3 => exact h.elim
  all_goals
    rename_i m l
    obtain ⟨rfl, hne, hl, q⟩ := h
    have k := key l hne hl q
    unfold g__law_pick
    simpa [-Int.reducePow, slots, S__law_draw, S_draw] using k
end
section
variable {Q : D → Prop} {PX : Ex → Prop}
theorem r__law_common {ds : List D} (h : S__law_common ds Q PX) : g__law_common (E0' Q) (slots 4 ds) := by
  obtain ⟨ns, rfl, q⟩ := h
  unfold g__law_common
  simp [slots]
  refine for_ints (fun l env => ∃ (x : Nat) (s1 s2 : Slot), env = [.val (.tup (ns.map D.int)), .val (.int x), s1, s2] ∧ l.foldl (fun w n => Nat.gcd w n.natAbs) x = gcdL ns) ?_ ?_ ⟨0, _, _, rfl, rfl⟩
  · rintro i l env N ⟨x, s1, s2, rfl, h0⟩ hN
    simp
    refine while_inv (fun env => ∃ (x y : Nat), env = [.val (.tup (ns.map D.int)), .val (.int x), .val (.int i), .val (.int y)] ∧ l.foldl (fun w n => Nat.gcd w n.natAbs) (Nat.gcd x y) = gcdL ns) (fun env => match env with | [_, _, _, .val (.int y)] => y.toNat | _ => 0) ?_ ⟨x, i.natAbs, by simp, by simpa using h0⟩
    rintro env N' ⟨x, y, rfl, h1⟩ hN'
    by_cases hy : y = 0
    · subst hy
      simp at h1 ⊢
      exact hN _ ⟨_, _, _, rfl, h1⟩
    · have hy' : 0 < y := Nat.pos_of_ne_zero hy
      simp [hy']
      refine hN' _ ⟨y, x % y, by simp, ?_⟩ ?_
      · rw [Nat.gcd_comm y, ← Nat.gcd_rec, Nat.gcd_comm]
        exact h1
      · have := Nat.mod_lt x hy'
        simp
        omega
  · rintro env ⟨x, s1, s2, rfl, h0⟩
    simp at h0 ⊢
    rw [h0]
    exact q
end
section
variable {Q : D → Prop} {PX : Ex → Prop}
theorem r__law_are_integers {ds : List D} (h : S__law_are_integers ds Q PX) : g__law_are_integers (E0' Q) (slots 3 ds) := by
  unfold S__law_are_integers at h
  split at h
  case h_2 => exact h.elim
  rename_i n d
  obtain ⟨ok, q⟩ := h
  have hp := plain_leaf d ok.lf
  have hn := ok.sz
  have ht := plain_ty hp
  unfold g__law_are_integers
  cases d with
  | tup l =>
    simp only [plainD] at hp
    simp only [nds] at hn
    have hl := len_nds l
    simp -implicitDefEqProofs [slots, isiS, areD, tyS] at q ⊢
    by_cases hnl : (l.length : Int) = n
    · simp -implicitDefEqProofs [hnl] at q ⊢
      refine comp_map (fun d => if intD d = true then none else some (.int 1)) l [] (fun d hd Q' hQ' => ?_) (by simp; omega) ?_
      · have ht := plain_ty (plain_mem hp d hd)
        cases d <;> simp -implicitDefEqProofs [turn, wipeD, restD, keepS, isiS, tyS, intD] at ht hQ' ⊢ <;> exact hQ'
      · rw [List.nil_append]
        have key : ∀ l : List D, eqvs (l.filterMap fun d => if intD d = true then none else some (D.int 1)) [] = l.all intD := fun l => by
          induction l with
          | nil => rfl
          | cons d l ih =>
            rw [List.filterMap_cons, List.all_cons]
            cases e : intD d with
            | true => simpa using ih
            | false => simp
        rw [key]
        exact q
    · simp -implicitDefEqProofs [hnl] at q ⊢
      exact q
  | _ => simp -implicitDefEqProofs [slots, isiS, tyS, areD] at ht q ⊢ <;> exact q
end
section
variable {Q : D → Prop} {PX : Ex → Prop}
theorem r__law_product {ds : List D} (h : S__law_product ds Q PX) : g__law_product (E0' Q) (slots 10 ds) := by
  obtain ⟨c, d, rfl, ⟨hp, hq, hr, hs⟩, ⟨ht, hu, hv, hw⟩, q⟩ := h
  have cm : ∀ {i j : Int}, Lt 400 i → Lt 400 j → CMulW i j := fun h1 h2 => cmulW h1.h h2.h (by omega)
  unfold g__law_product
  simp -implicitDefEqProofs [slots, chg]
  exact ⟨cm hp ht, cm hq hv, cm hp hu, cm hq hw, cm hr ht, cm hs hv, cm hr hu, cm hs hw, q⟩
end
section
variable {Q : D → Prop} {PX : Ex → Prop}
theorem ar__law_bent : ∀ (j : Nat) (ds : List D) (P : D → Prop) (PX : Ex → Prop), SbP j ds P PX → ds.length = 2
  | 0, _, _, _, h => h.elim
  | j + 1, _, _, _, ⟨_, _, _, _, h, _⟩ => by rw [h]; rfl
end
section
variable {Q : D → Prop} {PX : Ex → Prop}
theorem r__law_bent (k : Nat) {ds : List D} (h : SbP (k + 1) ds Q PX) : g__law_bent (SbP k) (E0' Q) (slots 3 ds) := by
  obtain ⟨n, w, d, ⟨hn, hw, hk⟩, rfl, sh, q⟩ := h
  unfold g__law_bent
  have small : ∀ {d' : D} {e b : Nat}, FD e b d' → inB (w + 1) d' = true → e ≤ k + 2 → b ≤ 2000 → Q d' := fun h1 h2 h3 h4 => q _ ⟨h1.mono (by omega) (by omega), h2⟩
  rcases sh_cases sh with ⟨i, rfl, hi⟩ | ⟨k, l, rfl, rfl, ne, ln, hs⟩
  · have p1 : (2 : Nat) ^ w ≥ 1 := Nat.one_le_pow _ _ (by decide)
    have I : ∀ {j : Int}, j.natAbs < 2 ^ (w + 1) → Q (.int j) := fun hj => small (@FD.int' _ _ (Lt.of hj) (by omega)) (in_int (Lt.of hj) (Nat.le_refl _)) (by omega) (by decide)
    have hh := hi.h
    have e2 : (2 : Nat) ^ (w + 1) = 2 * 2 ^ w := by rw [Nat.pow_succ]; omega
    have F0 : FD 0 1 (.int i) := @FD.int' _ _ hi (by omega)
    have L : inB (w + 1) (.int i) = true := in_int hi (by omega)
    have F := FD.num (@Lt.ten _ _ hi (by omega))
    have one : ∀ d ∈ [D.int i], FD 0 1 d := fun d hd => by rw [List.mem_singleton.mp hd]; exact F0
    simp -implicitDefEqProofs [slots, isiS, tyS, x__law_bent_2, S__law_pick]
    refine ⟨@Lt.log _ _ hi (by omega), I (by omega), I (by omega), I (by omega), I (by omega), small FD.bl rfl (by omega) (by decide), small FD.bl rfl (by omega) (by decide), small F rfl (by omega) (by decide), small FD.non rfl (by omega) (by decide), ?_, ?_, I (by omega)⟩
    · exact small (FD.tup (n := 1) one (by simp)) (by simp [inB, inBs]; simpa [inB] using L) (by omega) (by decide)
    · exact small (FD.lst (n := 1) one (by simp)) (by simp [inB, inBs]; simpa [inB] using L) (by omega) (by decide)
  · have k10 : 10 ^ k ≤ 100 := Nat.le_trans (Nat.pow_le_pow_right (by decide) (show k ≤ 2 by omega)) (by decide)
    have it : ∀ d ∈ l, FD k 100 d ∧ inB (w + 1) d = true := fun d hd => by
      obtain ⟨h1, h2⟩ := sh_fd hn hw (show w ≤ w + 1 by omega) k d (hs d hd)
      exact ⟨h1.mono (Nat.le_refl _) k10, h2⟩
    have cm : ∀ a b, ∀ d ∈ cutD l a b, FD k 100 d ∧ inB (w + 1) d = true := fun a b d hd => it d (cut_mem hd)
    have cl : ∀ a b, (cutD l a b).length ≤ 9 := fun a b => Nat.le_trans (cut_len _ a b) (by omega)
    have tp : ∀ {a : List D}, (∀ d ∈ a, FD k 100 d ∧ inB (w + 1) d = true) → a.length ≤ 18 → (FD (k + 1) 1801 (.tup a) ∧ FD (k + 1) 1801 (.lst a)) ∧ (inB (w + 1) (.tup a) = true ∧ inB (w + 1) (.lst a) = true) := fun {a} h hl =>
      ⟨⟨FD.tup (n := 18) (fun d hd => (h d hd).1) hl, FD.lst (n := 18) (fun d hd => (h d hd).1) hl⟩, by simp only [inB]; exact ⟨in_all fun d hd => (h d hd).2, in_all fun d hd => (h d hd).2⟩⟩
    have app : ∀ {a b : List D}, (∀ d ∈ a, FD k 100 d ∧ inB (w + 1) d = true) → (∀ d ∈ b, FD k 100 d ∧ inB (w + 1) d = true) → a.length ≤ 9 → b.length ≤ 9 → Q (.tup (a ++ b)) := fun {a b} ha hb la lb => by
      obtain ⟨⟨h1, _⟩, h2, _⟩ := tp (a := a ++ b) (fun d hd => (List.mem_append.mp hd).elim (ha d) (hb d)) (by rw [List.length_append]; omega)
      exact small h1 h2 (by omega) (by decide)
    have sl : ∀ {a : List D}, (∀ d ∈ a, FD k 100 d ∧ inB (w + 1) d = true) → a.length ≤ 9 → Q (.tup a) := fun {a} ha la => by
      obtain ⟨⟨h1, _⟩, h2, _⟩ := tp ha (by omega)
      exact small h1 h2 (by omega) (by decide)
    obtain ⟨⟨T1, T2⟩, T3, T4⟩ := tp it (by omega)
    have one : ∀ d ∈ [D.tup l], FD (k + 1) 1801 d := fun d hd => by rw [List.mem_singleton.mp hd]; exact T1
    have z0 : ∀ d ∈ [D.int 0], FD k 100 d ∧ inB (w + 1) d = true := fun d hd => by
      rw [List.mem_singleton.mp hd]
      exact ⟨(FD.int (by decide)).mono (by omega) (by decide), by simp only [inB, decide_eq_true_eq]; exact Nat.two_pow_pos _⟩
    have dic : Q (.dic [(.inr "a", .tup l)]) := by
      refine small (e := k + 2) (b := 2000) ⟨?_, ?_, ?_⟩ (by simp only [inB, inBk]; have := T3; simp only [inB] at this; rw [this]; rfl) (by omega) (by decide)
      · simp only [leaf, leafk]; have := T1.lf; simp only [leaf] at this; rw [this]; decide
      · have := T1.dp
        simp only [dep, depk] at this ⊢
        omega
      · have := T1.sz
        simp only [nds, ndsk] at this ⊢
        have e : (Str.ofString "a").cps.size = 1 := by decide
        rw [e]
        omega
    have key : (l.length + 1 ≤ 10000000 ∧ l.length + (cutD l (some (-1)) none).length ≤ 10000000 ∧ (cutD l (some 1) none).length + (cutD l none (some 1)).length ≤ 10000000) ∧ Q (.lst l) ∧ Q (.tup (cutD l none (some (-1)))) ∧ Q (.tup (l ++ [.int 0])) ∧ Q (.tup (l ++ cutD l (some (-1)) none)) ∧ Q (.tup l.reverse) ∧ Q (.tup [.tup l]) ∧ Q .non ∧ Q (.tup []) ∧ Q (.str "()") ∧ Q (.dic []) ∧ Q (.int 0) ∧ Q (.lst [.tup l]) ∧
        Q (.tup (cutD l (some 1) none ++ cutD l none (some 1))) ∧ Q (.dic [(.inr "a", .tup l)]) := by
      have c1 := cl (some (-1)) none
      have c2 := cl (some 1) none
      have c3 := cl none (some 1)
      refine ⟨⟨by omega, by omega, by omega⟩, small T2 T4 (by omega) (by decide), sl (cm _ _) (cl _ _), app it z0 (by omega) (by simp), app it (cm _ _) (by omega) (cl _ _), sl (fun d hd => it d (List.mem_reverse.mp hd)) (by rw [List.length_reverse]; omega), small (FD.tup (n := 1) one (by simp)) (by simp only [inB, inBs, Bool.and_true]; simpa only [inB] using T3) (by omega) (by decide),
        small FD.non rfl (by omega) (by decide), small FD.nil rfl (by omega) (by decide), small (FD.text (m := 2) (by decide)) rfl (by omega) (by decide), small (e := 1) (b := 1) ⟨rfl, by decide, by decide⟩ rfl (by omega) (by decide), small (FD.int (by decide)) (by simp only [inB, decide_eq_true_eq]; exact Nat.two_pow_pos _) (by omega) (by decide), small (FD.lst (n := 1) one (by simp)) (by simp only [inB, inBs, Bool.and_true]; simpa only [inB] using T3) (by omega) (by decide), app (cm _ _) (cm _ _) (cl _ _) (cl _ _), dic⟩
    simp -implicitDefEqProofs [slots, isiS, tyS, x__law_bent_1, S__law_pick, S_draw]
    by_cases e0 : eqvs l [] = true
    · rw [if_pos e0]
      obtain ⟨⟨_, k1, k2⟩, k3⟩ := key
      exact ⟨by omega, k1, k2, k3⟩
    · rw [if_neg e0]
      intro r r0 r3
      by_cases rp : 0 < r
      · rw [if_pos rp]
        refine ⟨List.length_pos_iff.mpr ne, Int.lt_of_le_of_lt (b := 9) (by omega) (by decide), fun r a0 a1 => ?_⟩
        obtain ⟨d, hd, e⟩ := ix_mem a0 a1
        refine ⟨d, e, n, w, d, ⟨hn, hw, by omega⟩, rfl, hs d hd, fun d' ok => ?_⟩
        have c1 := cl none (some r)
        have c2 := cl (some (r + 1)) none
        have e4 : ∀ a b : List D, ndss (a ++ b) = ndss a + ndss b := fun a b => by
          induction a with
          | nil => simp [ndss]
          | cons x a ih => simp only [List.cons_append, ndss, ih]; omega
        have mem : ∀ x ∈ cutD l none (some r) ++ d' :: cutD l (some (r + 1)) none, leaf x = true ∧ dep x ≤ k + 2 ∧ inB (w + 1) x = true := fun x hx => by
          have old : ∀ a b, x ∈ cutD l a b → leaf x = true ∧ dep x ≤ k + 2 ∧ inB (w + 1) x = true := fun a b hx => by
            obtain ⟨h1, h2⟩ := cm a b x hx
            have := h1.dp
            exact ⟨h1.lf, by omega, h2⟩
          rcases List.mem_append.mp hx with hx | hx
          · exact old _ _ hx
          · rcases List.mem_cons.mp hx with rfl | hx
            · exact ⟨ok.fd.lf, ok.fd.dp, ok.ib⟩
            · exact old _ _ hx
        refine ⟨by omega, by omega, q _ ⟨⟨?_, ?_, ?_⟩, ?_⟩⟩
        · simp only [leaf]
          exact leafs_of fun x hx => (mem x hx).1
        · simp only [dep]
          have := deps_of fun x hx => (mem x hx).2.1
          omega
        · have e1 := ndss_of fun x hx => (cm none (some r) x hx).1.sz
          have e2 := ndss_of fun x hx => (cm (some (r + 1)) none x hx).1.sz
          have e3 := ok.fd.sz
          simp only [nds, e4, ndss]
          omega
        · simp only [inB]
          exact in_all fun x hx => (mem x hx).2.2
      · rw [if_neg rp]
        obtain ⟨⟨_, k1, k2⟩, k3⟩ := key
        exact ⟨by omega, k1, k2, k3⟩
end
end K17
namespace K17
open PySem PySem.Spec L2 DL
section
theorem sqn (a : Int) : 0 ≤ a * a := by
  have := Int.natAbs_mul_self (a := a)
  omega
def Prim (a b c : Int) : Prop := ∀ k : Nat, (k : Int) ∣ a → (k : Int) ∣ b → (k : Int) ∣ c → k = 1
theorem prim_iff {a b c : Int} : Nat.gcd (Nat.gcd a.natAbs b.natAbs) c.natAbs = 1 ↔ Prim a b c := by
  constructor
  · intro h k h1 h2 h3
    have e : k ∣ Nat.gcd (Nat.gcd a.natAbs b.natAbs) c.natAbs := Nat.dvd_gcd (Nat.dvd_gcd (Int.ofNat_dvd_left.mp h1) (Int.ofNat_dvd_left.mp h2)) (Int.ofNat_dvd_left.mp h3)
    rw [h] at e
    exact Nat.dvd_one.mp e
  · intro h
    refine h _ ?_ ?_ ?_
    · exact Int.ofNat_dvd_left.mpr (Nat.dvd_trans (Nat.gcd_dvd_left _ _) (Nat.gcd_dvd_left _ _))
    · exact Int.ofNat_dvd_left.mpr (Nat.dvd_trans (Nat.gcd_dvd_left _ _) (Nat.gcd_dvd_right _ _))
    · exact Int.ofNat_dvd_left.mpr (Nat.gcd_dvd_right _ _)
theorem pos_of_mul {a c : Int} (ha : 0 < a) (h : 0 < a * c) : 0 < c := by
  rcases Int.lt_trichotomy c 0 with h1 | h1 | h1
  · have := Int.mul_pos ha (show 0 < -c by omega)
    rw [Int.mul_neg] at this
    omega
  · subst h1
    simp at h
  · exact h1
theorem ld_mul (f : T3) (c d : Chg) : ldF (ldF f c) d = ldF f (mulC c d) := by
  unfold ldF mulC
  refine Prod.ext ?_ (Prod.ext ?_ ?_) <;> simp only <;> grind
theorem det_mul (c d : Chg) : detC (mulC c d) = detC c * detC d := by
  unfold detC mulC
  simp only
  grind
theorem ld_one (f : T3) : ldF f ⟨1, 0, 0, 1⟩ = f := by
  unfold ldF
  refine Prod.ext ?_ (Prod.ext ?_ ?_) <;> simp only <;> grind
theorem ld_inv {f : T3} {m : Chg} (h : detC m = 1) : ldF (ldF f m) (invC m) = f := by
  rw [ld_mul, mul_inv, h]
  exact ld_one f
theorem det_inv {m : Chg} : detC (invC m) = detC m := by
  unfold detC invC
  simp only
  grind
theorem ld_dis (f : T3) (m : Chg) : disF (ldF f m) = disF f * (detC m * detC m) := by
  unfold disF ldF detC
  simp only
  grind
theorem ld_to_one (f : T3) : LdTo f f ⟨1, 0, 0, 1⟩ := ⟨ld_one f, by unfold detC; simp⟩
theorem LdTo.step {f g : T3} {m c : Chg} (h : LdTo f g m) (d : detC c = 1) : LdTo f (ldF g c) (mulC m c) := ⟨by rw [← ld_mul, h.ld], by rw [det_mul, h.dt, d]; rfl⟩
theorem LdTo.back {f g : T3} {m : Chg} (h : LdTo f g m) : LdTo g f (invC m) := ⟨by rw [← h.ld]; exact ld_inv h.dt, by rw [det_inv]; exact h.dt⟩
theorem LdTo.trans {f g k : T3} {m c : Chg} (h : LdTo f g m) (h2 : LdTo g k c) : LdTo f k (mulC m c) := ⟨by rw [← ld_mul, h.ld, h2.ld], by rw [det_mul, h.dt, h2.dt]; rfl⟩
theorem dvd_ld {k : Int} {g : T3} {m : Chg} (h1 : k ∣ g.1) (h2 : k ∣ g.2.1) (h3 : k ∣ g.2.2) : k ∣ (ldF g m).1 ∧ k ∣ (ldF g m).2.1 ∧ k ∣ (ldF g m).2.2 := by
  obtain ⟨x, hx⟩ := h1
  obtain ⟨y, hy⟩ := h2
  obtain ⟨z, hz⟩ := h3
  refine ⟨⟨x * m.p * m.p + y * m.p * m.r + z * m.r * m.r, ?_⟩, ⟨2 * x * m.p * m.q + y * (m.p * m.s + m.q * m.r) + 2 * z * m.r * m.s, ?_⟩, ⟨x * m.q * m.q + y * m.q * m.s + z * m.s * m.s, ?_⟩⟩ <;> unfold ldF <;> simp only [hx, hy, hz] <;> grind
theorem ld_id1 (f : T3) (m : Chg) : 4 * f.1 * (ldF f m).1 = (2 * f.1 * m.p + f.2.1 * m.r) * (2 * f.1 * m.p + f.2.1 * m.r) + -disF f * (m.r * m.r) := by unfold ldF disF; simp only; grind
theorem ld_id2 (f : T3) (m : Chg) : 4 * f.2.2 * (ldF f m).1 = (2 * f.2.2 * m.r + f.2.1 * m.p) * (2 * f.2.2 * m.r + f.2.1 * m.p) + -disF f * (m.p * m.p) := by unfold ldF disF; simp only; grind
theorem ld_id3 (f : T3) (m : Chg) : 4 * f.1 * (ldF f m).2.2 = (2 * f.1 * m.q + f.2.1 * m.s) * (2 * f.1 * m.q + f.2.1 * m.s) + -disF f * (m.s * m.s) := by unfold ldF disF; simp only; grind
theorem ld_id4 (f : T3) (m : Chg) : 4 * f.2.2 * (ldF f m).2.2 = (2 * f.2.2 * m.s + f.2.1 * m.q) * (2 * f.2.2 * m.s + f.2.1 * m.q) + -disF f * (m.q * m.q) := by unfold ldF disF; simp only; grind
theorem gf_dis {e : Int} {f : T3} (h : Gf e f) : disF f = e := h.2.1
theorem gf_led {e : Int} {f : T3} {m : Chg} (he : e < 0) (h : Gf e f) (hd : detC m = 1) : Gf e (ldF f m) := by
  obtain ⟨h1, h2, h3⟩ := h
  have h2' : disF f = e := h2
  refine ⟨?_, ?_, ?_⟩
  · refine pos_of_mul (a := 4 * f.1) (by omega) ?_
    rw [ld_id1, h2']
    have s1 := sqn (2 * f.1 * m.p + f.2.1 * m.r)
    by_cases hr : m.r = 0
    · have hp : m.p ≠ 0 := by
        intro z
        unfold detC at hd
        rw [hr, z] at hd
        simp at hd
      have nz : 2 * f.1 * m.p + f.2.1 * m.r ≠ 0 := by
        rw [hr, Int.mul_zero, Int.add_zero]
        exact Int.mul_ne_zero (by omega) hp
      have : (2 * f.1 * m.p + f.2.1 * m.r) * (2 * f.1 * m.p + f.2.1 * m.r) ≠ 0 := Int.mul_ne_zero nz nz
      rw [hr]
      rw [hr] at this s1
      simp only [Int.mul_zero, Int.add_zero] at this s1 ⊢
      omega
    · have s2 := sqn m.r
      have : m.r * m.r ≠ 0 := Int.mul_ne_zero hr hr
      have := Int.mul_pos (show 0 < -e by omega) (show 0 < m.r * m.r by omega)
      omega
  · have := ld_dis f m
    rw [hd, h2'] at this
    simpa [disF] using this
  · rw [prim_iff] at h3 ⊢
    intro k k1 k2 k3
    have := dvd_ld (m := invC m) k1 k2 k3
    rw [ld_inv hd] at this
    exact h3 k this.1 this.2.1 this.2.2
theorem lt_sq {r x : Int} (h : r * r ≤ x) (hx : Lt 483 x) : Lt 242 r := by
  refine .of (Classical.byContradiction fun n => ?_)
  have h1 : 2 ^ 242 ≤ r.natAbs := by omega
  have h2 := Nat.mul_le_mul h1 h1
  have h3 := Int.natAbs_mul_self (a := r)
  have h4 := hx.h
  have h5 : (2 : Nat) ^ 242 * 2 ^ 242 = 2 ^ 484 := by decide +kernel
  have h6 : (2 : Nat) ^ 484 = 2 ^ 483 + 2 ^ 483 := by decide +kernel
  rw [h5] at h2
  generalize (2 : Nat) ^ 484 = X at *
  generalize (2 : Nat) ^ 483 = Y at *
  omega
theorem sq_up {e r : Int} (he : e < 0) : r * r ≤ -e * (r * r) := by
  have := Int.mul_le_mul_of_nonneg_right (show 1 ≤ -e by omega) (sqn r)
  omega
theorem ld_bd {e : Int} {f g : T3} {m : Chg} (he : e < 0) (hf : Gf e f) (h : LdTo f g m) (lf : lt3 240 f) (lg : lt3 240 g) : CLt 250 m := by
  have d := gf_dis hf
  have i1 := ld_id1 f m
  have i2 := ld_id2 f m
  have i3 := ld_id3 f m
  have i4 := ld_id4 f m
  rw [h.ld, d] at i1 i2 i3 i4
  obtain ⟨f1, f2, f3⟩ := lf
  obtain ⟨g1, g2, g3⟩ := lg
  have b : ∀ {x y : Int}, Lt 240 x → Lt 240 y → Lt 483 (4 * x * y) := fun hx hy => Lt.to (by decide)
  have k1 := sqn (2 * f.1 * m.p + f.2.1 * m.r)
  have k2 := sqn (2 * f.2.2 * m.r + f.2.1 * m.p)
  have k3 := sqn (2 * f.1 * m.q + f.2.1 * m.s)
  have k4 := sqn (2 * f.2.2 * m.s + f.2.1 * m.q)
  have u1 := sq_up (r := m.r) he
  have u2 := sq_up (r := m.p) he
  have u3 := sq_up (r := m.s) he
  have u4 := sq_up (r := m.q) he
  exact ⟨(lt_sq (x := 4 * f.2.2 * g.1) (by omega) (b f3 g1)).mono (by decide), (lt_sq (x := 4 * f.2.2 * g.2.2) (by omega) (b f3 g3)).mono (by decide), (lt_sq (x := 4 * f.1 * g.1) (by omega) (b f1 g1)).mono (by decide), (lt_sq (x := 4 * f.1 * g.2.2) (by omega) (b f1 g3)).mono (by decide)⟩
/-! what a reduction comes to -/
theorem shift0 {a b : Int} (ha : 0 < a) : (a - b) / (2 * a) = 0 ↔ (-a < b ∧ b ≤ a) := by
  have hp : 0 < 2 * a := by omega
  constructor
  · intro h
    have h1 := Int.mul_ediv_add_emod (a - b) (2 * a)
    have h2 := Int.emod_nonneg (a - b) (show 2 * a ≠ 0 by omega)
    have h3 := Int.emod_lt_of_pos (a - b) hp
    rw [h, Int.mul_zero] at h1
    omega
  · rintro ⟨h1, h2⟩
    exact Int.ediv_eq_zero_of_lt (by omega) (by omega)
theorem shifted {a b : Int} (ha : 0 < a) : -a < 2 * a * ((a - b) / (2 * a)) + b ∧ 2 * a * ((a - b) / (2 * a)) + b ≤ a := by
  have h1 := Int.mul_ediv_add_emod (a - b) (2 * a)
  have h2 := Int.emod_nonneg (a - b) (show 2 * a ≠ 0 by omega)
  have h3 := Int.emod_lt_of_pos (a - b) (show 0 < 2 * a by omega)
  omega
theorem redB_iff {a b c : Int} : redB a b c = true ↔ (-a < b ∧ b ≤ a ∧ a ≤ c) ∧ (0 ≤ b ∨ a < c) := by
  simp only [redB, Bool.and_eq_true, Bool.or_eq_true, decide_eq_true_eq]
  constructor
  · rintro ⟨⟨⟨h1, h2⟩, h3⟩, h4⟩; exact ⟨⟨h1, h2, h3⟩, h4⟩
  · rintro ⟨⟨h1, h2, h3⟩, h4⟩; exact ⟨⟨⟨h1, h2⟩, h3⟩, h4⟩
/-! there is but one -/
theorem uq0 {a b c A B C p q s : Int} (h0 : 0 < a) (h1 : -a < b) (h2 : b ≤ a) (k1 : -A < B) (k2 : B ≤ A) (e1 : A = a * p * p) (e2 : B = 2 * a * p * q + b * (p * s)) (hd : b * b - 4 * a * c = B * B - 4 * A * C) (det : p * s = 1) : a = A ∧ b = B ∧ c = C := by
  have pp : (p = 1 ∧ s = 1) ∨ (p = -1 ∧ s = -1) := by
    have : p ∣ 1 := ⟨s, det.symm⟩
    have hp : p.natAbs = 1 := by
      have := Int.natAbs_dvd_natAbs.mpr this
      exact Nat.dvd_one.mp this
    rcases Int.natAbs_eq p with h | h
    · rw [hp] at h
      exact .inl ⟨by omega, by rw [h] at det; omega⟩
    · rw [hp] at h
      exact .inr ⟨by omega, by rw [h] at det; omega⟩
  have hA : A = a := by rcases pp with ⟨rfl, _⟩ | ⟨rfl, _⟩ <;> omega
  have hB : B = 2 * (a * (p * q)) + b := by rw [e2, det]; grind
  have ht : p * q = 0 := by
    rcases Int.lt_trichotomy (p * q) 0 with h | h | h
    · have := Int.mul_le_mul_of_nonneg_left (show p * q ≤ -1 by omega) (show 0 ≤ a by omega)
      omega
    · exact h
    · have := Int.mul_le_mul_of_nonneg_left (show 1 ≤ p * q by omega) (show 0 ≤ a by omega)
      omega
  rw [ht] at hB
  have hb : b = B := by omega
  refine ⟨hA.symm, hb, ?_⟩
  rw [hA, ← hb] at hd
  have : a * c = a * C := by grind
  exact Int.eq_of_mul_eq_mul_left (by omega) this
theorem eq_c {a b c C : Int} (h0 : 0 < a) (hd : b * b - 4 * a * c = b * b - 4 * a * C) : c = C := by
  have : a * c = a * C := by grind
  exact Int.eq_of_mul_eq_mul_left (by omega) this
theorem uq1 {a b c A B C p q s : Int} (h0 : 0 < a) (h1 : -a < b) (h2 : b ≤ a) (h3 : a ≤ c) (h4 : 0 ≤ b ∨ a < c) (k1 : -A < B) (k2 : B ≤ A) (k3 : A ≤ C) (k4 : 0 ≤ B ∨ A < C) (e1 : A = a * p * p + b * p + c) (e2 : B = 2 * a * p * q + b * (p * s + q) + 2 * c * s) (hd : b * b - 4 * a * c = B * B - 4 * A * C) (det : q = p * s - 1) (le : A ≤ a) : a = A ∧ b = B ∧ c = C := by
  rcases Int.lt_trichotomy p 0 with hp | hp | hp
  · by_cases hp1 : p = -1
    · subst hp1
      have : c = b := by omega
      have hab : b = a := by omega
      subst this hab
      have hA : A = c := by omega
      subst hA
      have hB : B = A * (2 * s + 1) := by rw [e2, det]; grind
      have hs : s = 0 := by
        rcases Int.lt_trichotomy s 0 with h | h | h
        · have := Int.mul_le_mul_of_nonneg_left (show 2 * s + 1 ≤ -1 by omega) (show 0 ≤ A by omega)
          omega
        · exact h
        · have := Int.mul_le_mul_of_nonneg_left (show 3 ≤ 2 * s + 1 by omega) (show 0 ≤ A by omega)
          omega
      rw [hs] at hB
      have hb : B = A := by omega
      rw [hb] at hd
      exact ⟨rfl, hb.symm, eq_c h0 hd⟩
    · have m1 := Int.mul_nonneg (show 0 ≤ a - b by omega) (show 0 ≤ -p by omega)
      have m2 := Int.mul_nonneg (show 0 ≤ -p - 2 by omega) (show 0 ≤ -p + 1 by omega)
      have m3 := Int.mul_nonneg (show 0 ≤ a by omega) m2
      have : A = (a - b) * -p + a * ((-p - 2) * (-p + 1)) + 2 * a + c := by rw [e1]; grind
      omega
  · subst hp
    have hc : c = a := by omega
    subst hc
    have hA : A = c := by omega
    subst hA
    have hq : q = -1 := by omega
    subst hq
    have hB : B = -b + 2 * (A * s) := by rw [e2]; grind
    have b0 : 0 ≤ b := by omega
    rcases Int.lt_trichotomy s 0 with h | h | h
    · have := Int.mul_le_mul_of_nonneg_left (show s ≤ -1 by omega) (show 0 ≤ A by omega)
      omega
    · subst h
      have hB2 : B = -b := by omega
      have hC : A = C := eq_c h0 (b := b) (by rw [hB2] at hd; grind)
      have : b = 0 := by omega
      exact ⟨rfl, by omega, hC⟩
    · by_cases hs : s = 1
      · subst hs
        have hb : b = A := by omega
        have hB2 : B = A := by omega
        refine ⟨rfl, by omega, ?_⟩
        rw [hb, hB2] at hd
        exact eq_c h0 hd
      · have := Int.mul_le_mul_of_nonneg_left (show 2 ≤ s by omega) (show 0 ≤ A by omega)
        omega
  · have m1 := Int.mul_nonneg (show 0 ≤ a + b - 1 by omega) (show 0 ≤ p by omega)
    have m2 := Int.mul_nonneg (show 0 ≤ p - 1 by omega) (show 0 ≤ p by omega)
    have m3 := Int.mul_nonneg (show 0 ≤ a by omega) m2
    have : A = (a + b - 1) * p + a * ((p - 1) * p) + p + c := by rw [e1]; grind
    omega
theorem uq_le {e : Int} {f g : T3} {m : Chg} (hf : Gf e f) (hg : Gf e g) (rf : redF f) (rg : redF g) (h : LdTo f g m) (le : g.1 ≤ f.1) : f = g := by
  obtain ⟨a, b, c⟩ := f
  obtain ⟨A, B, C⟩ := g
  obtain ⟨p, q, r, s⟩ := m
  obtain ⟨hl, hd⟩ := h
  rw [redF, redB_iff] at rf rg
  obtain ⟨f0, fd, _⟩ := hf
  obtain ⟨g0, gd, _⟩ := hg
  unfold ldF at hl
  unfold detC at hd
  simp only [Prod.mk.injEq] at hl hd rf rg f0 fd g0 gd le
  obtain ⟨e1, e2, e3⟩ := hl
  obtain ⟨⟨h1, h2, h3⟩, h4⟩ := rf
  obtain ⟨⟨k1, k2, k3⟩, k4⟩ := rg
  have dd : b * b - 4 * a * c = B * B - 4 * A * C := by omega
  have fin : a = A ∧ b = B ∧ c = C := by
    have b2 := Int.mul_nonneg (show 0 ≤ a - b by omega) (show 0 ≤ a + b by omega)
    have c2 := Int.mul_nonneg (show 0 ≤ a by omega) (show 0 ≤ c - a by omega)
    have s1 := sqn (2 * a * p + b * r)
    have id1 : 4 * (a * A) = (2 * a * p + b * r) * (2 * a * p + b * r) + (4 * (a * (c - a)) + ((a - b) * (a + b)) + 3 * (a * a)) * (r * r) := by rw [← e1]; grind
    have aA := Int.mul_le_mul_of_nonneg_left le (show 0 ≤ a by omega)
    have aa : 0 < a * a := Int.mul_pos f0 f0
    have rr := sqn r
    have k0 := Int.mul_nonneg (show 0 ≤ 4 * (a * (c - a)) + ((a - b) * (a + b)) by omega) rr
    have k5 : 3 * (a * a * (r * r)) ≤ 4 * (a * a) := by
      have : (4 * (a * (c - a)) + ((a - b) * (a + b)) + 3 * (a * a)) * (r * r) = (4 * (a * (c - a)) + ((a - b) * (a + b))) * (r * r) + 3 * (a * a * (r * r)) := by grind
      omega
    have r1 : r * r ≤ 1 := by
      refine Classical.byContradiction fun n => ?_
      have := Int.mul_le_mul_of_nonneg_left (show 2 ≤ r * r by omega) (show 0 ≤ a * a by omega)
      omega
    have hr : r = -1 ∨ r = 0 ∨ r = 1 := by
      rcases Int.lt_or_le r (-1) with h | h
      · have := Int.mul_nonneg (show 0 ≤ -2 - r by omega) (show 0 ≤ -r + 2 by omega)
        have e : (-2 - r) * (-r + 2) = r * r - 4 := by grind
        omega
      · rcases Int.lt_or_le 1 r with h' | h'
        · have := Int.mul_nonneg (show 0 ≤ r - 2 by omega) (show 0 ≤ r + 2 by omega)
          have e : (r - 2) * (r + 2) = r * r - 4 := by grind
          omega
        · omega
    rcases hr with rfl | rfl | rfl
    · exact uq1 (p := -p) (q := -q) (s := -s) f0 h1 h2 h3 h4 k1 k2 k3 k4 (by rw [← e1]; grind) (by rw [← e2]; grind) dd (by grind) le
    · exact uq0 (p := p) (q := q) (s := s) f0 h1 h2 k1 k2 (by rw [← e1]; grind) (by rw [← e2]; grind) dd (by grind)
    · exact uq1 (p := p) (q := q) (s := s) f0 h1 h2 h3 h4 k1 k2 k3 k4 (by rw [← e1]; grind) (by rw [← e2]; grind) dd (by grind) le
  obtain ⟨rfl, rfl, rfl⟩ := fin
  rfl
theorem red_uniq {e : Int} {f g : T3} {m : Chg} (hf : Gf e f) (hg : Gf e g) (rf : redF f) (rg : redF g) (h : LdTo f g m) : f = g := by
  rcases Int.le_total g.1 f.1 with le | le
  · exact uq_le hf hg rf rg h le
  · exact (uq_le hg hf rg rf h.back le).symm
/-! how long it takes -/
theorem root4 : ∀ n : Nat, ∃ k : Nat, 4 * (k * k) ≤ n ∧ n < 4 * ((k + 1) * (k + 1))
  | 0 => ⟨0, by decide, by decide⟩
  | n + 1 => by
    obtain ⟨k, h1, h2⟩ := root4 n
    by_cases h : n + 1 < 4 * ((k + 1) * (k + 1))
    · exact ⟨k, by omega, h⟩
    · refine ⟨k + 1, by omega, ?_⟩
      have e : (k + 1 + 1) * (k + 1 + 1) = (k + 1) * (k + 1) + 2 * k + 3 := by grind
      omega
structure Rt (e k : Int) : Prop where
  k0 : 0 ≤ k
  lo : 4 * (k * k) ≤ -e
  hi : -e < 4 * ((k + 1) * (k + 1))
  k1 : k ≤ 15900
theorem rt_ex {e : Int} (h : WD e) : ∃ k, Rt e k := by
  obtain ⟨k, h1, h2⟩ := root4 (-e).toNat
  have c1 : (k * k : Nat) = (k : Int) * k := Int.natCast_mul _ _
  have c2 : (((k + 1) * (k + 1) : Nat) : Int) = ((k : Int) + 1) * (k + 1) := by rw [Int.natCast_mul]; rfl
  unfold WD at h
  refine ⟨k, by omega, by omega, by omega, ?_⟩
  refine Classical.byContradiction fun n => ?_
  have := Nat.mul_le_mul (show 15900 ≤ k by omega) (show 15900 ≤ k by omega)
  omega
def phi (e k a : Int) : Nat := if a ≤ k then 0 else if a * a < -e then (a - k).toNat else 16000 + a.toNat.log2
theorem sq_lt {a b : Int} (h0 : 0 ≤ a) (h1 : a < b) : a * a < b * b := by
  have := Int.mul_pos (show 0 < b - a by omega) (show 0 < b + a by omega)
  have e : (b - a) * (b + a) = b * b - a * a := by grind
  omega
theorem sq_le' {a b : Int} (h0 : 0 ≤ a) (h1 : a ≤ b) : a * a ≤ b * b := Int.mul_le_mul h1 h1 h0 (by omega)
theorem phi_dec {e k : Int} {f : T3} (R : Rt e k) (he : e < 0) (h : Gf e f) (h1 : -f.1 < f.2.1) (h2 : f.2.1 ≤ f.1) (h3 : f.2.2 < f.1) : phi e k f.2.2 < phi e k f.1 := by
  obtain ⟨a, b, c⟩ := f
  obtain ⟨h0, hd, _⟩ := h
  simp only at *
  obtain ⟨k0, lo, hi, kb⟩ := R
  have bb := sqn b
  have b2 := Int.mul_nonneg (show 0 ≤ a - b by omega) (show 0 ≤ a + b by omega)
  have e2 : (a - b) * (a + b) = a * a - b * b := by grind
  have ac : 4 * a * c = 4 * (a * c) := by grind
  have c0 : 0 < c := pos_of_mul h0 (by omega)
  have acl := Int.mul_lt_mul_of_pos_left h3 h0
  have ak : k < a := by
    refine Classical.byContradiction fun n => ?_
    have := sq_le' (show 0 ≤ a by omega) (show a ≤ k by omega)
    omega
  unfold phi
  rw [if_neg (show ¬ a ≤ k by omega)]
  by_cases hs : a * a < -e
  · rw [if_pos hs]
    split
    · omega
    · have := sq_lt (show 0 ≤ c by omega) h3
      rw [if_pos (by omega)]
      omega
  · rw [if_neg hs]
    have le : 2 * c ≤ a := by
      refine Int.le_of_mul_le_mul_left (a := 2 * a) ?_ (by omega)
      have : 2 * a * (2 * c) = 4 * (a * c) := by grind
      have : 2 * a * a = 2 * (a * a) := by grind
      omega
    split
    · omega
    · split
      · rename_i hc
        have : c < 2 * (k + 1) := by
          refine Classical.byContradiction fun n => ?_
          have := sq_le' (show 0 ≤ 2 * (k + 1) by omega) (show 2 * (k + 1) ≤ c by omega)
          have e3 : 2 * (k + 1) * (2 * (k + 1)) = 4 * ((k + 1) * (k + 1)) := by grind
          omega
        omega
      · have lt := Nat.lt_log2_self (n := a.toNat)
        rw [Nat.pow_succ] at lt
        have : c.toNat < 2 ^ a.toNat.log2 := by omega
        have := (Nat.log2_lt (by omega : c.toNat ≠ 0)).mpr this
        omega
theorem phi_le {e k a : Int} (R : Rt e k) (h : Lt 240 a) : phi e k a ≤ 16240 := by
  obtain ⟨k0, lo, hi, kb⟩ := R
  unfold phi
  split
  · omega
  · split
    · rename_i hk hc
      have : a < 2 * (k + 1) := by
        refine Classical.byContradiction fun n => ?_
        have := sq_le' (show 0 ≤ 2 * (k + 1) by omega) (show 2 * (k + 1) ≤ a by omega)
        have e3 : 2 * (k + 1) * (2 * (k + 1)) = 4 * ((k + 1) * (k + 1)) := by grind
        omega
      omega
    · have h1 := h.h
      by_cases h0 : a.toNat = 0
      · rw [h0]; decide
      · have : a.toNat.log2 < 240 := (Nat.log2_lt h0).mpr (by omega)
        omega
def psi (e k : Int) (f : T3) : Nat := phi e k f.1 + (if redB f.1 f.2.1 f.2.2 = true then 0 else 1)
def muF (e k : Int) (f : T3) : Nat := 2 * psi e k f + (if (f.1 - f.2.1) / (2 * f.1) = 0 then 0 else 1)
abbrev shC (t : Int) : Chg := ⟨1, t, 0, 1⟩
abbrev swC : Chg := ⟨0, -1, 1, 0⟩
abbrev shOf (f : T3) : Int := (f.1 - f.2.1) / (2 * f.1)
theorem ld_sh (f : T3) (t : Int) : ldF f (shC t) = (f.1, 2 * f.1 * t + f.2.1, f.1 * t * t + f.2.1 * t + f.2.2) := by
  unfold ldF
  refine Prod.ext ?_ (Prod.ext ?_ ?_) <;> simp only <;> grind
theorem ld_sw (f : T3) : ldF f swC = (f.2.2, -f.2.1, f.1) := by
  unfold ldF
  refine Prod.ext ?_ (Prod.ext ?_ ?_) <;> simp only <;> grind
theorem det_sh (t : Int) : detC (shC t) = 1 := by unfold detC; simp
theorem det_sw : detC swC = 1 := by unfold detC; simp
theorem psi_sh {e k : Int} {f : T3} (h : Gf e f) : psi e k (ldF f (shC (shOf f))) ≤ psi e k f := by
  by_cases r : redB f.1 f.2.1 f.2.2 = true
  · have z : shOf f = 0 := (shift0 h.1).mpr ⟨(redB_iff.mp r).1.1, (redB_iff.mp r).1.2.1⟩
    have : ldF f (shC (shOf f)) = f := by rw [z]; exact ld_one f
    rw [this]
    exact Nat.le_refl _
  · unfold psi
    rw [if_neg r, ld_sh]
    simp only
    split <;> omega
theorem mu_sh {e k : Int} {f : T3} (h : Gf e f) (n : shOf f ≠ 0) : muF e k (ldF f (shC (shOf f))) < muF e k f := by
  have h1 := psi_sh (k := k) h
  have z : ((ldF f (shC (shOf f))).1 - (ldF f (shC (shOf f))).2.1) / (2 * (ldF f (shC (shOf f))).1) = 0 := by
    rw [ld_sh]
    exact (shift0 h.1).mpr (shifted h.1)
  unfold muF
  rw [if_pos z, if_neg n]
  omega
theorem psi_sw {e k : Int} {f : T3} (R : Rt e k) (he : e < 0) (h : Gf e f) (h1 : -f.1 < f.2.1) (h2 : f.2.1 ≤ f.1) (h3 : f.2.2 < f.1 ∨ (f.1 = f.2.2 ∧ f.2.1 < 0)) : psi e k (ldF f swC) < psi e k f := by
  have nr : ¬ redB f.1 f.2.1 f.2.2 = true := by rw [redB_iff]; omega
  rw [ld_sw]
  unfold psi
  rw [if_neg nr]
  simp only
  rcases h3 with h3 | ⟨h3, h4⟩
  · have := phi_dec R he h h1 h2 h3
    split <;> omega
  · have : redB f.2.2 (-f.2.1) f.1 = true := by rw [redB_iff]; omega
    rw [if_pos this, h3]
    omega
theorem mu_sw {e k : Int} {f : T3} (R : Rt e k) (he : e < 0) (h : Gf e f) (hz : shOf f = 0) (h3 : f.2.2 < f.1 ∨ (f.1 = f.2.2 ∧ f.2.1 < 0)) : muF e k (ldF f swC) < muF e k f := by
  have hb := (shift0 h.1).mp hz
  have := psi_sw R he h hb.1 hb.2 h3
  unfold muF
  split <;> omega
/-! how great it all is -/
theorem ld_lt {w v : Nat} {f : T3} {m : Chg} (hf : lt3 w f) (hm : CLt v m) : lt3 (w + v + v + 3) (ldF f m) := by
  obtain ⟨f1, f2, f3⟩ := hf
  obtain ⟨p, q, r, s⟩ := hm
  have t3 : ∀ {x y z : Int}, Lt w x → Lt v y → Lt v z → (x * y * z).natAbs < 2 ^ (w + v + v) := fun hx hy hz => by
    rw [Int.natAbs_mul, Int.natAbs_mul, Nat.pow_add, Nat.pow_add]
    exact Nat.mul_lt_mul'' (Nat.mul_lt_mul'' hx.h hy.h) hz.h
  have k : (2 : Nat) ^ (w + v + v + 3) = 8 * 2 ^ (w + v + v) := by rw [Nat.pow_succ, Nat.pow_succ, Nat.pow_succ]; omega
  have n1 : ∀ {x y z : Int} {X : Nat}, x.natAbs < X → y.natAbs < X → z.natAbs < X → (x + y + z).natAbs < 8 * X := fun h1 h2 h3 => by omega
  have n2 : ∀ {x y z t : Int} {X : Nat}, x.natAbs < X → y.natAbs < X → z.natAbs < X → t.natAbs < X → (2 * x + (y + z) + 2 * t).natAbs < 8 * X := fun h1 h2 h3 h4 => by omega
  refine ⟨.of ?_, .of ?_, .of ?_⟩ <;> rw [k]
  · exact n1 (t3 f1 p p) (t3 f2 p r) (t3 f3 r r)
  · have : (ldF f m).2.1 = 2 * (f.1 * m.p * m.q) + (f.2.1 * m.p * m.s + f.2.1 * m.q * m.r) + 2 * (f.2.2 * m.r * m.s) := by unfold ldF; simp only; grind
    rw [this]
    exact n2 (t3 f1 p q) (t3 f2 p s) (t3 f2 q r) (t3 f3 r s)
  · exact n1 (t3 f1 q q) (t3 f2 q s) (t3 f3 s s)
theorem sh_in {e : Int} {f : T3} (he : WD e) (h : Gf e f) (l : lt3 240 f) : lt3 240 (ldF f (shC (shOf f))) := by
  have g := gf_led he.2 h (det_sh (shOf f))
  rw [ld_sh] at g ⊢
  unfold shOf at g ⊢
  obtain ⟨g0, gd, _⟩ := g
  have hs := shifted (b := f.2.1) h.1
  simp only at g0 gd
  have l1 := l.1.h
  have h0 := h.1
  unfold WD at he
  refine ⟨l.1, ⟨by simp only; omega⟩, ?_⟩
  generalize 2 * f.1 * ((f.1 - f.2.1) / (2 * f.1)) + f.2.1 = B at *
  show Lt 240 (f.1 * ((f.1 - f.2.1) / (2 * f.1)) * ((f.1 - f.2.1) / (2 * f.1)) + f.2.1 * ((f.1 - f.2.1) / (2 * f.1)) + f.2.2)
  generalize f.1 * ((f.1 - f.2.1) / (2 * f.1)) * ((f.1 - f.2.1) / (2 * f.1)) + f.2.1 * ((f.1 - f.2.1) / (2 * f.1)) + f.2.2 = C at *
  generalize f.1 = a at *
  have b2 := Int.mul_nonneg (show 0 ≤ a - B by omega) (show 0 ≤ a + B by omega)
  have e2 : (a - B) * (a + B) = a * a - B * B := by grind
  have bb := sqn B
  have ac : 4 * a * C = 4 * (a * C) := by grind
  have c0 : 0 < C := pos_of_mul h0 (by omega)
  have le : 4 * C ≤ a + 1000000100 := by
    refine Int.le_of_mul_le_mul_left (a := a) ?_ h0
    have i1 : a * (4 * C) = 4 * (a * C) := by grind
    have i2 : a * (a + 1000000100) = a * a + 1000000100 * a := by grind
    omega
  have big : (1000000100 : Nat) < 2 ^ 240 := by decide
  exact ⟨by omega⟩
theorem sw_in {f : T3} (l : lt3 240 f) : lt3 240 (ldF f swC) := by
  rw [ld_sw]
  obtain ⟨l1, l2, l3⟩ := l
  exact ⟨l3, Lt.neg, l1⟩
theorem shof_lt {f : T3} (l : lt3 240 f) : Lt 250 (shOf f) := by
  obtain ⟨l1, l2, l3⟩ := l
  have h1 : Lt 241 (f.1 - f.2.1) := Lt.to (by decide)
  have := Int.natAbs_ediv_le_natAbs (f.1 - f.2.1) (2 * f.1)
  exact (show Lt 241 _ from ⟨Nat.lt_of_le_of_lt this h1.h⟩).mono (by decide)
end
end K17
namespace K17
open PySem PySem.Spec L2 DL
section
variable {Q : D → Prop} {PX : Ex → Prop}
theorem lf3' {a b c : Int} (h : leaf (.tup [.int a, .int b, .int c]) = true) : lt3 340 (a, b, c) := lf3 (p := (a, b, c)) h
theorem lf4 {a b c e : Int} (h : leaf (.tup [.int a, .int b, .int c, .int e]) = true) : CLt 340 ⟨a, b, c, e⟩ := by
  simp only [leaf, leafs, Bool.and_eq_true, decide_eq_true_eq, and_true] at h
  have k : (10 : Nat) ^ 100 < 2 ^ 340 := by decide +kernel
  exact ⟨.of (Nat.lt_trans h.1 k), .of (Nat.lt_trans h.2.1 k), .of (Nat.lt_trans h.2.2.1 k), .of (Nat.lt_trans h.2.2.2 k)⟩
theorem are4 {d : D} (h : areD d 4 = true) : ∃ a b c e, d = .tup [.int a, .int b, .int c, .int e] := by
  unfold areD at h
  split at h
  · rename_i l
    rw [Bool.and_eq_true, List.all_eq_true] at h
    obtain ⟨h1, h2⟩ := h
    have hl : l.length = 4 := by have := of_decide_eq_true h1; omega
    match l, hl with
    | [a, b, c, e], _ =>
      have k : ∀ d, intD d = true → ∃ i, d = .int i := fun d hd => by unfold intD at hd; split at hd <;> first | exact ⟨_, rfl⟩ | cases hd
      obtain ⟨a, rfl⟩ := k a (h2 a (by simp))
      obtain ⟨b, rfl⟩ := k b (h2 b (by simp))
      obtain ⟨c, rfl⟩ := k c (h2 c (by simp))
      obtain ⟨e, rfl⟩ := k e (h2 e (by simp))
      exact ⟨a, b, c, e, rfl⟩
  · cases h
theorem pos_no {d : D} (h : areD d 3 = false) : posD d = false := by
  unfold posD
  split
  · simp [areD, intD] at h
  · rfl
theorem wh_no {d : D} (h : areD d 4 = false) : whD d = false := by
  unfold whD
  split
  · simp [areD, intD] at h
  · rfl
theorem r_discriminant_of {ds : List D} (h : S_discriminant_of ds Q PX) : g_discriminant_of (E0' Q) (slots 4 ds) := by
  obtain ⟨f, rfl, ⟨l1, l2, l3⟩, q⟩ := h
  unfold g_discriminant_of
  simp -implicitDefEqProofs [slots]
  exact ⟨Lt.cm (by decide), Lt.cm (by decide), Lt.cm (by decide), q⟩
theorem r_is_positive {ds : List D} (h : S_is_positive ds Q PX) : g_is_positive (E0' Q) (slots 1 ds) := by
  obtain ⟨d, rfl, ok, q⟩ := h
  have hp := plain_leaf d ok.lf
  have hn := ok.sz
  unfold g_is_positive
  cases e : areD d 3 with
  | false =>
    rw [pos_no e] at q
    simp -implicitDefEqProofs [slots, S_areints, hp, e]
    exact ⟨by omega, q⟩
  | true =>
    obtain ⟨f, rfl⟩ := areT e
    obtain ⟨a, b, c⟩ := f
    have l := lt_up (lf3 ok.lf) (show 340 ≤ 400 by decide)
    simp -implicitDefEqProofs [slots, S_areints, hp, e, ixD]
    refine ⟨by omega, ?_⟩
    simp only [posD] at q
    by_cases h1 : a ≤ 0
    · rw [decide_eq_false (show ¬ 0 < a by omega)] at q
      simp [h1] at q ⊢
      exact q
    · rw [decide_eq_true (show 0 < a by omega)] at q
      simp -implicitDefEqProofs [h1] at q ⊢
      refine ⟨(a, b, c), rfl, l, ?_⟩
      unfold disF
      by_cases h2 : b * b - 4 * a * c < 0
      · rw [decide_eq_true h2, Bool.true_and] at q
        simp -implicitDefEqProofs [h2, S_gcd, show ¬ 4 * a * c ≤ b * b by omega]
        exact q
      · rw [decide_eq_false h2, Bool.false_and] at q
        simp -implicitDefEqProofs [h2, show 4 * a * c ≤ b * b by omega]
        exact q
theorem r_is_whole_change {ds : List D} (h : S_is_whole_change ds Q PX) : g_is_whole_change (E0' Q) (slots 1 ds) := by
  obtain ⟨d, rfl, ok, q⟩ := h
  have hp := plain_leaf d ok.lf
  have hn := ok.sz
  unfold g_is_whole_change
  cases e : areD d 4 with
  | false =>
    rw [wh_no e] at q
    simp -implicitDefEqProofs [slots, S_areints, hp, e]
    exact ⟨by omega, q⟩
  | true =>
    obtain ⟨a, b, c, f, rfl⟩ := are4 e
    obtain ⟨l1, l2, l3, l4⟩ := lf4 ok.lf
    simp only at l1 l2 l3 l4
    simp -implicitDefEqProofs [slots, S_areints, hp, e, ixD]
    simp only [whD] at q
    exact ⟨by omega, cm700 l1 l4 (by decide), cm700 l2 l3 (by decide), q⟩
theorem r_check_forms {ds : List D} (h : S_check_forms ds Q PX) : g_check_forms (fun x _ => PX x) (E0' Q) (slots 2 ds) := by
  obtain ⟨d, rfl, ok, q1, q2⟩ := h
  unfold g_check_forms
  simp -implicitDefEqProofs [slots, forL, S_is_positive, ok]
  cases e : posD d with
  | false => simp -implicitDefEqProofs; exact q2 e
  | true =>
    have : areD d 3 = true := by
      cases z : areD d 3 with
      | true => rfl
      | false => rw [pos_no z] at e; cases e
    obtain ⟨f, rfl⟩ := areT this
    have l := lt_up (lf3 ok.lf) (show 340 ≤ 400 by decide)
    simp -implicitDefEqProofs [ixD]
    refine ⟨f, rfl, l, f, rfl, l, ?_⟩
    simp -implicitDefEqProofs
    exact q1 e
theorem r_lead {ds : List D} (h : S_lead ds Q PX) : g_lead (E0' Q) (slots 12 ds) := by
  obtain ⟨f, m, rfl, ⟨ha, hb, hc⟩, ⟨hp, hq, hr, hs⟩, z⟩ := h
  unfold g_lead
  simp -implicitDefEqProofs [slots, chg]
  repeat refine ⟨Lt.cm (by decide +kernel), ?_⟩
  exact z
theorem r__law_led {ds : List D} (h : S__law_led ds Q PX) : g__law_led (E0' Q) (slots 11 ds) := by
  obtain ⟨f, m, rfl, ⟨ha, hb, hc⟩, ⟨hp, hq, hr, hs⟩, z⟩ := h
  unfold g__law_led
  simp -implicitDefEqProofs [slots, chg]
  repeat refine ⟨Lt.cm (by decide +kernel), ?_⟩
  exact z
theorem gcd3 (a b c : Int) : gcdL [a, b, c] = Nat.gcd (Nat.gcd a.natAbs b.natAbs) c.natAbs := by
  unfold gcdL
  simp [List.foldl]
theorem r__law_is_positive {ds : List D} (h : S__law_is_positive ds Q PX) : g__law_is_positive (E0' Q) (slots 1 ds) := by
  obtain ⟨d, rfl, ok, q⟩ := h
  unfold g__law_is_positive
  cases e : areD d 3 with
  | false =>
    rw [pos_no e] at q
    simp -implicitDefEqProofs [slots, S__law_are_integers, ok, e]
    exact q
  | true =>
    obtain ⟨f, rfl⟩ := areT e
    obtain ⟨a, b, c⟩ := f
    obtain ⟨la, lb, lc⟩ := lt_up (lf3 ok.lf) (show 340 ≤ 400 by decide)
    simp only at la lb lc
    simp -implicitDefEqProofs [slots, S__law_are_integers, ok, e, ixD]
    simp only [posD] at q
    by_cases h1 : a < 1
    · rw [decide_eq_false (show ¬ 0 < a by omega)] at q
      simp [h1] at q ⊢
      exact q
    · rw [decide_eq_true (show 0 < a by omega)] at q
      simp -implicitDefEqProofs [h1] at q ⊢
      refine ⟨Lt.cm (by decide), Lt.cm (by decide), Lt.cm (by decide), ?_⟩
      by_cases h2 : b * b - 4 * a * c < 0
      · rw [decide_eq_true h2, Bool.true_and] at q
        simp -implicitDefEqProofs [h2]
        refine ⟨[a, b, c], rfl, ?_⟩
        rw [gcd3]
        simp -implicitDefEqProofs
        exact q
      · rw [decide_eq_false h2, Bool.false_and] at q
        simp -implicitDefEqProofs [h2]
        exact q
theorem r__law_is_whole {ds : List D} (h : S__law_is_whole ds Q PX) : g__law_is_whole (E0' Q) (slots 1 ds) := by
  obtain ⟨d, rfl, ok, q⟩ := h
  unfold g__law_is_whole
  cases e : areD d 4 with
  | false =>
    rw [wh_no e] at q
    simp -implicitDefEqProofs [slots, S__law_are_integers, ok, e]
    exact q
  | true =>
    obtain ⟨a, b, c, f, rfl⟩ := are4 e
    obtain ⟨l1, l2, l3, l4⟩ := lf4 ok.lf
    simp only at l1 l2 l3 l4
    simp -implicitDefEqProofs [slots, S__law_are_integers, ok, e, ixD]
    simp only [whD] at q
    exact ⟨cm700 l1 l4 (by decide), cm700 l2 l3 (by decide), q⟩
theorem r__law_value {ds : List D} (h : S__law_value ds Q PX) : g__law_value (E0' Q) (slots 3 ds) := by
  obtain ⟨f, x, y, rfl, ⟨ha, hb, hc⟩, ⟨hx, hy⟩, z⟩ := h
  unfold g__law_value
  simp -implicitDefEqProofs [slots, ixD]
  repeat refine ⟨Lt.cm (by decide +kernel), ?_⟩
  exact z
theorem r__law_told (f0 : Addr) (PP : D → Prop) : g__law_told f0 (T1__law_told PP) (T2__law_told PP) { nx := fun _ => PP .non, rt := PP } (slots 3 [.raw (.ref f0)]) := by
  unfold g__law_told
  simp -implicitDefEqProofs [slots, T1__law_told, T2__law_told, XN, FS]
  rintro a b (⟨d, ⟨rfl, rfl⟩, h⟩ | ⟨d, ⟨rfl, rfl⟩, h⟩)
  · refine ⟨by simp, ?_⟩
    rw [if_pos (by decide)]
    have e : subX "BadForm" "RulerError" = true := by decide
    exact ⟨by simp, d, rfl, by simp, by rw [e]; exact h⟩
  · refine ⟨by simp, ?_⟩
    rw [if_neg (by decide)]
    have e : subX "BadChange" "RulerError" = true := by decide
    exact ⟨by simp, by decide, by simp, d, rfl, by simp, by rw [e]; exact h⟩
end
end K17
namespace K17
open PySem PySem.Spec L2 DL
section
variable {Q : D → Prop} {PX : Ex → Prop}
theorem sw_lt : CLt 250 swC := ⟨.of (show (0 : Int).natAbs < 2 ^ 250 by decide), .of (show (-1 : Int).natAbs < 2 ^ 250 by decide), .of (show (1 : Int).natAbs < 2 ^ 250 by decide), .of (show (0 : Int).natAbs < 2 ^ 250 by decide)⟩
theorem shC_lt {t : Int} (h : Lt 250 t) : CLt 250 (shC t) := ⟨.of (show (1 : Int).natAbs < 2 ^ 250 by decide), h, .of (show (0 : Int).natAbs < 2 ^ 250 by decide), .of (show (1 : Int).natAbs < 2 ^ 250 by decide)⟩
theorem one_lt : CLt 250 (⟨1, 0, 0, 1⟩ : Chg) := shC_lt (.of (by decide))
theorem prod_call {m c : Chg} {R : D → Prop} {PX : Ex → Prop} (hm : CLt 250 m) (hc : CLt 250 c) (h : R (chg (mulC m c))) : S_product [chg m, chg c] R PX :=
  ⟨⟨hm.p.mono (by decide), hm.q.mono (by decide), hm.r.mono (by decide), hm.s.mono (by decide)⟩, ⟨hc.p.mono (by decide), hc.q.mono (by decide), hc.r.mono (by decide), hc.s.mono (by decide)⟩, h⟩
theorem r_reduction {ds : List D} (h : S_reduction ds Q PX) : g_reduction (E0' Q) (slots 7 ds) := by
  obtain ⟨e, f, rfl, he, hg, lf, q⟩ := h
  obtain ⟨k, R⟩ := rt_ex he
  unfold g_reduction c_NO_CHANGE
  simp -implicitDefEqProofs [slots]
  unfold b_reduction_6
  refine while_inv (fun env => ∃ (g : T3) (m : Chg) (s2 s3 s4 s5 s6 : Slot), env = [.val (tr3 g), .val (chg m), s2, s3, s4, s5, s6] ∧ Gf e g ∧ lt3 240 g ∧ LdTo f g m)
    (fun env => match env with | .val (.tup [.int x, .int y, .int z]) :: _ => muF e k (x, y, z) | _ => 0) ?_ ⟨f, ⟨1, 0, 0, 1⟩, _, _, _, _, _, rfl, hg, lf, ld_to_one f⟩
  rintro env N ⟨g, m, s2, s3, s4, s5, s6, rfl, gg, lg, ld⟩ hN
  have x0 := gg.1
  have lm := ld_bd he.2 hg ld lf lg
  have l1 := lg.1
  have l2 : (2 * g.1).natAbs.log2 < 9000 := by
    have : Lt 250 (2 * g.1) := Lt.to (by decide)
    have := Lt.log (n := 250) (i := 2 * g.1) (by decide)
    omega
  have cm : CMulW 2 g.1 := Lt.cm (by decide)
  have go : ∀ (c : Chg) (s2 s3 s4 s5 : Slot), detC c = 1 → CLt 250 c → lt3 240 (ldF g c) → muF e k (ldF g c) < muF e k g → b_reduction_4 { nx := fun e => b_reduction_5 { nx := N, rt := Q, bk := fun _ => Q .non, ct := N } e, rt := Q, bk := fun _ => Q .non, ct := N } [.val (tr3 g), .val (chg m), s2, s3, s4, s5, .val (chg c)] := by
    intro c s2 s3 s4 s5 hd hc hl hmu
    unfold b_reduction_4
    simp -implicitDefEqProofs
    refine ⟨g, c, rfl, lt_up lg (by decide), hc.mono (by decide), ?_⟩
    unfold b_reduction_5
    simp -implicitDefEqProofs
    refine prod_call lm hc ?_
    exact hN _ ⟨ldF g c, mulC m c, _, _, _, _, _, rfl, gf_led he.2 gg hd, hl, ld.step hd⟩ hmu
  simp -implicitDefEqProofs [truD]
  unfold b_reduction_1
  simp -implicitDefEqProofs
  unfold b_reduction_2
  simp -implicitDefEqProofs
  refine ⟨cm, ?_⟩
  rw [if_pos (show 0 < 2 * g.1 by omega)]
  refine ⟨l2, ?_⟩
  have swp : ∀ (s2 s3 s4 s5 : Slot), shOf g = 0 → (g.2.2 < g.1 ∨ (g.1 = g.2.2 ∧ g.2.1 < 0)) → b_reduction_4 { nx := fun e => b_reduction_5 { nx := N, rt := Q, bk := fun _ => Q .non, ct := N } e, rt := Q, bk := fun _ => Q .non, ct := N } [.val (tr3 g), .val (chg m), s2, s3, s4, s5, .val (.tup [.int 0, .int (-1), .int 1, .int 0])] := fun s2 s3 s4 s5 z h => go swC s2 s3 s4 s5 det_sw sw_lt (sw_in lg) (mu_sw R he.2 gg z h)
  have fin : shOf g = 0 → ¬ (g.2.2 < g.1 ∨ (g.1 = g.2.2 ∧ g.2.1 < 0)) → Q (.tup [tr3 g, chg m]) := fun z h => q g m (by
    have := (shift0 x0).mp z
    rw [redF, redB_iff]
    omega) ld lg lm
  unfold b_reduction_3
  simp -implicitDefEqProofs
  by_cases z : (g.1 - g.2.1) / (2 * g.1) = 0
  · rw [if_pos z]
    by_cases z1 : g.2.2 < g.1
    · rw [if_pos z1]
      exact swp _ _ _ _ z (.inl z1)
    · rw [if_neg z1]
      by_cases z2 : g.1 = g.2.2
      · rw [if_pos z2]
        by_cases z3 : g.2.1 < 0
        · rw [if_pos z3]
          exact swp _ _ _ _ z (.inr ⟨z2, z3⟩)
        · rw [if_neg z3]
          exact fin z (by omega)
      · rw [if_neg z2]
        exact fin z (by omega)
  · rw [if_neg z]
    exact go (shC (shOf g)) _ _ _ _ (det_sh _) (shC_lt (shof_lt lg)) (sh_in he gg lg) (mu_sh gg z)
theorem r_led_form {ds : List D} (h : S_led_form ds Q PX) : g_led_form (fun x _ => PX x) (E0' Q) (slots 2 ds) := by
  obtain ⟨d1, d2, rfl, ⟨o1, o2⟩, h1, h2, q⟩ := h
  unfold g_led_form
  simp -implicitDefEqProofs [slots]
  refine ⟨d1, rfl, o1, fun e1 => ?_, fun e1 => h1 e1⟩
  simp -implicitDefEqProofs
  refine ⟨d2, rfl, o2, ?_⟩
  cases e2 : whD d2 with
  | false =>
    simp -implicitDefEqProofs
    exact h2 e1 e2
  | true =>
    obtain ⟨f, rfl⟩ := areT (d := d1) (by
      cases z : areD d1 3 with
      | true => rfl
      | false => rw [pos_no z] at e1; cases e1)
    obtain ⟨a, b, c, e, rfl⟩ := are4 (d := d2) (by
      cases z : areD d2 4 with
      | true => rfl
      | false => rw [wh_no z] at e2; cases e2)
    simp -implicitDefEqProofs
    refine ⟨f, ⟨a, b, c, e⟩, rfl, lt_up (lf3 o1.lf) (by decide), (lf4 o2.lf).mono (by decide), ?_⟩
    exact q e1 f ⟨a, b, c, e⟩ rfl rfl (by unfold whD at e2; simpa [detC] using e2)
theorem r_class_of {ds : List D} (h : S_class_of ds Q PX) : g_class_of (fun x _ => PX x) (E0' Q) (slots 1 ds) := by
  obtain ⟨d, rfl, o, h1, h2⟩ := h
  unfold g_class_of
  simp -implicitDefEqProofs [slots]
  refine ⟨d, rfl, o, fun e1 => ?_, fun e1 => h1 e1⟩
  obtain ⟨e, f, rfl, he, hg, lf, q⟩ := h2 e1
  exact ⟨e, f, rfl, he, hg, lf, fun g m h1 h2 h3 _ => by simp -implicitDefEqProofs [ixD]; exact q g m h1 h2 h3⟩
theorem r_reducing {ds : List D} (h : S_reducing ds Q PX) : g_reducing (fun x _ => PX x) (E0' Q) (slots 1 ds) := by
  obtain ⟨d, rfl, o, h1, h2⟩ := h
  unfold g_reducing
  simp -implicitDefEqProofs [slots]
  refine ⟨d, rfl, o, fun e1 => ?_, fun e1 => h1 e1⟩
  obtain ⟨e, f, rfl, he, hg, lf, q⟩ := h2 e1
  exact ⟨e, f, rfl, he, hg, lf, fun g m h1 h2 _ h3 => by simp -implicitDefEqProofs [ixD]; exact q g m h1 h2 h3⟩
theorem r__law_reducing {ds : List D} (h : S__law_reducing ds Q PX) : g__law_reducing (E0' Q) (slots 7 ds) := by
  obtain ⟨e, f, rfl, he, hg, lf, q⟩ := h
  obtain ⟨k, R⟩ := rt_ex he
  unfold g__law_reducing b__law_reducing_6
  simp -implicitDefEqProofs [slots]
  unfold b__law_reducing_7
  simp -implicitDefEqProofs
  refine for_rng (fun i env => ∃ (g : T3) (m : Chg) (s2 s3 s4 s5 s6 : Slot), env = [.val (tr3 g), .val (chg m), s2, s3, s4, s5, s6] ∧ Gf e g ∧ lt3 240 g ∧ LdTo f g m ∧ i + psi e k g ≤ 16300) ?_ ?_ ⟨f, ⟨1, 0, 0, 1⟩, _, _, _, _, _, rfl, hg, lf, ld_to_one f, ?_⟩
  · rintro i env N hi ⟨g, m, s2, s3, s4, s5, s6, rfl, gg, lg, ld, hm⟩ hN
    have x0 := gg.1
    have lm := ld_bd he.2 hg ld lf lg
    have l1 := lg.1
    have l2 : (2 * g.1).natAbs.log2 < 9000 := by
      have : Lt 250 (2 * g.1) := Lt.to (by decide)
      have := Lt.log (n := 250) (i := 2 * g.1) (by decide)
      omega
    have cm : CMulW 2 g.1 := Lt.cm (by decide)
    simp -implicitDefEqProofs
    unfold b__law_reducing_1
    simp -implicitDefEqProofs
    unfold b__law_reducing_2
    simp -implicitDefEqProofs
    refine ⟨cm, ?_⟩
    rw [if_pos (show 0 < 2 * g.1 by omega)]
    refine ⟨l2, ?_⟩
    have sl := shof_lt lg
    have ds := det_sh (shOf g)
    have fin : ∀ (g' : T3) (m' : Chg) (s2 s3 s4 s5 s6 : Slot), Gf e g' → lt3 240 g' → LdTo f g' m' → shOf g' = 0 → i + psi e k g' ≤ 16300 → b__law_reducing_4 { nx := fun env => b__law_reducing_5 { nx := N, rt := Q, bk := dRet (dTup (dCons (dVar 0) (dCons (dVar 1) dNil))) (E0' Q), ct := N } env, rt := Q, bk := dRet (dTup (dCons (dVar 0) (dCons (dVar 1) dNil))) (E0' Q), ct := N } [.val (tr3 g'), .val (chg m'), s2, s3, s4, s5, s6] := by
      intro g' m' s2 s3 s4 s5 s6 gg lg ld z hm
      have hb := (shift0 gg.1).mp z
      have lm := ld_bd he.2 hg ld lf lg
      have out : redF g' → Q (.tup [tr3 g', chg m']) := fun r => q g' m' r ld lg
      have swp : ¬ redF g' → b__law_reducing_5 { nx := N, rt := Q, bk := dRet (dTup (dCons (dVar 0) (dCons (dVar 1) dNil))) (E0' Q), ct := N } [.val (tr3 g'), .val (chg m'), s2, s3, s4, s5, s6] := by
        intro r
        have h3 : g'.2.2 < g'.1 ∨ (g'.1 = g'.2.2 ∧ g'.2.1 < 0) := by
          rw [redF, redB_iff] at r
          omega
        unfold b__law_reducing_5
        simp -implicitDefEqProofs
        refine ⟨g', swC, rfl, lt_up lg (by decide), sw_lt.mono (by decide), m', swC, rfl, lm.mono (by decide), sw_lt.mono (by decide), ?_⟩
        have := psi_sw R he.2 gg hb.1 hb.2 h3
        exact hN _ ⟨ldF g' swC, mulC m' swC, _, _, _, _, _, rfl, gf_led he.2 gg det_sw, sw_in lg, ld.step det_sw, by omega⟩
      unfold b__law_reducing_4
      simp -implicitDefEqProofs [ixD]
      by_cases z1 : g'.1 < g'.2.2
      · rw [if_pos z1]
        exact out (by rw [redF, redB_iff]; omega)
      · rw [if_neg z1]
        by_cases z2 : g'.1 = g'.2.2
        · rw [if_pos z2]
          by_cases z3 : 0 ≤ g'.2.1
          · rw [if_pos z3]
            exact out (by rw [redF, redB_iff]; omega)
          · rw [if_neg z3]
            exact swp (by rw [redF, redB_iff]; omega)
        · rw [if_neg z2]
          exact swp (by rw [redF, redB_iff]; omega)
    unfold b__law_reducing_3
    simp -implicitDefEqProofs
    refine ⟨g, shC (shOf g), rfl, lt_up lg (by decide), (shC_lt sl).mono (by decide), m, shC (shOf g), rfl, lm.mono (by decide), (shC_lt sl).mono (by decide), ?_⟩
    refine fin (ldF g (shC (shOf g))) (mulC m (shC (shOf g))) _ _ _ _ _ (gf_led he.2 gg ds) (sh_in he gg lg) (ld.step ds) ?_ (by have := psi_sh (k := k) gg; omega)
    rw [ld_sh]
    exact (shift0 x0).mpr (shifted x0)
  · rintro env ⟨g, m, s2, s3, s4, s5, s6, rfl, gg, lg, ld, hm⟩
    omega
  · have := phi_le R lf.1
    unfold psi
    split <;> omega
end
end K17
namespace K17
open PySem PySem.Spec L2 DL
section
variable {Q : D → Prop} {PX : Ex → Prop}
theorem c_pos {e a b c : Int} (he : e < 0) (h : GoodF e a b c) : 0 < c := by
  obtain ⟨h1, h2, _⟩ := h
  refine pos_of_mul h1 ?_
  have := sqn b
  have e1 : 4 * a * c = 4 * (a * c) := by grind
  omega
theorem item_some {e a b : Int} {d : D} (ha : 0 < a) (he : e < 0) (h : itemOf e a b = some d) : ∃ c : Int, d = .tup [.int a, .int b, .int c] ∧ GoodF e a b c ∧ redB a b c = true := by
  unfold itemOf at h
  split at h
  · rename_i hc
    obtain ⟨h1, h2, h3⟩ := hc
    refine ⟨_, (Option.some.inj h).symm, ⟨ha, ?_, h3⟩, h2⟩
    have := Int.mul_ediv_add_emod (b * b - e) (4 * a)
    rw [h1] at this
    omega
  · cases h
theorem item_of {e a b c : Int} (h : GoodF e a b c) (hr : redB a b c = true) : itemOf e a b = some (.tup [.int a, .int b, .int c]) := by
  obtain ⟨ha, hd, hg⟩ := h
  have e1 : b * b - e = 4 * a * c := by omega
  have e2 : (b * b - e) / (4 * a) = c := by rw [e1, Int.mul_ediv_cancel_left _ (by omega)]
  have e3 : (b * b - e) % (4 * a) = 0 := by rw [e1, Int.mul_emod_right]
  unfold itemOf
  rw [e2, if_pos ⟨e3, hr, hg⟩]
theorem item_none {e a b : Int} (ha : 0 < a) (he : e < 0) (h : -e < 3 * a * a) : itemOf e a b = none := by
  cases hi : itemOf e a b with
  | none => rfl
  | some d =>
    obtain ⟨c, _, ⟨_, hd, _⟩, hr⟩ := item_some ha he hi
    rw [redB_iff] at hr
    have h1 := Int.mul_nonneg (show 0 ≤ 4 * a by omega) (show 0 ≤ c - a by omega)
    have h2 := Int.mul_nonneg (show 0 ≤ a - b by omega) (show 0 ≤ a + b by omega)
    have e1 : 4 * a * (c - a) = 4 * a * c - 4 * (a * a) := by grind
    have e2 : (a - b) * (a + b) = a * a - b * b := by grind
    have e3 : 3 * a * a = 3 * (a * a) := by grind
    omega
theorem row_none {e a : Int} {n : Nat} (ha : 0 < a) (he : e < 0) (h : -e < 3 * a * a) : rowF e a n = [] := by
  unfold rowF
  rw [List.filterMap_eq_nil_iff]
  intro i _
  exact item_none ha he h
theorem cls_succ (e : Int) (m : Nat) : cls e (m + 1) = cls e m ++ rowF e ((m : Int) + 1) (2 * (m + 1)) := by
  unfold cls
  rw [List.range_succ, List.flatMap_append]
  simp
theorem row_succ (e a : Int) (n : Nat) : rowF e a (n + 1) = rowF e a n ++ (itemOf e a (1 - a + n)).toList := by
  unfold rowF
  rw [List.range_succ, List.filterMap_append]
  congr 1
theorem cls_end {e : Int} (he : e < 0) {k : Nat} (h : -e < 3 * ((k : Int) + 1) * ((k : Int) + 1)) : ∀ m, cls e (k + m) = cls e k
  | 0 => rfl
  | m + 1 => by
    rw [← Nat.add_assoc, cls_succ, cls_end he h m, row_none (by omega) he, List.append_nil]
    have e1 := Int.mul_nonneg (show (0 : Int) ≤ m by omega) (show 0 ≤ 6 * ((k : Int) + 1) + 3 * m by omega)
    have e2 : 3 * (((k + m : Nat) : Int) + 1) * (((k + m : Nat) : Int) + 1) = 3 * ((k : Int) + 1) * ((k : Int) + 1) + m * (6 * ((k : Int) + 1) + 3 * m) := by
      rw [Int.natCast_add]
      grind
    omega
theorem mem_cls {e : Int} (he : e < 0) {m : Nat} {d : D} : d ∈ cls e m → ∃ a b c : Int, d = .tup [.int a, .int b, .int c] ∧ GoodF e a b c ∧ redB a b c = true ∧ a ≤ m := by
  unfold cls rowF
  intro h
  obtain ⟨k, hk, h⟩ := List.mem_flatMap.mp h
  obtain ⟨i, hi, h⟩ := List.mem_filterMap.mp h
  obtain ⟨c, h1, h2, h3⟩ := item_some (by omega) he h
  have := List.mem_range.mp hk
  exact ⟨_, _, c, h1, h2, h3, by omega⟩
theorem in_cls {e a b c : Int} (he : DD e) (h : GoodF e a b c) (hr : redB a b c = true) : D.tup [.int a, .int b, .int c] ∈ cls e 29 := by
  have he0 : e < 0 := by have := he.2; omega
  have hi := item_of h hr
  have hr' := redB_iff.mp hr
  have ha := h.1
  have ale : a ≤ 29 := by
    rcases Int.lt_or_le 29 a with h1 | h1
    · have := item_none (b := b) ha he0 (by
        have e1 := Int.mul_nonneg (show 0 ≤ a - 29 by omega) (show 0 ≤ a + 29 by omega)
        have e2 : (a - 29) * (a + 29) = a * a - 841 := by grind
        have e3 : 3 * a * a = 3 * (a * a) := by grind
        have := he.1
        omega)
      rw [hi] at this
      cases this
    · exact h1
  unfold cls rowF
  refine List.mem_flatMap.mpr ⟨(a - 1).toNat, List.mem_range.mpr (by omega), List.mem_filterMap.mpr ⟨(b - 1 + a).toNat, List.mem_range.mpr (by omega), ?_⟩⟩
  have e1 : (((a - 1).toNat : Nat) : Int) + 1 = a := by omega
  have e2 : 1 - a + (((b - 1 + a).toNat : Nat) : Int) = b := by omega
  rw [e1, e2, hi]
theorem cls_len (e : Int) : ∀ m, (cls e m).length ≤ m * (m + 1)
  | 0 => by simp [cls]
  | m + 1 => by
    have h1 := cls_len e m
    have h2 : (rowF e ((m : Int) + 1) (2 * (m + 1))).length ≤ 2 * (m + 1) := by
      unfold rowF
      have := List.length_filterMap_le (fun (i : Nat) => itemOf e ((m : Int) + 1) (1 - ((m : Int) + 1) + i)) (List.range (2 * (m + 1)))
      rw [List.length_range] at this
      exact this
    rw [cls_succ, List.length_append]
    have e1 : (m + 1) * (m + 1 + 1) = m * (m + 1) + 2 * (m + 1) := by grind
    omega
theorem r__law_classes {ds : List D} (h : S__law_classes ds Q PX) : g__law_classes (E0' Q) (slots 5 ds) := by
  unfold S__law_classes at h
  split at h
  case h_2 => exact h.elim
  rename_i e
  obtain ⟨he, q⟩ := h
  have he0 : e < 0 := by have := he.2; omega
  have le : Lt 12 e := .of (by have := he.1; omega)
  unfold g__law_classes
  simp -implicitDefEqProofs [slots]
  refine for_rng (fun k env => ∃ (s2 s3 s4 : Slot), env = [.val (.int e), .own (cls e k), s2, s3, s4] ∧ k ≤ 29) ?_ ?_ ⟨_, _, _, rfl, by decide⟩
  · rintro k env N hk ⟨s2, s3, s4, rfl, hk2⟩ hN
    have e0 : 1 + (k : Int) = (k : Int) + 1 := by omega
    rw [e0]
    have lk : Lt 6 ((k : Int) + 1) := .of (by omega)
    simp -implicitDefEqProofs
    refine ⟨by omega, ?_⟩
    have e1 : ((k : Int) + 1 + 1 - (1 - ((k : Int) + 1))).toNat = 2 * (k + 1) := by omega
    rw [e1]
    refine for_rng (fun i env => ∃ (s3 s4 : Slot), env = [.val (.int e), .own (cls e k ++ rowF e ((k : Int) + 1) i), .val (.int ((k : Int) + 1)), s3, s4] ∧ (cls e k ++ rowF e ((k : Int) + 1) i).length ≤ 10000 + i) ?_ ?_ ⟨s3, s4, by simp [rowF], ?_⟩
    · rintro i env M hi ⟨s3, s4, rfl, hlen⟩ hM
      generalize hb : 1 - ((k : Int) + 1) + (i : Int) = b
      have lb : Lt 6 b := .of (by omega)
      have lc : Lt 20 (b * b - e) := Lt.to (by decide)
      have l4 : (4 * ((k : Int) + 1)).natAbs.log2 < 9000 := by
        have : Lt 10 (4 * ((k : Int) + 1)) := Lt.to (by decide)
        have := Lt.log (n := 10) (i := 4 * ((k : Int) + 1)) (by decide)
        omega
      have p4 : 0 < 4 * ((k : Int) + 1) := by omega
      have m1 : CMulW b b := Lt.cm (by decide)
      have m2 : CMulW 4 ((k : Int) + 1) := Lt.cm (by decide)
      have cw : ((b * b - e) / (4 * ((k : Int) + 1))).natAbs ≤ (b * b - e).natAbs := Int.natAbs_ediv_le_natAbs _ _
      have lcc : Lt 20 ((b * b - e) / (4 * ((k : Int) + 1))) := ⟨Nat.lt_of_le_of_lt cw lc.h⟩
      have m3 : CMulW (4 * ((k : Int) + 1)) ((b * b - e) / (4 * ((k : Int) + 1))) := Lt.cm (by decide)
      have stay : itemOf e ((k : Int) + 1) b = none → ∀ s3 s4, M [.val (.int e), .own (cls e k ++ rowF e ((k : Int) + 1) i), .val (.int ((k : Int) + 1)), s3, s4] := fun hn s3 s4 => hM _ ⟨s3, s4, by rw [row_succ, hb, hn]; simp, by
        rw [row_succ, hb, hn]
        simp at hlen ⊢
        omega⟩
      have iff1 : (4 * ((k : Int) + 1) * ((b * b - e) / (4 * ((k : Int) + 1))) = b * b - e) ↔ (b * b - e) % (4 * ((k : Int) + 1)) = 0 := by
        have := Int.mul_ediv_add_emod (b * b - e) (4 * ((k : Int) + 1))
        omega
      have hi0 : itemOf e ((k : Int) + 1) b = if (b * b - e) % (4 * ((k : Int) + 1)) = 0 ∧ redB ((k : Int) + 1) b ((b * b - e) / (4 * ((k : Int) + 1))) = true ∧ Nat.gcd (Nat.gcd ((k : Int) + 1).natAbs b.natAbs) ((b * b - e) / (4 * ((k : Int) + 1))).natAbs = 1 then some (.tup [.int ((k : Int) + 1), .int b, .int ((b * b - e) / (4 * ((k : Int) + 1)))]) else none := rfl
      simp -implicitDefEqProofs [m1, m2, p4, l4]
      generalize (b * b - e) / (4 * ((k : Int) + 1)) = c at *
      refine ⟨m3, ?_⟩
      have comm : ∀ {P : D → Prop} {PX : Ex → Prop}, P (.int ((Nat.gcd (Nat.gcd ((k : Int) + 1).natAbs b.natAbs) c.natAbs : Nat) : Int)) → S__law_common [.tup [.int ((k : Int) + 1), .int b, .int c]] P PX := fun {P PX} h => ⟨[(k : Int) + 1, b, c], rfl, by rw [gcd3]; exact h⟩
      have fin : ∀ {s3 s4 : Slot}, (b * b - e) % (4 * ((k : Int) + 1)) = 0 → redB ((k : Int) + 1) b c = true → S__law_common [.tup [.int ((k : Int) + 1), .int b, .int c]] (fun d => oEq d (.int 1) fun d => match d with | .bl b_1 => (if b_1 = true then (cls e k).length + (rowF e ((k : Int) + 1) i).length < 10000000 ∧ M [.val (.int e), .own (cls e k ++ (rowF e ((k : Int) + 1) i ++ [.tup [.int ((k : Int) + 1), .int b, .int c]])), .val (.int ((k : Int) + 1)), .val (.int b), .val (.int c)] else M [.val (.int e), .own (cls e k ++ rowF e ((k : Int) + 1) i), .val (.int ((k : Int) + 1)), .val (.int b), .val (.int c)]) | _ => False) fun _ => False := by
        intro s3 s4 h1 h2
        refine comm ?_
        by_cases hg : Nat.gcd (Nat.gcd ((k : Int) + 1).natAbs b.natAbs) c.natAbs = 1
        · rw [if_pos ⟨h1, h2, hg⟩] at hi0
          simp -implicitDefEqProofs [hg]
          refine ⟨by simp at hlen; omega, hM _ ⟨.val (.int b), .val (.int c), by rw [row_succ, hb, hi0]; simp, ?_⟩⟩
          rw [row_succ, hb, hi0]
          simp at hlen ⊢
          omega
        · rw [if_neg (fun h => hg h.2.2)] at hi0
          simp -implicitDefEqProofs [hg]
          exact stay hi0 _ _
      by_cases hm : 4 * ((k : Int) + 1) * c = b * b - e
      · have hm' := iff1.mp hm
        rw [if_pos hm]
        have no : ¬ (redB ((k : Int) + 1) b c = true) → ∀ s3 s4, M [.val (.int e), .own (cls e k ++ rowF e ((k : Int) + 1) i), .val (.int ((k : Int) + 1)), s3, s4] := fun hr => stay (by rw [hi0, if_neg (fun h => hr h.2.1)])
        rw [redB_iff] at no
        split
        · rename_i h1
          split
          · rename_i h2
            exact fin (s3 := s3) (s4 := s4) hm' (redB_iff.mpr (by omega))
          · rename_i h2
            split
            · rename_i h3
              exact fin (s3 := s3) (s4 := s4) hm' (redB_iff.mpr (by omega))
            · rename_i h3
              exact no (by omega) _ _
        · rename_i h1
          exact no (by omega) _ _
      · rw [if_neg hm]
        exact stay (by rw [hi0, if_neg (fun h => hm (iff1.mpr h.1))]) _ _
    · rintro env ⟨s3, s4, rfl, hlen⟩
      exact hN _ ⟨.val (.int ((k : Int) + 1)), s3, s4, by rw [cls_succ], by omega⟩
    · have := cls_len e k
      have h2 : k * (k + 1) ≤ 28 * 29 := Nat.mul_le_mul (by omega) (by omega)
      simp [rowF]
      omega
  · rintro env ⟨s2, s3, s4, rfl, _⟩
    simp -implicitDefEqProofs
    exact q
theorem r__law_discriminant {ds : List D} (h : S__law_discriminant ds Q PX) : g__law_discriminant (E0' Q) (slots 2 ds) := by
  unfold S__law_discriminant at h
  split at h
  case h_2 => exact h.elim
  rename_i n m
  obtain ⟨rfl, h1, h2, q⟩ := h
  unfold g__law_discriminant
  simp [slots, S_draw, S__law_pick]
  intro r h0 h6
  split
  · refine ⟨q _ ⟨⟨by decide, by decide⟩, by decide⟩, q _ ⟨⟨by decide, by decide⟩, by decide⟩, q _ ⟨⟨by decide, by decide⟩, by decide⟩⟩
  · refine ⟨by omega, by omega, fun r h0 h1 => ?_⟩
    have : Lt 20 r := .of (by omega)
    refine ⟨Lt.cm (by decide +kernel), q _ ⟨⟨by omega, by omega⟩, by omega⟩, q _ ⟨⟨by omega, by omega⟩, by omega⟩⟩
theorem bd2 {n : Nat} {x y z o : Int} (h1 : Lt n x) (h2 : Lt 2 y) (h3 : Lt n z) (h4 : Lt 2 o) : Lt (n + 3) (x * y + z * o) := by
  have h5 : Lt (n + 2) _ := @Lt.mul _ _ _ _ h1 h2
  have h6 : Lt (n + 2) _ := @Lt.mul _ _ _ _ h3 h4
  exact (@Lt.add _ _ _ _ h5 h6).mono (by omega)
theorem mul_lt2 {n : Nat} {c d : Chg} (h1 : CLt n c) (h2 : CLt 2 d) : CLt (n + 3) (mulC c d) := ⟨bd2 h1.p h2.p h1.q h2.r, bd2 h1.p h2.q h1.q h2.s, bd2 h1.r h2.p h1.s h2.r, bd2 h1.r h2.q h1.s h2.s⟩
theorem r__law_change {ds : List D} (h : S__law_change ds Q PX) : g__law_change (E0' Q) (slots 5 ds) := by
  obtain ⟨m, rfl, ⟨h1, h2⟩, q⟩ := h
  unfold g__law_change
  simp -implicitDefEqProofs [slots, S_draw]
  refine ⟨by omega, by omega, fun r h0 hr => ⟨by omega, ?_⟩⟩
  refine for_rng (fun i env => ∃ (c : Chg) (s1 s2 : Slot), env = [.val (.deck 0), .val (.int m), .val (chg c), s1, s2] ∧ CLt (3 * i + 1) c ∧ detC c = 1) ?_ ?_ ⟨⟨1, 0, 0, 1⟩, _, _, rfl, ⟨.of (by decide), .of (by decide), .of (by decide), .of (by decide)⟩, by unfold detC; simp⟩
  · rintro i env N hi ⟨c, s1, s2, rfl, hc, hd⟩ hN
    simp -implicitDefEqProofs [S_draw, S__law_pick]
    intro r2 h0 h7
    have hx : Lt 2 (r2 - 3) := .of (by omega)
    have l0 : Lt 2 (0 : Int) := .of (by decide)
    have l1 : Lt 2 (1 : Int) := .of (by decide)
    have l2 : Lt 2 (-1 : Int) := .of (by decide)
    have hh : ∀ d : Chg, CLt 2 d → detC d = 1 → S__law_product [chg c, chg d] (fun d => N [.val (.deck 0), .val (.int m), .val d, .val (.int i), .val (.int (r2 - 3))]) (fun x => False) := fun d h1 h2 =>
      ⟨c, d, rfl, hc.mono (by omega), h1.mono (by omega), hN _ ⟨mulC c d, _, _, rfl, (mul_lt2 hc h1).mono (by omega), by rw [det_mul, hd, h2]; rfl⟩⟩
    exact ⟨hh ⟨1, r2 - 3, 0, 1⟩ ⟨l1, hx, l0, l1⟩ (by unfold detC; simp), hh ⟨1, 0, r2 - 3, 1⟩ ⟨l1, l0, hx, l1⟩ (by unfold detC; simp), hh ⟨0, -1, 1, 0⟩ ⟨l0, l2, l1, l0⟩ (by unfold detC; simp), hh ⟨-1, 0, 0, -1⟩ ⟨l2, l0, l0, l2⟩ (by unfold detC; simp)⟩
  · rintro env ⟨c, s1, s2, rfl, hc, hd⟩
    simp -implicitDefEqProofs
    have : r.toNat ≤ 8 := by omega
    exact q _ (hc.mono (by omega)) hd
def fstF (e : Int) : D := if e % 2 = 0 then .tup [.int 1, .int 0, .int (-e / 4)] else .tup [.int 1, .int 1, .int ((1 - e) / 4)]
theorem dis_fst {e : Int} (h : Dis e) : ∃ b c : Int, fstF e = .tup [.int 1, .int b, .int c] ∧ GoodF e 1 b c ∧ redB 1 b c = true := by
  obtain ⟨⟨h1, h2⟩, h3⟩ := h
  unfold fstF
  by_cases hm : e % 2 = 0
  · rw [if_pos hm]
    refine ⟨_, _, rfl, ⟨by decide, by omega, by simp⟩, redB_iff.mpr ⟨⟨by decide, by decide, by omega⟩, .inl (by decide)⟩⟩
  · rw [if_neg hm]
    refine ⟨_, _, rfl, ⟨by decide, by omega, by simp⟩, redB_iff.mpr ⟨⟨by decide, by decide, by omega⟩, .inl (by decide)⟩⟩
theorem dis_in {e : Int} (h : Dis e) : fstF e ∈ cls e 29 := by
  obtain ⟨b, c, h1, h2, h3⟩ := dis_fst h
  rw [h1]
  exact in_cls h.1 h2 h3
theorem cls_lt {e a b c : Int} (he : DD e) (h : GoodF e a b c) (hr : redB a b c = true) (ha : a ≤ 29) : Lt 5 a ∧ Lt 5 b ∧ Lt 12 c := by
  have hc := c_pos (by have := he.2; omega) h
  obtain ⟨h1, h2, _⟩ := h
  have hr' := redB_iff.mp hr
  refine ⟨.of (by omega), .of (by omega), .of ?_⟩
  have e1 := Int.mul_nonneg (show 0 ≤ 29 - b by omega) (show 0 ≤ 29 + b by omega)
  have e2 : (29 - b) * (29 + b) = 841 - b * b := by grind
  have e3 := Int.mul_nonneg (show 0 ≤ a - 1 by omega) (show 0 ≤ c by omega)
  have e4 : 4 * a * c = 4 * ((a - 1) * c) + 4 * c := by grind
  have := he.1
  omega
theorem r__law_form {ds : List D} (h : S__law_form ds Q PX) : g__law_form (E0' Q) (slots 3 ds) := by
  obtain ⟨e, m, rfl, he, ⟨h1, h2⟩, q⟩ := h
  unfold g__law_form
  have hlen := cls_len e 29
  have e0 : e < 0 := by have := he.1.2; omega
  simp -implicitDefEqProofs [slots, S__law_classes, S__law_pick]
  refine ⟨he.1, List.ne_nil_of_mem (dis_in he), by omega, fun d hd => ?_⟩
  obtain ⟨a, b, c, rfl, hg, hr, ha⟩ := mem_cls e0 hd
  obtain ⟨la, lb, lc⟩ := cls_lt he.1 hg hr ha
  have lf : lt3 12 (a, b, c) := ⟨la.mono (by decide), lb.mono (by decide), lc⟩
  refine ⟨m, rfl, ⟨h1, h2⟩, fun u hu du => ⟨(a, b, c), u, rfl, lt_up lf (by decide), hu.mono (by decide), q _ (gf_led e0 (show Gf e (a, b, c) from hg) du) (lt_up (ld_lt lf hu) (by decide))⟩⟩
theorem pos_gf {f : T3} (h : posD (tr3 f) = true) : Gf (disF f) f := by
  unfold posD at h
  simp only [Bool.and_eq_true, decide_eq_true_eq, beq_iff_eq] at h
  exact ⟨h.1.1, rfl, h.2⟩
theorem r__law_wide {ds : List D} (h : S__law_wide ds Q PX) : g__law_wide (E0' Q) (slots 7 ds) := by
  obtain ⟨rfl, q⟩ := h
  unfold g__law_wide
  simp -implicitDefEqProofs [slots]
  have tail : ∀ (e : Int) (f : T3) (s2 s3 s4 : Slot), WD e → Gf e f → lt3 30 f → dSeq (dAsg (dCall S__law_led (dCons (dVar 1) (dCons (dCall S__law_change (dCons (dVar 0) (dCons (dC (.int 8)) dNil))) dNil))) (gName 5)) (dRet (dIfE (dTest (dBin oLe (dBlt cMax1 (dCons (dLc (dItems (dVar 5)) (gName 6) dYes (dBlt cAbs (dCons (dVar 6) dNil)) [6]) dNil)) (dBin oPow (dC (.int 10)) (dC (.int 12))))) (dVar 5) (dVar 1))) (E0' Q) [.val (.deck 0), .val (tr3 f), s2, s3, s4, .no, .no] := by
    intro e f s2 s3 s4 he hg lf
    rw [e_Seq]
    simp -implicitDefEqProofs [-Int.reducePow]
    refine ⟨8, rfl, by decide, fun c hc dc => ⟨f, c, rfl, lt_up lf (by decide), hc.mono (by decide), ?_⟩⟩
    have gn := gf_led he.2 hg dc
    have ln := lt_up (ld_lt lf hc) (show 30 + 30 + 30 + 3 ≤ 100 by decide)
    generalize ldF f c = g at gn ln
    simp -implicitDefEqProofs [-Int.reducePow]
    refine comp_map (fun d => match d with | .int n => some (.int n.natAbs) | _ => none) _ [] (fun d hd Q' hQ' => ?_) (by simp) ?_
    · simp only [List.mem_cons, List.not_mem_nil, or_false] at hd
      rcases hd with rfl | rfl | rfl <;> (simp -implicitDefEqProofs [turn, wipeD, restD, keepS] at hQ' ⊢; exact hQ')
    · simp -implicitDefEqProofs [-Int.reducePow]
      refine ⟨[(g.1.natAbs : Int), (g.2.1.natAbs : Int), (g.2.2.natAbs : Int)], rfl, by simp, fun m _ _ => ?_⟩
      simp -implicitDefEqProofs [-Int.reducePow]
      split
      · exact q e g he gn ln
      · exact q e f he hg (lt_up lf (by decide))
  refine for_rng (fun i env => ∃ (e : Int) (f : T3) (s2 s3 s4 : Slot), env = [.val (.deck 0), .val (tr3 f), s2, s3, s4, .no, .no] ∧ WD e ∧ Gf e f ∧ lt3 30 f) ?_ ?_ ⟨-1000000003, (1, 1, 250000001), _, _, _, rfl, ⟨by decide, by decide⟩, ⟨by decide, by decide, by decide⟩, .of (by decide), .of (by decide), .of (by decide)⟩
  · rintro i env N hi ⟨e, f, s2, s3, s4, rfl, he, hg, lf⟩ hN
    simp -implicitDefEqProofs [-e_Seq, -Int.reducePow]
    rw [e_Seq]
    simp -implicitDefEqProofs [S_draw, S__law_pick, -e_Seq, -Int.reducePow]
    have big : ∀ {x : Int}, x ≤ 250000000 → x < 10 ^ 200 := fun h => Int.lt_of_le_of_lt h (by decide +kernel)
    have go : ∀ n : Int, 30 ≤ n → n ≤ 15000 → ∀ r : Int, 0 ≤ r → r < n → dSeq (dAsg (dTup (dCons (dVar 3) (dCons (dBin oSub (dCall S__law_draw (dCons (dVar 0) (dCons (dBin oAdd (dBin oMul (dC (.int 2)) (dVar 3)) (dC (.int 1))) dNil))) (dVar 3)) (dCons (dBin oAdd (dC (.int 1)) (dCall S__law_draw (dCons (dVar 0) (dCons (dBin oDiv (dC (.int 250000000)) (dVar 3)) dNil)))) dNil)))) (gName 4))
        (dIf (dTest (dCall S__law_is_positive (dCons (dVar 4) dNil))) (dSeq (dAsg (dVar 4) (gName 1)) dBrk) dNext) { nx := N, rt := Q, bk := dSeq (dAsg (dCall S__law_led (dCons (dVar 1) (dCons (dCall S__law_change (dCons (dVar 0) (dCons (dC (.int 8)) dNil))) dNil))) (gName 5)) (dRet (dIfE (dTest (dBin oLe (dBlt cMax1 (dCons (dLc (dItems (dVar 5)) (gName 6) dYes (dBlt cAbs (dCons (dVar 6) dNil)) [6]) dNil)) (dBin oPow (dC (.int 10)) (dC (.int 12))))) (dVar 5) (dVar 1))) (E0' Q), ct := N } [.val (.deck 0), .val (tr3 f), .val (.int i), .val (.int (1 + r)), s4, .no, .no] := by
      intro n n0 n1 r r0 r1
      rw [e_Seq]
      have c2 : CMulW 2 (1 + r) := @Lt.cm 3 20 _ _ (.of (by decide)) (.of (by omega)) (by decide)
      have l2 : (1 + r).natAbs.log2 < 9000 := by
        have := @Lt.log 20 (1 + r) (.of (by omega)) (by decide)
        omega
      simp -implicitDefEqProofs [S_draw, -e_Seq, -Int.reducePow]
      refine ⟨c2, by omega, big (by omega), fun s s0 s1 => ?_⟩
      rw [if_pos (by omega)]
      have dv : 250000000 / (1 + r) ≤ 250000000 := Int.ediv_le_self _ (by decide)
      have dp : 0 < 250000000 / (1 + r) := Int.lt_of_lt_of_le (show (0 : Int) < 1 by decide) (Int.le_ediv_of_mul_le (by omega) (by omega))
      refine ⟨l2, dp, big dv, fun t t0 t1 => ?_⟩
      have lg : lt3 30 (1 + r, s - (1 + r), 1 + t) := ⟨.of (show (1 + r).natAbs < 2 ^ 30 by omega), .of (show (s - (1 + r)).natAbs < 2 ^ 30 by omega), .of (show (1 + t).natAbs < 2 ^ 30 by omega)⟩
      refine ⟨_, rfl, fok (tr3_fd (p := (1 + r, s - (1 + r), 1 + t)) (lt_up lg (by decide))) (by decide), ?_⟩
      have nx : N [.val (.deck 0), .val (tr3 f), .val (.int i), .val (.int (1 + r)), .val (.tup [.int (1 + r), .int (s - (1 + r)), .int (1 + t)]), .no, .no] := hN _ ⟨e, f, _, _, _, rfl, he, hg, lf⟩
      cases pz : posD (tr3 (1 + r, s - (1 + r), 1 + t)) with
      | false =>
        simp -implicitDefEqProofs
        exact nx
      | true =>
        have gg := pos_gf pz
        have wd : WD (disF (1 + r, s - (1 + r), 1 + t)) := by
          have lt : disF (1 + r, s - (1 + r), 1 + t) < 0 := by
            unfold posD at pz
            simp only [Bool.and_eq_true, decide_eq_true_eq] at pz
            exact pz.1.2
          refine ⟨?_, lt⟩
          unfold disF
          have sq := sqn (s - (1 + r))
          have e1 : (1 + r) * (1 + t) ≤ 250000000 := by
            have h1 := Int.mul_le_mul_of_nonneg_left (show 1 + t ≤ 250000000 / (1 + r) by omega) (show 0 ≤ 1 + r by omega)
            have h2 := Int.mul_ediv_self_le (x := 250000000) (k := 1 + r) (by omega)
            omega
          have e2 : 4 * (1 + r) * (1 + t) = 4 * ((1 + r) * (1 + t)) := by grind
          simp only
          omega
        simp -implicitDefEqProofs [-e_Seq]
        rw [e_Seq]
        simp -implicitDefEqProofs [-e_Seq]
        exact tail _ (1 + r, s - (1 + r), 1 + t) _ _ _ wd gg lg
    exact ⟨⟨by decide +kernel, go 30 (by decide) (by decide)⟩, ⟨by decide +kernel, go 1000 (by decide) (by decide)⟩, by decide +kernel, go 15000 (by decide) (by decide)⟩
  · rintro env ⟨e, f, s2, s3, s4, rfl, he, hg, lf⟩
    exact tail e f _ _ _ he hg lf
end
end K17
namespace K17
open PySem PySem.Spec L2 DL
section
variable {Q : D → Prop} {PX : Ex → Prop}
theorem pos_of {e : Int} {f : T3} (he : e < 0) (h : Gf e f) : posD (tr3 f) = true := by
  obtain ⟨h1, h2, h3⟩ := h
  simp only [posD, Bool.and_eq_true, decide_eq_true_eq, beq_iff_eq]
  exact ⟨⟨h1, by omega⟩, h3⟩
theorem wh_of {c : Chg} (h : detC c = 1) : whD (chg c) = true := by
  unfold detC at h
  unfold whD chg
  simpa using h
theorem f_ok {w : Nat} {f : T3} (h : lt3 w f) (hw : w ≤ 330) : Ok (tr3 f) := fok (tr3_fd (lt_up h hw)) (by decide)
theorem c_fd {w : Nat} {c : Chg} (h : CLt w c) (hw : w ≤ 330) : FD 1 5 (chg c) := FD.tup (l := [.int c.p, .int c.q, .int c.r, .int c.s]) (n := 4) (fun d hd => by
  simp only [List.mem_cons, List.not_mem_nil, or_false] at hd
  rcases hd with rfl | rfl | rfl | rfl
  · exact @FD.int' _ _ h.p hw
  · exact @FD.int' _ _ h.q hw
  · exact @FD.int' _ _ h.r hw
  · exact @FD.int' _ _ h.s hw) (by simp)
theorem c_ok {w : Nat} {c : Chg} (h : CLt w c) (hw : w ≤ 330) : Ok (chg c) := fok (c_fd h hw) (by decide)
theorem chg_inj {c m : Chg} (h : chg c = chg m) : c = m := by
  unfold chg at h
  simp only [D.tup.injEq, List.cons.injEq, D.int.injEq, and_true] at h
  obtain ⟨p, q, r, s⟩ := c
  obtain ⟨p', q', r', s'⟩ := m
  simp only at h
  obtain ⟨rfl, rfl, rfl, rfl⟩ := h
  rfl
theorem led_call {e : Int} {f : T3} {c : Chg} {R : D → Prop} (he : e < 0) (hg : Gf e f) (lf : lt3 330 f) (lc : CLt 330 c) (dc : detC c = 1) (h : R (tr3 (ldF f c))) : S_led_form [tr3 f, chg c] R PX := by
  refine ⟨_, _, rfl, ⟨f_ok lf (by decide), c_ok lc (by decide)⟩, fun z => ?_, fun _ z => ?_, fun _ f' m e1 e2 _ => ?_⟩
  · rw [pos_of he hg] at z; cases z
  · rw [wh_of dc] at z; cases z
  · obtain rfl := tr3_inj e1
    obtain rfl := chg_inj e2
    exact h
theorem cls_call {e : Int} {f g0 : T3} {m0 : Chg} {R : D → Prop} (he : WD e) (hg : Gf e f) (lf : lt3 240 f) (r0 : redF g0) (l0 : LdTo f g0 m0) (h : R (tr3 g0)) : S_class_of [tr3 f] R PX := by
  refine ⟨_, rfl, f_ok lf (by decide), fun z => ?_, fun _ => ⟨e, f, rfl, he, hg, lf, fun g m r l _ => ?_⟩⟩
  · rw [pos_of he.2 hg] at z; cases z
  · have g1 : Gf e g0 := by rw [← l0.ld]; exact gf_led he.2 hg l0.dt
    have g2 : Gf e g := by rw [← l.ld]; exact gf_led he.2 hg l.dt
    rw [← red_uniq g1 g2 r0 r (l0.back.trans l)]
    exact h
theorem rdc_call {e : Int} {f g0 : T3} {m0 : Chg} {R : D → Prop} (he : WD e) (hg : Gf e f) (lf : lt3 240 f) (r0 : redF g0) (l0 : LdTo f g0 m0) (h : ∀ m, LdTo f g0 m → CLt 250 m → R (chg m)) : S_reducing [tr3 f] R PX := by
  refine ⟨_, rfl, f_ok lf (by decide), fun z => ?_, fun _ => ⟨e, f, rfl, he, hg, lf, fun g m r l lm => ?_⟩⟩
  · rw [pos_of he.2 hg] at z; cases z
  · have g1 : Gf e g0 := by rw [← l0.ld]; exact gf_led he.2 hg l0.dt
    have g2 : Gf e g := by rw [← l.ld]; exact gf_led he.2 hg l.dt
    have := red_uniq g1 g2 r0 r (l0.back.trans l)
    subst this
    exact h m l lm
theorem shw2 {w : Nat} {f : T3} (h : lt3 w f) (hw : w ≤ 330) : ShowOk (.lst [tr3 f, tr3 f]) := show2 (tr3_fd (lt_up h hw)) (by decide) (by decide) (n := 2) (by decide) _ (by simp) (by simp)
theorem shw1 {w : Nat} {f : T3} (h : lt3 w f) (hw : w ≤ 330) : ShowOk (tr3 f) := ((tr3_fd (lt_up h hw)).fine (by decide) (by decide)).ok
theorem val_led (f : T3) (c : Chg) (x y : Int) : (ldF f c).1 * x * x + (ldF f c).2.1 * x * y + (ldF f c).2.2 * y * y = f.1 * (c.p * x + c.q * y) * (c.p * x + c.q * y) + f.2.1 * (c.p * x + c.q * y) * (c.r * x + c.s * y) + f.2.2 * (c.r * x + c.s * y) * (c.r * x + c.s * y) := by
  unfold ldF
  simp only
  grind
theorem bdc {n k : Nat} {x y z o : Int} (h1 : Lt n x) (h2 : Lt k y) (h3 : Lt n z) (h4 : Lt k o) : Lt (n + k + 1) (x * y + z * o) := by
  have h5 : Lt (n + k) _ := @Lt.mul _ _ _ _ h1 h2
  have h6 : Lt (n + k) _ := @Lt.mul _ _ _ _ h3 h4
  exact (@Lt.add _ _ _ _ h5 h6).mono (by omega)
theorem r__law_is_right {ds : List D} (h : S__law_is_right ds Q PX) : g__law_is_right (E0' Q) (slots 9 ds) := by
  obtain ⟨e, f, c, m, rfl, he, hg, lf, ⟨lc, lm⟩, ⟨dc, dm⟩, q⟩ := h
  have gd := gf_led he.2 hg dc
  have ldue := lt_up (ld_lt lf lc) (show 100 + 30 + 30 + 3 ≤ 163 by decide)
  have lmore := lt_up (ld_lt ldue lm) (show 163 + 30 + 30 + 3 ≤ 226 by decide)
  have s1 := shw2 ldue (by decide)
  have s2 := shw1 lmore (by decide)
  have f400 := lt_up lf (show 100 ≤ 400 by decide)
  have d400 := lt_up ldue (show 163 ≤ 400 by decide)
  have f330 := lt_up lf (show 100 ≤ 330 by decide)
  have d330 := lt_up ldue (show 163 ≤ 330 by decide)
  have c330 := lc.mono (show 30 ≤ 330 by decide)
  have m330 := lm.mono (show 30 ≤ 330 by decide)
  unfold g__law_is_right
  rw [e_Seq]
  unfold b__law_is_right_1
  simp -implicitDefEqProofs [slots, -e_Seq]
  refine ⟨f, c, rfl, f400, lc.mono (by decide), e, f, rfl, he, hg, lt_up lf (by decide), fun g0 m0 r0 l0 lg0 => ?_⟩
  have s3 := shw2 lg0 (by decide)
  have lm0 := ld_bd he.2 hg l0 (lt_up lf (by decide)) lg0
  simp -implicitDefEqProofs [-e_Seq]
  rw [e_Seq]
  unfold b__law_is_right_2
  simp -implicitDefEqProofs [-e_Seq]
  refine led_call he.2 hg f330 c330 dc (led_call he.2 hg f330 c330 dc ?_)
  rw [e_Seq]
  unfold b__law_is_right_3
  simp -implicitDefEqProofs [ixD, -e_Seq]
  refine ⟨_, rfl, f_ok ldue (by decide), ?_⟩
  rw [pos_of he.2 gd]
  simp -implicitDefEqProofs [-e_Seq]
  rw [e_Seq]
  unfold b__law_is_right_4
  simp -implicitDefEqProofs [-e_Seq]
  refine for_inv (fun l env => (∀ d ∈ l, ∃ x y : Int, d = .tup [.int x, .int y] ∧ Lt 4 x ∧ Lt 4 y) ∧ ∃ s7 s8 : Slot, env = [.val (tr3 f), .val (chg c), .val (chg m), .val (tr3 (ldF f c)), .val (tr3 g0), .val (chg m0), .val (.lst [tr3 (ldF f c), tr3 (ldF f c)]), s7, s8]) ?_ ?_ _ _ ⟨fun d hd => ?_, _, _, rfl⟩
  · rintro d l env N ⟨hl, s7, s8, rfl⟩ hN
    obtain ⟨x, y, rfl, lx, ly⟩ := hl d (by simp)
    simp -implicitDefEqProofs [ixD, chg]
    refine ⟨_, x, y, rfl, d400, ⟨lx.mono (by decide), ly.mono (by decide)⟩, cm700 lc.p lx (by decide), cm700 lc.q ly (by decide), cm700 lc.r lx (by decide), cm700 lc.s ly (by decide), f, _, _, rfl, f400, ⟨?_, ?_⟩, ?_⟩
    · have := lc.p
      have := lc.q
      exact Lt.to (by decide)
    · have := lc.r
      have := lc.s
      exact Lt.to (by decide)
    · rw [val_led]
      simp -implicitDefEqProofs
      exact hN _ ⟨fun d hd => hl d (List.mem_cons_of_mem _ hd), _, _, rfl⟩
  · rintro env ⟨_, s7, s8, rfl⟩
    dsimp only
    rw [e_Seq]
    unfold b__law_is_right_5
    simp -implicitDefEqProofs [ixD, -e_Seq]
    refine led_call he.2 gd d330 m330 dm ?_
    simp -implicitDefEqProofs [s2, -e_Seq]
    refine ⟨c, m, rfl, lc.mono (by decide), lm.mono (by decide), f, mulC c m, rfl, f400, ?_, ?_⟩
    · exact (show CLt (30 + 30 + 1) (mulC c m) from ⟨bdc lc.p lm.p lc.q lm.r, bdc lc.p lm.q lc.q lm.s, bdc lc.r lm.p lc.s lm.r, bdc lc.r lm.q lc.s lm.s⟩).mono (by decide)
    · rw [← ld_mul]
      simp -implicitDefEqProofs [s2, -e_Seq]
      rw [e_Seq]
      unfold b__law_is_right_6
      simp -implicitDefEqProofs [s1, -e_Seq]
      refine cls_call he hg (lt_up lf (by decide)) r0 l0 (cls_call he gd (lt_up ldue (by decide)) r0 (m0 := mulC (invC c) m0) ((show LdTo f (ldF f c) c from ⟨rfl, dc⟩).back.trans l0) ?_)
      simp -implicitDefEqProofs [s3, -e_Seq]
      rw [e_Seq]
      unfold b__law_is_right_7
      simp -implicitDefEqProofs [-e_Seq]
      refine rdc_call he hg (lt_up lf (by decide)) r0 l0 fun m1 l1 b1 => rdc_call he hg (lt_up lf (by decide)) r0 l0 fun m2 l2 b2 => ?_
      refine for_inv (fun l env => (∀ d ∈ l, ∃ m, d = chg m ∧ LdTo f g0 m ∧ CLt 250 m) ∧ ∃ s6 : Slot, env = [.val (tr3 f), .val (chg c), .val (chg m), .val (tr3 (ldF f c)), .val (tr3 g0), .val (chg m0), s6, s7, s8]) ?_ ?_ _ _ ⟨fun d hd => ?_, _, rfl⟩
      · rintro d l env N ⟨hl, s6, rfl⟩ hN
        obtain ⟨m3, rfl, l3, b3⟩ := hl d (by simp)
        simp -implicitDefEqProofs
        refine ⟨_, rfl, c_ok b3 (by decide), ?_⟩
        rw [wh_of l3.dt]
        simp -implicitDefEqProofs
        refine ⟨f, m3, rfl, f400, b3.mono (by decide), ?_⟩
        rw [l3.ld]
        simp -implicitDefEqProofs [ok_tr]
        exact hN _ ⟨fun d hd => hl d (List.mem_cons_of_mem _ hd), _, rfl⟩
      · rintro env ⟨_, s6, rfl⟩
        simp -implicitDefEqProofs
        exact q
      · simp only [List.mem_cons, List.not_mem_nil, or_false] at hd
        rcases hd with rfl | rfl
        · exact ⟨m1, rfl, l1, b1⟩
        · exact ⟨m2, rfl, l2, b2⟩
  · have s1 : ∀ {i : Int}, i.natAbs < 2 ^ 4 → Lt 4 i := fun h => .of h
    simp only [List.mem_cons, List.not_mem_nil, or_false] at hd
    rcases hd with rfl | rfl | rfl | rfl | rfl
    · exact ⟨_, _, rfl, s1 (by decide), s1 (by decide)⟩
    · exact ⟨_, _, rfl, s1 (by decide), s1 (by decide)⟩
    · exact ⟨_, _, rfl, s1 (by decide), s1 (by decide)⟩
    · exact ⟨_, _, rfl, s1 (by decide), s1 (by decide)⟩
    · exact ⟨_, _, rfl, s1 (by decide), s1 (by decide)⟩
end
end K17
namespace K17
open PySem PySem.Spec L2 DL
section
theorem sh_int {n w k : Nat} {i : Int} (h : Lt w i) : Sh n w k (.int i) := by cases k <;> exact h
theorem sh_f {w k : Nat} {p : T3} (h : lt3 w p) : Sh 4 w (k + 1) (tr3 p) := ⟨by simp, by simp, fun d hd => by
  simp only [List.mem_cons, List.not_mem_nil, or_false] at hd
  rcases hd with rfl | rfl | rfl
  · exact sh_int h.1
  · exact sh_int h.2.1
  · exact sh_int h.2.2⟩
theorem sh_c {w k : Nat} {c : Chg} (h : CLt w c) : Sh 4 w (k + 1) (chg c) := ⟨by simp, by simp, fun d hd => by
  simp only [List.mem_cons, List.not_mem_nil, or_false] at hd
  rcases hd with rfl | rfl | rfl | rfl
  · exact sh_int h.p
  · exact sh_int h.q
  · exact sh_int h.r
  · exact sh_int h.s⟩
theorem bent_any {w : Nat} {d : D} {R : D → Prop} {PX : Ex → Prop} (hs : Sh 4 w 3 d) (hw : w ≤ 320) (h : ∀ d, FD 5 8000 d → R d) : SbP 4 [.deck 0, d] R PX :=
  ⟨4, w, d, ⟨by decide, hw, by decide⟩, rfl, hs, fun d' k => h d' k.fd⟩
theorem told_fd {d : D} {s : String} (h : FD 5 8000 d) (hs : (Str.ofString s).length ≤ 10) : FD 6 24001 (.tup [.str (Str.ofString s), d, .bl true]) := FD.tup (k := 5) (m := 8000) (n := 3) (fun x hx => by
  simp only [List.mem_cons, List.not_mem_nil, or_false] at hx
  rcases hx with rfl | rfl | rfl
  · exact (FD.text (s := s) (m := 10) hs).mono (by omega) (by omega)
  · exact h
  · exact FD.bl.mono (by omega) (by omega)) (by simp)
theorem told17 {d : D} {s : String} (h : FD 5 8000 d) (hs : (Str.ofString s).length ≤ 10) : ShowOk (.tup [.str (Str.ofString s), d, .bl true]) := ((told_fd h hs).fine (by decide) (by decide)).ok
theorem told3 {d : D} {s : String} (h : FD 5 8000 d) (hs : (Str.ofString s).length ≤ 10) : ShowOk (.lst [.tup [.str (Str.ofString s), d, .bl true], .tup [.str (Str.ofString s), d, .bl true], .tup [.str (Str.ofString s), d, .bl true]]) := ((FD.lst (n := 3) (k := 6) (m := 24001) (fun x hx => by
  simp only [List.mem_cons, List.not_mem_nil, or_false] at hx
  rcases hx with rfl | rfl | rfl <;> exact told_fd h hs) (by simp)).fine (by decide) (by decide)).ok
theorem led_bad {d1 d2 : D} {P : D → Prop} {PX : Ex → Prop} (o1 : Ok d1) (o2 : Ok d2) (p : posD d1 = false) (h : PX ("BadForm", [("thing", d1)])) : S_led_form [d1, d2] P PX :=
  ⟨_, _, rfl, ⟨o1, o2⟩, fun _ => h, fun z => (by rw [p] at z; cases z), fun z => (by rw [p] at z; cases z)⟩
theorem led_badc {d1 d2 : D} {P : D → Prop} {PX : Ex → Prop} (o1 : Ok d1) (o2 : Ok d2) (p : posD d1 = true) (w : whD d2 = false) (h : PX ("BadChange", [("thing", d2)])) : S_led_form [d1, d2] P PX :=
  ⟨_, _, rfl, ⟨o1, o2⟩, fun z => (by rw [p] at z; cases z), fun _ _ => h, fun _ f m e1 e2 dm => (by rw [e2, wh_of dm] at w; cases w)⟩
theorem cls_bad {d : D} {P : D → Prop} {PX : Ex → Prop} (o : Ok d) (p : posD d = false) (h : PX ("BadForm", [("thing", d)])) : S_class_of [d] P PX :=
  ⟨_, rfl, o, fun _ => h, fun z => (by rw [p] at z; cases z)⟩
theorem rdc_bad {d : D} {P : D → Prop} {PX : Ex → Prop} (o : Ok d) (p : posD d = false) (h : PX ("BadForm", [("thing", d)])) : S_reducing [d] P PX :=
  ⟨_, rfl, o, fun _ => h, fun z => (by rw [p] at z; cases z)⟩
theorem cut4 {a b c e : D} : cutD [a, b, c, e] none (some 3) = [a, b, c] := rfl
abbrev fin0 : DEnd := { nx := fun _ => False, rt := fun d => d = .bl true }
/-- the law's own state -/
def EnvL (f : T3) (c : Chg) (env : Evn) : Prop := ∃ (d2 d5 d6 d7 : D) (s8 s9 s10 s11 : Slot), env = [.no, .val (.deck 0), .val d2, .val (tr3 f), .val (chg c), .val d5, .val d6, .val d7, s8, s9, s10, s11, .no]
theorem loop18 {f : T3} {c : Chg} {e : Int} (he : e < 0) (hg : Gf e f) (lf : lt3 100 f) (lc : CLt 30 c) {B : DEnd} {env : Evn} (h : EnvL f c env) (hN : ∀ env', EnvL f c env' → B.nx env') : b_law_18 B env := by
  unfold b_law_18
  simp -implicitDefEqProofs
  refine for_rng (fun _ env => EnvL f c env) ?_ (fun env h => hN _ h) h
  rintro i env N hi ⟨d2, d5, d6, d7, s8, s9, s10, s11, rfl⟩ hN
  simp -implicitDefEqProofs
  have rest : ∀ (bad wrong : D) (s11 : Slot), FD 5 8000 bad → FD 5 8000 wrong → posD bad = false → dSeq b_law_3 (dSeq b_law_4 (dSeq b_law_5 (dSeq b_law_6 (dSeq b_law_7 b_law_8)))) { nx := N, rt := B.rt, bk := B.nx, ct := N } [.no, .val (.deck 0), .val d2, .val (tr3 f), .val (chg c), .val d5, .val d6, .val d7, .val (.int i), .val bad, .val wrong, s11, .no] := by
    intro bad wrong s11 fb fw pb
    have ob := fok fb (by decide)
    have ow := fok fw (by decide)
    have st := told3 (s := "form") fb (by decide)
    rw [e_Seq]
    unfold b_law_3
    simp -implicitDefEqProofs [-e_Seq]
    refine led_bad ob ow pb (.inl ⟨bad, rfl, ?_⟩)
    dsimp only
    rw [e_Seq]
    unfold b_law_4
    simp -implicitDefEqProofs [-e_Seq]
    refine cls_bad ob pb (.inl ⟨bad, rfl, ?_⟩)
    simp -implicitDefEqProofs [-e_Seq]
    rw [e_Seq]
    unfold b_law_5
    simp -implicitDefEqProofs [-e_Seq]
    refine rdc_bad ob pb (.inl ⟨bad, rfl, ?_⟩)
    simp -implicitDefEqProofs [-e_Seq]
    rw [e_Seq]
    unfold b_law_6
    simp -implicitDefEqProofs [st, -e_Seq]
    have last : ∀ (wrong : D) (s11 : Slot), FD 5 8000 wrong → whD wrong = false → b_law_8 { nx := N, rt := B.rt, bk := B.nx, ct := N } [.no, .val (.deck 0), .val d2, .val (tr3 f), .val (chg c), .val d5, .val d6, .val d7, .val (.int i), .val bad, .val wrong, s11, .no] := by
      intro wrong s11 fw pw
      have ow := fok fw (by decide)
      have sw := told17 (s := "change") fw (by decide)
      unfold b_law_8
      simp -implicitDefEqProofs
      refine led_badc (f_ok lf (by decide)) ow (pos_of he hg) pw (.inr ⟨wrong, rfl, ?_⟩)
      simp -implicitDefEqProofs [sw]
      exact hN _ ⟨_, _, _, _, _, _, _, _, rfl⟩
    rw [e_Seq]
    unfold b_law_7
    simp -implicitDefEqProofs [-e_Seq]
    refine ⟨_, rfl, ow, ?_⟩
    cases pw : whD wrong with
    | false =>
      simp -implicitDefEqProofs
      exact last _ _ fw pw
    | true =>
      obtain ⟨p, q, r, s, rfl⟩ := are4 (d := wrong) (by
        cases z : areD wrong 4 with
        | true => rfl
        | false => rw [wh_no z] at pw; cases pw)
      simp -implicitDefEqProofs [S__law_pick, cut4]
      have lf := fw.lf
      simp only [leaf, leafs, Bool.and_eq_true, decide_eq_true_eq, and_true] at lf
      obtain ⟨ip, iq, ir, is⟩ := lf
      have i3 : ∀ d ∈ ([.int p, .int q, .int r] : List D), FD 0 1 d := fun d hd => by
        simp only [List.mem_cons, List.not_mem_nil, or_false] at hd
        rcases hd with rfl | rfl | rfl
        · exact FD.int ip
        · exact FD.int iq
        · exact FD.int ir
      have i4 : ∀ d ∈ ([.int p, .int q, .int r, .int s] : List D), FD 0 1 d := fun d hd => by
        simp only [List.mem_cons, List.not_mem_nil, or_false] at hd
        rcases hd with rfl | rfl | rfl | rfl
        · exact FD.int ip
        · exact FD.int iq
        · exact FD.int ir
        · exact FD.int is
      refine ⟨last _ _ ?_ rfl, last _ _ ?_ rfl, last _ _ ?_ rfl⟩
      · exact (c_fd (c := ⟨1, 0, 0, -1⟩) (w := 9) ⟨.of (by decide), .of (by decide), .of (by decide), .of (by decide)⟩ (by decide)).mono (by decide) (by decide)
      · exact (FD.tup i3 (n := 3) (by simp)).mono (by decide) (by decide)
      · exact (FD.lst i4 (n := 4) (by simp)).mono (by decide) (by decide)
  unfold b_law_1
  simp -implicitDefEqProofs [-e_Seq]
  refine bent_any (sh_f (k := 2) lf) (by decide) fun bad fb => bent_any (sh_c (k := 2) lc) (by decide) fun wrong fw => ?_
  rw [e_Seq]
  unfold b_law_2
  simp -implicitDefEqProofs [-e_Seq]
  refine ⟨_, rfl, fok fb (by decide), ?_⟩
  cases pb : posD bad with
  | false =>
    simp -implicitDefEqProofs [-e_Seq]
    exact rest _ _ _ fb fw pb
  | true =>
    obtain ⟨g, rfl⟩ := areT (d := bad) (by
      cases z : areD bad 3 with
      | true => rfl
      | false => rw [pos_no z] at pb; cases pb)
    simp -implicitDefEqProofs [ixD, -e_Seq]
    have lg := fb.lf
    simp only [leaf, leafs, Bool.and_eq_true, decide_eq_true_eq, and_true] at lg
    obtain ⟨ia, ib, ic⟩ := lg
    refine rest _ _ _ ?_ fw ?_
    · refine (FD.tup (k := 0) (m := 1) (n := 3) (fun d hd => ?_) (by simp)).mono (by decide) (by decide)
      simp only [List.mem_cons, List.not_mem_nil, or_false] at hd
      rcases hd with rfl | rfl | rfl
      · exact FD.int (by omega)
      · exact FD.int ib
      · exact FD.int ic
    · unfold posD at pb
      simp only [Bool.and_eq_true, decide_eq_true_eq] at pb
      obtain ⟨⟨p1, _⟩, _⟩ := pb
      show (decide (0 < -g.1) && _ && _) = false
      rw [decide_eq_false (show ¬ 0 < -g.1 by omega)]
      rfl
theorem rest13 {e : Int} {f : T3} {c m : Chg} {d2 d6 : D} (he : WD e) (hg : Gf e f) (lf : lt3 100 f) (lc : CLt 30 c) (lm : CLt 30 m) (dc : detC c = 1) (dm : detC m = 1) :
    dSeq b_law_13 (dSeq b_law_14 (dSeq b_law_15 (dSeq b_law_16 (dSeq b_law_17 (dSeq b_law_18 (dRet (dC (.bl true)))))))) fin0 [.no, .val (.deck 0), .val d2, .val (tr3 f), .val (chg c), .val (chg m), .val d6, .no, .no, .no, .no, .no, .no] := by
  rw [e_Seq]
  unfold b_law_13
  simp -implicitDefEqProofs [-e_Seq]
  refine ⟨e, f, c, m, rfl, he, hg, lf, ⟨lc, lm⟩, ⟨dc, dm⟩, ?_⟩
  simp -implicitDefEqProofs [-e_Seq]
  rw [e_Seq]
  unfold b_law_14
  simp -implicitDefEqProofs [-e_Seq]
  refine ⟨rfl, fun e2 w he2 hw lw => ⟨4, rfl, by decide, fun c2 lc2 dc2 => ⟨3, rfl, by decide, fun m2 lm2 dm2 => ?_⟩⟩⟩
  dsimp only
  rw [e_Seq]
  unfold b_law_15
  simp -implicitDefEqProofs [-e_Seq]
  refine ⟨w, c2, rfl, lt_up lw (by decide), lc2.mono (by decide), ?_⟩
  dsimp only
  have ln := lt_up (ld_lt lw lc2) (show 100 + 30 + 30 + 3 ≤ 400 by decide)
  generalize ldF w c2 = n at ln
  have rest : ∀ c2 m2 : Chg, CLt 30 c2 → CLt 30 m2 → detC c2 = 1 → detC m2 = 1 → dSeq b_law_17 (dSeq b_law_18 (dRet (dC (.bl true)))) fin0 [.no, .val (.deck 0), .val d2, .val (tr3 f), .val (chg c2), .val (chg m2), .val (tr3 n), .val (tr3 w), .no, .no, .no, .no, .no] := by
    intro c2 m2 lc2 lm2 dc2 dm2
    rw [e_Seq]
    unfold b_law_17
    simp -implicitDefEqProofs [-e_Seq]
    refine ⟨e2, w, c2, m2, rfl, he2, hw, lw, ⟨lc2, lm2⟩, ⟨dc2, dm2⟩, ?_⟩
    simp -implicitDefEqProofs [-e_Seq]
    rw [e_Seq]
    refine loop18 he.2 hg lf lc2 ⟨_, _, _, _, _, _, _, _, rfl⟩ fun env _ => ?_
    simp -implicitDefEqProofs
  rw [e_Seq]
  unfold b_law_16
  simp -implicitDefEqProofs [-e_Seq, -Int.reducePow]
  refine ⟨n, m2, rfl, ln, lm2.mono (by decide), ?_⟩
  generalize ldF n m2 = t
  simp -implicitDefEqProofs [-e_Seq, -Int.reducePow]
  refine comp_map (fun d => match d with | .int n => some (.int n.natAbs) | _ => none) _ [] (fun d hd Q' hQ' => ?_) (by simp) ?_
  · simp only [List.mem_cons, List.not_mem_nil, or_false] at hd
    rcases hd with rfl | rfl | rfl | rfl | rfl | rfl <;> (simp -implicitDefEqProofs [turn, wipeD, restD, keepS] at hQ' ⊢; exact hQ')
  · simp -implicitDefEqProofs [-e_Seq, -Int.reducePow]
    refine ⟨[(n.1.natAbs : Int), (n.2.1.natAbs : Int), (n.2.2.natAbs : Int), (t.1.natAbs : Int), (t.2.1.natAbs : Int), (t.2.2.natAbs : Int)], rfl, by simp, fun x _ _ => ?_⟩
    simp -implicitDefEqProofs [-e_Seq, -Int.reducePow]
    have s1 : ∀ {i : Int}, i.natAbs < 2 ^ 30 → Lt 30 i := fun h => .of h
    split
    · exact rest swC ⟨1, 0, 0, 1⟩ ⟨s1 (by decide), s1 (by decide), s1 (by decide), s1 (by decide)⟩ ⟨s1 (by decide), s1 (by decide), s1 (by decide), s1 (by decide)⟩ (by decide) (by decide)
    · exact rest c2 m2 lc2 lm2 dc2 dm2
theorem r_law : g_law fin0 (lawEnv 13 1 0) := by
  unfold g_law lawEnv
  rw [e_Seq]
  unfold b_law_9
  simp -implicitDefEqProofs [S_draw, S__law_discriminant, -e_Seq]
  intro r r0 r4
  have key : ∀ e : Int, Dis e → dSeq b_law_10 (dSeq b_law_11 (dSeq b_law_12 (dSeq b_law_13 (dSeq b_law_14 (dSeq b_law_15 (dSeq b_law_16 (dSeq b_law_17 (dSeq b_law_18 (dRet (dC (.bl true))))))))))) fin0 [.no, .val (.deck 0), .val (.int e), .no, .no, .no, .no, .no, .no, .no, .no, .no, .no] := by
    intro e hd
    have he : WD e := ⟨by have := hd.1.1; omega, by have := hd.1.2; omega⟩
    rw [e_Seq]
    unfold b_law_10
    simp -implicitDefEqProofs [-e_Seq]
    refine ⟨e, 8, rfl, hd, by decide, fun f hg lf => ⟨4, rfl, by decide, fun c lc dc => ⟨3, rfl, by decide, fun m lm dm => ?_⟩⟩⟩
    dsimp only
    rw [e_Seq]
    unfold b_law_11
    simp -implicitDefEqProofs [-e_Seq]
    refine ⟨f, c, rfl, lt_up lf (by decide), lc.mono (by decide), ?_⟩
    dsimp only
    have ln := lt_up (ld_lt lf lc) (show 100 + 30 + 30 + 3 ≤ 400 by decide)
    generalize ldF f c = n at ln
    rw [e_Seq]
    unfold b_law_12
    simp -implicitDefEqProofs [-e_Seq, -Int.reducePow]
    refine ⟨n, m, rfl, ln, lm.mono (by decide), ?_⟩
    generalize ldF n m = t
    simp -implicitDefEqProofs [-e_Seq, -Int.reducePow]
    refine comp_map (fun d => match d with | .int n => some (.int n.natAbs) | _ => none) _ [] (fun d hd Q' hQ' => ?_) (by simp) ?_
    · simp only [List.mem_cons, List.not_mem_nil, or_false] at hd
      rcases hd with rfl | rfl | rfl | rfl | rfl | rfl | rfl | rfl | rfl <;> (simp -implicitDefEqProofs [turn, wipeD, restD, keepS] at hQ' ⊢; exact hQ')
    · simp -implicitDefEqProofs [-e_Seq, -Int.reducePow]
      refine ⟨[(f.1.natAbs : Int), (f.2.1.natAbs : Int), (f.2.2.natAbs : Int), (n.1.natAbs : Int), (n.2.1.natAbs : Int), (n.2.2.natAbs : Int), (t.1.natAbs : Int), (t.2.1.natAbs : Int), (t.2.2.natAbs : Int)], rfl, by simp, fun x _ _ => ?_⟩
      simp -implicitDefEqProofs [-e_Seq, -Int.reducePow]
      have s1 : ∀ {i : Int}, i.natAbs < 2 ^ 30 → Lt 30 i := fun h => .of h
      split
      · refine ⟨e, 1, rfl, hd, by decide, fun f2 hg2 lf2 => ?_⟩
        exact rest13 (c := ⟨1, 2, 0, 1⟩) (m := ⟨0, -1, 1, 0⟩) he hg2 lf2 ⟨s1 (by decide), s1 (by decide), s1 (by decide), s1 (by decide)⟩ ⟨s1 (by decide), s1 (by decide), s1 (by decide), s1 (by decide)⟩ (by decide) (by decide)
      · exact rest13 he hg lf lc lm dc dm
  exact key
end
end K17
namespace K17
open PySem PySem.Spec L2 DL
theorem fn_false {P : Program} {w : World} {K : PySem.W.Frag} {mg : Str → Option Value} {base : Heap} {n : Nat} {f : Addr} {fd : FuncData} {ps : List Str} : FnG P w K mg base (L2.CX P w) n f fd ps (spD K mg fun _ _ _ => False) :=
  ⟨fun ⟨_, _, _, _, _, _, _, h, _⟩ => h.elim, fun _ _ _ _ _ ⟨_, _, _, _, _, _, _, h, _⟩ => h.elim⟩
theorem fok_thing : FOk "thing" := ⟨by decide, by decide, fun _ _ _ _ _ _ _ _ _ _ _ _ _ _ _ => rfl⟩
theorem ar_is_integer : ∀ (ds : List D) (P : D → Prop) (PX : Ex → Prop), S_is_integer ds P PX → ds.length = 1 := by
  intro ds P PX h
  unfold S_is_integer at h
  try unfold S_isint at h
  first | (obtain ⟨rfl, _⟩ := h; rfl) | (obtain ⟨_, rfl, _⟩ := h; rfl) | (obtain ⟨_, _, rfl, _⟩ := h; rfl) | (obtain ⟨_, _, _, rfl, _⟩ := h; rfl) | (obtain ⟨_, _, _, _, rfl, _⟩ := h; rfl) | (obtain ⟨_, _, _, _, _, rfl, _⟩ := h; rfl) | (obtain ⟨_, _, _, _, _, _, rfl, _⟩ := h; rfl) | (obtain ⟨_, _, _, _, _, _, _, rfl, _⟩ := h; rfl) | (obtain ⟨_, _, _, _, _, _, _, _, rfl, _⟩ := h; rfl) | (obtain ⟨_, _, _, _, _, _, _, _, _, rfl, _⟩ := h; rfl) | (obtain ⟨_, rfl | rfl, _⟩ := h <;> rfl) | (obtain ⟨_, _, rfl | rfl, _⟩ := h <;> rfl) | (split at h <;> first | rfl | exact h.elim)
theorem ar_are_integers : ∀ (ds : List D) (P : D → Prop) (PX : Ex → Prop), S_are_integers ds P PX → ds.length = 2 := by
  intro ds P PX h
  unfold S_are_integers at h
  try unfold S_areints at h
  first | (obtain ⟨rfl, _⟩ := h; rfl) | (obtain ⟨_, rfl, _⟩ := h; rfl) | (obtain ⟨_, _, rfl, _⟩ := h; rfl) | (obtain ⟨_, _, _, rfl, _⟩ := h; rfl) | (obtain ⟨_, _, _, _, rfl, _⟩ := h; rfl) | (obtain ⟨_, _, _, _, _, rfl, _⟩ := h; rfl) | (obtain ⟨_, _, _, _, _, _, rfl, _⟩ := h; rfl) | (obtain ⟨_, _, _, _, _, _, _, rfl, _⟩ := h; rfl) | (obtain ⟨_, _, _, _, _, _, _, _, rfl, _⟩ := h; rfl) | (obtain ⟨_, _, _, _, _, _, _, _, _, rfl, _⟩ := h; rfl) | (obtain ⟨_, rfl | rfl, _⟩ := h <;> rfl) | (obtain ⟨_, _, rfl | rfl, _⟩ := h <;> rfl) | (split at h <;> first | rfl | exact h.elim)
theorem ar_common_divisor : ∀ (ds : List D) (P : D → Prop) (PX : Ex → Prop), S_common_divisor ds P PX → ds.length = 2 := by
  intro ds P PX h
  unfold S_common_divisor at h
  try unfold S_gcd at h
  first | (obtain ⟨rfl, _⟩ := h; rfl) | (obtain ⟨_, rfl, _⟩ := h; rfl) | (obtain ⟨_, _, rfl, _⟩ := h; rfl) | (obtain ⟨_, _, _, rfl, _⟩ := h; rfl) | (obtain ⟨_, _, _, _, rfl, _⟩ := h; rfl) | (obtain ⟨_, _, _, _, _, rfl, _⟩ := h; rfl) | (obtain ⟨_, _, _, _, _, _, rfl, _⟩ := h; rfl) | (obtain ⟨_, _, _, _, _, _, _, rfl, _⟩ := h; rfl) | (obtain ⟨_, _, _, _, _, _, _, _, rfl, _⟩ := h; rfl) | (obtain ⟨_, _, _, _, _, _, _, _, _, rfl, _⟩ := h; rfl) | (obtain ⟨_, rfl | rfl, _⟩ := h <;> rfl) | (obtain ⟨_, _, rfl | rfl, _⟩ := h <;> rfl) | (split at h <;> first | rfl | exact h.elim)
theorem ar_product : ∀ (ds : List D) (P : D → Prop) (PX : Ex → Prop), S_product ds P PX → ds.length = 2 := by
  intro ds P PX h
  unfold S_product at h
  first | (obtain ⟨rfl, _⟩ := h; rfl) | (obtain ⟨_, rfl, _⟩ := h; rfl) | (obtain ⟨_, _, rfl, _⟩ := h; rfl) | (obtain ⟨_, _, _, rfl, _⟩ := h; rfl) | (obtain ⟨_, _, _, _, rfl, _⟩ := h; rfl) | (obtain ⟨_, _, _, _, _, rfl, _⟩ := h; rfl) | (obtain ⟨_, _, _, _, _, _, rfl, _⟩ := h; rfl) | (obtain ⟨_, _, _, _, _, _, _, rfl, _⟩ := h; rfl) | (obtain ⟨_, _, _, _, _, _, _, _, rfl, _⟩ := h; rfl) | (obtain ⟨_, _, _, _, _, _, _, _, _, rfl, _⟩ := h; rfl) | (obtain ⟨_, rfl | rfl, _⟩ := h <;> rfl) | (obtain ⟨_, _, rfl | rfl, _⟩ := h <;> rfl) | (split at h <;> first | rfl | exact h.elim)
theorem ar_discriminant_of : ∀ (ds : List D) (P : D → Prop) (PX : Ex → Prop), S_discriminant_of ds P PX → ds.length = 1 := by
  intro ds P PX h
  unfold S_discriminant_of at h
  first | (obtain ⟨rfl, _⟩ := h; rfl) | (obtain ⟨_, rfl, _⟩ := h; rfl) | (obtain ⟨_, _, rfl, _⟩ := h; rfl) | (obtain ⟨_, _, _, rfl, _⟩ := h; rfl) | (obtain ⟨_, _, _, _, rfl, _⟩ := h; rfl) | (obtain ⟨_, _, _, _, _, rfl, _⟩ := h; rfl) | (obtain ⟨_, _, _, _, _, _, rfl, _⟩ := h; rfl) | (obtain ⟨_, _, _, _, _, _, _, rfl, _⟩ := h; rfl) | (obtain ⟨_, _, _, _, _, _, _, _, rfl, _⟩ := h; rfl) | (obtain ⟨_, _, _, _, _, _, _, _, _, rfl, _⟩ := h; rfl) | (obtain ⟨_, rfl | rfl, _⟩ := h <;> rfl) | (obtain ⟨_, _, rfl | rfl, _⟩ := h <;> rfl) | (split at h <;> first | rfl | exact h.elim)
theorem ar_is_positive : ∀ (ds : List D) (P : D → Prop) (PX : Ex → Prop), S_is_positive ds P PX → ds.length = 1 := by
  intro ds P PX h
  unfold S_is_positive at h
  first | (obtain ⟨rfl, _⟩ := h; rfl) | (obtain ⟨_, rfl, _⟩ := h; rfl) | (obtain ⟨_, _, rfl, _⟩ := h; rfl) | (obtain ⟨_, _, _, rfl, _⟩ := h; rfl) | (obtain ⟨_, _, _, _, rfl, _⟩ := h; rfl) | (obtain ⟨_, _, _, _, _, rfl, _⟩ := h; rfl) | (obtain ⟨_, _, _, _, _, _, rfl, _⟩ := h; rfl) | (obtain ⟨_, _, _, _, _, _, _, rfl, _⟩ := h; rfl) | (obtain ⟨_, _, _, _, _, _, _, _, rfl, _⟩ := h; rfl) | (obtain ⟨_, _, _, _, _, _, _, _, _, rfl, _⟩ := h; rfl) | (obtain ⟨_, rfl | rfl, _⟩ := h <;> rfl) | (obtain ⟨_, _, rfl | rfl, _⟩ := h <;> rfl) | (split at h <;> first | rfl | exact h.elim)
theorem ar_is_whole_change : ∀ (ds : List D) (P : D → Prop) (PX : Ex → Prop), S_is_whole_change ds P PX → ds.length = 1 := by
  intro ds P PX h
  unfold S_is_whole_change at h
  first | (obtain ⟨rfl, _⟩ := h; rfl) | (obtain ⟨_, rfl, _⟩ := h; rfl) | (obtain ⟨_, _, rfl, _⟩ := h; rfl) | (obtain ⟨_, _, _, rfl, _⟩ := h; rfl) | (obtain ⟨_, _, _, _, rfl, _⟩ := h; rfl) | (obtain ⟨_, _, _, _, _, rfl, _⟩ := h; rfl) | (obtain ⟨_, _, _, _, _, _, rfl, _⟩ := h; rfl) | (obtain ⟨_, _, _, _, _, _, _, rfl, _⟩ := h; rfl) | (obtain ⟨_, _, _, _, _, _, _, _, rfl, _⟩ := h; rfl) | (obtain ⟨_, _, _, _, _, _, _, _, _, rfl, _⟩ := h; rfl) | (obtain ⟨_, rfl | rfl, _⟩ := h <;> rfl) | (obtain ⟨_, _, rfl | rfl, _⟩ := h <;> rfl) | (split at h <;> first | rfl | exact h.elim)
theorem ar_check_forms : ∀ (ds : List D) (P : D → Prop) (PX : Ex → Prop), S_check_forms ds P PX → ds.length = 1 := by
  intro ds P PX h
  unfold S_check_forms at h
  first | (obtain ⟨rfl, _⟩ := h; rfl) | (obtain ⟨_, rfl, _⟩ := h; rfl) | (obtain ⟨_, _, rfl, _⟩ := h; rfl) | (obtain ⟨_, _, _, rfl, _⟩ := h; rfl) | (obtain ⟨_, _, _, _, rfl, _⟩ := h; rfl) | (obtain ⟨_, _, _, _, _, rfl, _⟩ := h; rfl) | (obtain ⟨_, _, _, _, _, _, rfl, _⟩ := h; rfl) | (obtain ⟨_, _, _, _, _, _, _, rfl, _⟩ := h; rfl) | (obtain ⟨_, _, _, _, _, _, _, _, rfl, _⟩ := h; rfl) | (obtain ⟨_, _, _, _, _, _, _, _, _, rfl, _⟩ := h; rfl) | (obtain ⟨_, rfl | rfl, _⟩ := h <;> rfl) | (obtain ⟨_, _, rfl | rfl, _⟩ := h <;> rfl) | (split at h <;> first | rfl | exact h.elim)
theorem ar_lead : ∀ (ds : List D) (P : D → Prop) (PX : Ex → Prop), S_lead ds P PX → ds.length = 2 := by
  intro ds P PX h
  unfold S_lead at h
  first | (obtain ⟨rfl, _⟩ := h; rfl) | (obtain ⟨_, rfl, _⟩ := h; rfl) | (obtain ⟨_, _, rfl, _⟩ := h; rfl) | (obtain ⟨_, _, _, rfl, _⟩ := h; rfl) | (obtain ⟨_, _, _, _, rfl, _⟩ := h; rfl) | (obtain ⟨_, _, _, _, _, rfl, _⟩ := h; rfl) | (obtain ⟨_, _, _, _, _, _, rfl, _⟩ := h; rfl) | (obtain ⟨_, _, _, _, _, _, _, rfl, _⟩ := h; rfl) | (obtain ⟨_, _, _, _, _, _, _, _, rfl, _⟩ := h; rfl) | (obtain ⟨_, _, _, _, _, _, _, _, _, rfl, _⟩ := h; rfl) | (obtain ⟨_, rfl | rfl, _⟩ := h <;> rfl) | (obtain ⟨_, _, rfl | rfl, _⟩ := h <;> rfl) | (split at h <;> first | rfl | exact h.elim)
theorem ar_reduction : ∀ (ds : List D) (P : D → Prop) (PX : Ex → Prop), S_reduction ds P PX → ds.length = 1 := by
  intro ds P PX h
  unfold S_reduction at h
  first | (obtain ⟨rfl, _⟩ := h; rfl) | (obtain ⟨_, rfl, _⟩ := h; rfl) | (obtain ⟨_, _, rfl, _⟩ := h; rfl) | (obtain ⟨_, _, _, rfl, _⟩ := h; rfl) | (obtain ⟨_, _, _, _, rfl, _⟩ := h; rfl) | (obtain ⟨_, _, _, _, _, rfl, _⟩ := h; rfl) | (obtain ⟨_, _, _, _, _, _, rfl, _⟩ := h; rfl) | (obtain ⟨_, _, _, _, _, _, _, rfl, _⟩ := h; rfl) | (obtain ⟨_, _, _, _, _, _, _, _, rfl, _⟩ := h; rfl) | (obtain ⟨_, _, _, _, _, _, _, _, _, rfl, _⟩ := h; rfl) | (obtain ⟨_, rfl | rfl, _⟩ := h <;> rfl) | (obtain ⟨_, _, rfl | rfl, _⟩ := h <;> rfl) | (split at h <;> first | rfl | exact h.elim)
theorem ar_led_form : ∀ (ds : List D) (P : D → Prop) (PX : Ex → Prop), S_led_form ds P PX → ds.length = 2 := by
  intro ds P PX h
  unfold S_led_form at h
  first | (obtain ⟨rfl, _⟩ := h; rfl) | (obtain ⟨_, rfl, _⟩ := h; rfl) | (obtain ⟨_, _, rfl, _⟩ := h; rfl) | (obtain ⟨_, _, _, rfl, _⟩ := h; rfl) | (obtain ⟨_, _, _, _, rfl, _⟩ := h; rfl) | (obtain ⟨_, _, _, _, _, rfl, _⟩ := h; rfl) | (obtain ⟨_, _, _, _, _, _, rfl, _⟩ := h; rfl) | (obtain ⟨_, _, _, _, _, _, _, rfl, _⟩ := h; rfl) | (obtain ⟨_, _, _, _, _, _, _, _, rfl, _⟩ := h; rfl) | (obtain ⟨_, _, _, _, _, _, _, _, _, rfl, _⟩ := h; rfl) | (obtain ⟨_, rfl | rfl, _⟩ := h <;> rfl) | (obtain ⟨_, _, rfl | rfl, _⟩ := h <;> rfl) | (split at h <;> first | rfl | exact h.elim)
theorem ar_class_of : ∀ (ds : List D) (P : D → Prop) (PX : Ex → Prop), S_class_of ds P PX → ds.length = 1 := by
  intro ds P PX h
  unfold S_class_of at h
  first | (obtain ⟨rfl, _⟩ := h; rfl) | (obtain ⟨_, rfl, _⟩ := h; rfl) | (obtain ⟨_, _, rfl, _⟩ := h; rfl) | (obtain ⟨_, _, _, rfl, _⟩ := h; rfl) | (obtain ⟨_, _, _, _, rfl, _⟩ := h; rfl) | (obtain ⟨_, _, _, _, _, rfl, _⟩ := h; rfl) | (obtain ⟨_, _, _, _, _, _, rfl, _⟩ := h; rfl) | (obtain ⟨_, _, _, _, _, _, _, rfl, _⟩ := h; rfl) | (obtain ⟨_, _, _, _, _, _, _, _, rfl, _⟩ := h; rfl) | (obtain ⟨_, _, _, _, _, _, _, _, _, rfl, _⟩ := h; rfl) | (obtain ⟨_, rfl | rfl, _⟩ := h <;> rfl) | (obtain ⟨_, _, rfl | rfl, _⟩ := h <;> rfl) | (split at h <;> first | rfl | exact h.elim)
theorem ar_reducing : ∀ (ds : List D) (P : D → Prop) (PX : Ex → Prop), S_reducing ds P PX → ds.length = 1 := by
  intro ds P PX h
  unfold S_reducing at h
  first | (obtain ⟨rfl, _⟩ := h; rfl) | (obtain ⟨_, rfl, _⟩ := h; rfl) | (obtain ⟨_, _, rfl, _⟩ := h; rfl) | (obtain ⟨_, _, _, rfl, _⟩ := h; rfl) | (obtain ⟨_, _, _, _, rfl, _⟩ := h; rfl) | (obtain ⟨_, _, _, _, _, rfl, _⟩ := h; rfl) | (obtain ⟨_, _, _, _, _, _, rfl, _⟩ := h; rfl) | (obtain ⟨_, _, _, _, _, _, _, rfl, _⟩ := h; rfl) | (obtain ⟨_, _, _, _, _, _, _, _, rfl, _⟩ := h; rfl) | (obtain ⟨_, _, _, _, _, _, _, _, _, rfl, _⟩ := h; rfl) | (obtain ⟨_, rfl | rfl, _⟩ := h <;> rfl) | (obtain ⟨_, _, rfl | rfl, _⟩ := h <;> rfl) | (split at h <;> first | rfl | exact h.elim)
theorem ar__law_deck : ∀ (ds : List D) (P : D → Prop) (PX : Ex → Prop), (S_deck 0) ds P PX → ds.length = 1 := by
  intro ds P PX h
  unfold S_deck at h
  first | (obtain ⟨rfl, _⟩ := h; rfl) | (obtain ⟨_, rfl, _⟩ := h; rfl) | (obtain ⟨_, _, rfl, _⟩ := h; rfl) | (obtain ⟨_, _, _, rfl, _⟩ := h; rfl) | (obtain ⟨_, _, _, _, rfl, _⟩ := h; rfl) | (obtain ⟨_, _, _, _, _, rfl, _⟩ := h; rfl) | (obtain ⟨_, _, _, _, _, _, rfl, _⟩ := h; rfl) | (obtain ⟨_, _, _, _, _, _, _, rfl, _⟩ := h; rfl) | (obtain ⟨_, _, _, _, _, _, _, _, rfl, _⟩ := h; rfl) | (obtain ⟨_, _, _, _, _, _, _, _, _, rfl, _⟩ := h; rfl) | (obtain ⟨_, rfl | rfl, _⟩ := h <;> rfl) | (obtain ⟨_, _, rfl | rfl, _⟩ := h <;> rfl) | (split at h <;> first | rfl | exact h.elim)
theorem ar__law_pick : ∀ (ds : List D) (P : D → Prop) (PX : Ex → Prop), S__law_pick ds P PX → ds.length = 2 := by
  intro ds P PX h
  unfold S__law_pick at h
  first | (obtain ⟨rfl, _⟩ := h; rfl) | (obtain ⟨_, rfl, _⟩ := h; rfl) | (obtain ⟨_, _, rfl, _⟩ := h; rfl) | (obtain ⟨_, _, _, rfl, _⟩ := h; rfl) | (obtain ⟨_, _, _, _, rfl, _⟩ := h; rfl) | (obtain ⟨_, _, _, _, _, rfl, _⟩ := h; rfl) | (obtain ⟨_, _, _, _, _, _, rfl, _⟩ := h; rfl) | (obtain ⟨_, _, _, _, _, _, _, rfl, _⟩ := h; rfl) | (obtain ⟨_, _, _, _, _, _, _, _, rfl, _⟩ := h; rfl) | (obtain ⟨_, _, _, _, _, _, _, _, _, rfl, _⟩ := h; rfl) | (obtain ⟨_, rfl | rfl, _⟩ := h <;> rfl) | (obtain ⟨_, _, rfl | rfl, _⟩ := h <;> rfl) | (split at h <;> first | rfl | exact h.elim)
theorem ar__law_common : ∀ (ds : List D) (P : D → Prop) (PX : Ex → Prop), S__law_common ds P PX → ds.length = 1 := by
  intro ds P PX h
  unfold S__law_common at h
  first | (obtain ⟨rfl, _⟩ := h; rfl) | (obtain ⟨_, rfl, _⟩ := h; rfl) | (obtain ⟨_, _, rfl, _⟩ := h; rfl) | (obtain ⟨_, _, _, rfl, _⟩ := h; rfl) | (obtain ⟨_, _, _, _, rfl, _⟩ := h; rfl) | (obtain ⟨_, _, _, _, _, rfl, _⟩ := h; rfl) | (obtain ⟨_, _, _, _, _, _, rfl, _⟩ := h; rfl) | (obtain ⟨_, _, _, _, _, _, _, rfl, _⟩ := h; rfl) | (obtain ⟨_, _, _, _, _, _, _, _, rfl, _⟩ := h; rfl) | (obtain ⟨_, _, _, _, _, _, _, _, _, rfl, _⟩ := h; rfl) | (obtain ⟨_, rfl | rfl, _⟩ := h <;> rfl) | (obtain ⟨_, _, rfl | rfl, _⟩ := h <;> rfl) | (split at h <;> first | rfl | exact h.elim)
theorem ar__law_are_integers : ∀ (ds : List D) (P : D → Prop) (PX : Ex → Prop), S__law_are_integers ds P PX → ds.length = 2 := by
  intro ds P PX h
  unfold S__law_are_integers at h
  first | (obtain ⟨rfl, _⟩ := h; rfl) | (obtain ⟨_, rfl, _⟩ := h; rfl) | (obtain ⟨_, _, rfl, _⟩ := h; rfl) | (obtain ⟨_, _, _, rfl, _⟩ := h; rfl) | (obtain ⟨_, _, _, _, rfl, _⟩ := h; rfl) | (obtain ⟨_, _, _, _, _, rfl, _⟩ := h; rfl) | (obtain ⟨_, _, _, _, _, _, rfl, _⟩ := h; rfl) | (obtain ⟨_, _, _, _, _, _, _, rfl, _⟩ := h; rfl) | (obtain ⟨_, _, _, _, _, _, _, _, rfl, _⟩ := h; rfl) | (obtain ⟨_, _, _, _, _, _, _, _, _, rfl, _⟩ := h; rfl) | (obtain ⟨_, rfl | rfl, _⟩ := h <;> rfl) | (obtain ⟨_, _, rfl | rfl, _⟩ := h <;> rfl) | (split at h <;> first | rfl | exact h.elim)
theorem ar__law_is_positive : ∀ (ds : List D) (P : D → Prop) (PX : Ex → Prop), S__law_is_positive ds P PX → ds.length = 1 := by
  intro ds P PX h
  unfold S__law_is_positive at h
  first | (obtain ⟨rfl, _⟩ := h; rfl) | (obtain ⟨_, rfl, _⟩ := h; rfl) | (obtain ⟨_, _, rfl, _⟩ := h; rfl) | (obtain ⟨_, _, _, rfl, _⟩ := h; rfl) | (obtain ⟨_, _, _, _, rfl, _⟩ := h; rfl) | (obtain ⟨_, _, _, _, _, rfl, _⟩ := h; rfl) | (obtain ⟨_, _, _, _, _, _, rfl, _⟩ := h; rfl) | (obtain ⟨_, _, _, _, _, _, _, rfl, _⟩ := h; rfl) | (obtain ⟨_, _, _, _, _, _, _, _, rfl, _⟩ := h; rfl) | (obtain ⟨_, _, _, _, _, _, _, _, _, rfl, _⟩ := h; rfl) | (obtain ⟨_, rfl | rfl, _⟩ := h <;> rfl) | (obtain ⟨_, _, rfl | rfl, _⟩ := h <;> rfl) | (split at h <;> first | rfl | exact h.elim)
theorem ar__law_is_whole : ∀ (ds : List D) (P : D → Prop) (PX : Ex → Prop), S__law_is_whole ds P PX → ds.length = 1 := by
  intro ds P PX h
  unfold S__law_is_whole at h
  first | (obtain ⟨rfl, _⟩ := h; rfl) | (obtain ⟨_, rfl, _⟩ := h; rfl) | (obtain ⟨_, _, rfl, _⟩ := h; rfl) | (obtain ⟨_, _, _, rfl, _⟩ := h; rfl) | (obtain ⟨_, _, _, _, rfl, _⟩ := h; rfl) | (obtain ⟨_, _, _, _, _, rfl, _⟩ := h; rfl) | (obtain ⟨_, _, _, _, _, _, rfl, _⟩ := h; rfl) | (obtain ⟨_, _, _, _, _, _, _, rfl, _⟩ := h; rfl) | (obtain ⟨_, _, _, _, _, _, _, _, rfl, _⟩ := h; rfl) | (obtain ⟨_, _, _, _, _, _, _, _, _, rfl, _⟩ := h; rfl) | (obtain ⟨_, rfl | rfl, _⟩ := h <;> rfl) | (obtain ⟨_, _, rfl | rfl, _⟩ := h <;> rfl) | (split at h <;> first | rfl | exact h.elim)
theorem ar__law_led : ∀ (ds : List D) (P : D → Prop) (PX : Ex → Prop), S__law_led ds P PX → ds.length = 2 := by
  intro ds P PX h
  unfold S__law_led at h
  first | (obtain ⟨rfl, _⟩ := h; rfl) | (obtain ⟨_, rfl, _⟩ := h; rfl) | (obtain ⟨_, _, rfl, _⟩ := h; rfl) | (obtain ⟨_, _, _, rfl, _⟩ := h; rfl) | (obtain ⟨_, _, _, _, rfl, _⟩ := h; rfl) | (obtain ⟨_, _, _, _, _, rfl, _⟩ := h; rfl) | (obtain ⟨_, _, _, _, _, _, rfl, _⟩ := h; rfl) | (obtain ⟨_, _, _, _, _, _, _, rfl, _⟩ := h; rfl) | (obtain ⟨_, _, _, _, _, _, _, _, rfl, _⟩ := h; rfl) | (obtain ⟨_, _, _, _, _, _, _, _, _, rfl, _⟩ := h; rfl) | (obtain ⟨_, rfl | rfl, _⟩ := h <;> rfl) | (obtain ⟨_, _, rfl | rfl, _⟩ := h <;> rfl) | (split at h <;> first | rfl | exact h.elim)
theorem ar__law_product : ∀ (ds : List D) (P : D → Prop) (PX : Ex → Prop), S__law_product ds P PX → ds.length = 2 := by
  intro ds P PX h
  unfold S__law_product at h
  first | (obtain ⟨rfl, _⟩ := h; rfl) | (obtain ⟨_, rfl, _⟩ := h; rfl) | (obtain ⟨_, _, rfl, _⟩ := h; rfl) | (obtain ⟨_, _, _, rfl, _⟩ := h; rfl) | (obtain ⟨_, _, _, _, rfl, _⟩ := h; rfl) | (obtain ⟨_, _, _, _, _, rfl, _⟩ := h; rfl) | (obtain ⟨_, _, _, _, _, _, rfl, _⟩ := h; rfl) | (obtain ⟨_, _, _, _, _, _, _, rfl, _⟩ := h; rfl) | (obtain ⟨_, _, _, _, _, _, _, _, rfl, _⟩ := h; rfl) | (obtain ⟨_, _, _, _, _, _, _, _, _, rfl, _⟩ := h; rfl) | (obtain ⟨_, rfl | rfl, _⟩ := h <;> rfl) | (obtain ⟨_, _, rfl | rfl, _⟩ := h <;> rfl) | (split at h <;> first | rfl | exact h.elim)
theorem ar__law_reducing : ∀ (ds : List D) (P : D → Prop) (PX : Ex → Prop), S__law_reducing ds P PX → ds.length = 1 := by
  intro ds P PX h
  unfold S__law_reducing at h
  first | (obtain ⟨rfl, _⟩ := h; rfl) | (obtain ⟨_, rfl, _⟩ := h; rfl) | (obtain ⟨_, _, rfl, _⟩ := h; rfl) | (obtain ⟨_, _, _, rfl, _⟩ := h; rfl) | (obtain ⟨_, _, _, _, rfl, _⟩ := h; rfl) | (obtain ⟨_, _, _, _, _, rfl, _⟩ := h; rfl) | (obtain ⟨_, _, _, _, _, _, rfl, _⟩ := h; rfl) | (obtain ⟨_, _, _, _, _, _, _, rfl, _⟩ := h; rfl) | (obtain ⟨_, _, _, _, _, _, _, _, rfl, _⟩ := h; rfl) | (obtain ⟨_, _, _, _, _, _, _, _, _, rfl, _⟩ := h; rfl) | (obtain ⟨_, rfl | rfl, _⟩ := h <;> rfl) | (obtain ⟨_, _, rfl | rfl, _⟩ := h <;> rfl) | (split at h <;> first | rfl | exact h.elim)
theorem ar__law_classes : ∀ (ds : List D) (P : D → Prop) (PX : Ex → Prop), S__law_classes ds P PX → ds.length = 1 := by
  intro ds P PX h
  unfold S__law_classes at h
  first | (obtain ⟨rfl, _⟩ := h; rfl) | (obtain ⟨_, rfl, _⟩ := h; rfl) | (obtain ⟨_, _, rfl, _⟩ := h; rfl) | (obtain ⟨_, _, _, rfl, _⟩ := h; rfl) | (obtain ⟨_, _, _, _, rfl, _⟩ := h; rfl) | (obtain ⟨_, _, _, _, _, rfl, _⟩ := h; rfl) | (obtain ⟨_, _, _, _, _, _, rfl, _⟩ := h; rfl) | (obtain ⟨_, _, _, _, _, _, _, rfl, _⟩ := h; rfl) | (obtain ⟨_, _, _, _, _, _, _, _, rfl, _⟩ := h; rfl) | (obtain ⟨_, _, _, _, _, _, _, _, _, rfl, _⟩ := h; rfl) | (obtain ⟨_, rfl | rfl, _⟩ := h <;> rfl) | (obtain ⟨_, _, rfl | rfl, _⟩ := h <;> rfl) | (split at h <;> first | rfl | exact h.elim)
theorem ar__law_discriminant : ∀ (ds : List D) (P : D → Prop) (PX : Ex → Prop), S__law_discriminant ds P PX → ds.length = 2 := by
  intro ds P PX h
  unfold S__law_discriminant at h
  first | (obtain ⟨rfl, _⟩ := h; rfl) | (obtain ⟨_, rfl, _⟩ := h; rfl) | (obtain ⟨_, _, rfl, _⟩ := h; rfl) | (obtain ⟨_, _, _, rfl, _⟩ := h; rfl) | (obtain ⟨_, _, _, _, rfl, _⟩ := h; rfl) | (obtain ⟨_, _, _, _, _, rfl, _⟩ := h; rfl) | (obtain ⟨_, _, _, _, _, _, rfl, _⟩ := h; rfl) | (obtain ⟨_, _, _, _, _, _, _, rfl, _⟩ := h; rfl) | (obtain ⟨_, _, _, _, _, _, _, _, rfl, _⟩ := h; rfl) | (obtain ⟨_, _, _, _, _, _, _, _, _, rfl, _⟩ := h; rfl) | (obtain ⟨_, rfl | rfl, _⟩ := h <;> rfl) | (obtain ⟨_, _, rfl | rfl, _⟩ := h <;> rfl) | (split at h <;> first | rfl | exact h.elim)
theorem ar__law_change : ∀ (ds : List D) (P : D → Prop) (PX : Ex → Prop), S__law_change ds P PX → ds.length = 2 := by
  intro ds P PX h
  unfold S__law_change at h
  first | (obtain ⟨rfl, _⟩ := h; rfl) | (obtain ⟨_, rfl, _⟩ := h; rfl) | (obtain ⟨_, _, rfl, _⟩ := h; rfl) | (obtain ⟨_, _, _, rfl, _⟩ := h; rfl) | (obtain ⟨_, _, _, _, rfl, _⟩ := h; rfl) | (obtain ⟨_, _, _, _, _, rfl, _⟩ := h; rfl) | (obtain ⟨_, _, _, _, _, _, rfl, _⟩ := h; rfl) | (obtain ⟨_, _, _, _, _, _, _, rfl, _⟩ := h; rfl) | (obtain ⟨_, _, _, _, _, _, _, _, rfl, _⟩ := h; rfl) | (obtain ⟨_, _, _, _, _, _, _, _, _, rfl, _⟩ := h; rfl) | (obtain ⟨_, rfl | rfl, _⟩ := h <;> rfl) | (obtain ⟨_, _, rfl | rfl, _⟩ := h <;> rfl) | (split at h <;> first | rfl | exact h.elim)
theorem ar__law_form : ∀ (ds : List D) (P : D → Prop) (PX : Ex → Prop), S__law_form ds P PX → ds.length = 3 := by
  intro ds P PX h
  unfold S__law_form at h
  first | (obtain ⟨rfl, _⟩ := h; rfl) | (obtain ⟨_, rfl, _⟩ := h; rfl) | (obtain ⟨_, _, rfl, _⟩ := h; rfl) | (obtain ⟨_, _, _, rfl, _⟩ := h; rfl) | (obtain ⟨_, _, _, _, rfl, _⟩ := h; rfl) | (obtain ⟨_, _, _, _, _, rfl, _⟩ := h; rfl) | (obtain ⟨_, _, _, _, _, _, rfl, _⟩ := h; rfl) | (obtain ⟨_, _, _, _, _, _, _, rfl, _⟩ := h; rfl) | (obtain ⟨_, _, _, _, _, _, _, _, rfl, _⟩ := h; rfl) | (obtain ⟨_, _, _, _, _, _, _, _, _, rfl, _⟩ := h; rfl) | (obtain ⟨_, rfl | rfl, _⟩ := h <;> rfl) | (obtain ⟨_, _, rfl | rfl, _⟩ := h <;> rfl) | (split at h <;> first | rfl | exact h.elim)
theorem ar__law_wide : ∀ (ds : List D) (P : D → Prop) (PX : Ex → Prop), S__law_wide ds P PX → ds.length = 1 := by
  intro ds P PX h
  unfold S__law_wide at h
  first | (obtain ⟨rfl, _⟩ := h; rfl) | (obtain ⟨_, rfl, _⟩ := h; rfl) | (obtain ⟨_, _, rfl, _⟩ := h; rfl) | (obtain ⟨_, _, _, rfl, _⟩ := h; rfl) | (obtain ⟨_, _, _, _, rfl, _⟩ := h; rfl) | (obtain ⟨_, _, _, _, _, rfl, _⟩ := h; rfl) | (obtain ⟨_, _, _, _, _, _, rfl, _⟩ := h; rfl) | (obtain ⟨_, _, _, _, _, _, _, rfl, _⟩ := h; rfl) | (obtain ⟨_, _, _, _, _, _, _, _, rfl, _⟩ := h; rfl) | (obtain ⟨_, _, _, _, _, _, _, _, _, rfl, _⟩ := h; rfl) | (obtain ⟨_, rfl | rfl, _⟩ := h <;> rfl) | (obtain ⟨_, _, rfl | rfl, _⟩ := h <;> rfl) | (split at h <;> first | rfl | exact h.elim)
theorem ar__law_value : ∀ (ds : List D) (P : D → Prop) (PX : Ex → Prop), S__law_value ds P PX → ds.length = 3 := by
  intro ds P PX h
  unfold S__law_value at h
  first | (obtain ⟨rfl, _⟩ := h; rfl) | (obtain ⟨_, rfl, _⟩ := h; rfl) | (obtain ⟨_, _, rfl, _⟩ := h; rfl) | (obtain ⟨_, _, _, rfl, _⟩ := h; rfl) | (obtain ⟨_, _, _, _, rfl, _⟩ := h; rfl) | (obtain ⟨_, _, _, _, _, rfl, _⟩ := h; rfl) | (obtain ⟨_, _, _, _, _, _, rfl, _⟩ := h; rfl) | (obtain ⟨_, _, _, _, _, _, _, rfl, _⟩ := h; rfl) | (obtain ⟨_, _, _, _, _, _, _, _, rfl, _⟩ := h; rfl) | (obtain ⟨_, _, _, _, _, _, _, _, _, rfl, _⟩ := h; rfl) | (obtain ⟨_, rfl | rfl, _⟩ := h <;> rfl) | (obtain ⟨_, _, rfl | rfl, _⟩ := h <;> rfl) | (split at h <;> first | rfl | exact h.elim)
theorem ar__law_is_right : ∀ (ds : List D) (P : D → Prop) (PX : Ex → Prop), S__law_is_right ds P PX → ds.length = 3 := by
  intro ds P PX h
  unfold S__law_is_right at h
  first | (obtain ⟨rfl, _⟩ := h; rfl) | (obtain ⟨_, rfl, _⟩ := h; rfl) | (obtain ⟨_, _, rfl, _⟩ := h; rfl) | (obtain ⟨_, _, _, rfl, _⟩ := h; rfl) | (obtain ⟨_, _, _, _, rfl, _⟩ := h; rfl) | (obtain ⟨_, _, _, _, _, rfl, _⟩ := h; rfl) | (obtain ⟨_, _, _, _, _, _, rfl, _⟩ := h; rfl) | (obtain ⟨_, _, _, _, _, _, _, rfl, _⟩ := h; rfl) | (obtain ⟨_, _, _, _, _, _, _, _, rfl, _⟩ := h; rfl) | (obtain ⟨_, _, _, _, _, _, _, _, _, rfl, _⟩ := h; rfl) | (obtain ⟨_, rfl | rfl, _⟩ := h <;> rfl) | (obtain ⟨_, _, rfl | rfl, _⟩ := h <;> rfl) | (split at h <;> first | rfl | exact h.elim)/-! ### the head -/
abbrev FnP (K : PySem.W.Frag) (x : Str) (st : Stmt) (f : Addr) (fd : FuncData) : Prop := FunD K x x (defArgs st) (defBody st) (defScope st) [] [] f fd
set_option maxHeartbeats 0 in
theorem facts {P : Program} {w : World} {K : PySem.W.Frag} {h : Heap} {mg : Str → Option Value} {f : Addr} (X : K.In h) (G : h.Ns mainGlobals mg) (hfa : mg ("law" : Str) = some (.ref f)) (cx : SaysS fa fn hExB w h K) :
    ∃ fd : FuncData, (∀ (s : Shared) (v : Value), BindsTo s fd ⟨[v], []⟩ [("script", v)]) ∧ ∀ base : Heap, K.In base → base.Ns mainGlobals mg → (∀ t ∈ tabC K, LamX.TabB base mg t.1 t.2.1) → FnG P w K mg base (L2.CX P w) 8 f fd ["script"] (spLaw K) := by
  have c : He.SaysD fa fn K := cx.t.d
  obtain ⟨fd_is_integer, F_is_integer⟩ := c.def_ 0 (d := dOf "is_integer" s_is_integer) rfl
  have m_is_integer := He.glo_ok X G (c.fact 0 (f := .glo "is_integer") rfl)
  obtain ⟨fd_are_integers, F_are_integers⟩ := c.def_ 1 (d := dOf "are_integers" s_are_integers) rfl
  have m_are_integers := He.glo_ok X G (c.fact 1 (f := .glo "are_integers") rfl)
  obtain ⟨fd_common_divisor, F_common_divisor⟩ := c.def_ 2 (d := dOf "common_divisor" s_common_divisor) rfl
  have m_common_divisor := He.glo_ok X G (c.fact 2 (f := .glo "common_divisor") rfl)
  obtain ⟨fd_product, F_product⟩ := c.def_ 3 (d := dOf "product" s_product) rfl
  have m_product := He.glo_ok X G (c.fact 3 (f := .glo "product") rfl)
  obtain ⟨fd_discriminant_of, F_discriminant_of⟩ := c.def_ 4 (d := dOf "discriminant_of" s_discriminant_of) rfl
  have m_discriminant_of := He.glo_ok X G (c.fact 4 (f := .glo "discriminant_of") rfl)
  obtain ⟨fd_is_positive, F_is_positive⟩ := c.def_ 5 (d := dOf "is_positive" s_is_positive) rfl
  have m_is_positive := He.glo_ok X G (c.fact 5 (f := .glo "is_positive") rfl)
  obtain ⟨fd_is_whole_change, F_is_whole_change⟩ := c.def_ 6 (d := dOf "is_whole_change" s_is_whole_change) rfl
  have m_is_whole_change := He.glo_ok X G (c.fact 6 (f := .glo "is_whole_change") rfl)
  obtain ⟨fd_check_forms, F_check_forms⟩ := c.def_ 7 (d := dOf "check_forms" s_check_forms) rfl
  have m_check_forms := He.glo_ok X G (c.fact 7 (f := .glo "check_forms") rfl)
  obtain ⟨fd_lead, F_lead⟩ := c.def_ 8 (d := dOf "lead" s_lead) rfl
  have m_lead := He.glo_ok X G (c.fact 8 (f := .glo "lead") rfl)
  obtain ⟨fd_reduction, F_reduction⟩ := c.def_ 9 (d := dOf "reduction" s_reduction) rfl
  have m_reduction := He.glo_ok X G (c.fact 9 (f := .glo "reduction") rfl)
  obtain ⟨fd_led_form, F_led_form⟩ := c.def_ 10 (d := dOf "led_form" s_led_form) rfl
  have m_led_form := He.glo_ok X G (c.fact 10 (f := .glo "led_form") rfl)
  obtain ⟨fd_class_of, F_class_of⟩ := c.def_ 11 (d := dOf "class_of" s_class_of) rfl
  have m_class_of := He.glo_ok X G (c.fact 11 (f := .glo "class_of") rfl)
  obtain ⟨fd_reducing, F_reducing⟩ := c.def_ 12 (d := dOf "reducing" s_reducing) rfl
  have m_reducing := He.glo_ok X G (c.fact 12 (f := .glo "reducing") rfl)
  obtain ⟨fd__law_deck, F__law_deck⟩ := c.def_ 13 (d := dOf "_law_deck" s__law_deck) rfl
  have m__law_deck := He.glo_ok X G (c.fact 13 (f := .glo "_law_deck") rfl)
  obtain ⟨fd__law_draw, F__law_draw⟩ := c.def_ 14 (d := dOf "_law_draw" s__law_draw) rfl
  have m__law_draw := He.glo_ok X G (c.fact 14 (f := .glo "_law_draw") rfl)
  obtain ⟨fd__law_pick, F__law_pick⟩ := c.def_ 15 (d := dOf "_law_pick" s__law_pick) rfl
  have m__law_pick := He.glo_ok X G (c.fact 15 (f := .glo "_law_pick") rfl)
  obtain ⟨fd__law_common, F__law_common⟩ := c.def_ 16 (d := dOf "_law_common" s__law_common) rfl
  have m__law_common := He.glo_ok X G (c.fact 16 (f := .glo "_law_common") rfl)
  obtain ⟨fd__law_are_integers, F__law_are_integers⟩ := c.def_ 17 (d := dOf "_law_are_integers" s__law_are_integers) rfl
  have m__law_are_integers := He.glo_ok X G (c.fact 17 (f := .glo "_law_are_integers") rfl)
  obtain ⟨fd__law_is_positive, F__law_is_positive⟩ := c.def_ 18 (d := dOf "_law_is_positive" s__law_is_positive) rfl
  have m__law_is_positive := He.glo_ok X G (c.fact 18 (f := .glo "_law_is_positive") rfl)
  obtain ⟨fd__law_is_whole, F__law_is_whole⟩ := c.def_ 19 (d := dOf "_law_is_whole" s__law_is_whole) rfl
  have m__law_is_whole := He.glo_ok X G (c.fact 19 (f := .glo "_law_is_whole") rfl)
  obtain ⟨fd__law_led, F__law_led⟩ := c.def_ 20 (d := dOf "_law_led" s__law_led) rfl
  have m__law_led := He.glo_ok X G (c.fact 20 (f := .glo "_law_led") rfl)
  obtain ⟨fd__law_product, F__law_product⟩ := c.def_ 21 (d := dOf "_law_product" s__law_product) rfl
  have m__law_product := He.glo_ok X G (c.fact 21 (f := .glo "_law_product") rfl)
  obtain ⟨fd__law_reducing, F__law_reducing⟩ := c.def_ 22 (d := dOf "_law_reducing" s__law_reducing) rfl
  have m__law_reducing := He.glo_ok X G (c.fact 22 (f := .glo "_law_reducing") rfl)
  obtain ⟨fd__law_classes, F__law_classes⟩ := c.def_ 23 (d := dOf "_law_classes" s__law_classes) rfl
  have m__law_classes := He.glo_ok X G (c.fact 23 (f := .glo "_law_classes") rfl)
  obtain ⟨fd__law_discriminant, F__law_discriminant⟩ := c.def_ 24 (d := dOf "_law_discriminant" s__law_discriminant) rfl
  have m__law_discriminant := He.glo_ok X G (c.fact 24 (f := .glo "_law_discriminant") rfl)
  obtain ⟨fd__law_change, F__law_change⟩ := c.def_ 25 (d := dOf "_law_change" s__law_change) rfl
  have m__law_change := He.glo_ok X G (c.fact 25 (f := .glo "_law_change") rfl)
  obtain ⟨fd__law_form, F__law_form⟩ := c.def_ 26 (d := dOf "_law_form" s__law_form) rfl
  have m__law_form := He.glo_ok X G (c.fact 26 (f := .glo "_law_form") rfl)
  obtain ⟨fd__law_wide, F__law_wide⟩ := c.def_ 27 (d := dOf "_law_wide" s__law_wide) rfl
  have m__law_wide := He.glo_ok X G (c.fact 27 (f := .glo "_law_wide") rfl)
  obtain ⟨fd__law_bent, F__law_bent⟩ := c.def_ 28 (d := dOf "_law_bent" s__law_bent) rfl
  have m__law_bent := He.glo_ok X G (c.fact 28 (f := .glo "_law_bent") rfl)
  obtain ⟨fd__law_value, F__law_value⟩ := c.def_ 29 (d := dOf "_law_value" s__law_value) rfl
  have m__law_value := He.glo_ok X G (c.fact 29 (f := .glo "_law_value") rfl)
  obtain ⟨fd__law_told, F__law_told⟩ := c.def_ 30 (d := dOf "_law_told" s__law_told) rfl
  have m__law_told := He.glo_ok X G (c.fact 30 (f := .glo "_law_told") rfl)
  obtain ⟨fd__law_is_right, F__law_is_right⟩ := c.def_ 31 (d := dOf "_law_is_right" s__law_is_right) rfl
  have m__law_is_right := He.glo_ok X G (c.fact 31 (f := .glo "_law_is_right") rfl)
  obtain ⟨fd_law, F_law⟩ := c.def_ 32 (d := dOf "law" s_law) rfl
  have m_law := He.glo_ok X G (c.fact 32 (f := .glo "law") rfl)
  have z : Zs mg := ⟨He.free_ok X G (c.fact 33 (f := .free "abs") rfl), He.free_ok X G (c.fact 34 (f := .free "all") rfl), He.free_ok X G (c.fact 35 (f := .free "bool") rfl), He.free_ok X G (c.fact 36 (f := .free "int") rfl), He.free_ok X G (c.fact 37 (f := .free "isinstance") rfl), He.free_ok X G (c.fact 38 (f := .free "len") rfl), He.free_ok X G (c.fact 39 (f := .free "list") rfl), He.free_ok X G (c.fact 40 (f := .free "max") rfl), He.free_ok X G (c.fact 41 (f := .free "range") rfl), He.free_ok X G (c.fact 42 (f := .free "repr") rfl), He.free_ok X G (c.fact 43 (f := .free "str") rfl), He.free_ok X G (c.fact 44 (f := .free "tuple") rfl)⟩
  have e := hfa.symm.trans m_law
  cases e
  have b_is_integer : Binds K fd_is_integer P_is_integer [] := F_is_integer.bindsN fun _ _ _ _ _ _ us hl => match us, hl with | [_], _ => rfl
  have k_is_integer : ∀ t ∈ kw_is_integer, KwB K fd_is_integer P_is_integer t.1 t.2.1 t.2.2 := fun t ht => absurd ht (List.not_mem_nil)
  have b_are_integers : Binds K fd_are_integers P_are_integers [] := F_are_integers.bindsN fun _ _ _ _ _ _ us hl => match us, hl with | [_, _], _ => rfl
  have k_are_integers : ∀ t ∈ kw_are_integers, KwB K fd_are_integers P_are_integers t.1 t.2.1 t.2.2 := fun t ht => absurd ht (List.not_mem_nil)
  have b_common_divisor : Binds K fd_common_divisor P_common_divisor [] := F_common_divisor.bindsN fun _ _ _ _ _ _ us hl => match us, hl with | [_, _], _ => rfl
  have k_common_divisor : ∀ t ∈ kw_common_divisor, KwB K fd_common_divisor P_common_divisor t.1 t.2.1 t.2.2 := fun t ht => absurd ht (List.not_mem_nil)
  have b_product : Binds K fd_product P_product [] := F_product.bindsN fun _ _ _ _ _ _ us hl => match us, hl with | [_, _], _ => rfl
  have k_product : ∀ t ∈ kw_product, KwB K fd_product P_product t.1 t.2.1 t.2.2 := fun t ht => absurd ht (List.not_mem_nil)
  have b_discriminant_of : Binds K fd_discriminant_of P_discriminant_of [] := F_discriminant_of.bindsN fun _ _ _ _ _ _ us hl => match us, hl with | [_], _ => rfl
  have k_discriminant_of : ∀ t ∈ kw_discriminant_of, KwB K fd_discriminant_of P_discriminant_of t.1 t.2.1 t.2.2 := fun t ht => absurd ht (List.not_mem_nil)
  have b_is_positive : Binds K fd_is_positive P_is_positive [] := F_is_positive.bindsN fun _ _ _ _ _ _ us hl => match us, hl with | [_], _ => rfl
  have k_is_positive : ∀ t ∈ kw_is_positive, KwB K fd_is_positive P_is_positive t.1 t.2.1 t.2.2 := fun t ht => absurd ht (List.not_mem_nil)
  have b_is_whole_change : Binds K fd_is_whole_change P_is_whole_change [] := F_is_whole_change.bindsN fun _ _ _ _ _ _ us hl => match us, hl with | [_], _ => rfl
  have k_is_whole_change : ∀ t ∈ kw_is_whole_change, KwB K fd_is_whole_change P_is_whole_change t.1 t.2.1 t.2.2 := fun t ht => absurd ht (List.not_mem_nil)
  have b_check_forms : Binds K fd_check_forms P_check_forms [] := F_check_forms.bindsN fun _ _ _ _ _ _ us hl => match us, hl with | [_], _ => rfl
  have k_check_forms : ∀ t ∈ kw_check_forms, KwB K fd_check_forms P_check_forms t.1 t.2.1 t.2.2 := fun t ht => absurd ht (List.not_mem_nil)
  have b_lead : Binds K fd_lead P_lead [] := F_lead.bindsN fun _ _ _ _ _ _ us hl => match us, hl with | [_, _], _ => rfl
  have k_lead : ∀ t ∈ kw_lead, KwB K fd_lead P_lead t.1 t.2.1 t.2.2 := fun t ht => absurd ht (List.not_mem_nil)
  have b_reduction : Binds K fd_reduction P_reduction [] := F_reduction.bindsN fun _ _ _ _ _ _ us hl => match us, hl with | [_], _ => rfl
  have k_reduction : ∀ t ∈ kw_reduction, KwB K fd_reduction P_reduction t.1 t.2.1 t.2.2 := fun t ht => absurd ht (List.not_mem_nil)
  have b_led_form : Binds K fd_led_form P_led_form [] := F_led_form.bindsN fun _ _ _ _ _ _ us hl => match us, hl with | [_, _], _ => rfl
  have k_led_form : ∀ t ∈ kw_led_form, KwB K fd_led_form P_led_form t.1 t.2.1 t.2.2 := by
    intro t ht
    simp only [kw_led_form, List.mem_cons, List.not_mem_nil, or_false] at ht
    rcases ht with rfl
    · exact kwB F_led_form fun _ _ _ _ _ _ us ws h1 h2 => match us, ws, h1, h2 with | [], [_, _], _, _ => rfl
  have b_class_of : Binds K fd_class_of P_class_of [] := F_class_of.bindsN fun _ _ _ _ _ _ us hl => match us, hl with | [_], _ => rfl
  have k_class_of : ∀ t ∈ kw_class_of, KwB K fd_class_of P_class_of t.1 t.2.1 t.2.2 := by
    intro t ht
    simp only [kw_class_of, List.mem_cons, List.not_mem_nil, or_false] at ht
    rcases ht with rfl
    · exact kwB F_class_of fun _ _ _ _ _ _ us ws h1 h2 => match us, ws, h1, h2 with | [], [_], _, _ => rfl
  have b_reducing : Binds K fd_reducing P_reducing [] := F_reducing.bindsN fun _ _ _ _ _ _ us hl => match us, hl with | [_], _ => rfl
  have k_reducing : ∀ t ∈ kw_reducing, KwB K fd_reducing P_reducing t.1 t.2.1 t.2.2 := by
    intro t ht
    simp only [kw_reducing, List.mem_cons, List.not_mem_nil, or_false] at ht
    rcases ht with rfl
    · exact kwB F_reducing fun _ _ _ _ _ _ us ws h1 h2 => match us, ws, h1, h2 with | [], [_], _, _ => rfl
  have b__law_deck : Binds K fd__law_deck P__law_deck [] := F__law_deck.bindsN fun _ _ _ _ _ _ us hl => match us, hl with | [_], _ => rfl
  have k__law_deck : ∀ t ∈ kw__law_deck, KwB K fd__law_deck P__law_deck t.1 t.2.1 t.2.2 := fun t ht => absurd ht (List.not_mem_nil)
  have b__law_draw : Binds K fd__law_draw P__law_draw [] := F__law_draw.bindsN fun _ _ _ _ _ _ us hl => match us, hl with | [_, _], _ => rfl
  have k__law_draw : ∀ t ∈ kw__law_draw, KwB K fd__law_draw P__law_draw t.1 t.2.1 t.2.2 := fun t ht => absurd ht (List.not_mem_nil)
  have b__law_pick : Binds K fd__law_pick P__law_pick [] := F__law_pick.bindsN fun _ _ _ _ _ _ us hl => match us, hl with | [_, _], _ => rfl
  have k__law_pick : ∀ t ∈ kw__law_pick, KwB K fd__law_pick P__law_pick t.1 t.2.1 t.2.2 := fun t ht => absurd ht (List.not_mem_nil)
  have b__law_common : Binds K fd__law_common P__law_common [] := F__law_common.bindsN fun _ _ _ _ _ _ us hl => match us, hl with | [_], _ => rfl
  have k__law_common : ∀ t ∈ kw__law_common, KwB K fd__law_common P__law_common t.1 t.2.1 t.2.2 := fun t ht => absurd ht (List.not_mem_nil)
  have b__law_are_integers : Binds K fd__law_are_integers P__law_are_integers [] := F__law_are_integers.bindsN fun _ _ _ _ _ _ us hl => match us, hl with | [_, _], _ => rfl
  have k__law_are_integers : ∀ t ∈ kw__law_are_integers, KwB K fd__law_are_integers P__law_are_integers t.1 t.2.1 t.2.2 := fun t ht => absurd ht (List.not_mem_nil)
  have b__law_is_positive : Binds K fd__law_is_positive P__law_is_positive [] := F__law_is_positive.bindsN fun _ _ _ _ _ _ us hl => match us, hl with | [_], _ => rfl
  have k__law_is_positive : ∀ t ∈ kw__law_is_positive, KwB K fd__law_is_positive P__law_is_positive t.1 t.2.1 t.2.2 := fun t ht => absurd ht (List.not_mem_nil)
  have b__law_is_whole : Binds K fd__law_is_whole P__law_is_whole [] := F__law_is_whole.bindsN fun _ _ _ _ _ _ us hl => match us, hl with | [_], _ => rfl
  have k__law_is_whole : ∀ t ∈ kw__law_is_whole, KwB K fd__law_is_whole P__law_is_whole t.1 t.2.1 t.2.2 := fun t ht => absurd ht (List.not_mem_nil)
  have b__law_led : Binds K fd__law_led P__law_led [] := F__law_led.bindsN fun _ _ _ _ _ _ us hl => match us, hl with | [_, _], _ => rfl
  have k__law_led : ∀ t ∈ kw__law_led, KwB K fd__law_led P__law_led t.1 t.2.1 t.2.2 := fun t ht => absurd ht (List.not_mem_nil)
  have b__law_product : Binds K fd__law_product P__law_product [] := F__law_product.bindsN fun _ _ _ _ _ _ us hl => match us, hl with | [_, _], _ => rfl
  have k__law_product : ∀ t ∈ kw__law_product, KwB K fd__law_product P__law_product t.1 t.2.1 t.2.2 := fun t ht => absurd ht (List.not_mem_nil)
  have b__law_reducing : Binds K fd__law_reducing P__law_reducing [] := F__law_reducing.bindsN fun _ _ _ _ _ _ us hl => match us, hl with | [_], _ => rfl
  have k__law_reducing : ∀ t ∈ kw__law_reducing, KwB K fd__law_reducing P__law_reducing t.1 t.2.1 t.2.2 := fun t ht => absurd ht (List.not_mem_nil)
  have b__law_classes : Binds K fd__law_classes P__law_classes [] := F__law_classes.bindsN fun _ _ _ _ _ _ us hl => match us, hl with | [_], _ => rfl
  have k__law_classes : ∀ t ∈ kw__law_classes, KwB K fd__law_classes P__law_classes t.1 t.2.1 t.2.2 := fun t ht => absurd ht (List.not_mem_nil)
  have b__law_discriminant : Binds K fd__law_discriminant P__law_discriminant [] := F__law_discriminant.bindsN fun _ _ _ _ _ _ us hl => match us, hl with | [_, _], _ => rfl
  have k__law_discriminant : ∀ t ∈ kw__law_discriminant, KwB K fd__law_discriminant P__law_discriminant t.1 t.2.1 t.2.2 := fun t ht => absurd ht (List.not_mem_nil)
  have b__law_change : Binds K fd__law_change P__law_change [] := F__law_change.bindsN fun _ _ _ _ _ _ us hl => match us, hl with | [_, _], _ => rfl
  have k__law_change : ∀ t ∈ kw__law_change, KwB K fd__law_change P__law_change t.1 t.2.1 t.2.2 := fun t ht => absurd ht (List.not_mem_nil)
  have b__law_form : Binds K fd__law_form P__law_form [] := F__law_form.bindsN fun _ _ _ _ _ _ us hl => match us, hl with | [_, _, _], _ => rfl
  have k__law_form : ∀ t ∈ kw__law_form, KwB K fd__law_form P__law_form t.1 t.2.1 t.2.2 := fun t ht => absurd ht (List.not_mem_nil)
  have b__law_wide : Binds K fd__law_wide P__law_wide [] := F__law_wide.bindsN fun _ _ _ _ _ _ us hl => match us, hl with | [_], _ => rfl
  have k__law_wide : ∀ t ∈ kw__law_wide, KwB K fd__law_wide P__law_wide t.1 t.2.1 t.2.2 := fun t ht => absurd ht (List.not_mem_nil)
  have b__law_bent : Binds K fd__law_bent P__law_bent [] := F__law_bent.bindsN fun _ _ _ _ _ _ us hl => match us, hl with | [_, _], _ => rfl
  have k__law_bent : ∀ t ∈ kw__law_bent, KwB K fd__law_bent P__law_bent t.1 t.2.1 t.2.2 := fun t ht => absurd ht (List.not_mem_nil)
  have b__law_value : Binds K fd__law_value P__law_value [] := F__law_value.bindsN fun _ _ _ _ _ _ us hl => match us, hl with | [_, _, _], _ => rfl
  have k__law_value : ∀ t ∈ kw__law_value, KwB K fd__law_value P__law_value t.1 t.2.1 t.2.2 := fun t ht => absurd ht (List.not_mem_nil)
  have b__law_told : Binds K fd__law_told P__law_told [] := F__law_told.bindsN fun _ _ _ _ _ _ us hl => match us, hl with | [_], _ => rfl
  have k__law_told : ∀ t ∈ kw__law_told, KwB K fd__law_told P__law_told t.1 t.2.1 t.2.2 := fun t ht => absurd ht (List.not_mem_nil)
  have b__law_is_right : Binds K fd__law_is_right P__law_is_right [] := F__law_is_right.bindsN fun _ _ _ _ _ _ us hl => match us, hl with | [_, _, _], _ => rfl
  have k__law_is_right : ∀ t ∈ kw__law_is_right, KwB K fd__law_is_right P__law_is_right t.1 t.2.1 t.2.2 := fun t ht => absurd ht (List.not_mem_nil)
  have bl := FunD.bindsA (ps := ["script"]) F_law fun _ _ _ _ _ _ us hl => match us, hl with | [_], _ => rfl
  refine ⟨fd_law, fun s v => bl s [v] rfl, fun base _ _ TB => ?_⟩
  have mx_RulerError : mg "RulerError" = some (.ref (He.ga K "RulerError")) := He.glo_ok X G (c.fact 45 (f := .glo "RulerError") rfl)
  have mx_BadChange : mg "BadChange" = some (.ref (He.ga K "BadChange")) := He.glo_ok X G (c.fact 46 (f := .glo "BadChange") rfl)
  have mx_BadForm : mg "BadForm" = some (.ref (He.ga K "BadForm")) := He.glo_ok X G (c.fact 47 (f := .glo "BadForm") rfl)
  have mx_OtherForms : mg "OtherForms" = some (.ref (He.ga K "OtherForms")) := He.glo_ok X G (c.fact 48 (f := .glo "OtherForms") rfl)
  have hex : hExB K = true := cx.more
  unfold hExB at hex
  obtain ⟨hsys, hex⟩ := He.ba hex
  have sy : SysOk K := sysB_ok hsys
  obtain ⟨hex, hlt_law⟩ := He.ba hex
  have LO_law : LamOk K base mg fd_law.code "law" := lamOk_of F_law TB cx.tabs hlt_law
  obtain ⟨hex, hcn_NO_CHANGE⟩ := He.ba hex
  have k_NO_CHANGE : CoK K mg "NO_CHANGE" c_NO_CHANGE := cgB_ok X G hcn_NO_CHANGE
  obtain ⟨hex, hex3⟩ := He.ba hex
  obtain ⟨hex1, hex2⟩ := He.ba hex
  have xc : XcAll K mg XN FS := xpB_ok hex1 (by
    intro x hx
    simp only [XN, List.mem_cons, List.not_mem_nil, or_false] at hx
    rcases hx with rfl | rfl | rfl | rfl
    · exact mx_RulerError
    · exact mx_BadChange
    · exact mx_BadForm
    · exact mx_OtherForms)
  have xf_BadChange : XcF K (He.ga K "BadChange") := by
    obtain ⟨C, e1, e2, _⟩ := xc.at_ "BadChange" (by decide)
    rw [mx_BadChange] at e1
    cases e1
    exact e2
  obtain ⟨fdi_BadChange, Fi_BadChange⟩ := c.def_ 33 (d := ⟨("BadChange", some "__init__"), "__init__", "BadChange.__init__", defArgs i_BadChange, defBody i_BadChange, defScope i_BadChange, [], []⟩) rfl
  have r_BadChange : XR1 K mg "BadChange" "thing" := ⟨_, _, mx_BadChange, xf_BadChange, xiB_ok (List.all_eq_true.mp hex3 ("BadChange", "thing") (by simp)), ⟨_, _, _, _, _, _, _, fdi_BadChange, Fi_BadChange⟩, fok_thing⟩
  have xf_BadForm : XcF K (He.ga K "BadForm") := by
    obtain ⟨C, e1, e2, _⟩ := xc.at_ "BadForm" (by decide)
    rw [mx_BadForm] at e1
    cases e1
    exact e2
  obtain ⟨fdi_BadForm, Fi_BadForm⟩ := c.def_ 34 (d := ⟨("BadForm", some "__init__"), "__init__", "BadForm.__init__", defArgs i_BadForm, defBody i_BadForm, defScope i_BadForm, [], []⟩) rfl
  have r_BadForm : XR1 K mg "BadForm" "thing" := ⟨_, _, mx_BadForm, xf_BadForm, xiB_ok (List.all_eq_true.mp hex3 ("BadForm", "thing") (by simp)), ⟨_, _, _, _, _, _, _, fdi_BadForm, Fi_BadForm⟩, fok_thing⟩
  have xf_OtherForms : XcF K (He.ga K "OtherForms") := by
    obtain ⟨C, e1, e2, _⟩ := xc.at_ "OtherForms" (by decide)
    rw [mx_OtherForms] at e1
    cases e1
    exact e2
  have r_OtherForms : XR0 K mg "OtherForms" := ⟨_, mx_OtherForms, xf_OtherForms, List.all_eq_true.mp hex2 "OtherForms" (by simp)⟩
  have C_is_integer : Cal P w K mg base "is_integer" P_is_integer lv_is_integer kw_is_integer S_is_integer := ⟨_, fd_is_integer, dl_def F_is_integer sc_is_integer ar_is_integer (w_is_integer z sy ) (fun ds P PX h => r_is_integer h), m_is_integer, F_is_integer.kp, b_is_integer, k_is_integer⟩
  have C_are_integers : Cal P w K mg base "are_integers" P_are_integers lv_are_integers kw_are_integers S_are_integers := ⟨_, fd_are_integers, dl_def F_are_integers sc_are_integers ar_are_integers (w_are_integers z sy C_is_integer) (fun ds P PX h => r_are_integers h), m_are_integers, F_are_integers.kp, b_are_integers, k_are_integers⟩
  have C_common_divisor : Cal P w K mg base "common_divisor" P_common_divisor lv_common_divisor kw_common_divisor S_common_divisor := ⟨_, fd_common_divisor, dl_def F_common_divisor sc_common_divisor ar_common_divisor (w_common_divisor z sy ) (fun ds P PX h => r_common_divisor h), m_common_divisor, F_common_divisor.kp, b_common_divisor, k_common_divisor⟩
  have C_product : Cal P w K mg base "product" P_product lv_product kw_product S_product := ⟨_, fd_product, dl_def F_product sc_product ar_product (w_product z sy ) (fun ds P PX h => r_product h), m_product, F_product.kp, b_product, k_product⟩
  have C_discriminant_of : Cal P w K mg base "discriminant_of" P_discriminant_of lv_discriminant_of kw_discriminant_of S_discriminant_of := ⟨_, fd_discriminant_of, dl_def F_discriminant_of sc_discriminant_of ar_discriminant_of (w_discriminant_of z sy ) (fun ds P PX h => r_discriminant_of h), m_discriminant_of, F_discriminant_of.kp, b_discriminant_of, k_discriminant_of⟩
  have C_is_positive : Cal P w K mg base "is_positive" P_is_positive lv_is_positive kw_is_positive S_is_positive := ⟨_, fd_is_positive, dl_def F_is_positive sc_is_positive ar_is_positive (w_is_positive z sy C_are_integers C_discriminant_of C_common_divisor) (fun ds P PX h => r_is_positive h), m_is_positive, F_is_positive.kp, b_is_positive, k_is_positive⟩
  have C_is_whole_change : Cal P w K mg base "is_whole_change" P_is_whole_change lv_is_whole_change kw_is_whole_change S_is_whole_change := ⟨_, fd_is_whole_change, dl_def F_is_whole_change sc_is_whole_change ar_is_whole_change (w_is_whole_change z sy C_are_integers) (fun ds P PX h => r_is_whole_change h), m_is_whole_change, F_is_whole_change.kp, b_is_whole_change, k_is_whole_change⟩
  have C_check_forms : Cal P w K mg base "check_forms" P_check_forms lv_check_forms kw_check_forms S_check_forms := ⟨_, fd_check_forms, dl_defX F_check_forms sc_check_forms ar_check_forms (w_check_forms z sy r_BadForm r_OtherForms C_is_positive C_discriminant_of) (fun ds P PX h => r_check_forms h), m_check_forms, F_check_forms.kp, b_check_forms, k_check_forms⟩
  have C_lead : Cal P w K mg base "lead" P_lead lv_lead kw_lead S_lead := ⟨_, fd_lead, dl_def F_lead sc_lead ar_lead (w_lead z sy ) (fun ds P PX h => r_lead h), m_lead, F_lead.kp, b_lead, k_lead⟩
  have C_reduction : Cal P w K mg base "reduction" P_reduction lv_reduction kw_reduction S_reduction := ⟨_, fd_reduction, dl_def F_reduction sc_reduction ar_reduction (w_reduction z sy k_NO_CHANGE C_lead C_product) (fun ds P PX h => r_reduction h), m_reduction, F_reduction.kp, b_reduction, k_reduction⟩
  have C_led_form : Cal P w K mg base "led_form" P_led_form lv_led_form kw_led_form S_led_form := ⟨_, fd_led_form, dl_defX F_led_form sc_led_form ar_led_form (w_led_form z sy r_BadChange C_check_forms C_is_whole_change C_lead) (fun ds P PX h => r_led_form h), m_led_form, F_led_form.kp, b_led_form, k_led_form⟩
  have C_class_of : Cal P w K mg base "class_of" P_class_of lv_class_of kw_class_of S_class_of := ⟨_, fd_class_of, dl_defX F_class_of sc_class_of ar_class_of (w_class_of z sy C_check_forms C_reduction) (fun ds P PX h => r_class_of h), m_class_of, F_class_of.kp, b_class_of, k_class_of⟩
  have C_reducing : Cal P w K mg base "reducing" P_reducing lv_reducing kw_reducing S_reducing := ⟨_, fd_reducing, dl_defX F_reducing sc_reducing ar_reducing (w_reducing z sy C_check_forms C_reduction) (fun ds P PX h => r_reducing h), m_reducing, F_reducing.kp, b_reducing, k_reducing⟩
  have C__law_deck : Cal P w K mg base "_law_deck" P__law_deck lv__law_deck kw__law_deck (S_deck 0) := ⟨_, fd__law_deck, dl_def F__law_deck sc__law_deck ar__law_deck (w__law_deck z sy ) (fun ds P PX h => r__law_deck h), m__law_deck, F__law_deck.kp, b__law_deck, k__law_deck⟩
  have C__law_draw : Cal P w K mg base "_law_draw" P__law_draw lv__law_draw kw__law_draw S__law_draw := ⟨_, fd__law_draw, w__law_draw z F__law_draw, m__law_draw, F__law_draw.kp, b__law_draw, k__law_draw⟩
  have C__law_pick : Cal P w K mg base "_law_pick" P__law_pick lv__law_pick kw__law_pick S__law_pick := ⟨_, fd__law_pick, dl_def F__law_pick sc__law_pick ar__law_pick (w__law_pick z sy C__law_draw) (fun ds P PX h => r__law_pick h), m__law_pick, F__law_pick.kp, b__law_pick, k__law_pick⟩
  have C__law_common : Cal P w K mg base "_law_common" P__law_common lv__law_common kw__law_common S__law_common := ⟨_, fd__law_common, dl_def F__law_common sc__law_common ar__law_common (w__law_common z sy ) (fun ds P PX h => r__law_common h), m__law_common, F__law_common.kp, b__law_common, k__law_common⟩
  have C__law_are_integers : Cal P w K mg base "_law_are_integers" P__law_are_integers lv__law_are_integers kw__law_are_integers S__law_are_integers := ⟨_, fd__law_are_integers, dl_def F__law_are_integers sc__law_are_integers ar__law_are_integers (w__law_are_integers z sy ) (fun ds P PX h => r__law_are_integers h), m__law_are_integers, F__law_are_integers.kp, b__law_are_integers, k__law_are_integers⟩
  have C__law_is_positive : Cal P w K mg base "_law_is_positive" P__law_is_positive lv__law_is_positive kw__law_is_positive S__law_is_positive := ⟨_, fd__law_is_positive, dl_def F__law_is_positive sc__law_is_positive ar__law_is_positive (w__law_is_positive z sy C__law_are_integers C__law_common) (fun ds P PX h => r__law_is_positive h), m__law_is_positive, F__law_is_positive.kp, b__law_is_positive, k__law_is_positive⟩
  have C__law_is_whole : Cal P w K mg base "_law_is_whole" P__law_is_whole lv__law_is_whole kw__law_is_whole S__law_is_whole := ⟨_, fd__law_is_whole, dl_def F__law_is_whole sc__law_is_whole ar__law_is_whole (w__law_is_whole z sy C__law_are_integers) (fun ds P PX h => r__law_is_whole h), m__law_is_whole, F__law_is_whole.kp, b__law_is_whole, k__law_is_whole⟩
  have C__law_led : Cal P w K mg base "_law_led" P__law_led lv__law_led kw__law_led S__law_led := ⟨_, fd__law_led, dl_def F__law_led sc__law_led ar__law_led (w__law_led z sy ) (fun ds P PX h => r__law_led h), m__law_led, F__law_led.kp, b__law_led, k__law_led⟩
  have C__law_product : Cal P w K mg base "_law_product" P__law_product lv__law_product kw__law_product S__law_product := ⟨_, fd__law_product, dl_def F__law_product sc__law_product ar__law_product (w__law_product z sy ) (fun ds P PX h => r__law_product h), m__law_product, F__law_product.kp, b__law_product, k__law_product⟩
  have C__law_reducing : Cal P w K mg base "_law_reducing" P__law_reducing lv__law_reducing kw__law_reducing S__law_reducing := ⟨_, fd__law_reducing, dl_def F__law_reducing sc__law_reducing ar__law_reducing (w__law_reducing z sy C__law_led C__law_product) (fun ds P PX h => r__law_reducing h), m__law_reducing, F__law_reducing.kp, b__law_reducing, k__law_reducing⟩
  have C__law_classes : Cal P w K mg base "_law_classes" P__law_classes lv__law_classes kw__law_classes S__law_classes := ⟨_, fd__law_classes, dl_def F__law_classes sc__law_classes ar__law_classes (w__law_classes z sy C__law_common) (fun ds P PX h => r__law_classes h), m__law_classes, F__law_classes.kp, b__law_classes, k__law_classes⟩
  have C__law_discriminant : Cal P w K mg base "_law_discriminant" P__law_discriminant lv__law_discriminant kw__law_discriminant S__law_discriminant := ⟨_, fd__law_discriminant, dl_def F__law_discriminant sc__law_discriminant ar__law_discriminant (w__law_discriminant z sy C__law_draw C__law_pick) (fun ds P PX h => r__law_discriminant h), m__law_discriminant, F__law_discriminant.kp, b__law_discriminant, k__law_discriminant⟩
  have C__law_change : Cal P w K mg base "_law_change" P__law_change lv__law_change kw__law_change S__law_change := ⟨_, fd__law_change, dl_def F__law_change sc__law_change ar__law_change (w__law_change z sy C__law_draw C__law_product C__law_pick) (fun ds P PX h => r__law_change h), m__law_change, F__law_change.kp, b__law_change, k__law_change⟩
  have C__law_form : Cal P w K mg base "_law_form" P__law_form lv__law_form kw__law_form S__law_form := ⟨_, fd__law_form, dl_def F__law_form sc__law_form ar__law_form (w__law_form z sy C__law_led C__law_pick C__law_classes C__law_change) (fun ds P PX h => r__law_form h), m__law_form, F__law_form.kp, b__law_form, k__law_form⟩
  have C__law_wide : Cal P w K mg base "_law_wide" P__law_wide lv__law_wide kw__law_wide S__law_wide := ⟨_, fd__law_wide, dl_def F__law_wide sc__law_wide ar__law_wide (w__law_wide z sy C__law_draw C__law_pick C__law_is_positive C__law_led C__law_change) (fun ds P PX h => r__law_wide h), m__law_wide, F__law_wide.kp, b__law_wide, k__law_wide⟩
  have C__law_bent : Cal P w K mg base "_law_bent" P__law_bent lv__law_bent kw__law_bent S__law_bent := ⟨_, fd__law_bent, (dl_def F__law_bent sc__law_bent (ar__law_bent 4) (w__law_bent (lr := 5) (lq := 5) (Nat.le_refl _) (by decide) (SbP 3) z sy C__law_draw ⟨_, fd__law_bent, (dl_def F__law_bent sc__law_bent (ar__law_bent 3) (w__law_bent (lr := 4) (lq := 4) (Nat.le_refl _) (by decide) (SbP 2) z sy C__law_draw ⟨_, fd__law_bent, (dl_def F__law_bent sc__law_bent (ar__law_bent 2) (w__law_bent (lr := 3) (lq := 3) (Nat.le_refl _) (by decide) (SbP 1) z sy C__law_draw ⟨_, fd__law_bent, (dl_def F__law_bent sc__law_bent (ar__law_bent 1) (w__law_bent (lr := 2) (lq := 2) (Nat.le_refl _) (by decide) (SbP 0) z sy C__law_draw ⟨_, fd__law_bent, fn_false, m__law_bent, F__law_bent.kp, b__law_bent, k__law_bent⟩ C__law_pick) (fun ds P PX h => r__law_bent 0 h)), m__law_bent, F__law_bent.kp, b__law_bent, k__law_bent⟩ C__law_pick) (fun ds P PX h => r__law_bent 1 h)), m__law_bent, F__law_bent.kp, b__law_bent, k__law_bent⟩ C__law_pick) (fun ds P PX h => r__law_bent 2 h)), m__law_bent, F__law_bent.kp, b__law_bent, k__law_bent⟩ C__law_pick) (fun ds P PX h => r__law_bent 3 h)), m__law_bent, F__law_bent.kp, b__law_bent, k__law_bent⟩
  have C__law_value : Cal P w K mg base "_law_value" P__law_value lv__law_value kw__law_value S__law_value := ⟨_, fd__law_value, dl_def F__law_value sc__law_value ar__law_value (w__law_value z sy ) (fun ds P PX h => r__law_value h), m__law_value, F__law_value.kp, b__law_value, k__law_value⟩
  have C__law_told : Tol P w K mg base "_law_told" lk__law_told T1__law_told T2__law_told := ⟨_, fd__law_told, _, _, _, N__law_told, "call", g__law_told, F__law_told, m__law_told, F__law_told.kp, b__law_told, sc__law_told, rfl, Or.inl rfl, ⟨by decide, by decide⟩, w__law_told z sy xc, r__law_told⟩
  have C__law_is_right : Cal P w K mg base "_law_is_right" P__law_is_right lv__law_is_right kw__law_is_right S__law_is_right := ⟨_, fd__law_is_right, dl_def F__law_is_right sc__law_is_right ar__law_is_right (w__law_is_right z sy C__law_led C__law_reducing C_led_form C__law_is_positive C__law_value C__law_product C_class_of C_reducing C__law_is_whole) (fun ds P PX h => r__law_is_right h), m__law_is_right, F__law_is_right.kp, b__law_is_right, k__law_is_right⟩
  exact law_defL F_law sc_law (by decide) (by decide) (fun cdv A outer s H E hc gd hr => w_law z sy C__law_deck C__law_discriminant C__law_draw C__law_form C__law_change C__law_led C__law_is_right C__law_wide C__law_bent C__law_is_positive C__law_told C_led_form C_class_of C_reducing C__law_is_whole C__law_pick cdv A outer s H E gd hr (hc ▸ LO_law)) r_law
end K17
open PySem PySem.W PySem.Calls PyProof.Rows
set_option maxRecDepth 100000 in
set_option maxHeartbeats 0 in
theorem PySem.Challenge.cw_rulertrees_k17_forms_led_and_reduced_holds : PySem.Challenge.rw_rulertrees_k17_forms_led_and_reduced.Holds := by
  w_on; o_law
  refine HandSHeadRun.head_any (r := OpenLaw.row PySem.Challenge.rw_rulertrees_k17_forms_led_and_reduced) (q := view (OpenLaw.row PySem.Challenge.rw_rulertrees_k17_forms_led_and_reduced).prog [42]) (H := K17.hk) (ob := K17.ob) (M := 8000) (loose := K17.names) (d := HandSHeadRun.topDef (OpenLaw.row PySem.Challenge.rw_rulertrees_k17_forms_led_and_reduced).prog 42) (kwd := []) K17.ob_eq
    (by kernel_rfl) (fun s => by kernel_rfl) K17.run (by kernel_rfl) (by kernel_rfl) (by kernel_rfl) (by rfl) (by first | assumption | decide +kernel) (by decide +kernel) ⟨rfl, rfl, rfl, rfl, rfl, by decide +kernel⟩ ?hw ?hc
  case hw => w_witness2
  case hc =>
    refine DL.walkG (l := PySem.Challenge.rw_rulertrees_k17_forms_led_and_reduced) (n := 8) (x := "script") rfl (by kernel_rfl) ⟨rfl, by decide, by decide⟩ ?F
    intro w mg fa h Y G hmg0
    obtain ⟨K, KX, c⟩ := Y
    have hmg : mg ("law" : PySem.Str) = some (.ref fa) := by
      have e : (HandSHeadRun.topDef (OpenLaw.row PySem.Challenge.rw_rulertrees_k17_forms_led_and_reduced).prog 42).name = ("law" : PySem.Str) := by kernel_rfl
      rw [← e]
      exact hmg0
    obtain ⟨fd, hb, hF⟩ := K17.facts (P := (PySem.Challenge.rw_rulertrees_k17_forms_led_and_reduced).prog) (w := w) KX G hmg c
    exact ⟨K, fd, KX, c.tabs, hb, hF⟩
