import PyProof.Rows.All
import Wide.All
import OpenK.AllK
import Wide.FinOn
import KE.KStateDown
import HandS.ForMost
import HandS.More
import HandS.Defaults
import HandS.IsInst
import HandS.Wide
import HandS.TupAny
import HandS.Style
import HandS.Flow
import HandS.TupLe
import HandS.Exc
import HandS.TryOnly
import HandS.TryMany
import HandS.ExcOwn
import HandS.ExcIs
import HandS.RaiseMore
import HandS.Walk
import HandS.Deep
import HandS.WordsExc
import HandS.Head0
import HandS.Head1
import HandS.Head2
import HandS.HeadEnd
import HandS.HeadHook1
import HandS.HeadHook2
import KE.KExcInit
import KE.KExcIs
import HandS.Small
import HandS.HeadHook3
import HandS.HeadHook4
import KE.GoesEnum
import HandS.Zip
import HandS.TupMul
import PySem.Challenge.RW_rulertrees_k03_changes_move_places
set_option Elab.async false
set_option linter.all false
set_option maxRecDepth 100000
/-! The data layer: what a Python def does, told over plain data trees. -/
namespace DL
open PySem PySem.Spec L2
inductive D where
  | non | bl (b : Bool) | int (i : Int) | str (s : Str)
  | tup (l : List D) | lst (l : List D) | dic (l : List (Key × D))
  | raw (v : V) | deck (n : Nat) | scr (ns : List Int)
/-- the deck: its dict, its list, its kind -/
structure DkP where
  d : Addr
  l : Addr
  n : Nat
abbrev Dk := Option DkP
mutual
def At (K : PySem.W.Frag) (F : Hp) (k : Dk) : D → V → Prop
  | .non, v => v = .non
  | .bl b, v => v = .bl b
  | .int i, v => v = .int i
  | .str s, v => v = .str s
  | .tup l, v => ∃ a vs, v = .ref a ∧ SqT K F a vs ∧ Ats K F k l vs
  | .lst l, v => ∃ a vs, v = .ref a ∧ F a = some (.lst vs) ∧ Ats K F k l vs
  | .dic l, v => ∃ a vs, v = .ref a ∧ F a = some (.dK vs) ∧ Atk K F k l vs
  | .raw u, v => v = u
  | .deck n, v => ∃ p, k = some p ∧ p.3 = n ∧ v = .ref p.1
  | .scr ns, v => ∃ a, v = .ref a ∧ SqL K F a (ns.map V.int)
def Ats (K : PySem.W.Frag) (F : Hp) (k : Dk) : List D → List V → Prop
  | [], vs => vs = []
  | d :: ds, vs => ∃ v r, vs = v :: r ∧ At K F k d v ∧ Ats K F k ds r
def Atk (K : PySem.W.Frag) (F : Hp) (k : Dk) : List (Key × D) → List (Key × V) → Prop
  | [], vs => vs = []
  | (q, d) :: ds, vs => ∃ v r, vs = (q, v) :: r ∧ At K F k d v ∧ Atk K F k ds r
end
/-- the frozen part and the deck only grow -/
def Grow (F F' : Hp) (k k' : Dk) : Prop := (∀ a o, F a = some o → F' a = some o) ∧ ∀ p, k = some p → k' = some p
theorem Grow.refl (F : Hp) (k : Dk) : Grow F F k k := ⟨fun _ _ e => e, fun _ e => e⟩
theorem Grow.trans {F F1 F2 : Hp} {k k1 k2 : Dk} (a : Grow F F1 k k1) (b : Grow F1 F2 k1 k2) : Grow F F2 k k2 := ⟨fun c o e => b.1 c o (a.1 c o e), fun p e => b.2 p (a.2 p e)⟩
theorem rd_grow {F F' : Hp} (g : ∀ a o, F a = some o → F' a = some o) {a : Addr} {u : HO} (h : Rd F a u) : Rd F' a u := by
  rcases h with h | ⟨o, h⟩
  · exact .inl (g _ _ h)
  · exact .inr ⟨o, g _ _ h⟩
theorem sqT_grow {K : PySem.W.Frag} {F F' : Hp} (g : ∀ a o, F a = some o → F' a = some o) {a : Addr} {vs : List V} (h : SqT K F a vs) : SqT K F' a vs := by
  rcases h with h | h
  · exact .inl (rd_grow g h)
  · exact .inr h
mutual
theorem At.grow {K : PySem.W.Frag} {F F' : Hp} {k k' : Dk} (g : Grow F F' k k') : ∀ (d : D) (v : V), At K F k d v → At K F' k' d v
  | .non, v, h => by simpa only [At] using h
  | .bl _, v, h => by simpa only [At] using h
  | .int _, v, h => by simpa only [At] using h
  | .str _, v, h => by simpa only [At] using h
  | .raw _, v, h => by simpa only [At] using h
  | .tup l, v, h => by
    simp only [At] at h ⊢
    obtain ⟨a, vs, e, q, r⟩ := h
    exact ⟨a, vs, e, sqT_grow g.1 q, Ats.grow g l vs r⟩
  | .lst l, v, h => by
    simp only [At] at h ⊢
    obtain ⟨a, vs, e, q, r⟩ := h
    exact ⟨a, vs, e, g.1 _ _ q, Ats.grow g l vs r⟩
  | .dic l, v, h => by
    simp only [At] at h ⊢
    obtain ⟨a, vs, e, q, r⟩ := h
    exact ⟨a, vs, e, g.1 _ _ q, Atk.grow g l vs r⟩
  | .deck _, v, h => by
    simp only [At] at h ⊢
    obtain ⟨p, e, r⟩ := h
    exact ⟨p, g.2 _ e, r⟩
  | .scr ns, v, h => by
    simp only [At] at h ⊢
    obtain ⟨a, e, r⟩ := h
    refine ⟨a, e, ?_⟩
    rcases r with r | r
    · exact .inl (rd_grow g.1 r)
    · exact .inr r
theorem Ats.grow {K : PySem.W.Frag} {F F' : Hp} {k k' : Dk} (g : Grow F F' k k') : ∀ (ds : List D) (vs : List V), Ats K F k ds vs → Ats K F' k' ds vs
  | [], vs, h => by simpa only [Ats] using h
  | d :: ds, vs, h => by
    simp only [Ats] at h ⊢
    obtain ⟨v, r, e, q, t⟩ := h
    exact ⟨v, r, e, At.grow g d v q, Ats.grow g ds r t⟩
theorem Atk.grow {K : PySem.W.Frag} {F F' : Hp} {k k' : Dk} (g : Grow F F' k k') : ∀ (ds : List (Key × D)) (vs : List (Key × V)), Atk K F k ds vs → Atk K F' k' ds vs
  | [], vs, h => by simpa only [Atk] using h
  | (q, d) :: ds, vs, h => by
    simp only [Atk] at h ⊢
    obtain ⟨v, r, e, q, t⟩ := h
    exact ⟨v, r, e, At.grow g d v q, Atk.grow g ds r t⟩
end
theorem Ats.length {K : PySem.W.Frag} {F : Hp} {k : Dk} : ∀ {ds : List D} {vs : List V}, Ats K F k ds vs → ds.length = vs.length
  | [], vs, h => by simp only [Ats] at h; subst h; rfl
  | d :: ds, vs, h => by
    simp only [Ats] at h
    obtain ⟨v, r, rfl, _, t⟩ := h
    simp only [List.length_cons, Ats.length t]
theorem Ats.append {K : PySem.W.Frag} {F : Hp} {k : Dk} : ∀ {ds es : List D} {vs us : List V}, Ats K F k ds vs → Ats K F k es us → Ats K F k (ds ++ es) (vs ++ us)
  | [], es, vs, us, h, h' => by simp only [Ats] at h; subst h; exact h'
  | d :: ds, es, vs, us, h, h' => by
    simp only [Ats] at h
    obtain ⟨v, r, rfl, q, t⟩ := h
    show Ats K F k (d :: (ds ++ es)) (v :: (r ++ us))
    simp only [Ats]
    exact ⟨_, _, rfl, q, Ats.append t h'⟩
theorem Ats.cons {K : PySem.W.Frag} {F : Hp} {k : Dk} {d : D} {ds : List D} {v : V} {vs : List V} (a : At K F k d v) (b : Ats K F k ds vs) : Ats K F k (d :: ds) (v :: vs) := by
  simp only [Ats]
  exact ⟨_, _, rfl, a, b⟩
theorem Ats.nil {K : PySem.W.Frag} {F : Hp} {k : Dk} : Ats K F k [] [] := by simp only [Ats]
theorem Ats.get {K : PySem.W.Frag} {F : Hp} {k : Dk} : ∀ {ds : List D} {vs : List V}, Ats K F k ds vs → ∀ (i : Nat) (d : D), ds[i]? = some d → ∃ v, vs[i]? = some v ∧ At K F k d v
  | [], vs, h, i, d, e => by simp at e
  | c :: ds, vs, h, i, d, e => by
    simp only [Ats] at h
    obtain ⟨v, r, rfl, q, t⟩ := h
    cases i with
    | zero => simp only [List.getElem?_cons_zero, Option.some.injEq] at e; subst e; exact ⟨v, rfl, q⟩
    | succ j => simp only [List.getElem?_cons_succ] at e ⊢; exact Ats.get t j d e
theorem Ats.get' {K : PySem.W.Frag} {F : Hp} {k : Dk} : ∀ {ds : List D} {vs : List V}, Ats K F k ds vs → ∀ (i : Nat) (v : V), vs[i]? = some v → ∃ d, ds[i]? = some d ∧ At K F k d v
  | [], vs, h, i, v, e => by simp only [Ats] at h; subst h; simp at e
  | c :: ds, vs, h, i, u, e => by
    simp only [Ats] at h
    obtain ⟨v, r, rfl, q, t⟩ := h
    cases i with
    | zero => simp only [List.getElem?_cons_zero, Option.some.injEq] at e; subst e; exact ⟨c, rfl, q⟩
    | succ j => simp only [List.getElem?_cons_succ] at e ⊢; exact Ats.get' t j u e
theorem Ats.take {K : PySem.W.Frag} {F : Hp} {k : Dk} : ∀ {ds : List D} {vs : List V} (n : Nat), Ats K F k ds vs → Ats K F k (ds.take n) (vs.take n)
  | _, _, 0, _ => by simp only [List.take_zero]; exact .nil
  | [], vs, n + 1, h => by simp only [Ats] at h; subst h; exact .nil
  | d :: ds, vs, n + 1, h => by
    simp only [Ats] at h
    obtain ⟨v, r, rfl, q, t⟩ := h
    exact .cons q (Ats.take n t)
theorem Ats.drop {K : PySem.W.Frag} {F : Hp} {k : Dk} : ∀ {ds : List D} {vs : List V} (n : Nat), Ats K F k ds vs → Ats K F k (ds.drop n) (vs.drop n)
  | ds, vs, 0, h => h
  | [], vs, n + 1, h => by simp only [Ats] at h; subst h; exact .nil
  | d :: ds, vs, n + 1, h => by
    simp only [Ats] at h
    obtain ⟨v, r, rfl, q, t⟩ := h
    exact Ats.drop n t
/-! ### the law's deck -/
def DeckIs : Nat → Addr → List (Key × V) → List Int → Prop
  | 0, l, kvs, cs => cs.length ≤ 63 ∧ ∃ m t : Int, kvs = [(.inr "cells", .ref l), (.inr "mixed", .int m), (.inr "turn", .int t)] ∧ 0 ≤ m ∧ m < 2147483648
  | 1, l, kvs, cs => cs.length ≤ 63 ∧ ∃ m t : Int, kvs = [(.inr "rest", .ref l), (.inr "mixed", .int m), (.inr "turn", .int t)] ∧ 0 ≤ m ∧ m < 2147483648
  | 2, l, kvs, cs => cs.length ≤ 63 ∧ ∃ m t : Int, kvs = [(.inr "left", .ref l), (.inr "mixed", .int m), (.inr "draws", .int t)] ∧ 0 ≤ m ∧ m < 2147483648
  | _, l, kvs, cs => cs.length ≤ 63 ∧ ∃ m : Int, kvs = [(.inr "cells", .ref l), (.inr "mixed", .int m)] ∧ 0 ≤ m ∧ m < 2147483648
def DeckAt (H : Hp) (p : DkP) : Prop := ∃ (kvs : List (Key × V)) (cs : List Int), H p.1 = some (.dK kvs) ∧ H p.2 = some (.lst (cs.map V.int)) ∧ DeckIs p.3 p.2 kvs cs
/-- the entry that all is told against: its heap, its frozen part, its deck -/
structure Ent where
  H0 : Hp
  F0 : Hp
  k0 : Dk
structure Wd (e : Ent) (F H : Hp) (k : Dk) : Prop where
  sub : ∀ a o, F a = some o → H a = some o
  ini : ∀ a o, e.F0 a = some o → F a = some o
  new : ∀ a o, F a = some o → e.F0 a = some o ∨ e.H0 a = none
  fr : ∀ a o, e.H0 a = some o → (∀ p, e.k0 = some p → a ≠ p.1 ∧ a ≠ p.2) → H a = some o
  kk1 : ∀ p, e.k0 = some p → k = some p
  kk2 : e.k0 = none → ∀ p, k = some p → e.H0 p.1 = none ∧ e.H0 p.2 = none
  dk : ∀ p, k = some p → DeckAt H p ∧ F p.1 = none ∧ F p.2 = none
inductive Slot where
  | no | val (d : D) | own (ds : List D)
abbrev Evn := List Slot
structure Rel0 (K : PySem.W.Frag) (e : Ent) (env : Evn) (oa : Nat → Addr) (σ : St) (F H : Hp) (k : Dk) : Prop where
  wd : Wd e F H k
  len : env.length = σ.length
  val : ∀ (i : Nat) (d : D), env[i]? = some (.val d) → ∃ v, σ[i]? = some (some v) ∧ At K F k d v
  own : ∀ (i : Nat) (ds : List D), env[i]? = some (.own ds) → σ[i]? = some (some (.ref (oa i))) ∧ (∃ vs, H (oa i) = some (.lst vs) ∧ Ats K F k ds vs) ∧ F (oa i) = none ∧ e.H0 (oa i) = none ∧ ∀ p, k = some p → oa i ≠ p.1 ∧ oa i ≠ p.2
  inj : ∀ (i j : Nat) (ds es : List D), env[i]? = some (.own ds) → env[j]? = some (.own es) → oa i = oa j → i = j
/-- an exception: its class by name, its fields -/
abbrev Ex := Str × List (Str × D)
abbrev DX := Ex → Evn → Prop
/-- what stays true of the frozen part -/
structure Fz where
  p : Hp → Dk → Prop
  mono : ∀ {F F' : Hp} {k k' : Dk}, Grow F F' k k' → p F k → p F' k'
abbrev Fz.tt : Fz := ⟨fun _ _ => True, fun _ _ => trivial⟩
structure Kx where
  f : PySem.W.Frag
  mg : Str → Option Value
  w : DX
  W : WX
  z : Fz
instance : Coe Kx PySem.W.Frag := ⟨Kx.f⟩
abbrev _root_.L2.Cx.kx (X : Cx) (w : DX) (W : WX) (z : Fz) : Kx := ⟨X.K, X.mg, w, W, z⟩
def XAt (K : PySem.W.Frag) (mg : Str → Option Value) (F : Hp) (k : Dk) (x : Ex) (cls : Value) (d : Option Addr) : Prop := mg x.1 = some cls ∧ match x.2 with
  | [] => d = none
  | l => ∃ p vs, d = some p ∧ F p = some (.xd (l.zipWith (fun q v => (q.1, v)) vs)) ∧ Ats K F k (l.map (·.2)) vs
theorem XAt.grow {K : PySem.W.Frag} {mg : Str → Option Value} {F F' : Hp} {k k' : Dk} {x : Ex} {cls : Value} {d : Option Addr} (h : XAt K mg F k x cls d) (g : Grow F F' k k') : XAt K mg F' k' x cls d := by
  obtain ⟨h1, h2⟩ := h
  refine ⟨h1, ?_⟩
  obtain ⟨n, l⟩ := x
  cases l with
  | nil => exact h2
  | cons q l =>
    obtain ⟨p, vs, e, h3, h4⟩ := h2
    exact ⟨p, vs, e, g.1 _ _ h3, Ats.grow g _ _ h4⟩
/-- what leaves is wished for -/
def Lnk (K : Kx) (e : Ent) (F : Hp) (k : Dk) : Prop := ∀ (x : Ex) (env : Evn) (oa : Nat → Addr) (σ : St) (F' H' : Hp) (k' : Dk) (cls : Value) (d : Option Addr), K.w x env → Rel0 K.f e env oa σ F' H' k' → Grow F F' k k' → XAt K.f K.mg F' k' x cls d → K.W cls d σ H'
theorem Lnk.grow {K : Kx} {e : Ent} {F F1 : Hp} {k k1 : Dk} (h : Lnk K e F k) (g : Grow F F1 k k1) : Lnk K e F1 k1 := fun x env oa σ F' H' k' cls d hw R g' hx => h x env oa σ F' H' k' cls d hw R (g.trans g') hx
structure Rel (K : Kx) (e : Ent) (env : Evn) (oa : Nat → Addr) (σ : St) (F H : Hp) (k : Dk) : Prop extends Rel0 K.f e env oa σ F H k where
  lnk : Lnk K e F k
  pz : K.z.p F k
theorem Rel.up {K : Kx} {e : Ent} {env env' : Evn} {oa oa' : Nat → Addr} {σ σ' : St} {F H F' H' : Hp} {k k' : Dk} (R : Rel K e env oa σ F H k) (R0 : Rel0 K.f e env' oa' σ' F' H' k') (g : Grow F F' k k') : Rel K e env' oa' σ' F' H' k' := ⟨R0, R.lnk.grow g, K.z.mono g R.pz⟩
abbrev DE := Evn → (D → Evn → Prop) → Prop
abbrev DA := Evn → (List D → Evn → Prop) → Prop
abbrev DT := Evn → (Bool → Evn → Prop) → Prop
structure DEnd where
  nx : Evn → Prop
  rt : D → Prop
  bk : Evn → Prop := fun _ => False
  ct : Evn → Prop := fun _ => False
abbrev DS := DEnd → Evn → Prop
abbrev DG := D → Evn → (Evn → Prop) → Prop
def lift (K : Kx) (f : DE) : TE := fun σ H Q => ∃ e env oa F k, ∃ P : D → Evn → Prop, Rel K e env oa σ F H k ∧ f env P ∧ ∀ d env' v oa' F' H' k', P d env' → Rel K e env' oa' σ F' H' k' → Grow F F' k k' → At K F' k' d v → Q v H'
def liftA (K : Kx) (f : DA) : TA := fun σ H Q => ∃ e env oa F k, ∃ P : List D → Evn → Prop, Rel K e env oa σ F H k ∧ f env P ∧ ∀ ds env' vs oa' F' H' k', P ds env' → Rel K e env' oa' σ F' H' k' → Grow F F' k k' → Ats K F' k' ds vs → Q vs H'
def liftT (K : Kx) (f : DT) : TT := fun σ H Q => ∃ e env oa F k, ∃ P : Bool → Evn → Prop, Rel K e env oa σ F H k ∧ f env P ∧ ∀ b env' oa' F' H' k', P b env' → Rel K e env' oa' σ F' H' k' → Grow F F' k k' → Q b H'
/-- a value handed back: what stands behind it -/
def Out (K : PySem.W.Frag) (e : Ent) (d : D) (v : V) (H' : Hp) : Prop := ∃ F' k', Wd e F' H' k' ∧ At K F' k' d v
def liftS (K : Kx) (f : DS) : TS := fun E σ H => ∃ e env oa F k, ∃ B : DEnd, Rel K e env oa σ F H k ∧ f B env ∧ (∀ env' oa' σ' F' H' k', B.nx env' → Rel K e env' oa' σ' F' H' k' → Grow F F' k k' → E.nx σ' H') ∧ (∀ d v H', B.rt d → Out K e d v H' → E.rt v H') ∧
  (∀ env' oa' σ' F' H' k', B.bk env' → Rel K e env' oa' σ' F' H' k' → Grow F F' k k' → E.bk σ' H') ∧ (∀ env' oa' σ' F' H' k', B.ct env' → Rel K e env' oa' σ' F' H' k' → Grow F F' k k' → E.ct σ' H')
/-- L: the slots that the target stores -/
def liftG (K : Kx) (L : List Nat) (g : DG) : TG := fun v σ H Q => ∃ e env oa F k d, ∃ P : Evn → Prop, Rel K e env oa σ F H k ∧ At K F k d v ∧ g d env P ∧ ∀ env' oa' σ' F' H' k', P env' → Rel K e env' oa' σ' F' H' k' → Grow F F' k k' → σ'.length = σ.length → (∀ j, j ∉ L → σ'[j]? = σ[j]?) → Q σ' H'
abbrev DGs := List D → Evn → (Evn → Prop) → Prop
def liftGs (K : Kx) (L : List Nat) (g : DGs) : TGs := fun vs σ H Q => ∃ e env oa F k ds, ∃ P : Evn → Prop, Rel K e env oa σ F H k ∧ Ats K F k ds vs ∧ g ds env P ∧ ∀ env' oa' σ' F' H' k', P env' → Rel K e env' oa' σ' F' H' k' → Grow F F' k k' → σ'.length = σ.length → (∀ j, j ∉ L → σ'[j]? = σ[j]?) → Q σ' H'
/-- what a loop walks: J hands out the data ds -/
def Runs (K : PySem.W.Frag) (J : It) (ds : List D) (F : Hp) (k : Dk) : Prop := ∀ (e : Ent) (env : Evn) (oa : Nat → Addr) (σ : St) (F' H : Hp) (k' : Dk) (i : Nat), Rel0 K e env oa σ F' H k' → Grow F F' k k' →
  (ds.length ≤ i → J.stop i H) ∧ ∀ d, ds[i]? = some d → J.go i H ∧ ∀ y H', J.yld i H y H' → ∃ F'', Rel0 K e env oa σ F'' H' k' ∧ Grow F' F'' k' k' ∧ At K F'' k' d y
def liftI (K : Kx) (f : DA) : TI := fun σ H R => ∃ e env oa F k, ∃ P : List D → Evn → Prop, Rel K e env oa σ F H k ∧ f env P ∧ ∀ ds env' oa' F' H' k' J, P ds env' → Rel K e env' oa' σ F' H' k' → Grow F F' k k' → Runs K J ds F' k' → R J H'
/-! ### weakening -/
theorem _root_.L2.PE.w {X : Cx} {a : Expr} {t t' : TE} (h : PE X a t) (w : ∀ σ H Q, t' σ H Q → t σ H Q) : PE X a t' := ⟨fun pins s σ H Q I q => h.run pins s σ H Q I (w _ _ _ q)⟩
theorem _root_.L2.PT.w {X : Cx} {a : Expr} {t t' : TT} (h : PT X a t) (w : ∀ σ H Q, t' σ H Q → t σ H Q) : PT X a t' := ⟨fun pins s σ H Q I q => h.run pins s σ H Q I (w _ _ _ q)⟩
theorem _root_.L2.PW.w {X : Cx} {a : Expr} {t t' : TT} (h : PW X a t) (w : ∀ σ H Q, t' σ H Q → t σ H Q) : PW X a t' := ⟨fun wh pins s σ H Q I q => h.run wh pins s σ H Q I (w _ _ _ q)⟩
theorem _root_.L2.PA.w {X : Cx} {a : List Expr} {t t' : TA} (h : PA X a t) (w : ∀ σ H Q, t' σ H Q → t σ H Q) : PA X a t' := ⟨fun pos pins s σ H Q I q => h.run pos pins s σ H Q I (w _ _ _ q)⟩
theorem _root_.L2.PS.w {X : Cx} {a : Stmt} {t t' : TS} (h : PS X a t) (w : ∀ E σ H, t' E σ H → t E σ H) : PS X a t' := ⟨fun pins s σ H E I q => h.run pins s σ H E I (w _ _ _ q)⟩
theorem _root_.L2.PG.w {X : Cx} {a : Expr} {t t' : TG} (h : PG X a t) (w : ∀ v σ H Q, t' v σ H Q → t v σ H Q) : PG X a t' := ⟨fun pins s σ H x u Q I r q => h.run pins s σ H x u Q I r (w _ _ _ _ q)⟩
theorem _root_.L2.PGs.w {X : Cx} {a : List Expr} {t t' : TGs} (h : PGs X a t) (w : ∀ v σ H Q, t' v σ H Q → t v σ H Q) : PGs X a t' := ⟨fun pins s σ H x u Q I r q => h.run pins s σ H x u Q I r (w _ _ _ _ q)⟩
theorem _root_.L2.PI.w {X : Cx} {g a : Expr} {t t' : TI} (h : PI X g a t) (w : ∀ σ H Q, t' σ H Q → t σ H Q) : PI X g a t' := ⟨fun pins s σ H Q I q => h.run pins s σ H Q I (w _ _ _ q)⟩
theorem _root_.L2.PSs.w {X : Cx} {a : List Stmt} {t t' : TS} (h : PSs X a t) (w : ∀ E σ H, t' E σ H → t E σ H) : PSs X a t' := ⟨fun pins s σ H E I q => h.run pins s σ H E I (w _ _ _ q)⟩
/-! ### moves of the relation -/
section
variable {K : PySem.W.Frag} {e : Ent} {env : Evn} {oa : Nat → Addr} {σ : St} {F H : Hp} {k : Dk}
theorem Rel0.val_at (R : Rel0 K e env oa σ F H k) {i : Nat} {d : D} (h : env[i]? = some (.val d)) : ∃ v, σ[i]? = some (some v) ∧ At K F k d v := R.val i d h
theorem Wd.grow0 (W : Wd e F H k) : Grow e.F0 F e.k0 k := ⟨W.ini, W.kk1⟩
/-- a new object is laid, frozen -/
theorem Rel0.laid (R : Rel0 K e env oa σ F H k) {p : Addr} (hp : H p = none) (o : HO) : Rel0 K e env oa σ (upd F p o) (upd H p o) k ∧ Grow F (upd F p o) k k := by
  have W := R.wd
  have hF : F p = none := by
    cases q : F p with
    | none => rfl
    | some u => rw [W.sub _ _ q] at hp; cases hp
  have g : Grow F (upd F p o) k k := ⟨fun a u q => by rw [upd_ne (ne_of_none q hF)]; exact q, fun _ q => q⟩
  have keep : ∀ a u, H a = some u → upd H p o a = some u := fun a u q => by rw [upd_ne (ne_of_none q hp)]; exact q
  have h0 : (∀ q, e.k0 = some q → p ≠ q.1 ∧ p ≠ q.2) := fun q hq => by
    obtain ⟨⟨kv, cs, h1, h2, _⟩, _⟩ := W.dk q (W.kk1 q hq)
    exact ⟨fun z => by (rw [z, h1] at hp; cases hp), fun z => by (rw [z, h2] at hp; cases hp)⟩
  have e0 : e.H0 p = none := by
    cases q : e.H0 p with
    | none => rfl
    | some u => rw [W.fr p u q h0] at hp; cases hp
  refine ⟨⟨⟨fun a u q => ?_, fun a u q => g.1 _ _ (W.ini a u q), fun a u q => ?_, fun a u q z => keep _ _ (W.fr a u q z), W.kk1, W.kk2, fun q hq => ?_⟩, R.len, fun i d hi => ?_, fun i ds hi => ?_, R.inj⟩, g⟩
  · by_cases ha : a = p
    · subst ha; rw [upd_same] at q ⊢; exact q
    · rw [upd_ne ha] at q ⊢; exact W.sub a u q
  · by_cases ha : a = p
    · subst ha; exact .inr e0
    · rw [upd_ne ha] at q; exact W.new a u q
  · obtain ⟨⟨kv, cs, h1, h2, h3⟩, h4, h5⟩ := W.dk q hq
    have n1 : q.1 ≠ p := ne_of_none h1 hp
    have n2 : q.2 ≠ p := ne_of_none h2 hp
    exact ⟨⟨kv, cs, keep _ _ h1, keep _ _ h2, h3⟩, by rw [upd_ne n1]; exact h4, by rw [upd_ne n2]; exact h5⟩
  · obtain ⟨v, h1, h2⟩ := R.val i d hi
    exact ⟨v, h1, At.grow g d v h2⟩
  · obtain ⟨h1, ⟨vs, h2, h3⟩, h4, h5, h6⟩ := R.own i ds hi
    exact ⟨h1, ⟨vs, keep _ _ h2, Ats.grow g ds vs h3⟩, by rw [upd_ne (ne_of_none h2 hp)]; exact h4, h5, h6⟩
/-- an own list is frozen -/
theorem Rel0.freeze (R : Rel0 K e env oa σ F H k) {i : Nat} {ds : List D} (hi : env[i]? = some (.own ds)) :
    ∃ F' v, Rel0 K e (env.set i (.val (.lst ds))) oa σ F' H k ∧ Grow F F' k k ∧ σ[i]? = some (some v) ∧ At K F' k (.lst ds) v := by
  have W := R.wd
  obtain ⟨h1, ⟨vs, h2, h3⟩, h4, h5, h6⟩ := R.own i ds hi
  have g : Grow F (upd F (oa i) (.lst vs)) k k := ⟨fun a u q => by rw [upd_ne (ne_of_none q h4)]; exact q, fun _ q => q⟩
  have hA : At K (upd F (oa i) (.lst vs)) k (.lst ds) (.ref (oa i)) := by
    simp only [At]
    exact ⟨_, vs, rfl, upd_same, Ats.grow g ds vs h3⟩
  have hlt : i < env.length := (List.getElem?_eq_some_iff.mp hi).1
  refine ⟨upd F (oa i) (.lst vs), .ref (oa i), ⟨⟨fun a u q => ?_, fun a u q => g.1 _ _ (W.ini a u q), fun a u q => ?_, W.fr, W.kk1, W.kk2, fun q hq => ?_⟩, by rw [List.length_set]; exact R.len, fun j d hj => ?_, fun j es hj => ?_, fun j j' es es' hj hj' => ?_⟩, g, h1, hA⟩
  · by_cases ha : a = oa i
    · subst ha; rw [upd_same] at q; cases q; exact h2
    · rw [upd_ne ha] at q; exact W.sub a u q
  · by_cases ha : a = oa i
    · subst ha; exact .inr h5
    · rw [upd_ne ha] at q; exact W.new a u q
  · obtain ⟨d1, d2, d3⟩ := W.dk q hq
    obtain ⟨n1, n2⟩ := h6 q hq
    exact ⟨d1, by rw [upd_ne (Ne.symm n1)]; exact d2, by rw [upd_ne (Ne.symm n2)]; exact d3⟩
  · by_cases hji : j = i
    · subst hji
      rw [List.getElem?_set_self hlt] at hj
      cases hj
      exact ⟨_, h1, hA⟩
    · rw [List.getElem?_set_ne (Ne.symm hji)] at hj
      obtain ⟨v, a1, a2⟩ := R.val j d hj
      exact ⟨v, a1, At.grow g d v a2⟩
  · by_cases hji : j = i
    · subst hji
      rw [List.getElem?_set_self hlt] at hj
      cases hj
    · rw [List.getElem?_set_ne (Ne.symm hji)] at hj
      obtain ⟨b1, ⟨us, b2, b3⟩, b4, b5, b6⟩ := R.own j es hj
      have nj : oa j ≠ oa i := fun z => hji (R.inj j i es ds hj hi z)
      exact ⟨b1, ⟨us, b2, Ats.grow g es us b3⟩, by rw [upd_ne nj]; exact b4, b5, b6⟩
  · have nj : ∀ m (es : List D), (env.set i (.val (.lst ds)))[m]? = some (Slot.own es) → env[m]? = some (Slot.own es) := fun m es hm => by
      by_cases hmi : m = i
      · subst hmi
        rw [List.getElem?_set_self hlt] at hm
        cases hm
      · rw [List.getElem?_set_ne (Ne.symm hmi)] at hm
        exact hm
    exact R.inj j j' es es' (nj _ _ hj) (nj _ _ hj')
/-- a slot is set to a value -/
theorem Rel0.put (R : Rel0 K e env oa σ F H k) {i : Nat} {d : D} {v : V} (a : At K F k d v) : Rel0 K e (env.set i (.val d)) oa (σ.set i (some v)) F H k := by
  refine ⟨R.wd, by rw [List.length_set, List.length_set]; exact R.len, fun j d' hj => ?_, fun j es hj => ?_, fun j j' es es' hj hj' => ?_⟩
  · by_cases hji : j = i
    · subst hji
      have hlt : j < env.length := by
        by_cases h : j < env.length
        · exact h
        · rw [List.getElem?_eq_none (by rw [List.length_set]; omega)] at hj; cases hj
      rw [List.getElem?_set_self hlt] at hj
      cases hj
      exact ⟨v, List.getElem?_set_self (by rw [← R.len]; exact hlt), a⟩
    · rw [List.getElem?_set_ne (Ne.symm hji)] at hj
      obtain ⟨u, a1, a2⟩ := R.val j d' hj
      exact ⟨u, by rw [List.getElem?_set_ne (Ne.symm hji)]; exact a1, a2⟩
  · by_cases hji : j = i
    · subst hji
      have hlt : j < env.length := by
        by_cases h : j < env.length
        · exact h
        · rw [List.getElem?_eq_none (by rw [List.length_set]; omega)] at hj; cases hj
      rw [List.getElem?_set_self hlt] at hj
      cases hj
    · rw [List.getElem?_set_ne (Ne.symm hji)] at hj
      obtain ⟨b1, b2⟩ := R.own j es hj
      exact ⟨by rw [List.getElem?_set_ne (Ne.symm hji)]; exact b1, b2⟩
  · have nj : ∀ m (es : List D), (env.set i (.val d))[m]? = some (Slot.own es) → env[m]? = some (Slot.own es) := fun m es hm => by
      by_cases hmi : m = i
      · subst hmi
        have hlt : m < env.length := by
          by_cases h : m < env.length
          · exact h
          · rw [List.getElem?_eq_none (by rw [List.length_set]; omega)] at hm; cases hm
        rw [List.getElem?_set_self hlt] at hm
        cases hm
      · rw [List.getElem?_set_ne (Ne.symm hmi)] at hm
        exact hm
    exact R.inj j j' es es' (nj _ _ hj) (nj _ _ hj')
end
section
variable {K : Kx} {e : Ent} {env : Evn} {oa : Nat → Addr} {σ : St} {F H : Hp} {k : Dk}
theorem Rel.val_at (R : Rel K e env oa σ F H k) {i : Nat} {d : D} (h : env[i]? = some (.val d)) : ∃ v, σ[i]? = some (some v) ∧ At K F k d v := R.val i d h
theorem Rel.laid (R : Rel K e env oa σ F H k) {p : Addr} (hp : H p = none) (o : HO) : Rel K e env oa σ (upd F p o) (upd H p o) k ∧ Grow F (upd F p o) k k := by
  obtain ⟨a, g⟩ := R.toRel0.laid hp o
  exact ⟨R.up a g, g⟩
theorem Rel.freeze (R : Rel K e env oa σ F H k) {i : Nat} {ds : List D} (hi : env[i]? = some (.own ds)) :
    ∃ F' v, Rel K e (env.set i (.val (.lst ds))) oa σ F' H k ∧ Grow F F' k k ∧ σ[i]? = some (some v) ∧ At K F' k (.lst ds) v := by
  obtain ⟨F', v, a, g, h⟩ := R.toRel0.freeze hi
  exact ⟨F', v, R.up a g, g, h⟩
theorem Rel.put (R : Rel K e env oa σ F H k) {i : Nat} {d : D} {v : V} (a : At K F k d v) : Rel K e (env.set i (.val d)) oa (σ.set i (some v)) F H k := R.up (R.toRel0.put a) (Grow.refl _ _)
end
end DL
namespace DL
open PySem PySem.Spec L2
section
variable {wx : DX} {WW : WX} {ZZ : Fz} {X : Cx} {a b c : Expr} {es : List Expr} {pos : Pos} {f g : DE} {fa : DA}
/-! ### constants, names -/
def dC (d : D) : DE := fun env Q => Q d env
theorem dl_C {d : D} {v : V} (h : PE X a (tC v)) (hd : ∀ F k, At X.K F k d v) : PE X a (lift (X.kx wx WW ZZ) (dC d)) :=
  h.w fun σ H Q ⟨e, env, oa, F, k, P, R, p, q⟩ => q d env v oa F H k p R (Grow.refl _ _) (hd F k)
theorem dl_int {i : Int} {j} : PE X (.Constant (.int i) j pos) (lift (X.kx wx WW ZZ) (dC (.int i))) := dl_C pe_int fun _ _ => by simp only [At]
theorem dl_bl {i : Bool} {j} : PE X (.Constant (.bool i) j pos) (lift (X.kx wx WW ZZ) (dC (.bl i))) := dl_C pe_bl fun _ _ => by simp only [At]
theorem dl_non {j} : PE X (.Constant .none j pos) (lift (X.kx wx WW ZZ) (dC .non)) := dl_C pe_non fun _ _ => by simp only [At]
theorem dl_str {x : Str} {j} : PE X (.Constant (.str x) j pos) (lift (X.kx wx WW ZZ) (dC (.str x))) := dl_C pe_str fun _ _ => by simp only [At]
theorem dl_raw {v : V} (h : PE X a (tC v)) : PE X a (lift (X.kx wx WW ZZ) (dC (.raw v))) := dl_C h fun _ _ => by simp only [At]
def dVar (i : Nat) : DE := fun env Q => match env[i]? with
  | some (.val d) => Q d env
  | some (.own ds) => Q (.lst ds) (env.set i (.val (.lst ds)))
  | _ => False
theorem dl_var {i : Nat} (h : PE X a (tVar i)) : PE X a (lift (X.kx wx WW ZZ) (dVar i)) :=
  h.w fun σ H Q ⟨e, env, oa, F, k, P, R, p, q⟩ => by
    unfold dVar at p
    split at p
    · rename_i d hd
      obtain ⟨v, h1, h2⟩ := R.val i d hd
      exact ⟨v, h1, q d env v oa F H k p R (Grow.refl _ _) h2⟩
    · rename_i ds hd
      obtain ⟨F', v, R', g', h1, h2⟩ := R.freeze hd
      exact ⟨v, h1, q _ _ v oa F' H k p R' g' h2⟩
    · exact p.elim
/-! ### operators -/
abbrev DO := D → D → (D → Prop) → Prop
def OpL (K : PySem.W.Frag) (r : R2) (o : DO) : Prop := ∀ (e : Ent) (env : Evn) (oa : Nat → Addr) (σ : St) (F H : Hp) (k : Dk) (x y : V) (dx dy : D) (Q : VK) (G : D → Prop), Rel0 K e env oa σ F H k → At K F k dx x → At K F k dy y → o dx dy G →
  (∀ d v oa' F' H' k', G d → Rel0 K e env oa' σ F' H' k' → Grow F F' k k' → At K F' k' d v → Q v H') → r x y H Q
def dBin (o : DO) (f g : DE) : DE := fun env Q => f env fun x env1 => g env1 fun y env2 => o x y fun d => Q d env2
theorem lift_bin {K : Kx} {r : R2} {o : DO} (L : OpL K.f r o) : ∀ σ H Q, lift K (dBin o f g) σ H Q → tOp r (lift K f) (lift K g) σ H Q := fun σ H Q ⟨e, env, oa, F, k, P, R, p, q⟩ =>
  ⟨e, env, oa, F, k, _, R, p, fun x env1 vx oa1 F1 H1 k1 p1 R1 g1 a1 => ⟨e, env1, oa1, F1, k1, _, R1, p1, fun y env2 vy oa2 F2 H2 k2 p2 R2 g2 a2 =>
    L e env2 oa2 σ F2 H2 k2 vx vy x y Q _ R2.toRel0 (At.grow g2 _ _ a1) a2 p2 fun d v oa3 F3 H3 k3 p3 R3 g3 a3 => q d env2 v oa3 F3 H3 k3 p3 (R2.up R3 g3) (g1.trans (g2.trans g3)) a3⟩⟩
theorem dl_op {op : Operator} {r : R2} {o : DO} (ho : OpR X (binaryOp op) r) (L : OpL X.K r o) (ha : PE X a (lift (X.kx wx WW ZZ) f)) (hb : PE X b (lift (X.kx wx WW ZZ) g)) : PE X (.BinOp a op b pos) (lift (X.kx wx WW ZZ) (dBin o f g)) := (pe_op ho ha hb).w (lift_bin L)
theorem dl_cmp {op : CmpOp} {r : R2} {o : DO} (ho : OpR X (compareOp op) r) (L : OpL X.K r o) (ha : PE X a (lift (X.kx wx WW ZZ) f)) (hb : PE X b (lift (X.kx wx WW ZZ) g)) (hm : behindInMarks op b = false) : PE X (.Compare a [op] [b] pos) (lift (X.kx wx WW ZZ) (dBin o f g)) := (pe_cmpR ho ha hb hm).w (lift_bin L)
/-- a value that is a bool, as a test -/
def dTest (f : DE) : DT := fun env Q => f env fun d env1 => match d with
  | .bl b => Q b env1
  | _ => False
theorem lift_test {K : Kx} : ∀ σ H Q, liftT K (dTest f) σ H Q → tTest (lift K f) σ H Q := fun σ H Q ⟨e, env, oa, F, k, P, R, p, q⟩ =>
  ⟨e, env, oa, F, k, _, R, p, fun d env1 v oa1 F1 H1 k1 p1 R1 g1 a1 => by
    cases d with
    | bl b => exact ⟨b, by simpa only [At] using a1, q b env1 oa1 F1 H1 k1 p1 R1 g1⟩
    | _ => exact p1.elim⟩
theorem dt_cmp {op : CmpOp} {r : R2} {o : DO} (ho : OpR X (compareOp op) r) (L : OpL X.K r o) (ha : PE X a (lift (X.kx wx WW ZZ) f)) (hb : PE X b (lift (X.kx wx WW ZZ) g)) (hm : behindInMarks op b = false) : PT X (.Compare a [op] [b] pos) (liftT (X.kx wx WW ZZ) (dTest (dBin o f g))) :=
  (pt_cmpR ho ha hb hm).w fun σ H Q h => by
    obtain ⟨e, env, oa, F, k, P, R, p, q⟩ := lift_test σ H Q h
    exact lift_bin L σ H _ ⟨e, env, oa, F, k, P, R, p, q⟩
/-- a value's truth -/
def truD : D → Option Bool
  | .non => some false
  | .bl b => some b
  | .int i => some (i != 0)
  | .str s => some ((s.length : Int) != 0)
  | .tup l => some (!l.isEmpty)
  | .lst l => some (!l.isEmpty)
  | .dic l => some (!l.isEmpty)
  | .raw _ => none
  | .deck _ => none
  | .scr _ => none
/-! ### and, or, not, if-else as tests -/
def dAnd (p q : DT) : DT := fun env Q => p env fun b env1 => if b = true then q env1 Q else Q false env1
def dOr (p q : DT) : DT := fun env Q => p env fun b env1 => if b = true then Q true env1 else q env1 Q
def dNot (p : DT) : DT := fun env Q => p env fun b env1 => Q (!b) env1
variable {ta tb : DT} {rest : List Expr}
theorem dw_and1 (h : PT X a (liftT (X.kx wx WW ZZ) ta)) : PW X (.BoolOp .And [a] pos) (liftT (X.kx wx WW ZZ) ta) := pw_and1 h
theorem dw_or1 (h : PT X a (liftT (X.kx wx WW ZZ) ta)) : PW X (.BoolOp .Or [a] pos) (liftT (X.kx wx WW ZZ) ta) := pw_or1 h
theorem dw_and (h : PT X a (liftT (X.kx wx WW ZZ) ta)) (h2 : PW X (.BoolOp .And (b :: rest) pos) (liftT (X.kx wx WW ZZ) tb)) : PW X (.BoolOp .And (a :: b :: rest) pos) (liftT (X.kx wx WW ZZ) (dAnd ta tb)) :=
  (pw_and h h2).w fun σ H Q ⟨e, env, oa, F, k, P, R, p, q⟩ => ⟨e, env, oa, F, k, _, R, p, fun c env1 oa1 F1 H1 k1 p1 R1 g1 => by
    cases c with
    | true => exact ⟨e, env1, oa1, F1, k1, P, R1, p1, fun d env2 oa2 F2 H2 k2 p2 R2 g2 => q d env2 oa2 F2 H2 k2 p2 R2 (g1.trans g2)⟩
    | false => exact q false env1 oa1 F1 H1 k1 p1 R1 g1⟩
theorem dw_or (h : PT X a (liftT (X.kx wx WW ZZ) ta)) (h2 : PW X (.BoolOp .Or (b :: rest) pos) (liftT (X.kx wx WW ZZ) tb)) : PW X (.BoolOp .Or (a :: b :: rest) pos) (liftT (X.kx wx WW ZZ) (dOr ta tb)) :=
  (pw_or h h2).w fun σ H Q ⟨e, env, oa, F, k, P, R, p, q⟩ => ⟨e, env, oa, F, k, _, R, p, fun c env1 oa1 F1 H1 k1 p1 R1 g1 => by
    cases c with
    | false => exact ⟨e, env1, oa1, F1, k1, P, R1, p1, fun d env2 oa2 F2 H2 k2 p2 R2 g2 => q d env2 oa2 F2 H2 k2 p2 R2 (g1.trans g2)⟩
    | true => exact q true env1 oa1 F1 H1 k1 p1 R1 g1⟩
theorem dt_not (h : PT X a (liftT (X.kx wx WW ZZ) ta)) : PT X (.UnaryOp .Not a pos) (liftT (X.kx wx WW ZZ) (dNot ta)) :=
  (pt_not h).w fun σ H Q ⟨e, env, oa, F, k, P, R, p, q⟩ => ⟨e, env, oa, F, k, _, R, p, fun c env1 oa1 F1 H1 k1 p1 R1 g1 => q _ env1 oa1 F1 H1 k1 p1 R1 g1⟩
/-- a bool-valued expression as a test -/
theorem dt_val (h : PE X a (lift (X.kx wx WW ZZ) f)) (he : ∀ whole, isTrue a X.env whole = (do let v ← whole; standAt a.pos; holding [v] (truthy v)) := by intro _; rfl) : PT X a (liftT (X.kx wx WW ZZ) (dTest f)) :=
  (pt_val h he).w fun σ H Q h => by
    obtain ⟨e, env, oa, F, k, P, R, p, q⟩ := lift_test σ H Q h
    exact ⟨e, env, oa, F, k, P, R, p, q⟩
theorem At.tru {K : PySem.W.Frag} {e : Ent} {F H : Hp} {k : Dk} (W : Wd e F H k) : ∀ {d : D} {v : V} {b : Bool}, At K F k d v → truD d = some b → (∀ s, d = .str s → s.length ≤ sizeLine) → TruV K v H b
  | .non, v, b, h, t, z => by simp only [At] at h; subst h; simp only [truD, Option.some.injEq] at t; exact t.symm
  | .bl c, v, b, h, t, z => by simp only [At] at h; subst h; simp only [truD, Option.some.injEq] at t; exact t.symm
  | .int i, v, b, h, t, z => by simp only [At] at h; subst h; simp only [truD, Option.some.injEq] at t; exact t.symm
  | .str s, v, b, h, t, z => by simp only [At] at h; subst h; simp only [truD, Option.some.injEq] at t; exact ⟨z s rfl, t.symm⟩
  | .raw _, v, b, h, t, z => by simp [truD] at t
  | .deck _, v, b, h, t, z => by simp [truD] at t
  | .scr _, v, b, h, t, z => by simp [truD] at t
  | .tup l, v, b, h, t, z => by
    simp only [At] at h
    obtain ⟨a, vs, rfl, q, r⟩ := h
    simp only [truD, Option.some.injEq] at t
    refine .inr (.inl ⟨vs, ?_, ?_⟩)
    · exact sqT_grow W.sub q
    · have e := Ats.length r
      rw [← t]
      cases l with
      | nil => cases vs with
        | nil => rfl
        | cons _ _ => simp at e
      | cons _ _ => cases vs with
        | nil => simp at e
        | cons _ _ => rfl
  | .lst l, v, b, h, t, z => by
    simp only [At] at h
    obtain ⟨a, vs, rfl, q, r⟩ := h
    simp only [truD, Option.some.injEq] at t
    refine .inl ⟨vs, SqL.of (W.sub _ _ q), ?_⟩
    have e := Ats.length r
    rw [← t]
    cases l with
    | nil => cases vs with
      | nil => rfl
      | cons _ _ => simp at e
    | cons _ _ => cases vs with
      | nil => simp at e
      | cons _ _ => rfl
  | .dic l, v, b, h, t, z => by
    simp only [At] at h
    obtain ⟨a, vs, rfl, q, r⟩ := h
    simp only [truD, Option.some.injEq] at t
    refine .inr (.inr ⟨vs, W.sub _ _ q, ?_⟩)
    rw [← t]
    cases l with
    | nil => simp only [Atk] at r; subst r; rfl
    | cons x y => obtain ⟨x1, x2⟩ := x; simp only [Atk] at r; obtain ⟨_, _, rfl, _⟩ := r; rfl
/-- any value by its truth, as a test -/
def dTru (f : DE) : DT := fun env Q => f env fun d env1 => ∃ b, truD d = some b ∧ (∀ s, d = .str s → s.length ≤ sizeLine) ∧ Q b env1
theorem dt_tru (h : PE X a (lift (X.kx wx WW ZZ) f)) (he : ∀ whole, isTrue a X.env whole = (do let v ← whole; standAt a.pos; holding [v] (truthy v)) := by intro _; rfl) : PT X a (liftT (X.kx wx WW ZZ) (dTru f)) :=
  (pt_truth h he).w fun σ H Q ⟨e, env, oa, F, k, P, R, p, q⟩ => ⟨e, env, oa, F, k, _, R, p, fun d env1 v oa1 F1 H1 k1 ⟨c, p1, p2, p3⟩ R1 g1 a1 => ⟨c, At.tru R1.wd a1 p1 p2, q c env1 oa1 F1 H1 k1 p3 R1 g1⟩⟩
/-! ### .. as values: and, or of bools, not, if-else -/
def dAndV (f g : DE) : DE := fun env Q => f env fun d env1 => match d with
  | .bl b => if b = true then g env1 Q else Q (.bl false) env1
  | _ => False
def dOrV (f g : DE) : DE := fun env Q => f env fun d env1 => match d with
  | .bl b => if b = true then Q (.bl true) env1 else g env1 Q
  | _ => False
def dNotV (f : DE) : DE := fun env Q => f env fun d env1 => match d with
  | .bl b => Q (.bl (!b)) env1
  | _ => False
theorem dl_one {op} (h : PE X a (lift (X.kx wx WW ZZ) f)) : PE X (.BoolOp op [a] pos) (lift (X.kx wx WW ZZ) f) := pe_one h
theorem dl_and (h : PE X a (lift (X.kx wx WW ZZ) f)) (h2 : PE X (.BoolOp .And (b :: rest) pos) (lift (X.kx wx WW ZZ) g)) : PE X (.BoolOp .And (a :: b :: rest) pos) (lift (X.kx wx WW ZZ) (dAndV f g)) :=
  (pe_and h h2).w fun σ H Q ⟨e, env, oa, F, k, P, R, p, q⟩ => ⟨e, env, oa, F, k, _, R, p, fun d env1 v oa1 F1 H1 k1 p1 R1 g1 a1 => by
    cases d with
    | bl c =>
      refine ⟨c, by simpa only [At] using a1, ?_⟩
      cases c with
      | true => exact ⟨e, env1, oa1, F1, k1, P, R1, p1, fun d env2 v2 oa2 F2 H2 k2 p2 R2 g2 a2 => q d env2 v2 oa2 F2 H2 k2 p2 R2 (g1.trans g2) a2⟩
      | false => exact q (.bl false) env1 _ oa1 F1 H1 k1 p1 R1 g1 (by simp only [At])
    | _ => exact p1.elim⟩
theorem dl_or (h : PE X a (lift (X.kx wx WW ZZ) f)) (h2 : PE X (.BoolOp .Or (b :: rest) pos) (lift (X.kx wx WW ZZ) g)) : PE X (.BoolOp .Or (a :: b :: rest) pos) (lift (X.kx wx WW ZZ) (dOrV f g)) :=
  (pe_or h h2).w fun σ H Q ⟨e, env, oa, F, k, P, R, p, q⟩ => ⟨e, env, oa, F, k, _, R, p, fun d env1 v oa1 F1 H1 k1 p1 R1 g1 a1 => by
    cases d with
    | bl c =>
      refine ⟨c, by simpa only [At] using a1, ?_⟩
      cases c with
      | false => exact ⟨e, env1, oa1, F1, k1, P, R1, p1, fun d env2 v2 oa2 F2 H2 k2 p2 R2 g2 a2 => q d env2 v2 oa2 F2 H2 k2 p2 R2 (g1.trans g2) a2⟩
      | true => exact q (.bl true) env1 _ oa1 F1 H1 k1 p1 R1 g1 (by simp only [At])
    | _ => exact p1.elim⟩
theorem dl_not (h : PE X a (lift (X.kx wx WW ZZ) f)) : PE X (.UnaryOp .Not a pos) (lift (X.kx wx WW ZZ) (dNotV f)) :=
  (pe_not h).w fun σ H Q ⟨e, env, oa, F, k, P, R, p, q⟩ => ⟨e, env, oa, F, k, _, R, p, fun d env1 v oa1 F1 H1 k1 p1 R1 g1 a1 => by
    cases d with
    | bl c => exact ⟨c, by simpa only [At] using a1, q (.bl (!c)) env1 _ oa1 F1 H1 k1 p1 R1 g1 (by simp only [At])⟩
    | _ => exact p1.elim⟩
def dIfE (t : DT) (f g : DE) : DE := fun env Q => t env fun b env1 => if b = true then f env1 Q else g env1 Q
theorem dl_ife (hc : PT X c (liftT (X.kx wx WW ZZ) ta)) (ha : PE X a (lift (X.kx wx WW ZZ) f)) (hb : PE X b (lift (X.kx wx WW ZZ) g)) : PE X (.IfExp c a b pos) (lift (X.kx wx WW ZZ) (dIfE ta f g)) :=
  (pe_ifExp hc ha hb).w fun σ H Q ⟨e, env, oa, F, k, P, R, p, q⟩ => ⟨e, env, oa, F, k, _, R, p, fun c env1 oa1 F1 H1 k1 p1 R1 g1 => by
    cases c with
    | true => exact ⟨e, env1, oa1, F1, k1, P, R1, p1, fun d env2 v2 oa2 F2 H2 k2 p2 R2 g2 a2 => q d env2 v2 oa2 F2 H2 k2 p2 R2 (g1.trans g2) a2⟩
    | false => exact ⟨e, env1, oa1, F1, k1, P, R1, p1, fun d env2 v2 oa2 F2 H2 k2 p2 R2 g2 a2 => q d env2 v2 oa2 F2 H2 k2 p2 R2 (g1.trans g2) a2⟩⟩
/-! ### argument lists, displays -/
def dNil : DA := fun env Q => Q [] env
def dCons (f : DE) (r : DA) : DA := fun env Q => f env fun d env1 => r env1 fun ds env2 => Q (d :: ds) env2
theorem da_nil : PA X [] (liftA (X.kx wx WW ZZ) dNil) := pa_nil.w fun σ H Q ⟨e, env, oa, F, k, P, R, p, q⟩ => q [] env [] oa F H k p R (Grow.refl _ _) .nil
theorem da_cons (ha : PE X a (lift (X.kx wx WW ZZ) f)) (hr : PA X es (liftA (X.kx wx WW ZZ) fa)) (hs : starEach (a :: es) X.env = (false, eval a X.env) :: starEach es X.env := by rfl) : PA X (a :: es) (liftA (X.kx wx WW ZZ) (dCons f fa)) :=
  (pa_cons ha hr hs).w fun σ H Q ⟨e, env, oa, F, k, P, R, p, q⟩ => ⟨e, env, oa, F, k, _, R, p, fun d env1 v oa1 F1 H1 k1 p1 R1 g1 a1 => ⟨e, env1, oa1, F1, k1, _, R1, p1, fun ds env2 vs oa2 F2 H2 k2 p2 R2 g2 a2 =>
    q (d :: ds) env2 (v :: vs) oa2 F2 H2 k2 p2 R2 (g1.trans g2) (.cons (At.grow g2 _ _ a1) a2)⟩⟩
def dTup (r : DA) : DE := fun env Q => r env fun ds env1 => ds.length ≤ 10000000 ∧ Q (.tup ds) env1
def dLst (r : DA) : DE := fun env Q => r env fun ds env1 => ds.length ≤ 10000000 ∧ Q (.lst ds) env1
theorem size10 {n : Nat} (h : n ≤ 10000000) : n ≤ sizeLine := Nat.le_trans h (by rw [sizeLine_eq]; decide)
theorem dl_tup {x1} (h : PA X es (liftA (X.kx wx WW ZZ) fa)) : PE X (.Tuple es x1 pos) (lift (X.kx wx WW ZZ) (dTup fa)) :=
  (pe_tup h).w fun σ H Q ⟨e, env, oa, F, k, P, R, p, q⟩ => ⟨e, env, oa, F, k, _, R, p, fun ds env1 vs oa1 F1 H1 k1 ⟨z, p1⟩ R1 g1 a1 => ⟨by rw [← Ats.length a1]; exact size10 z, fun t ht => by
    obtain ⟨R2, g2⟩ := R1.laid ht (.tup vs)
    refine q (.tup ds) env1 _ oa1 _ _ k1 p1 R2 (g1.trans g2) ?_
    simp only [At]
    exact ⟨t, vs, rfl, SqT.of upd_same, Ats.grow g2 _ _ a1⟩⟩⟩
theorem dl_lst (h : PA X es (liftA (X.kx wx WW ZZ) fa)) : PE X (.List es pos) (lift (X.kx wx WW ZZ) (dLst fa)) :=
  (pe_lst h).w fun σ H Q ⟨e, env, oa, F, k, P, R, p, q⟩ => ⟨e, env, oa, F, k, _, R, p, fun ds env1 vs oa1 F1 H1 k1 ⟨z, p1⟩ R1 g1 a1 => ⟨by rw [← Ats.length a1]; exact size10 z, fun t ht => by
    obtain ⟨R2, g2⟩ := R1.laid ht (.lst vs)
    refine q (.lst ds) env1 _ oa1 _ _ k1 p1 R2 (g1.trans g2) ?_
    simp only [At]
    exact ⟨t, vs, rfl, upd_same, Ats.grow g2 _ _ a1⟩⟩⟩
end
end DL
namespace DL
open PySem PySem.Spec L2
/-! ### a def's promise, where it is known that no container is being shown around it -/
structure FnG (P : Program) (w : World) (K : PySem.W.Frag) (mg : Str → Option Value) (base : Heap) (CX : CXT) (n : Nat) (f : Addr) (fd : FuncData) (ps : List Str) (sp : Sp) : Prop where
  arity : ∀ {vs : List V} {H : Hp} {Q : VK} {E : XK}, sp vs H Q E → vs.length = ps.length
  go : ∀ {A : Around} {outer : List PySem.Env} {s : Shared} {H : Hp} {args : Args} {us : List Value} {vs : List V} {Q : VK} {E : XK}, A.guards = some [] → Room n A → Env0 P w K mg base A outer s H →
    BindsTo s fd args (ps.zip us) → Vals vs us → sp vs H Q E → codeAny (model P w) A (.call (.ref f) args) (CR CX outer P w H s Q E) s
section
variable {P : Program} {w : World} {K : PySem.W.Frag} {mg : Str → Option Value} {base : Heap} {CX : CXT}
theorem FnG.up {j k : Nat} {f : Addr} {fd : FuncData} {ps : List Str} {sp : Sp} (F : FnG P w K mg base CX j f fd ps sp) (h : j ≤ k) : FnG P w K mg base CX k f fd ps sp :=
  ⟨F.arity, fun hg hr he hb hv hs => F.go hg (hr.mono h) he hb hv hs⟩
theorem FnG.weak {k : Nat} {f : Addr} {fd : FuncData} {ps : List Str} {sp sp' : Sp} (F : FnG P w K mg base CX k f fd ps sp) (h : ∀ vs H Q E, sp' vs H Q E → sp vs H Q E) : FnG P w K mg base CX k f fd ps sp' :=
  ⟨fun q => F.arity (h _ _ _ _ q), fun hg hr he hb hv hs => F.go hg hr he hb hv (h _ _ _ _ hs)⟩
/-- a def of the text, by its body -/
theorem fnG {x qual : Str} {params : Arguments} {body : List Stmt} {scope : Scope} {dvs : List V} {kws : List (Str × V)} {f : Addr} {fd : FuncData} {N ps : List Str} {k : Nat} {sp : Sp}
    (F : FunD K x qual params body scope dvs kws f fd) (S : FnScope N ps scope) (len : ∀ vs H Q E, sp vs H Q E → vs.length = ps.length)
    (walk : ∀ (cdv : Value) (A : Around) (outer : List PySem.Env) (s : Shared) (H : Hp) (vs : List V) (Q : VK) (E : XK), A.guards = some [] → Room k (A.deeper (PyProof.Rows.envOfC qual scope s.heap.objs.size f cdv)) → sp vs H Q E →
      ∃ t, PSs (cxOf CX P w K mg base N qual scope f cdv A outer s H E) body t ∧ t { nx := fun _ H' => Q .non H', rt := Q } (start N vs) H) : FnG P w K mg base CX (k + 1) f fd ps sp := by
  obtain ⟨oc, od, dV, kV, doc, pm, an, cdv, ct, osl, rfl, lk, hcd, _, _⟩ := F.ex
  refine ⟨fun {vs H Q E} h => len vs H Q E h, fun {A outer s H args us vs Q E} gd hr e0 hb rv hsp => ?_⟩
  have nvs := len vs H Q E hsp
  have sameB : ∀ b o, base.get? b = some o → s.heap.get? b = some o := fun b o q => (e0.bs b o q).1
  have inS : K.In s.heap := e0.mod.kin.keeps sameB
  have kinds : ∀ y ∈ ps.zip us, scope.names.lookup y.1 = some .local ∨ (scope.names.lookup y.1 = some .cell ∧ ((cellsFrom (s.heap.objs.size + 1) scope.names []).lookup y.1).isSome = true) := by
    rintro ⟨n, v⟩ hy
    cases S.par n (List.of_mem_zip hy).1 with
    | inl q => exact .inl q
    | inr q => exact .inr ⟨q, PySem.W.cellsFrom_some _ _ _ (.inl q)⟩
  apply codeAny_call_function hr.depth (inS _ _ lk) rfl S.co S.gen rfl (PySem.W.codeRec_of inS hcd)
  apply hb
  refine PySem.wpAny_newFunctionEnv_cells S.kind kinds ?_
  intro env he s1 ic
  cases he
  refine ⟨(e0.mod.nolimit.keeps sameB).keeps ic.toInCall.keep, codeAny_func ?_⟩
  obtain ⟨t, ht, hq⟩ := walk cdv A outer s H vs Q E gd (hr.deeper _) hsp
  have J0 := inv_start (CX := CX) (E := E) (qual := qual) (f := f) (cd := cdv) S hr.hd e0 nvs rv ic
  apply wpAny_mono (ht.run [] s1 (start N vs) H _ J0 hq)
  · intro fl s' hs
    cases fl with
    | brk => obtain ⟨_, _, _, z⟩ := hs; exact z.elim
    | cont => obtain ⟨_, _, _, z⟩ := hs; exact z.elim
    | next => obtain ⟨σ', H', J, q⟩ := hs; exact ⟨V.non, H', J.os, J.bare, J.base, J.hok, rfl, q⟩
    | ret u => obtain ⟨v, σ', H', J, r, q⟩ := hs; exact ⟨v, H', J.os, J.bare, J.base, J.hok, r, q⟩
  · intro _ _ z; exact z
end
section
variable {wx : DX} {WW : WX} {ZZ : Fz} {X : Cx} {CX : CXT} {k : Nat} {f : Addr} {fd : FuncData} {ps ks : List Str} {sp : Sp} {dvs : List V} {ds : List Value} {E : XK} {x : Str} {p pos : Pos} {e : Expr} {es : List Expr} {kws : List Keyword} {t tk : TA}
theorem ranG {pins : List (Addr × Obj)} {σ : L2.St} {H : Hp} {s : Shared} {Q : VK} {args : Args} {us : List Value} {vs : List V} (F : FnG X.prog X.w X.K X.mg X.base CX k f fd ps sp) (gd : X.A.guards = some []) (hr : Room k X.A)
    (hx : Passes CX X E) (I : Inv X pins σ H s) (hb : BindsTo s fd args (ps.zip us)) (rv : Vals vs us) (h : sp vs H Q E) : codeAny (model X.prog X.w) X.A (.call (.ref f) args) (fun r s' => match r with | .ok (.ret u) => EP X pins σ Q u s' | .ok _ => False | .error z => X.xe z s') s := by
  refine codeAny_mono (F.go gd hr I.env0 hb rv h) ?_
  intro r s' hq
  rcases r with z | fl
  · exact hx pins σ H s _ s' I hq
  · cases fl
    case ret u => exact I.after hq
    all_goals exact False.elim hq
theorem callG (F : FnG X.prog X.w X.K X.mg X.base CX k f fd ps sp) (gd : X.A.guards = some []) (hr : Room k X.A) (hg : Gl X x) (hm : X.mg x = some (.ref f)) (hk : PySem.W.keepIn X.K (.ref f) = true) (hb : Binds X.K fd ps ds) (hd : Vals dvs ds) (hx : Passes CX X E)
    (ha : PA X (e :: es) t) (hdb : (x == ("__debug__" : Str)) = false := by decide) (he : starEach (e :: es) X.env = (false, eval e X.env) :: starEach es X.env := by rfl) (hpl : (backTo pos (starEach es X.env)).any (·.1) = false := by rfl) :
    PE X (.Call (.Name x p) (e :: es) [] pos) (tCall sp dvs E t) := by
  constructor
  intro pins s σ H Q I h
  apply wpAny_Call_Name_kw (ld_glob I hg hm _ hdb)
  refine PySem.W.callWith_K I.ok.mod.kin hk (thn (ha.run pos pins s σ H _ I h) ?_) he hpl
  intro us s1 ⟨vs, H1, I1, r, q⟩
  have r2 : Vals (vs ++ dvs) (us ++ ds) := r.append hd
  refine ⟨I1.kIn, PySem.wpAny_call (codeAny_mono (ranG F gd hr hx I1 (hb s1 us I1.kIn (by rw [← r2.length]; exact F.arity q)) r2 q) ?_)⟩
  intro r s' z
  rcases r with z' | fl
  · exact z
  · cases fl <;> exact z
theorem callG0 (F : FnG X.prog X.w X.K X.mg X.base CX k f fd ps sp) (gd : X.A.guards = some []) (hr : Room k X.A) (hg : Gl X x) (hm : X.mg x = some (.ref f)) (hk : PySem.W.keepIn X.K (.ref f) = true) (hb : Binds X.K fd ps ds) (hd : Vals dvs ds) (hx : Passes CX X E)
    (hdb : (x == ("__debug__" : Str)) = false := by decide) : PE X (.Call (.Name x p) [] [] pos) (tCall sp dvs E tNil) := by
  constructor
  intro pins s σ H Q I h
  apply wpAny_Call_Name_kw (ld_glob I hg hm _ hdb)
  have q : sp ([] ++ dvs) H Q E := h
  have r2 : Vals ([] ++ dvs) ([] ++ ds) := Vals.append .nil hd
  refine PySem.W.callWith_K0 I.kIn hk (PySem.wpAny_call (codeAny_mono (ranG F gd hr hx I (hb s [] I.kIn (by rw [← r2.length]; exact F.arity q)) r2 q) ?_))
  intro r s' z
  rcases r with z' | fl
  · exact z
  · cases fl <;> exact z
end
end DL
namespace DL
open PySem PySem.Spec L2
/-! ### promises over data -/
abbrev SD := List D → (D → Prop) → (Ex → Prop) → Prop
/-- an exception that leaves -/
def XOut (K : PySem.W.Frag) (mg : Str → Option Value) (e : Ent) (x : Ex) (cls : Value) (a : Option Addr) (H' : Hp) : Prop := ∃ F' k', Wd e F' H' k' ∧ XAt K mg F' k' x cls a
def spD (K : PySem.W.Frag) (mg : Str → Option Value) (S : SD) : Sp := fun vs H Q E => ∃ ds F k, ∃ P : D → Prop, ∃ PX : Ex → Prop, Wd ⟨H, F, k⟩ F H k ∧ Ats K F k ds vs ∧ S ds P PX ∧ (∀ d v H', P d → Out K ⟨H, F, k⟩ d v H' → Q v H') ∧
  ∀ x cls a H', PX x → XOut K mg ⟨H, F, k⟩ x cls a H' → E cls a H'
section
variable {K : PySem.W.Frag} {e : Ent} {env : Evn} {oa : Nat → Addr} {σ : St} {F H F' H' : Hp} {k k' : Dk}
theorem Wd.old (W : Wd e F H k) {a : Addr} (h : H a = none) : e.H0 a = none := by
  cases q : e.H0 a with
  | none => rfl
  | some u =>
    exfalso
    by_cases hd : ∃ p, e.k0 = some p ∧ (a = p.1 ∨ a = p.2)
    · obtain ⟨p, hp, z⟩ := hd
      obtain ⟨⟨kv, cs, h1, h2, _⟩, _⟩ := W.dk p (W.kk1 p hp)
      rcases z with rfl | rfl
      · rw [h1] at h; cases h
      · rw [h2] at h; cases h
    · have := W.fr a u q fun p hp => ⟨fun z => hd ⟨p, hp, .inl z⟩, fun z => hd ⟨p, hp, .inr z⟩⟩
      rw [this] at h; cases h
theorem Wd.trans (W : Wd e F H k) (V : Wd ⟨H, F, k⟩ F' H' k') : Wd e F' H' k' := by
  refine ⟨V.sub, fun a o q => V.ini a o (W.ini a o q), fun a o q => ?_, fun a o q z => ?_, fun p q => V.kk1 p (W.kk1 p q), fun z p q => ?_, V.dk⟩
  · rcases V.new a o q with r | r
    · exact W.new a o r
    · exact .inr (W.old r)
  · refine V.fr a o (W.fr a o q z) fun p hp => ?_
    cases hk : e.k0 with
    | some p' =>
      have y := W.kk1 p' hk
      have hp' : k = some p := hp
      rw [hp'] at y; cases y
      exact z p hk
    | none =>
      obtain ⟨n1, n2⟩ := W.kk2 hk p hp
      exact ⟨fun y => (by rw [y, n1] at q; cases q), fun y => (by rw [y, n2] at q; cases q)⟩
  · cases hk : k with
    | some p1 =>
      have := V.kk1 p1 hk
      rw [q] at this; cases this
      exact W.kk2 z p hk
    | none =>
      obtain ⟨n1, n2⟩ := V.kk2 hk p q
      exact ⟨W.old n1, W.old n2⟩
theorem Rel0.after (R : Rel0 K e env oa σ F H k) (V : Wd ⟨H, F, k⟩ F' H' k') : Rel0 K e env oa σ F' H' k' ∧ Grow F F' k k' := by
  have g : Grow F F' k k' := ⟨V.ini, V.kk1⟩
  refine ⟨⟨R.wd.trans V, R.len, fun i d hi => ?_, fun i ds hi => ?_, R.inj⟩, g⟩
  · obtain ⟨v, h1, h2⟩ := R.val i d hi
    exact ⟨v, h1, At.grow g d v h2⟩
  · obtain ⟨h1, ⟨vs, h2, h3⟩, h4, h5, h6⟩ := R.own i ds hi
    refine ⟨h1, ⟨vs, V.fr _ _ h2 h6, Ats.grow g ds vs h3⟩, ?_, h5, fun p hp => ?_⟩
    · cases q : F' (oa i) with
      | none => rfl
      | some u =>
        rcases V.new _ _ q with r | r
        · have r' : F (oa i) = some u := r
          rw [h4] at r'; cases r'
        · have r' : H (oa i) = none := r
          rw [h2] at r'; cases r'
    · cases hk : k with
      | some p1 =>
        have := V.kk1 p1 hk
        rw [hp] at this; cases this
        exact h6 p hk
      | none =>
        obtain ⟨n1, n2⟩ := V.kk2 hk p hp
        exact ⟨ne_of_none h2 n1, ne_of_none h2 n2⟩
theorem Rel0.self (R : Rel0 K e env oa σ F H k) : Wd ⟨H, F, k⟩ F H k :=
  ⟨R.wd.sub, fun _ _ q => q, fun _ _ q => .inl q, fun _ _ q _ => q, fun _ q => q, fun z p q => (by have z' : k = none := z; rw [z'] at q; cases q), R.wd.dk⟩
end
theorem Rel.after {K : Kx} {e : Ent} {env : Evn} {oa : Nat → Addr} {σ : St} {F H F' H' : Hp} {k k' : Dk} (R : Rel K e env oa σ F H k) (V : Wd ⟨H, F, k⟩ F' H' k') : Rel K e env oa σ F' H' k' ∧ Grow F F' k k' := by
  obtain ⟨a, g⟩ := R.toRel0.after V
  exact ⟨R.up a g, g⟩
theorem Rel.self {K : Kx} {e : Ent} {env : Evn} {oa : Nat → Addr} {σ : St} {F H : Hp} {k : Dk} (R : Rel K e env oa σ F H k) : Wd ⟨H, F, k⟩ F H k := R.toRel0.self
def dCall (S : SD) (fa : DA) : DE := fun env Q => fa env fun ds env' => S ds (fun d => Q d env') fun _ => False
theorem lift_call {K : Kx} {S : SD} {fa : DA} : ∀ σ H Q, lift K (dCall S fa) σ H Q → tCall (spD K.f K.mg S) [] E0 (liftA K fa) σ H Q := fun σ H Q ⟨e, env, oa, F, k, P, R, p, q⟩ =>
  ⟨e, env, oa, F, k, _, R, p, fun ds env1 vs oa1 F1 H1 k1 p1 R1 g1 a1 => ⟨ds, F1, k1, _, _, R1.self, by rw [List.append_nil]; exact a1, p1, fun d v H' pd ⟨F', k', W, a⟩ => by
    obtain ⟨R2, g2⟩ := R1.after W
    exact q d env1 v oa1 F' H' k' pd R2 (g1.trans g2) a, fun _ _ _ _ z _ => z.elim⟩⟩
section
variable {wx : DX} {WW : WX} {ZZ : Fz} {X : Cx} {k : Nat} {f : Addr} {fd : FuncData} {ps ks : List Str} {S : SD} {x : Str} {p pos : Pos} {e : Expr} {es : List Expr} {kws : List Keyword} {fa fk : DA}
theorem dl_call (F : FnG X.prog X.w X.K X.mg X.base (L2.CX X.prog X.w) k f fd ps (spD X.K X.mg S)) (gd : X.A.guards = some []) (hr : Room k X.A) (hg : Gl X x) (hm : X.mg x = some (.ref f)) (hk : PySem.W.keepIn X.K (.ref f) = true) (hb : Binds X.K fd ps [])
    (ha : PA X (e :: es) (liftA (X.kx wx WW ZZ) fa)) (hdb : (x == ("__debug__" : Str)) = false := by decide) (he : starEach (e :: es) X.env = (false, eval e X.env) :: starEach es X.env := by rfl) (hpl : (backTo pos (starEach es X.env)).any (·.1) = false := by rfl) :
    PE X (.Call (.Name x p) (e :: es) [] pos) (lift (X.kx wx WW ZZ) (dCall S fa)) := (callG F gd hr hg hm hk hb .nil passL ha hdb he hpl).w lift_call
theorem dl_call0 (F : FnG X.prog X.w X.K X.mg X.base (L2.CX X.prog X.w) k f fd ps (spD X.K X.mg S)) (gd : X.A.guards = some []) (hr : Room k X.A) (hg : Gl X x) (hm : X.mg x = some (.ref f)) (hk : PySem.W.keepIn X.K (.ref f) = true) (hb : Binds X.K fd ps [])
    (hdb : (x == ("__debug__" : Str)) = false := by decide) : PE X (.Call (.Name x p) [] [] pos) (lift (X.kx wx WW ZZ) (dCall S dNil)) := (callG0 F gd hr hg hm hk hb .nil passL hdb).w fun σ H Q h => by
  obtain ⟨e, env, oa, F, k, P, R, p, q⟩ := lift_call σ H Q h
  exact q [] env [] oa F H k p R (Grow.refl _ _) .nil
end
/-- nothing is let out -/
abbrev k0 (K : PySem.W.Frag) (mg : Str → Option Value) : Kx := ⟨K, mg, fun _ _ => False, fun _ _ _ _ => False, Fz.tt⟩
/-! ### a def -/
def slots (n : Nat) (ds : List D) : Evn := ds.map Slot.val ++ List.replicate (n - ds.length) Slot.no
theorem rel_start {K : PySem.W.Frag} {N : List Str} {ds : List D} {vs : List V} {F H : Hp} {k : Dk} (W : Wd ⟨H, F, k⟩ F H k) (a : Ats K F k ds vs) : Rel0 K ⟨H, F, k⟩ (slots N.length ds) (fun _ => 0) (start N vs) F H k := by
  have l := Ats.length a
  have noown : ∀ i es, (slots N.length ds)[i]? ≠ some (Slot.own es) := fun i es h => by
    unfold slots at h
    by_cases hi : i < ds.length
    · rw [List.getElem?_append_left (by simpa using hi), List.getElem?_map] at h
      cases q : ds[i]? with
      | none => rw [q] at h; cases h
      | some d => rw [q] at h; cases h
    · rw [List.getElem?_append_right (by simpa using hi), List.getElem?_replicate] at h
      split at h <;> cases h
  refine ⟨W, ?_, fun i d h => ?_, fun i es h => absurd h (noown i es), fun i _ es _ h => absurd h (noown i es)⟩
  · unfold slots L2.start
    simp [l]
  · unfold slots at h
    by_cases hi : i < ds.length
    · rw [List.getElem?_append_left (by simpa using hi), List.getElem?_map] at h
      cases q : ds[i]? with
      | none => rw [q] at h; cases h
      | some c =>
        rw [q] at h
        cases h
        obtain ⟨v, h1, h2⟩ := Ats.get a i d q
        refine ⟨v, ?_, h2⟩
        unfold L2.start
        rw [List.getElem?_append_left (by simpa [← l] using hi), List.getElem?_map, h1]
        rfl
    · rw [List.getElem?_append_right (by simpa using hi), List.getElem?_replicate] at h
      split at h <;> cases h
section
variable {P : Program} {w : World} {K : PySem.W.Frag} {mg : Str → Option Value} {base : Heap}
theorem dl_def {x qual : Str} {params : Arguments} {body : List Stmt} {scope : Scope} {f : Addr} {fd : FuncData} {N ps : List Str} {k : Nat} {S : SD} {g : DS}
    (F : FunD K x qual params body scope [] [] f fd) (C : FnScope N ps scope) (arity : ∀ ds P PX, S ds P PX → ds.length = ps.length)
    (walk : ∀ (cdv : Value) (A : Around) (outer : List PySem.Env) (s : Shared) (H : Hp) (E : XK), A.guards = some [] → Room k (A.deeper (PyProof.Rows.envOfC qual scope s.heap.objs.size f cdv)) →
      PSs (cxOf (L2.CX P w) P w K mg base N qual scope f cdv A outer s H E).nox body (liftS (k0 K mg) g))
    (sem : ∀ ds (P : D → Prop) PX, S ds P PX → g { nx := fun _ => P .non, rt := P } (slots N.length ds)) : FnG P w K mg base (L2.CX P w) (k + 1) f fd ps (spD K mg S) := by
  refine fnG F C (fun vs H Q E ⟨ds, F, k, P, PX, W, a, h, _⟩ => by rw [← Ats.length a]; exact arity ds P PX h) fun cdv A outer s H vs Q E gd hr hsp => ⟨liftS (k0 K mg) g, (walk cdv A outer s H E gd hr).nox, ?_⟩
  obtain ⟨ds, F, k, P, PX, W, a, h, q, _⟩ := hsp
  refine ⟨⟨H, F, k⟩, _, _, F, k, _, ⟨rel_start (N := N) W a, fun _ _ _ _ _ _ _ _ _ z => False.elim z, trivial⟩, sem ds P PX h, fun env' oa' σ' F' H' k' p R _ => ?_, q, fun env' _ _ _ _ _ z _ _ => z.elim, fun env' _ _ _ _ _ z _ _ => z.elim⟩
  exact q .non .non H' p ⟨F', k', R.wd, by simp only [At]⟩
/-- a def that may raise -/
theorem dl_defX {x qual : Str} {params : Arguments} {body : List Stmt} {scope : Scope} {f : Addr} {fd : FuncData} {N ps : List Str} {k : Nat} {S : SD} {g : DX → DS}
    (F : FunD K x qual params body scope [] [] f fd) (C : FnScope N ps scope) (arity : ∀ ds P PX, S ds P PX → ds.length = ps.length)
    (walk : ∀ (cdv : Value) (A : Around) (outer : List PySem.Env) (s : Shared) (H : Hp) (E : XK) (wx : DX), A.guards = some [] → Room k (A.deeper (PyProof.Rows.envOfC qual scope s.heap.objs.size f cdv)) →
      PSs (cxOf (L2.CX P w) P w K mg base N qual scope f cdv A outer s H E) body (liftS ⟨K, mg, wx, fun cls d _ H' => E cls d H', Fz.tt⟩ (g wx)))
    (sem : ∀ ds (P : D → Prop) PX, S ds P PX → g (fun x _ => PX x) { nx := fun _ => P .non, rt := P } (slots N.length ds)) : FnG P w K mg base (L2.CX P w) (k + 1) f fd ps (spD K mg S) := by
  refine fnG F C (fun vs H Q E ⟨ds, F, k, P, PX, W, a, h, _⟩ => by rw [← Ats.length a]; exact arity ds P PX h) fun cdv A outer s H vs Q E gd hr hsp => ?_
  obtain ⟨ds, F, k, P, PX, W, a, h, q, q2⟩ := hsp
  refine ⟨_, walk cdv A outer s H E (fun x _ => PX x) gd hr, ?_⟩
  refine ⟨⟨H, F, k⟩, _, _, F, k, _, ⟨rel_start (N := N) W a, fun x env' oa' σ' F' H' k' cls d hw R _ hx => q2 x cls d H' hw ⟨F', k', R.wd, hx⟩, trivial⟩, sem ds P PX h, fun env' oa' σ' F' H' k' p R _ => ?_, q, fun env' _ _ _ _ _ z _ _ => z.elim, fun env' _ _ _ _ _ z _ _ => z.elim⟩
  exact q .non .non H' p ⟨F', k', R.wd, by simp only [At]⟩
end
end DL
namespace DL
open PySem PySem.Spec L2
section
variable {wx : DX} {WW : WX} {ZZ : Fz} {X : Cx} {a b c : Expr} {es : List Expr} {st : Stmt} {rest bs : List Stmt} {pos : Pos} {f g : DE} {fa : DA} {u v : DS} {t : DT}
/-! ### statements -/
def dNext : DS := fun B env => B.nx env
def dSeq (f g : DS) : DS := fun B env => f { B with nx := g B } env
def dBrk : DS := fun B env => B.bk env
def dCnt : DS := fun B env => B.ct env
theorem ds_nil : PSs X [] (liftS (X.kx wx WW ZZ) dNext) := pss_nil.w fun E σ H ⟨e, env, oa, F, k, B, R, p, n, r, b, c⟩ => n env oa σ F H k p R (Grow.refl _ _)
theorem ds_pass : PS X (.Pass pos) (liftS (X.kx wx WW ZZ) dNext) := ps_pass.w fun E σ H ⟨e, env, oa, F, k, B, R, p, n, r, b, c⟩ => n env oa σ F H k p R (Grow.refl _ _)
theorem ds_break : PS X (.Break pos) (liftS (X.kx wx WW ZZ) dBrk) := ps_break.w fun E σ H ⟨e, env, oa, F, k, B, R, p, n, r, b, c⟩ => b env oa σ F H k p R (Grow.refl _ _)
theorem ds_continue : PS X (.Continue pos) (liftS (X.kx wx WW ZZ) dCnt) := ps_continue.w fun E σ H ⟨e, env, oa, F, k, B, R, p, n, r, b, c⟩ => c env oa σ F H k p R (Grow.refl _ _)
theorem ds_one (h : PS X st (liftS (X.kx wx WW ZZ) u)) : PSs X [st] (liftS (X.kx wx WW ZZ) u) := pss_one h
theorem ds_cons (h1 : PS X st (liftS (X.kx wx WW ZZ) u)) (h2 : PSs X rest (liftS (X.kx wx WW ZZ) v)) : PSs X (st :: rest) (liftS (X.kx wx WW ZZ) (dSeq u v)) :=
  (pss_cons h1 h2).w fun E σ H ⟨e, env, oa, F, k, B, R, p, n, r, b, c⟩ => ⟨e, env, oa, F, k, { B with nx := v B }, R, p,
    fun env' oa' σ' F' H' k' q R' g' => ⟨e, env', oa', F', k', B, R', q, fun env2 oa2 σ2 F2 H2 k2 q2 R2 g2 => n env2 oa2 σ2 F2 H2 k2 q2 R2 (g'.trans g2), r, fun env2 oa2 σ2 F2 H2 k2 q2 R2 g2 => b env2 oa2 σ2 F2 H2 k2 q2 R2 (g'.trans g2),
      fun env2 oa2 σ2 F2 H2 k2 q2 R2 g2 => c env2 oa2 σ2 F2 H2 k2 q2 R2 (g'.trans g2)⟩, r, b, c⟩
def dIf (t : DT) (u v : DS) : DS := fun B env => t env fun b env1 => if b = true then u B env1 else v B env1
theorem ds_if (hc : PT X c (liftT (X.kx wx WW ZZ) t)) (h1 : PSs X bs (liftS (X.kx wx WW ZZ) u)) (h2 : PSs X rest (liftS (X.kx wx WW ZZ) v)) : PS X (.If c bs rest pos) (liftS (X.kx wx WW ZZ) (dIf t u v)) :=
  (ps_if hc h1 h2).w fun E σ H ⟨e, env, oa, F, k, B, R, p, n, r, b, c⟩ => ⟨e, env, oa, F, k, _, R, p, fun x env1 oa1 F1 H1 k1 p1 R1 g1 => by
    have q : ∀ w : DS, w B env1 → liftS (X.kx wx WW ZZ) w E σ H1 := fun w hw => ⟨e, env1, oa1, F1, k1, B, R1, hw, fun env2 oa2 σ2 F2 H2 k2 q2 R2 g2 => n env2 oa2 σ2 F2 H2 k2 q2 R2 (g1.trans g2), r, fun env2 oa2 σ2 F2 H2 k2 q2 R2 g2 => b env2 oa2 σ2 F2 H2 k2 q2 R2 (g1.trans g2),
      fun env2 oa2 σ2 F2 H2 k2 q2 R2 g2 => c env2 oa2 σ2 F2 H2 k2 q2 R2 (g1.trans g2)⟩
    cases x with
    | true => exact q u p1
    | false => exact q v p1⟩
def dRet (f : DE) : DS := fun B env => f env fun d _ => B.rt d
theorem ds_ret (h : PE X a (lift (X.kx wx WW ZZ) f)) : PS X (.Return (some a) pos) (liftS (X.kx wx WW ZZ) (dRet f)) :=
  (ps_ret h).w fun E σ H ⟨e, env, oa, F, k, B, R, p, n, r, b, c⟩ => ⟨e, env, oa, F, k, _, R, p, fun d env1 w oa1 F1 H1 k1 p1 R1 g1 a1 => r d w H1 p1 ⟨F1, k1, R1.wd, a1⟩⟩
def dRetN : DS := fun B _ => B.rt .non
theorem ds_retN : PS X (.Return none pos) (liftS (X.kx wx WW ZZ) dRetN) := ps_retN.w fun E σ H ⟨e, env, oa, F, k, B, R, p, n, r, b, c⟩ => r .non .non H p ⟨F, k, R.wd, by simp only [At]⟩
def dDrop (f : DE) : DS := fun B env => f env fun _ env1 => B.nx env1
theorem ds_expr (h : PE X a (lift (X.kx wx WW ZZ) f)) (hs : swapsWith a none pos.line X.env = pure false := by rfl) : PS X (.Expr a pos) (liftS (X.kx wx WW ZZ) (dDrop f)) :=
  (ps_expr h hs).w fun E σ H ⟨e, env, oa, F, k, B, R, p, n, r, b, c⟩ => ⟨e, env, oa, F, k, _, R, p, fun d env1 w oa1 F1 H1 k1 p1 R1 g1 a1 => n env1 oa1 σ F1 H1 k1 p1 R1 g1⟩
theorem ds_doc {x : Str} {j pos'} : PS X (.Expr (.Constant (.str x) j pos) pos') (liftS (X.kx wx WW ZZ) dNext) := ps_doc.w fun E σ H ⟨e, env, oa, F, k, B, R, p, n, r, b, c⟩ => n env oa σ F H k p R (Grow.refl _ _)
/-! ### targets, assignments -/
def gName (i : Nat) : DG := fun d env Q => Q (env.set i (.val d))
theorem dg_name {i : Nat} (h : PG X a (L2.gName i)) : PG X a (liftG (X.kx wx WW ZZ) [i] (gName i)) :=
  h.w fun v σ H Q ⟨e, env, oa, F, k, d, P, R, hA, p, q⟩ => q _ oa _ F H k p (R.put hA) (Grow.refl _ _) (List.length_set ..) fun j hj => List.getElem?_set_ne (fun z => hj (by simp [z]))
def gNil : DGs := fun ds env Q => match ds with
  | [] => Q env
  | _ => False
def gCons (g : DG) (r : DGs) : DGs := fun ds env Q => match ds with
  | d :: l => g d env fun env1 => r l env1 Q
  | _ => False
variable {L L' : List Nat} {tg : DG} {tr : DGs}
theorem dg_nil : PGs X [] (liftGs (X.kx wx WW ZZ) [] gNil) := pgs_nil.w fun vs σ H Q ⟨e, env, oa, F, k, ds, P, R, hA, p, q⟩ => by
  cases ds with
  | nil =>
    simp only [Ats] at hA
    exact ⟨hA, q env oa σ F H k p R (Grow.refl _ _) rfl fun _ _ => rfl⟩
  | cons _ _ => exact p.elim
theorem dg_cons (h : PG X a (liftG (X.kx wx WW ZZ) L tg)) (h2 : PGs X es (liftGs (X.kx wx WW ZZ) L' tr)) (he : (assignEach (a :: es) X.env).map (·.2) = assign a X.env :: (assignEach es X.env).map (·.2) := by rfl) : PGs X (a :: es) (liftGs (X.kx wx WW ZZ) (L ++ L') (gCons tg tr)) :=
  (pgs_cons h h2 he).w fun vs σ H Q ⟨e, env, oa, F, k, ds, P, R, hA, p, q⟩ => by
    cases ds with
    | nil => exact p.elim
    | cons d l =>
      simp only [Ats] at hA
      obtain ⟨v, r, rfl, h1, h2⟩ := hA
      refine ⟨v, r, rfl, e, env, oa, F, k, d, _, R, h1, p, fun env1 oa1 σ1 F1 H1 k1 p1 R1 g1 l1 s1 => ⟨e, env1, oa1, F1, k1, l, P, R1, Ats.grow g1 _ _ h2, p1, fun env2 oa2 σ2 F2 H2 k2 p2 R2 g2 l2 s2 => ?_⟩⟩
      refine q env2 oa2 σ2 F2 H2 k2 p2 R2 (g1.trans g2) (l2.trans l1) fun j hj => ?_
      rw [List.mem_append, not_or] at hj
      rw [s2 j hj.2, s1 j hj.1]
def gTup (n : Nat) (r : DGs) : DG := fun d env Q => match d with
  | .tup l => l.length = n ∧ r l env Q
  | _ => False
theorem dg_tup {kk : Nat} {n : Nat} (hc : X.calm = true) (h : PGs X es (liftGs (X.kx wx WW ZZ) L tr)) (hn : (assignEach es X.env).length = n := by rfl) (hst : (assignEach es X.env).findIdx? (·.1) = none := by rfl) : PG X (.Tuple es kk pos) (liftG (X.kx wx WW ZZ) L (gTup n tr)) :=
  (pg_tup hc h hn hst).w fun v σ H Q ⟨e, env, oa, F, k, d, P, R, hA, p, q⟩ => by
    cases d with
    | tup l =>
      obtain ⟨p1, p2⟩ := p
      simp only [At] at hA
      obtain ⟨x, vs, rfl, h1, h2⟩ := hA
      exact ⟨x, vs, rfl, sqT_grow R.wd.sub h1, by rw [← Ats.length h2]; exact p1, e, env, oa, F, k, l, P, R, h2, p2, q⟩
    | _ => exact p.elim
def dAsg (f : DE) (g : DG) : DS := fun B env => f env fun d env1 => g d env1 B.nx
theorem ds_asg {te : Expr} (h : PE X a (lift (X.kx wx WW ZZ) f)) (hg : PG X te (liftG (X.kx wx WW ZZ) L tg)) (hs : swapsWithSole [te] a pos.line X.env = pure false := by rfl) (hw : swappedStores [te] a X.env = pure none := by rfl)
    (h1 : (assignEach [te] X.env).map (·.2) = [assign te X.env] := by rfl) : PS X (.Assign [te] a pos) (liftS (X.kx wx WW ZZ) (dAsg f tg)) :=
  (ps_asg h hg hs hw h1).w fun E σ H ⟨e, env, oa, F, k, B, R, p, n, r, b, c⟩ => ⟨e, env, oa, F, k, _, R, p, fun d env1 w oa1 F1 H1 k1 p1 R1 g1 a1 => ⟨e, env1, oa1, F1, k1, d, _, R1, a1, p1, fun env2 oa2 σ2 F2 H2 k2 p2 R2 g2 _ _ => n env2 oa2 σ2 F2 H2 k2 p2 R2 (g1.trans g2)⟩⟩
theorem ds_set {i : Nat} {x : Str} {pos' : Pos} (hN : X.N.Nodup) (hi : X.N[i]? = some x) (hx : Loc X.env.scope x) (h : PE X a (lift (X.kx wx WW ZZ) f)) (hs : swapsWith a (some (.Name x pos')) pos.line X.env = pure false := by rfl)
    (hf : X.fn x = true ∨ X.env.scope.names.lookup x = some .local := by first | exact .inl rfl | exact .inr rfl | assumption) : PS X (.Assign [.Name x pos'] a pos) (liftS (X.kx wx WW ZZ) (dAsg f (gName i))) :=
  (ps_set hN hi hx h hs hf).w fun E σ H ⟨e, env, oa, F, k, B, R, p, n, r, b, c⟩ => ⟨e, env, oa, F, k, _, R, p, fun d env1 w oa1 F1 H1 k1 p1 R1 g1 a1 => n _ oa1 _ F1 H1 k1 p1 (R1.put a1) g1⟩
def dPar (i j : Nat) (fa : DA) : DS := fun B env => fa env fun ds env1 => match ds with
  | [d, d'] => B.nx ((env1.set i (.val d)).set j (.val d'))
  | _ => False
theorem lift_par {K : Kx} {i j : Nat} : ∀ E σ H, liftS K (dPar i j fa) E σ H → tPar i j (liftA K fa) E σ H := fun E σ H ⟨e, env, oa, F, k, B, R, p, n, r, b, c⟩ => ⟨e, env, oa, F, k, _, R, p, fun ds env1 vs oa1 F1 H1 k1 p1 R1 g1 a1 => by
  match ds, p1, a1 with
  | [d, d'], p1, a1 =>
    simp only [Ats] at a1
    obtain ⟨v1, _, rfl, b1, v2, _, rfl, b2, rfl⟩ := a1
    exact ⟨v1, v2, rfl, n _ oa1 _ F1 H1 k1 p1 ((R1.put b1).put b2) g1⟩⟩
def dPar3 (i j l : Nat) (fa : DA) : DS := fun B env => fa env fun ds env1 => match ds with
  | [d, d', d''] => B.nx (((env1.set i (.val d)).set j (.val d')).set l (.val d''))
  | _ => False
theorem lift_par3 {K : Kx} {i j l : Nat} : ∀ E σ H, liftS K (dPar3 i j l fa) E σ H → tPar3 i j l (liftA K fa) E σ H := fun E σ H ⟨e, env, oa, F, k, B, R, p, n, r, b, c⟩ => ⟨e, env, oa, F, k, _, R, p, fun ds env1 vs oa1 F1 H1 k1 p1 R1 g1 a1 => by
  match ds, p1, a1 with
  | [d, d', d''], p1, a1 =>
    simp only [Ats] at a1
    obtain ⟨v1, _, rfl, b1, v2, _, rfl, b2, v3, _, rfl, b3, rfl⟩ := a1
    exact ⟨v1, v2, v3, rfl, n _ oa1 _ F1 H1 k1 p1 (((R1.put b1).put b2).put b3) g1⟩⟩
/-! ### while -/
def whl (t : DT) (u : DS) : Nat → DEnd → Evn → Prop
  | 0, _, _ => False
  | n + 1, B, env => t env fun b env1 => if b = true then u { B with nx := whl t u n B, ct := whl t u n B, bk := B.nx } env1 else B.nx env1
def dWhile (t : DT) (u : DS) : DS := fun B env => ∃ n, whl t u n B env
theorem lift_while {K : Kx} : ∀ E σ H, liftS K (dWhile t u) E σ H → tWhile (liftT K t) (liftS K u) E σ H := fun E σ H ⟨e, env, oa, F, k, B, R, ⟨m, p⟩, n, r, b, c⟩ => by
  refine ⟨fun m σ' H' => ∃ env' oa' F' k', Rel K e env' oa' σ' F' H' k' ∧ Grow F F' k k' ∧ whl t u m B env', ⟨m, env, oa, F, k, R, Grow.refl _ _, p⟩, ?_⟩
  rintro m σ1 H1 ⟨env1, oa1, F1, k1, R1, g1, w1⟩
  cases m with
  | zero => exact w1.elim
  | succ m =>
    refine ⟨e, env1, oa1, F1, k1, _, R1, w1, fun x env2 oa2 F2 H2 k2 p2 R2 g2 => ?_⟩
    cases x with
    | false => exact n env2 oa2 σ1 F2 H2 k2 p2 R2 (g1.trans g2)
    | true =>
      refine ⟨fun σ' H' => ∃ env' oa' F' k', Rel K e env' oa' σ' F' H' k' ∧ Grow F F' k k' ∧ whl t u m B env', fun σ' H' h => ⟨m, Nat.lt_succ_self _, h⟩, ?_⟩
      have back : ∀ env3 oa3 σ3 F3 H3 k3, whl t u m B env3 → Rel K e env3 oa3 σ3 F3 H3 k3 → Grow F2 F3 k2 k3 → ∃ env' oa' F' k', Rel K e env' oa' σ3 F' H3 k' ∧ Grow F F' k k' ∧ whl t u m B env' :=
        fun env3 oa3 σ3 F3 H3 k3 p3 R3 g3 => ⟨env3, oa3, F3, k3, R3, g1.trans (g2.trans g3), p3⟩
      exact ⟨e, env2, oa2, F2, k2, _, R2, p2, back, r, fun env3 oa3 σ3 F3 H3 k3 p3 R3 g3 => n env3 oa3 σ3 F3 H3 k3 p3 R3 (g1.trans (g2.trans g3)), back⟩
theorem ds_while (hp : PassesOwn (model X.prog X.w) X.A X.env X.xe) (hc : PT X c (liftT (X.kx wx WW ZZ) t)) (hb : PSs X bs (liftS (X.kx wx WW ZZ) u)) : PS X (.While c bs [] pos) (liftS (X.kx wx WW ZZ) (dWhile t u)) := (ps_while hp hc hb).w lift_while
/-! ### for -/
def forL (g : DG) (u : DS) : List D → DEnd → Evn → Prop
  | [], B, env => B.nx env
  | d :: l, B, env => g d env fun env1 => u { B with nx := forL g u l B, ct := forL g u l B, bk := B.nx } env1
def dFor (fi : DA) (g : DG) (u : DS) : DS := fun B env => fi env fun ds env1 => forL g u ds B env1
theorem lift_for {K : Kx} {fi : DA} : ∀ E σ H, liftS K (dFor fi tg u) E σ H → tFor (liftI K fi) (liftG K L tg) (liftS K u) E σ H := fun E σ H ⟨e, env, oa, F, k, B, R, p, n, r, b, c⟩ =>
  ⟨e, env, oa, F, k, _, R, p, fun ds env1 oa1 F1 H1 k1 J p1 R1 g1 runs => by
    refine ⟨fun i m σ' H' => m = ds.length - i ∧ i ≤ ds.length ∧ ∃ env' oa' F' k', Rel K e env' oa' σ' F' H' k' ∧ Grow F1 F' k1 k' ∧ forL tg u (ds.drop i) B env', ⟨ds.length, by simp, Nat.zero_le _, env1, oa1, F1, k1, R1, Grow.refl _ _, p1⟩, ?_⟩
    rintro i m σ2 H2 ⟨rfl, hi, env2, oa2, F2, k2, R2, g2, p2⟩
    obtain ⟨hs, hg⟩ := runs e env2 oa2 σ2 F2 H2 k2 i R2.toRel0 g2
    by_cases hlt : i < ds.length
    · refine .inr ⟨(hg ds[i] (by simp [hlt])).1, fun σ' H' => ∃ env' oa' F' k', Rel K e env' oa' σ' F' H' k' ∧ Grow F1 F' k1 k' ∧ forL tg u (ds.drop (i + 1)) B env', fun σ' H' h => ⟨ds.length - (i + 1), by omega, rfl, hlt, h⟩, fun y H' hy => ?_⟩
      obtain ⟨F3, R30, g3, a3⟩ := (hg ds[i] (by simp [hlt])).2 y H' hy
      have R3 := R2.up R30 g3
      rw [List.drop_eq_getElem_cons hlt] at p2
      refine ⟨e, env2, oa2, F3, k2, ds[i], _, R3, a3, p2, fun env4 oa4 σ4 F4 H4 k4 p4 R4 g4 _ _ => ?_⟩
      have back : ∀ env5 oa5 σ5 F5 H5 k5, forL tg u (ds.drop (i + 1)) B env5 → Rel K e env5 oa5 σ5 F5 H5 k5 → Grow F4 F5 k4 k5 → ∃ env' oa' F' k', Rel K e env' oa' σ5 F' H5 k' ∧ Grow F1 F' k1 k' ∧ forL tg u (ds.drop (i + 1)) B env' :=
        fun env5 oa5 σ5 F5 H5 k5 p5 R5 g5 => ⟨env5, oa5, F5, k5, R5, g2.trans (g3.trans (g4.trans g5)), p5⟩
      exact ⟨e, env4, oa4, F4, k4, _, R4, p4, back, r, fun env5 oa5 σ5 F5 H5 k5 p5 R5 g5 => n env5 oa5 σ5 F5 H5 k5 p5 R5 (g1.trans (g2.trans (g3.trans (g4.trans g5)))), back⟩
    · have ei : i = ds.length := by omega
      subst ei
      rw [List.drop_length] at p2
      exact .inl ⟨hs (Nat.le_refl _), n env2 oa2 σ2 F2 H2 k2 p2 R2 (g1.trans g2)⟩⟩
theorem ds_for {iter te : Expr} {fi : DA} (hp : PassesOwn (model X.prog X.w) X.A X.env X.xe) (hc : X.calm = true) (hi : PI X te iter (liftI (X.kx wx WW ZZ) fi)) (hg : PG X te (liftG (X.kx wx WW ZZ) L tg)) (hb : PSs X bs (liftS (X.kx wx WW ZZ) u))
    (hs : ∀ x, foldedSetIterable iter X.env x = pure x := by intro _; rfl) : PS X (.For te iter bs [] pos) (liftS (X.kx wx WW ZZ) (dFor fi tg u)) := (ps_for hp hc hi hg hb hs).w lift_for
/-- a list or a tuple walked -/
def dItems (f : DE) : DA := fun env Q => f env fun d env1 => match d with
  | .tup l => Q l env1
  | .lst l => Q l env1
  | _ => False
theorem runs_list {K : PySem.W.Frag} {x : Addr} {vs : List V} {l : List D} {F : Hp} {k : Dk} (h : F x = some (.lst vs)) (hA : Ats K F k l vs) : Runs K (Itl K x) l F k := fun e env oa σ F' H k' i R g' => by
  have h' : H x = some (.lst vs) := R.wd.sub _ _ (g'.1 _ _ h)
  refine ⟨fun hl => ⟨vs, SqL.of h', by rw [← Ats.length hA]; exact hl⟩, fun d hd => ?_⟩
  obtain ⟨v, h1, h2⟩ := Ats.get hA i d hd
  refine ⟨⟨vs, v, SqL.of h', h1⟩, fun y H' ⟨e1, hy⟩ => ?_⟩
  have e2 := hy vs (SqL.of h')
  rw [h1] at e2
  cases e2
  subst e1
  exact ⟨F', R, Grow.refl _ _, At.grow g' d v h2⟩
theorem runs_tup {K : PySem.W.Frag} {x : Addr} {vs : List V} {l : List D} {F : Hp} {k : Dk} (h : SqT K F x vs) (hA : Ats K F k l vs) : Runs K (Itt K x) l F k := fun e env oa σ F' H k' i R g' => by
  have h' : SqT K H x vs := sqT_grow R.wd.sub (sqT_grow g'.1 h)
  refine ⟨fun hl => ⟨vs, h', by rw [← Ats.length hA]; exact hl⟩, fun d hd => ?_⟩
  obtain ⟨v, h1, h2⟩ := Ats.get hA i d hd
  refine ⟨⟨vs, v, h', h1⟩, fun y H' ⟨e1, hy⟩ => ?_⟩
  have e2 := hy vs h'
  rw [h1] at e2
  cases e2
  subst e1
  exact ⟨F', R, Grow.refl _ _, At.grow g' d v h2⟩
theorem di_items {te : Expr} (h : PE X a (lift (X.kx wx WW ZZ) f)) : PI X te a (liftI (X.kx wx WW ZZ) (dItems f)) := by
  refine ⟨fun pins s σ H Rr I ⟨e, env, oa, F, k, P, R, p, q⟩ => ?_⟩
  refine thn (h.run pins s σ H (fun v H1 => ∃ env1 oa1 F1 k1 d, dItems (fun _ Q => Q d env1) env1 P ∧ Rel (X.kx wx WW ZZ) e env1 oa1 σ F1 H1 k1 ∧ Grow F F1 k k1 ∧ At X.K F1 k1 d v) I ⟨e, env, oa, F, k, _, R, p, fun d env1 v oa1 F1 H1 k1 p1 R1 g1 a1 => ⟨env1, oa1, F1, k1, d, p1, R1, g1, a1⟩⟩) ?_
  rintro v s1 ⟨x, H1, I1, r1, env1, oa1, F1, k1, d, p1, R1, g1, a1⟩
  have new : s1.heap.objs.size ∉ ([] : List Addr) := by simp
  have fp : ∀ b ∈ [s1.heap.objs.size], FpOk X pins H1 b := fun b hb => by
    rw [List.mem_singleton] at hb
    subst hb
    exact I1.fpOk (Nat.le_refl _) (I1.hok.fresh (Nat.le_refl _))
  cases d with
  | lst l =>
    simp only [At] at a1
    obtain ⟨ad, vs, rfl, h1, h2⟩ := a1
    cases r1
    obtain ⟨its, rv, pl, hz⟩ := I1.list (SqL.of (R1.wd.sub _ _ h1))
    refine PySem.wpAny_pyIter_list pl.isList ?_
    exact ⟨s1.heap.objs.size, _, _, _, H1, rfl, I1.kept (t' := s1.toks) fun b o e => Heap.get?_push_of_some _ e, turn_list ad _, ⟨_, Heap.get?_push_size _ rfl, rfl, rfl⟩, fp, q l env1 oa1 F1 H1 k1 _ p1 R1 g1 (runs_list h1 h2)⟩
  | tup l =>
    simp only [At] at a1
    obtain ⟨ad, vs, rfl, h1, h2⟩ := a1
    cases r1
    obtain ⟨its, rv, pl, hz⟩ := I1.tuple (sqT_grow R1.wd.sub h1)
    refine PySem.wpAny_pyIter_tuple (show s1.heap.IsTuple ad its.toArray from pl) ?_
    exact ⟨s1.heap.objs.size, _, _, _, H1, rfl, I1.kept (t' := s1.toks) fun b o e => Heap.get?_push_of_some _ e, turn_tuple ad _, ⟨_, Heap.get?_push_size _ rfl, rfl, rfl⟩, fp, q l env1 oa1 F1 H1 k1 _ p1 R1 g1 (runs_tup h1 h2)⟩
  | _ => exact p1.elim
/-- a range walked -/
def rngD (lo : Int) (n : Nat) : List D := (List.range n).map fun (i : Nat) => .int (lo + i)
theorem runs_rng {K : PySem.W.Frag} {lo : Int} {n : Nat} {F : Hp} {k : Dk} : Runs K (Itr lo n) (rngD lo n) F k := fun e env oa σ F' H k' i R g' => by
  refine ⟨fun hl => ?_, fun d hd => ?_⟩
  · unfold rngD at hl
    have hl' : n ≤ i := by simpa using hl
    exact hl'
  · unfold rngD at hd
    rw [List.getElem?_map] at hd
    by_cases hi : i < n
    · rw [List.getElem?_range hi] at hd
      cases hd
      refine ⟨hi, fun y H' ⟨e1, e2⟩ => ?_⟩
      subst e1 e2
      exact ⟨F', R, Grow.refl _ _, by simp only [At]⟩
    · rw [List.getElem?_eq_none (by simpa using hi)] at hd; cases hd
def dRange1 (f : DE) : DA := fun env Q => f env fun d env1 => match d with
  | .int j => (-(2 ^ 62) ≤ j ∧ j < 2 ^ 62) ∧ Q (rngD 0 j.toNat) env1
  | _ => False
def dRange2 (f g : DE) : DA := fun env Q => f env fun d env1 => g env1 fun d' env2 => match d, d' with
  | .int i, .int j => (-(2 ^ 62) ≤ i ∧ i < 2 ^ 62 ∧ -(2 ^ 62) ≤ j ∧ j < 2 ^ 62) ∧ Q (rngD i (j - i).toNat) env2
  | _, _ => False
theorem di_range1 {te : Expr} {p : Pos} (hg : Gl X "range") (hm : X.mg "range" = none) (h : PE X a (lift (X.kx wx WW ZZ) f)) (hs : starEach [a] X.env = [(false, eval a X.env)] := by rfl) : PI X te (.Call (.Name "range" p) [a] [] pos) (liftI (X.kx wx WW ZZ) (dRange1 f)) :=
  (pi_range1 hg hm (pa_cons h pa_nil hs) hs).w fun σ H Rr ⟨e, env, oa, F, k, P, R, p, q⟩ => ⟨e, env, oa, F, k, _, R, p, fun d env1 v oa1 F1 H1 k1 p1 R1 g1 a1 => by
    cases d with
    | int j =>
      simp only [At] at a1
      subst a1
      exact ⟨j, rfl, p1.1.1, p1.1.2, q _ env1 oa1 F1 H1 k1 _ p1.2 R1 g1 runs_rng⟩
    | _ => exact p1.elim⟩
theorem di_range2 {te : Expr} {p : Pos} (hg : Gl X "range") (hm : X.mg "range" = none) (h : PE X a (lift (X.kx wx WW ZZ) f)) (h2 : PE X b (lift (X.kx wx WW ZZ) g)) (hs : starEach [a, b] X.env = [(false, eval a X.env), (false, eval b X.env)] := by rfl)
    (hs2 : starEach [b] X.env = [(false, eval b X.env)] := by rfl) : PI X te (.Call (.Name "range" p) [a, b] [] pos) (liftI (X.kx wx WW ZZ) (dRange2 f g)) :=
  (pi_range2 hg hm (pa_cons h (pa_cons h2 pa_nil hs2) (by rw [hs, hs2])) hs hs2).w fun σ H Rr ⟨e, env, oa, F, k, P, R, p, q⟩ => ⟨e, env, oa, F, k, _, R, p, fun d env1 v oa1 F1 H1 k1 p1 R1 g1 a1 => ⟨e, env1, oa1, F1, k1, _, R1, p1, fun d' env2 v' oa2 F2 H2 k2 p2 R2 g2 a2 => by
    cases d with
    | int i =>
      cases d' with
      | int j =>
        simp only [At] at a1 a2
        subst a1 a2
        exact ⟨i, j, rfl, p2.1, q _ env2 oa2 F2 H2 k2 _ p2.2 R2 (g1.trans g2) runs_rng⟩
      | _ => exact p2.elim
    | _ => exact p2.elim⟩⟩
end
end DL
namespace DL
open PySem PySem.Spec L2
/-! ### operators over data -/
def OpD (X : Cx) (f : Value → Value → Sem Value) (o : DO) : Prop := ∃ r, OpR X f r ∧ OpL X.K r o
theorem op_or {X : Cx} {f : Value → Value → Sem Value} {r r' : R2} (h : OpR X f r) (h' : OpR X f r') : OpR X f (fun x y H Q => r x y H Q ∨ r' x y H Q) := fun pins s σ H x y v u Q I rx ry q => by
  rcases q with q | q
  · exact h pins s σ H x y v u Q I rx ry q
  · exact h' pins s σ H x y v u Q I rx ry q
section
variable {wx : DX} {WW : WX} {ZZ : Fz} {X : Cx} {a b c : Expr} {pos : Pos} {f g h : DE}
theorem dl_bin {op : Operator} {o : DO} (O : OpD X (binaryOp op) o) (ha : PE X a (lift (X.kx wx WW ZZ) f)) (hb : PE X b (lift (X.kx wx WW ZZ) g)) : PE X (.BinOp a op b pos) (lift (X.kx wx WW ZZ) (dBin o f g)) := by
  obtain ⟨r, ho, L⟩ := O
  exact dl_op ho L ha hb
theorem dl_cm {op : CmpOp} {o : DO} (O : OpD X (compareOp op) o) (ha : PE X a (lift (X.kx wx WW ZZ) f)) (hb : PE X b (lift (X.kx wx WW ZZ) g)) (hm : behindInMarks op b = false) : PE X (.Compare a [op] [b] pos) (lift (X.kx wx WW ZZ) (dBin o f g)) := by
  obtain ⟨r, ho, L⟩ := O
  exact dl_cmp ho L ha hb hm
theorem dt_cm {op : CmpOp} {o : DO} (O : OpD X (compareOp op) o) (ha : PE X a (lift (X.kx wx WW ZZ) f)) (hb : PE X b (lift (X.kx wx WW ZZ) g)) (hm : behindInMarks op b = false) : PT X (.Compare a [op] [b] pos) (liftT (X.kx wx WW ZZ) (dTest (dBin o f g))) := by
  obtain ⟨r, ho, L⟩ := O
  exact dt_cmp ho L ha hb hm
end
/-- ints in -/
def oI (C : Int → Int → Prop) (g : Int → Int → D) : DO := fun x y G => match x, y with
  | .int i, .int j => C i j ∧ G (g i j)
  | _, _ => False
def oI0 (g : Int → Int → D) : DO := fun x y G => match x, y with
  | .int i, .int j => G (g i j)
  | _, _ => False
theorem link_I {K : PySem.W.Frag} {C : Int → Int → Prop} {g : Int → Int → D} {gv : Int → Int → V} (h : ∀ i j F k, At K F k (g i j) (gv i j)) : OpL K (rI C gv) (oI C g) := fun e env oa σ F H k x y dx dy Q G R a1 a2 p q => by
  cases dx with
  | int i =>
    cases dy with
    | int j =>
      simp only [At] at a1 a2
      exact ⟨i, j, a1, a2, p.1, q _ _ oa F H k p.2 R (Grow.refl _ _) (h i j F k)⟩
    | _ => exact p.elim
  | _ => exact p.elim
theorem link_I0 {K : PySem.W.Frag} {g : Int → Int → D} {gv : Int → Int → V} (h : ∀ i j F k, At K F k (g i j) (gv i j)) : OpL K (rI0 gv) (oI0 g) := fun e env oa σ F H k x y dx dy Q G R a1 a2 p q => by
  cases dx with
  | int i =>
    cases dy with
    | int j =>
      simp only [At] at a1 a2
      exact ⟨i, j, a1, a2, q _ _ oa F H k p R (Grow.refl _ _) (h i j F k)⟩
    | _ => exact p.elim
  | _ => exact p.elim
def oAdd : DO := fun x y G => match x, y with
  | .int i, .int j => G (.int (i + j))
  | .tup l, .tup m => l.length + m.length ≤ 10000000 ∧ G (.tup (l ++ m))
  | .lst l, .lst m => l.length + m.length ≤ 10000000 ∧ G (.lst (l ++ m))
  | .str s, .str t => s.length + t.length ≤ 10000000 ∧ G (.str (s ++ t))
  | _, _ => False
theorem opd_add {X : Cx} : OpD X (binaryOp .Add) oAdd := by
  refine ⟨_, op_or op_add (op_or op_catA (op_or op_cat op_add_str)), fun e env oa σ F H k x y dx dy Q G R a1 a2 p q => ?_⟩
  unfold oAdd at p
  split at p
  · simp only [At] at a1 a2
    subst a1 a2
    exact .inl ⟨_, _, rfl, rfl, q _ _ oa F H k p R (Grow.refl _ _) (by simp only [At])⟩
  · rename_i l m
    simp only [At] at a1 a2
    obtain ⟨ad1, v1, rfl, h1, r1⟩ := a1
    obtain ⟨ad2, v2, rfl, h2, r2⟩ := a2
    refine .inr (.inl ⟨ad1, ad2, v1, v2, rfl, rfl, sqT_grow R.wd.sub h1, sqT_grow R.wd.sub h2, by rw [← Ats.length r1, ← Ats.length r2]; exact size10 p.1, fun z => ?_, fun _ z => ?_, fun _ _ t ht => ?_⟩)
    · subst z
      have : l = [] := List.eq_nil_of_length_eq_zero (by rw [Ats.length r1]; rfl)
      subst this
      exact q _ _ oa F H k p.2 R (Grow.refl _ _) (by rw [List.nil_append]; simp only [At]; exact ⟨ad2, v2, rfl, h2, r2⟩)
    · subst z
      have : m = [] := List.eq_nil_of_length_eq_zero (by rw [Ats.length r2]; rfl)
      subst this
      exact q _ _ oa F H k p.2 R (Grow.refl _ _) (by rw [List.append_nil]; simp only [At]; exact ⟨ad1, v1, rfl, h1, r1⟩)
    · obtain ⟨R2, g2⟩ := R.laid ht (.tup (v1 ++ v2))
      exact q _ _ oa _ _ k p.2 R2 g2 (by simp only [At]; exact ⟨t, _, rfl, SqT.of upd_same, Ats.append (Ats.grow g2 _ _ r1) (Ats.grow g2 _ _ r2)⟩)
  · rename_i l m
    simp only [At] at a1 a2
    obtain ⟨ad1, v1, rfl, h1, r1⟩ := a1
    obtain ⟨ad2, v2, rfl, h2, r2⟩ := a2
    refine .inr (.inr (.inl ⟨ad1, ad2, v1, v2, rfl, rfl, R.wd.sub _ _ h1, R.wd.sub _ _ h2, by rw [← Ats.length r1, ← Ats.length r2]; exact size10 p.1, fun t ht => ?_⟩))
    obtain ⟨R2, g2⟩ := R.laid ht (.lst (v1 ++ v2))
    exact q _ _ oa _ _ k p.2 R2 g2 (by simp only [At]; exact ⟨t, _, rfl, upd_same, Ats.append (Ats.grow g2 _ _ r1) (Ats.grow g2 _ _ r2)⟩)
  · simp only [At] at a1 a2
    subst a1 a2
    exact .inr (.inr (.inr ⟨_, _, rfl, rfl, size10 p.1, q _ _ oa F H k p.2 R (Grow.refl _ _) (by simp only [At])⟩))
  · exact p.elim
def oSub : DO := oI0 fun i j => .int (i - j)
theorem opd_sub {X : Cx} : OpD X (binaryOp .Sub) oSub := ⟨_, op_sub, link_I0 fun _ _ _ _ => by simp only [At]⟩
def oMod : DO := oI (fun _ j => 0 < j) fun i j => .int (i % j)
theorem opd_mod {X : Cx} : OpD X (binaryOp .Mod) oMod := ⟨_, op_mod, link_I fun _ _ _ _ => by simp only [At]⟩
def oPow : DO := oI CPow fun i j => .int (i ^ j.toNat)
theorem opd_pow {X : Cx} : OpD X (binaryOp .Pow) oPow := ⟨_, op_pow, link_I fun _ _ _ _ => by simp only [At]⟩
/-- a product, a list or tuple repeated -/
def oMul : DO := fun x y G => match x, y with
  | .int i, .int j => CMulW i j ∧ G (.int (i * j))
  | .lst l, .int k => (-(2 ^ 63) ≤ k ∧ k < 2 ^ 63 ∧ l.length * k.toNat ≤ 10000000) ∧ G (.lst (List.replicate k.toNat l).flatten)
  | _, _ => False
theorem Ats.rep {K : PySem.W.Frag} {F : Hp} {k : Dk} {ds : List D} {vs : List V} (h : Ats K F k ds vs) : ∀ n, Ats K F k (List.replicate n ds).flatten (List.replicate n vs).flatten
  | 0 => by simp only [List.replicate_zero, List.flatten_nil]; exact .nil
  | n + 1 => by
    rw [List.replicate_succ, List.flatten_cons, List.replicate_succ, List.flatten_cons]
    exact .append h (Ats.rep h n)
theorem opd_mul {X : Cx} : OpD X (binaryOp .Mult) oMul := by
  refine ⟨_, op_or op_mulW op_rep, fun e env oa σ F H k x y dx dy Q G R a1 a2 p q => ?_⟩
  unfold oMul at p
  split at p
  · simp only [At] at a1 a2
    subst a1 a2
    exact .inl ⟨_, _, rfl, rfl, p.1, q _ _ oa F H k p.2 R (Grow.refl _ _) (by simp only [At])⟩
  · simp only [At] at a1 a2
    obtain ⟨ad1, v1, rfl, h1, r1⟩ := a1
    subst a2
    refine .inr ⟨ad1, _, v1, rfl, rfl, R.wd.sub _ _ h1, p.1.1, p.1.2.1, by rw [← Ats.length r1]; exact size10 p.1.2.2, fun t ht => ?_⟩
    obtain ⟨R2, g2⟩ := R.laid ht (.lst (List.replicate _ v1).flatten)
    exact q _ _ oa _ _ k p.2 R2 g2 (by simp only [At]; exact ⟨t, _, rfl, upd_same, (Ats.grow g2 _ _ r1).rep _⟩)
  · exact p.elim
def oDiv : DO := fun x y G => match x, y with
  | .int i, .int j => if 0 < j then j.natAbs.log2 < 9000 ∧ G (.int (i / j)) else (j < 0 ∧ j.natAbs < 1073741824) ∧ G (.int (i.fdiv j))
  | _, _ => False
theorem opd_div {X : Cx} : OpD X (binaryOp .FloorDiv) oDiv := by
  refine ⟨_, op_or op_fdivW op_fdivN, fun e env oa σ F H k x y dx dy Q G R a1 a2 p q => ?_⟩
  unfold oDiv at p
  split at p
  · simp only [At] at a1 a2
    subst a1 a2
    split at p
    · rename_i hj
      exact .inl ⟨_, _, rfl, rfl, ⟨hj, p.1⟩, q _ _ oa F H k p.2 R (Grow.refl _ _) (by simp only [At])⟩
    · exact .inr ⟨_, _, rfl, rfl, ⟨by omega, p.1.2⟩, q _ _ oa F H k p.2 R (Grow.refl _ _) (by simp only [At])⟩
  · exact p.elim
def oLt : DO := oI0 fun i j => .bl (decide (i < j))
def oLe : DO := oI0 fun i j => .bl (decide (i ≤ j))
def oGt : DO := oI0 fun i j => .bl (decide (j < i))
def oGe : DO := oI0 fun i j => .bl (decide (j ≤ i))
theorem opd_lt {X : Cx} : OpD X (compareOp .Lt) oLt := ⟨_, op_lt, link_I0 fun _ _ _ _ => by simp only [At]⟩
theorem opd_le {X : Cx} : OpD X (compareOp .LtE) oLe := ⟨_, op_le, link_I0 fun _ _ _ _ => by simp only [At]⟩
theorem opd_gt {X : Cx} : OpD X (compareOp .Gt) oGt := ⟨_, op_gt, link_I0 fun _ _ _ _ => by simp only [At]⟩
theorem opd_ge {X : Cx} : OpD X (compareOp .GtE) oGe := ⟨_, op_ge, link_I0 fun _ _ _ _ => by simp only [At]⟩
/-! ### data as the library's own -/
mutual
def py : D → PyData
  | .non => .none
  | .bl b => .bool b
  | .int i => .int i
  | .str s => .str s
  | .tup l => .tuple (pys l)
  | .lst l => .list (pys l)
  | .dic l => .dict (pyk l)
  | .raw _ => .none
  | .deck _ => .none
  | .scr _ => .none
def pys : List D → List PyData
  | [] => []
  | d :: l => py d :: pys l
def pyk : List (Key × D) → List (PyData × PyData)
  | [] => []
  | (.inl i, d) :: l => (.int i, py d) :: pyk l
  | (.inr s, d) :: l => (.str s, py d) :: pyk l
end
mutual
/-- plain data without a dict: compared -/
def flatD : D → Bool
  | .non => true
  | .bl _ => true
  | .int _ => true
  | .str s => (PyData.str s).canLay0
  | .tup l => flatDs l
  | .lst l => flatDs l
  | .dic _ => false
  | .raw _ => false
  | .deck _ => false
  | .scr _ => false
def flatDs : List D → Bool
  | [] => true
  | d :: l => flatD d && flatDs l
end
mutual
theorem dp_of {K : PySem.W.Frag} {e : Ent} {F H : Hp} {k : Dk} (W : Wd e F H k) : ∀ (d : D) (v : V), flatD d = true → At K F k d v → Dp K H v (py d)
  | .non, v, _, h => by simp only [At] at h; subst h; simp only [py]; exact .non
  | .bl b, v, _, h => by simp only [At] at h; subst h; simp only [py]; exact .bl b
  | .int i, v, _, h => by simp only [At] at h; subst h; simp only [py]; exact .int i
  | .str s, v, _, h => by simp only [At] at h; subst h; simp only [py]; exact .str s
  | .tup l, v, z, h => by
    simp only [At] at h
    obtain ⟨a, vs, rfl, h1, h2⟩ := h
    simp only [flatD] at z
    simp only [py]
    exact .tup (sqT_grow W.sub h1) (dps_of W l vs z h2)
  | .lst l, v, z, h => by
    simp only [At] at h
    obtain ⟨a, vs, rfl, h1, h2⟩ := h
    simp only [flatD] at z
    simp only [py]
    exact .lst (SqL.of (W.sub _ _ h1)) (dps_of W l vs z h2)
  | .dic _, v, z, h => by simp [flatD] at z
  | .raw _, v, z, h => by simp [flatD] at z
  | .deck _, v, z, h => by simp [flatD] at z
  | .scr _, v, z, h => by simp [flatD] at z
theorem dps_of {K : PySem.W.Frag} {e : Ent} {F H : Hp} {k : Dk} (W : Wd e F H k) : ∀ (l : List D) (vs : List V), flatDs l = true → Ats K F k l vs → DpAll K H vs (pys l)
  | [], vs, _, h => by simp only [Ats] at h; subst h; simp only [pys]; exact .nil
  | d :: l, vs, z, h => by
    simp only [Ats] at h
    obtain ⟨v, r, rfl, h1, h2⟩ := h
    simp only [flatDs, Bool.and_eq_true] at z
    simp only [pys]
    exact .cons (dp_of W d v z.1 h1) (dps_of W l r z.2 h2)
end
mutual
theorem canLay_py : ∀ d : D, flatD d = true → (py d).canLay0 = true
  | .non, _ => by simp only [py, PyData.canLay0]
  | .bl _, _ => by simp only [py, PyData.canLay0]
  | .int _, _ => by simp only [py, PyData.canLay0]
  | .str s, z => by simp only [flatD] at z; simp only [py]; exact z
  | .tup l, z => by simp only [flatD] at z; simp only [py, PyData.canLay0]; exact canLays_py l z
  | .lst l, z => by simp only [flatD] at z; simp only [py, PyData.canLay0]; exact canLays_py l z
  | .dic _, z => by simp [flatD] at z
  | .raw _, z => by simp [flatD] at z
  | .deck _, z => by simp [flatD] at z
  | .scr _, z => by simp [flatD] at z
theorem canLays_py : ∀ l : List D, flatDs l = true → PyData.canLayAll0 (pys l) = true
  | [], _ => by simp only [pys, PyData.canLayAll0]
  | d :: l, z => by
    simp only [flatDs, Bool.and_eq_true] at z
    simp only [pys, PyData.canLayAll0, canLay_py d z.1, canLays_py l z.2, Bool.and_true]
end
/-- what may be compared: plain, not too deep -/
def eqOk (d : D) : Prop := flatD d = true ∧ (py d).depth ≤ 64
theorem eqOk.sh {d : D} (h : eqOk d) : SeqAt.shaped (py d) = true := by
  show ((py d).canLay0 && decide ((py d).depth ≤ 64)) = true
  rw [canLay_py d h.1, decide_eq_true h.2] <;> rfl
def eqv (x y : D) : Bool := PyData.eqv (py x) (py y)
def oEq : DO := fun x y G => match x, y with
  | .str a, .str b => G (.bl (decide (a = b)))
  | .lst l, .lst m => (m = [] ∨ (eqOk (.lst l) ∧ eqOk (.lst m))) ∧ G (.bl (eqv (.lst l) (.lst m)))
  | .tup l, .tup m => (m = [] ∨ (eqOk (.tup l) ∧ eqOk (.tup m))) ∧ G (.bl (eqv (.tup l) (.tup m)))
  | _, _ => eqOk x ∧ eqOk y ∧ G (.bl (eqv x y))
def oNe : DO := fun x y G => match x, y with
  | .str a, .str b => G (.bl (!decide (a = b)))
  | .lst l, .lst m => (m = [] ∨ (eqOk (.lst l) ∧ eqOk (.lst m))) ∧ G (.bl (!eqv (.lst l) (.lst m)))
  | .tup l, .tup m => (m = [] ∨ (eqOk (.tup l) ∧ eqOk (.tup m))) ∧ G (.bl (!eqv (.tup l) (.tup m)))
  | _, _ => eqOk x ∧ eqOk y ∧ G (.bl (!eqv x y))
theorem eqv_ln (l : List D) : eqv (.lst l) (.lst []) = l.isEmpty := by cases l <;> simp [eqv, py, pys, PyData.eqv, PyData.eqvAll]
theorem eqv_tn (l : List D) : eqv (.tup l) (.tup []) = l.isEmpty := by cases l <;> simp [eqv, py, pys, PyData.eqv, PyData.eqvAll]
theorem eq_cases {x y : D} {G : D → Prop} (h : oEq x y G) : (∃ a b, x = .str a ∧ y = .str b ∧ G (.bl (decide (a = b)))) ∨ (eqOk x ∧ eqOk y ∧ G (.bl (eqv x y))) ∨ (∃ l, x = .lst l ∧ y = .lst [] ∧ G (.bl l.isEmpty)) ∨ ∃ l, x = .tup l ∧ y = .tup [] ∧ G (.bl l.isEmpty) := by
  unfold oEq at h
  split at h
  · exact .inl ⟨_, _, rfl, rfl, h⟩
  · obtain ⟨rfl | ⟨h1, h2⟩, h3⟩ := h
    · exact .inr (.inr (.inl ⟨_, rfl, rfl, by rw [eqv_ln] at h3; exact h3⟩))
    · exact .inr (.inl ⟨h1, h2, h3⟩)
  · obtain ⟨rfl | ⟨h1, h2⟩, h3⟩ := h
    · exact .inr (.inr (.inr ⟨_, rfl, rfl, by rw [eqv_tn] at h3; exact h3⟩))
    · exact .inr (.inl ⟨h1, h2, h3⟩)
  · exact .inr (.inl h)
theorem ne_cases {x y : D} {G : D → Prop} (h : oNe x y G) : (∃ a b, x = .str a ∧ y = .str b ∧ G (.bl (!decide (a = b)))) ∨ (eqOk x ∧ eqOk y ∧ G (.bl (!eqv x y))) ∨ (∃ l, x = .lst l ∧ y = .lst [] ∧ G (.bl (!l.isEmpty))) ∨ ∃ l, x = .tup l ∧ y = .tup [] ∧ G (.bl (!l.isEmpty)) := by
  unfold oNe at h
  split at h
  · exact .inl ⟨_, _, rfl, rfl, h⟩
  · obtain ⟨rfl | ⟨h1, h2⟩, h3⟩ := h
    · exact .inr (.inr (.inl ⟨_, rfl, rfl, by rw [eqv_ln] at h3; exact h3⟩))
    · exact .inr (.inl ⟨h1, h2, h3⟩)
  · obtain ⟨rfl | ⟨h1, h2⟩, h3⟩ := h
    · exact .inr (.inr (.inr ⟨_, rfl, rfl, by rw [eqv_tn] at h3; exact h3⟩))
    · exact .inr (.inl ⟨h1, h2, h3⟩)
  · exact .inr (.inl h)
/-- compared with an empty list, with an empty tuple: no item is looked at -/
def rEmL (K : PySem.W.Frag) (f : Bool → Bool) : R2 := fun x y H Q => ∃ a b xs, x = .ref a ∧ y = .ref b ∧ SqL K H a xs ∧ SqL K H b [] ∧ Q (.bl (f xs.isEmpty)) H
def rEmT (K : PySem.W.Frag) (f : Bool → Bool) : R2 := fun x y H Q => ∃ a b xs, x = .ref a ∧ y = .ref b ∧ SqT K H a xs ∧ SqT K H b [] ∧ Q (.bl (f xs.isEmpty)) H
section
variable {X : Cx}
theorem op_emL (hu : X.A.units < cLine) : OpR X (compareOp .Eq) (rEmL X.K id) := fun pins s σ H x y v u Q I rx ry ⟨a, b, xs, e1, e2, h1, h2, q⟩ => by
  subst e1
  subst e2
  cases (show v = Value.ref a from rx)
  cases (show u = Value.ref b from ry)
  obtain ⟨us, r1, p1, _⟩ := I.list h1
  obtain ⟨ws, r2, p2, _⟩ := I.list h2
  cases r2
  cases r1 with
  | nil => exact SeqAt.eq_listAt (e := fun _ => true) p1.isList p2.isList rfl hu (fun j k _ => absurd k (Nat.not_lt_zero j)) ⟨.bl true, H, I, rfl, q⟩
  | cons _ _ => exact SeqAt.eq_list_lengthsAt p1.isList p2.isList (by simp) hu ⟨.bl false, H, I, rfl, q⟩
theorem op_enL (hu : X.A.units < cLine) : OpR X (compareOp .NotEq) (rEmL X.K not) := fun pins s σ H x y v u Q I rx ry ⟨a, b, xs, e1, e2, h1, h2, q⟩ => by
  subst e1
  subst e2
  cases (show v = Value.ref a from rx)
  cases (show u = Value.ref b from ry)
  obtain ⟨us, r1, p1, _⟩ := I.list h1
  obtain ⟨ws, r2, p2, _⟩ := I.list h2
  cases r2
  cases r1 with
  | nil => exact SeqAt.RcNeAt.lists (e := fun _ => true) p1.isList p2.isList rfl hu (fun j k _ => absurd k (Nat.not_lt_zero j)) _ _ _ _ ⟨.bl false, H, I, rfl, q⟩
  | cons _ _ => exact SeqAt.RcNeAt.lists_lengths p1.isList p2.isList (by simp) hu _ _ _ _ ⟨.bl true, H, I, rfl, q⟩
theorem op_emT (hu : X.A.units < cLine) : OpR X (compareOp .Eq) (rEmT X.K id) := fun pins s σ H x y v u Q I rx ry ⟨a, b, xs, e1, e2, h1, h2, q⟩ => by
  subst e1
  subst e2
  cases (show v = Value.ref a from rx)
  cases (show u = Value.ref b from ry)
  obtain ⟨us, r1, p1, _⟩ := I.tuple h1
  obtain ⟨ws, r2, p2, _⟩ := I.tuple h2
  cases r2
  cases r1 with
  | nil => exact SeqAt.eq_tupleAt (e := fun _ => true) p1 p2 hu (fun j k _ => absurd k (Nat.not_lt_zero j)) ⟨.bl true, H, I, rfl, q⟩
  | cons _ _ => exact SeqAt.eq_tupleAt (e := fun _ => true) p1 p2 hu (fun j _ k => absurd k (Nat.not_lt_zero j)) ⟨.bl false, H, I, by simp; rfl, q⟩
theorem op_enT (hu : X.A.units < cLine) : OpR X (compareOp .NotEq) (rEmT X.K not) := fun pins s σ H x y v u Q I rx ry ⟨a, b, xs, e1, e2, h1, h2, q⟩ => by
  subst e1
  subst e2
  cases (show v = Value.ref a from rx)
  cases (show u = Value.ref b from ry)
  obtain ⟨us, r1, p1, _⟩ := I.tuple h1
  obtain ⟨ws, r2, p2, _⟩ := I.tuple h2
  cases r2
  cases r1 with
  | nil => exact SeqAt.RcNeAt.tuples (e := fun _ => true) p1 p2 hu (fun j k _ => absurd k (Nat.not_lt_zero j)) _ _ _ _ ⟨.bl false, H, I, rfl, q⟩
  | cons _ _ => exact SeqAt.RcNeAt.tuples (e := fun _ => true) p1 p2 hu (fun j _ k => absurd k (Nat.not_lt_zero j)) _ _ _ _ ⟨.bl true, H, I, by simp; rfl, q⟩
end
theorem emp_at {K : PySem.W.Frag} {F : Hp} {k : Dk} {l : List D} {vs : List V} (h : Ats K F k l vs) : vs.isEmpty = l.isEmpty := by
  have e := Ats.length h
  cases l <;> cases vs <;> simp at e ⊢
theorem opd_eq {X : Cx} (hu : X.A.units + 64 < cLine) : OpD X (compareOp .Eq) oEq := ⟨_, op_or (op_or op_eq (op_eqD hu)) (op_or (op_emL (by omega)) (op_emT (by omega))), fun e env oa σ F H k x y dx dy Q G R a1 a2 p q => by
  rcases eq_cases p with ⟨a, b, rfl, rfl, p⟩ | p | ⟨l, rfl, rfl, pp⟩ | ⟨l, rfl, rfl, pp⟩
  · simp only [At] at a1 a2
    subst a1
    subst a2
    exact .inl (.inl ⟨rfl, q _ _ oa F H k p R (Grow.refl _ _) (by simp only [At]; congr 1; simp)⟩)
  · exact .inl (.inr ⟨_, _, dp_of R.wd dx x p.1.1 a1, dp_of R.wd dy y p.2.1.1 a2, p.1.sh, p.2.1.sh, q _ _ oa F H k p.2.2 R (Grow.refl _ _) (by simp only [At]; rfl)⟩)
  · simp only [At] at a1 a2
    obtain ⟨c1, v1, rfl, h1, r1⟩ := a1
    obtain ⟨c2, v2, rfl, h2, r2⟩ := a2
    simp only [Ats] at r2
    subst r2
    exact .inr (.inl ⟨c1, c2, v1, rfl, rfl, SqL.of (R.wd.sub _ _ h1), SqL.of (R.wd.sub _ _ h2), q _ _ oa F H k pp R (Grow.refl _ _) (by simp only [At, id, emp_at r1])⟩)
  · simp only [At] at a1 a2
    obtain ⟨c1, v1, rfl, h1, r1⟩ := a1
    obtain ⟨c2, v2, rfl, h2, r2⟩ := a2
    simp only [Ats] at r2
    subst r2
    exact .inr (.inr ⟨c1, c2, v1, rfl, rfl, sqT_grow R.wd.sub h1, sqT_grow R.wd.sub h2, q _ _ oa F H k pp R (Grow.refl _ _) (by simp only [At, id, emp_at r1])⟩)⟩
theorem opd_ne {X : Cx} (hu : X.A.units + 64 < cLine) : OpD X (compareOp .NotEq) oNe := ⟨_, op_or (op_or op_ne (op_neD hu)) (op_or (op_enL (by omega)) (op_enT (by omega))), fun e env oa σ F H k x y dx dy Q G R a1 a2 p q => by
  rcases ne_cases p with ⟨a, b, rfl, rfl, p⟩ | p | ⟨l, rfl, rfl, pp⟩ | ⟨l, rfl, rfl, pp⟩
  · simp only [At] at a1 a2
    subst a1
    subst a2
    exact .inl (.inl ⟨rfl, q _ _ oa F H k p R (Grow.refl _ _) (by simp only [At]; congr 1; simp)⟩)
  · exact .inl (.inr ⟨_, _, dp_of R.wd dx x p.1.1 a1, dp_of R.wd dy y p.2.1.1 a2, p.1.sh, p.2.1.sh, q _ _ oa F H k p.2.2 R (Grow.refl _ _) (by simp only [At]; rfl)⟩)
  · simp only [At] at a1 a2
    obtain ⟨c1, v1, rfl, h1, r1⟩ := a1
    obtain ⟨c2, v2, rfl, h2, r2⟩ := a2
    simp only [Ats] at r2
    subst r2
    exact .inr (.inl ⟨c1, c2, v1, rfl, rfl, SqL.of (R.wd.sub _ _ h1), SqL.of (R.wd.sub _ _ h2), q _ _ oa F H k pp R (Grow.refl _ _) (by simp only [At, emp_at r1])⟩)
  · simp only [At] at a1 a2
    obtain ⟨c1, v1, rfl, h1, r1⟩ := a1
    obtain ⟨c2, v2, rfl, h2, r2⟩ := a2
    simp only [Ats] at r2
    subst r2
    exact .inr (.inr ⟨c1, c2, v1, rfl, rfl, sqT_grow R.wd.sub h1, sqT_grow R.wd.sub h2, q _ _ oa F H k pp R (Grow.refl _ _) (by simp only [At, emp_at r1])⟩)⟩
/-- is None, is not None -/
def isNon : D → Bool
  | .non => true
  | _ => false
def oIsN : DO := fun x y G => match x, y with
  | .raw _, _ => False
  | _, .non => G (.bl (isNon x))
  | _, _ => False
def oNotN : DO := fun x y G => match x, y with
  | .raw _, _ => False
  | _, .non => G (.bl (!isNon x))
  | _, _ => False
theorem isNon_at {K : PySem.W.Frag} {F : Hp} {k : Dk} {d : D} {v : V} (h : At K F k d v) (hr : ∀ u, d ≠ .raw u) : decide (v = V.non) = isNon d := by
  cases d with
  | raw u => exact absurd rfl (hr u)
  | non => simp only [At] at h; subst h; rfl
  | bl _ => simp only [At] at h; subst h; rfl
  | int _ => simp only [At] at h; subst h; rfl
  | str _ => simp only [At] at h; subst h; rfl
  | tup _ => simp only [At] at h; obtain ⟨_, _, rfl, _⟩ := h; rfl
  | lst _ => simp only [At] at h; obtain ⟨_, _, rfl, _⟩ := h; rfl
  | dic _ => simp only [At] at h; obtain ⟨_, _, rfl, _⟩ := h; rfl
  | deck _ => simp only [At] at h; obtain ⟨_, _, _, rfl⟩ := h; rfl
  | scr _ => simp only [At] at h; obtain ⟨_, rfl, _⟩ := h; rfl
theorem opd_isN {X : Cx} : OpD X (compareOp .Is) oIsN := ⟨_, op_isN, fun e env oa σ F H k x y dx dy Q G R a1 a2 p q => by
  unfold oIsN at p
  split at p
  · exact p.elim
  · rename_i hr
    simp only [At] at a2
    exact ⟨a2, q _ _ oa F H k p R (Grow.refl _ _) (by simp only [At]; rw [isNon_at a1 hr])⟩
  · exact p.elim⟩
theorem opd_notN {X : Cx} : OpD X (compareOp .IsNot) oNotN := ⟨_, op_notN, fun e env oa σ F H k x y dx dy Q G R a1 a2 p q => by
  unfold oNotN at p
  split at p
  · exact p.elim
  · rename_i hr
    simp only [At] at a2
    exact ⟨a2, q _ _ oa F H k p R (Grow.refl _ _) (by simp only [At]; rw [isNon_at a1 hr])⟩
  · exact p.elim⟩
/-- is True, is False and their nots, of bools -/
def oIsB : DO := fun x y G => match x, y with
  | .bl i, .bl j => G (.bl (decide (i = j)))
  | _, _ => False
def oNotB : DO := fun x y G => match x, y with
  | .bl i, .bl j => G (.bl (!decide (i = j)))
  | _, _ => False
theorem opd_isB {X : Cx} : OpD X (compareOp .Is) oIsB := ⟨_, op_is_bl, fun e env oa σ F H k x y dx dy Q G R a1 a2 p q => by
  unfold oIsB at p
  split at p
  · simp only [At] at a1 a2
    exact ⟨_, _, a1, a2, q _ _ oa F H k p R (Grow.refl _ _) (by simp only [At])⟩
  · exact p.elim⟩
theorem opd_notB {X : Cx} : OpD X (compareOp .IsNot) oNotB := ⟨_, op_isnot_bl, fun e env oa σ F H k x y dx dy Q G R a1 a2 p q => by
  unfold oNotB at p
  split at p
  · simp only [At] at a1 a2
    exact ⟨_, _, a1, a2, q _ _ oa F H k p R (Grow.refl _ _) (by simp only [At])⟩
  · exact p.elim⟩
/-! ### minus -/
def dNeg (f : DE) : DE := fun env Q => f env fun d env1 => match d with
  | .int i => Q (.int (-i)) env1
  | _ => False
theorem dl_neg {wx : DX} {WW : WX} {ZZ : Fz} {X : Cx} {a : Expr} {pos : Pos} {f : DE} (h : PE X a (lift (X.kx wx WW ZZ) f)) : PE X (.UnaryOp .USub a pos) (lift (X.kx wx WW ZZ) (dNeg f)) :=
  (pe_un un_neg h).w fun σ H Q ⟨e, env, oa, F, k, P, R, p, q⟩ => ⟨e, env, oa, F, k, _, R, p, fun d env1 v oa1 F1 H1 k1 p1 R1 g1 a1 => by
    cases d with
    | int i => simp only [At] at a1; exact ⟨i, a1, q _ env1 _ oa1 F1 H1 k1 p1 R1 g1 (by simp only [At])⟩
    | _ => exact p1.elim⟩
end DL
namespace DL
open PySem PySem.Spec L2
/-! ### calls of built-ins over data -/
abbrev DC := List D → (D → Prop) → Prop
def CallL (K : PySem.W.Frag) (r : List V → Hp → VK → Prop) (o : DC) : Prop := ∀ (e : Ent) (env : Evn) (oa : Nat → Addr) (σ : St) (F H : Hp) (k : Dk) (vs : List V) (ds : List D) (Q : VK) (G : D → Prop), Rel0 K e env oa σ F H k → Ats K F k ds vs → o ds G →
  (∀ d v oa' F' H' k', G d → Rel0 K e env oa' σ F' H' k' → Grow F F' k k' → At K F' k' d v → Q v H') → r vs H Q
def CallD (X : Cx) (f : Value) (o : DC) : Prop := ∃ r, CallR X f r ∧ CallL X.K r o
def dBlt (o : DC) (fa : DA) : DE := fun env Q => fa env fun ds env1 => o ds fun d => Q d env1
theorem call_or {X : Cx} {f : Value} {r r' : List V → Hp → VK → Prop} (h : CallR X f r) (h' : CallR X f r') : CallR X f (fun xs H Q => r xs H Q ∨ r' xs H Q) := fun pins s σ H xs us Q I rx q => by
  rcases q with q | q
  · exact h pins s σ H xs us Q I rx q
  · exact h' pins s σ H xs us Q I rx q
theorem lift_blt {K : Kx} {r : List V → Hp → VK → Prop} {o : DC} {fa : DA} (L : CallL K.f r o) : ∀ σ H Q, lift K (dBlt o fa) σ H Q → tCB r (liftA K fa) σ H Q := fun σ H Q ⟨e, env, oa, F, k, P, R, p, q⟩ =>
  ⟨e, env, oa, F, k, _, R, p, fun ds env1 vs oa1 F1 H1 k1 p1 R1 g1 a1 => L e env1 oa1 σ F1 H1 k1 vs ds Q _ R1.toRel0 a1 p1 fun d v oa2 F2 H2 k2 p2 R2 g2 a2 => q d env1 v oa2 F2 H2 k2 p2 (R1.up R2 g2) (g1.trans g2) a2⟩
section
variable {wx : DX} {WW : WX} {ZZ : Fz} {X : Cx} {e : Expr} {es : List Expr} {x : Str} {p pos : Pos} {fa : DA} {o : DC}
theorem dl_callB {id : String} (C : CallD X (.builtin id) o) (hg : Gl X x) (hm : X.mg x = none) (hv : bootBuiltins x = some (.builtin id)) (ha : PA X (e :: es) (liftA (X.kx wx WW ZZ) fa)) (hn : x ≠ "__name__" := by decide) (hdb : (x == ("__debug__" : Str)) = false := by decide)
    (he : starEach (e :: es) X.env = (false, eval e X.env) :: starEach es X.env := by rfl) (hpl : (backTo pos (starEach es X.env)).any (·.1) = false := by rfl) : PE X (.Call (.Name x p) (e :: es) [] pos) (lift (X.kx wx WW ZZ) (dBlt o fa)) := by
  obtain ⟨r, hc, L⟩ := C
  exact (pe_callB hc hg hm hv ha hn hdb he hpl).w (lift_blt L)
theorem dl_callT {T : String} (C : CallD X (.type T) o) (hg : Gl X x) (hm : X.mg x = none) (hv : bootBuiltins x = some (.type T)) (ha : PA X (e :: es) (liftA (X.kx wx WW ZZ) fa)) (hn : x ≠ "__name__" := by decide) (hdb : (x == ("__debug__" : Str)) = false := by decide)
    (he : starEach (e :: es) X.env = (false, eval e X.env) :: starEach es X.env := by rfl) (hpl : (backTo pos (starEach es X.env)).any (·.1) = false := by rfl) : PE X (.Call (.Name x p) (e :: es) [] pos) (lift (X.kx wx WW ZZ) (dBlt o fa)) := by
  obtain ⟨r, hc, L⟩ := C
  exact (pe_callTy hc hg hm hv ha hn hdb he hpl).w (lift_blt L)
end
/-! isinstance -/
def tyS : D → String
  | .non => "NoneType"
  | .bl _ => "bool"
  | .int _ => "int"
  | .str _ => "str"
  | .tup _ => "tuple"
  | .lst _ => "list"
  | .dic _ => "dict"
  | .raw _ => "?"
  | .deck _ => "?"
  | .scr _ => "?"
def isiS (s t : String) : Bool := s == t || (s == "bool" && t == "int")
def cIsi : DC := fun ds G => match ds with
  | [d, .raw (.ty t)] => (tyS d ≠ "?" ∧ t ∈ ["int", "bool", "tuple", "list", "dict", "str"]) ∧ G (.bl (isiS (tyS d) t))
  | _ => False
theorem kit_tab {K : PySem.W.Frag} : ∀ s ∈ ["NoneType", "bool", "int", "str", "tuple", "list", "dict"], ∀ t ∈ ["int", "bool", "tuple", "list", "dict", "str"], PySem.W.kitOne K (.type s) (.type t) = some (isiS s t) := by
  intro s hs t ht
  simp only [List.mem_cons, List.not_mem_nil, or_false] at hs ht
  rcases hs with rfl | rfl | rfl | rfl | rfl | rfl | rfl <;> rcases ht with rfl | rfl | rfl | rfl | rfl | rfl <;> kernel_rfl
theorem tyx_of {K : PySem.W.Frag} {e : Ent} {F H : Hp} {k : Dk} (W : Wd e F H k) {d : D} {v : V} (h : At K F k d v) (hq : tyS d ≠ "?") : TyX K H v (.type (tyS d)) := by
  cases d with
  | raw u => exact absurd rfl hq
  | deck _ => exact absurd rfl hq
  | scr _ => exact absurd rfl hq
  | non => simp only [At] at h; subst h; exact .base .non
  | bl _ => simp only [At] at h; subst h; exact .base (.bl _)
  | int _ => simp only [At] at h; subst h; exact .base (.int _)
  | str _ => simp only [At] at h; subst h; exact .base (.str _)
  | tup _ =>
    simp only [At] at h
    obtain ⟨a, vs, rfl, h1, _⟩ := h
    rcases sqT_grow W.sub h1 with (h1 | ⟨o, h1⟩) | ⟨o, its, n, h1, h2, _⟩
    · exact .base (.tup h1)
    · exact .fTuple h1
    · exact .kTuple h1 h2
  | lst _ =>
    simp only [At] at h
    obtain ⟨a, vs, rfl, h1, _⟩ := h
    exact .base (.lst (W.sub _ _ h1))
  | dic _ =>
    simp only [At] at h
    obtain ⟨a, vs, rfl, h1, _⟩ := h
    exact .base (.dK (W.sub _ _ h1))
theorem tyS_mem : ∀ d : D, tyS d ≠ "?" → tyS d ∈ ["NoneType", "bool", "int", "str", "tuple", "list", "dict"]
  | .non, _ => by simp [tyS]
  | .bl _, _ => by simp [tyS]
  | .int _, _ => by simp [tyS]
  | .str _, _ => by simp [tyS]
  | .tup _, _ => by simp [tyS]
  | .lst _, _ => by simp [tyS]
  | .dic _, _ => by simp [tyS]
  | .raw _, h => absurd rfl h
  | .deck _, h => absurd rfl h
  | .scr _, h => absurd rfl h
theorem cd_isi {X : Cx} : CallD X (.builtin "isinstance") cIsi := ⟨_, call_isi, fun e env oa σ F H k vs ds Q G R a p q => by
  unfold cIsi at p
  split at p
  · rename_i d t
    simp only [Ats] at a
    obtain ⟨v, _, rfl, a1, c, _, rfl, a2, rfl⟩ := a
    simp only [At] at a2
    subst a2
    exact ⟨v, .ty t, _, _, _, rfl, .ty t, tyx_of R.wd a1 p.1.1, kit_tab _ (tyS_mem d p.1.1) _ p.1.2, q _ _ oa F H k p.2 R (Grow.refl _ _) (by simp only [At])⟩
  · exact p.elim⟩
/-! len -/
def cLen : DC := fun ds G => match ds with
  | [.tup l] => G (.int l.length)
  | [.lst l] => G (.int l.length)
  | [.str s] => s.length ≤ 10000000 ∧ G (.int s.length)
  | _ => False
theorem cd_len {X : Cx} : CallD X (.builtin "len") cLen := ⟨_, call_len, fun e env oa σ F H k vs ds Q G R a p q => by
  unfold cLen at p
  split at p
  · simp only [Ats, At] at a
    obtain ⟨v, _, rfl, ⟨x, us, rfl, h1, h2⟩, rfl⟩ := a
    exact ⟨_, us.length, rfl, .inr ⟨us, sqT_grow R.wd.sub h1, rfl⟩, q _ _ oa F H k p R (Grow.refl _ _) (by simp only [At, Ats.length h2])⟩
  · simp only [Ats, At] at a
    obtain ⟨v, _, rfl, ⟨x, us, rfl, h1, h2⟩, rfl⟩ := a
    exact ⟨_, us.length, rfl, .inl ⟨us, SqL.of (R.wd.sub _ _ h1), rfl⟩, q _ _ oa F H k p R (Grow.refl _ _) (by simp only [At, Ats.length h2])⟩
  · rename_i z
    simp only [Ats, At] at a
    obtain ⟨v, _, rfl, rfl, rfl⟩ := a
    exact ⟨_, z.length, rfl, ⟨size10 p.1, rfl⟩, q _ _ oa F H k p.2 R (Grow.refl _ _) (by simp only [At])⟩
  · exact p.elim⟩
/-! all, any of a list of bools -/
theorem ats_bls {K : PySem.W.Frag} {F : Hp} {k : Dk} : ∀ {bs : List Bool} {vs : List V}, Ats K F k (bs.map D.bl) vs → vs = bs.map V.bl
  | [], vs, h => by simpa only [List.map_nil, Ats] using h
  | b :: bs, vs, h => by
    simp only [List.map_cons, Ats, At] at h
    obtain ⟨v, r, rfl, rfl, h⟩ := h
    rw [ats_bls h] <;> rfl
theorem ats_int {K : PySem.W.Frag} {F : Hp} {k : Dk} : ∀ {bs : List Int} {vs : List V}, Ats K F k (bs.map D.int) vs → vs = bs.map V.int
  | [], vs, h => by simpa only [List.map_nil, Ats] using h
  | b :: bs, vs, h => by
    simp only [List.map_cons, Ats, At] at h
    obtain ⟨v, r, rfl, rfl, h⟩ := h
    rw [ats_int h] <;> rfl
def cAll : DC := fun ds G => ∃ bs : List Bool, ds = [.lst (bs.map D.bl)] ∧ G (.bl (bs.all id))
def cAny : DC := fun ds G => ∃ bs : List Bool, ds = [.lst (bs.map D.bl)] ∧ G (.bl (bs.any id))
theorem cd_all {X : Cx} (hc : X.calm = true) : CallD X (.builtin "all") cAll := ⟨_, cr_all hc, fun e env oa σ F H k vs ds Q G R a p q => by
  obtain ⟨bs, rfl, p⟩ := p
  simp only [Ats, At] at a
  obtain ⟨v, _, rfl, ⟨x, us, rfl, h1, h2⟩, rfl⟩ := a
  have := ats_bls h2
  subst this
  exact ⟨x, bs, rfl, SqL.of (R.wd.sub _ _ h1), q _ _ oa F H k p R (Grow.refl _ _) (by simp only [At])⟩⟩
theorem cd_any {X : Cx} (hc : X.calm = true) : CallD X (.builtin "any") cAny := ⟨_, cr_any hc, fun e env oa σ F H k vs ds Q G R a p q => by
  obtain ⟨bs, rfl, p⟩ := p
  simp only [Ats, At] at a
  obtain ⟨v, _, rfl, ⟨x, us, rfl, h1, h2⟩, rfl⟩ := a
  have := ats_bls h2
  subst this
  exact ⟨x, bs, rfl, SqL.of (R.wd.sub _ _ h1), q _ _ oa F H k p R (Grow.refl _ _) (by simp only [At])⟩⟩
/-! abs, max, min of two, int, bool -/
def cAbs : DC := fun ds G => match ds with
  | [.int i] => G (.int i.natAbs)
  | _ => False
theorem cd_abs {X : Cx} : CallD X (.builtin "abs") cAbs := ⟨_, call_abs, fun e env oa σ F H k vs ds Q G R a p q => by
  unfold cAbs at p
  split at p
  · rename_i i
    simp only [Ats, At] at a
    obtain ⟨v, _, rfl, rfl, rfl⟩ := a
    have z : (if i < 0 then -i else i) = (i.natAbs : Int) := by split <;> omega
    exact ⟨i, rfl, by rw [z]; exact q _ _ oa F H k p R (Grow.refl _ _) (by simp only [At])⟩
  · exact p.elim⟩
def cMax2 : DC := fun ds G => match ds with
  | [.int i, .int j] => G (.int (max i j))
  | _ => False
theorem cd_max2 {X : Cx} (hc : X.calm = true) : CallD X (.builtin "max") cMax2 := ⟨_, call_max2 hc, fun e env oa σ F H k vs ds Q G R a p q => by
  unfold cMax2 at p
  split at p
  · rename_i i j
    simp only [Ats, At] at a
    obtain ⟨v, _, rfl, rfl, u, _, rfl, rfl, rfl⟩ := a
    have z : (if j > i then j else i) = max i j := by split <;> omega
    exact ⟨i, j, rfl, by rw [z]; exact q _ _ oa F H k p R (Grow.refl _ _) (by simp only [At])⟩
  · exact p.elim⟩
def cMin2 : DC := fun ds G => match ds with
  | [.int i, .int j] => G (.int (min i j))
  | _ => False
theorem cd_min2 {X : Cx} (hc : X.calm = true) : CallD X (.builtin "min") cMin2 := ⟨_, call_min2 hc, fun e env oa σ F H k vs ds Q G R a p q => by
  unfold cMin2 at p
  split at p
  · rename_i i j
    simp only [Ats, At] at a
    obtain ⟨v, _, rfl, rfl, u, _, rfl, rfl, rfl⟩ := a
    have z : (if j < i then j else i) = min i j := by split <;> omega
    exact ⟨i, j, rfl, by rw [z]; exact q _ _ oa F H k p R (Grow.refl _ _) (by simp only [At])⟩
  · exact p.elim⟩
def cInt : DC := fun ds G => match ds with
  | [.int i] => G (.int i)
  | [.bl b] => G (.int (if b then 1 else 0))
  | _ => False
theorem cd_int {X : Cx} : CallD X (.type "int") cInt := ⟨_, call_int1, fun e env oa σ F H k vs ds Q G R a p q => by
  unfold cInt at p
  split at p
  · simp only [Ats, At] at a
    obtain ⟨v, _, rfl, rfl, rfl⟩ := a
    exact .inl ⟨_, rfl, q _ _ oa F H k p R (Grow.refl _ _) (by simp only [At])⟩
  · simp only [Ats, At] at a
    obtain ⟨v, _, rfl, rfl, rfl⟩ := a
    exact .inr ⟨_, rfl, q _ _ oa F H k p R (Grow.refl _ _) (by simp only [At])⟩
  · exact p.elim⟩
/-! list(x), tuple(x), str(x), repr(x) -/
def cList : DC := fun ds G => match ds with
  | [.tup l] => G (.lst l)
  | [.lst l] => G (.lst l)
  | _ => False
theorem cd_list {X : Cx} : CallD X (.type "list") cList := ⟨_, call_list_of, fun e env oa σ F H k vs ds Q G R a p q => by
  unfold cList at p
  split at p
  · simp only [Ats, At] at a
    obtain ⟨v, _, rfl, ⟨x, us, rfl, h1, h2⟩, rfl⟩ := a
    refine ⟨x, us, rfl, .inr (sqT_grow R.wd.sub h1), fun t ht => ?_⟩
    obtain ⟨R2, g2⟩ := R.laid ht (.lst us)
    exact q _ _ oa _ _ k p R2 g2 (by simp only [At]; exact ⟨t, us, rfl, upd_same, Ats.grow g2 _ _ h2⟩)
  · simp only [Ats, At] at a
    obtain ⟨v, _, rfl, ⟨x, us, rfl, h1, h2⟩, rfl⟩ := a
    refine ⟨x, us, rfl, .inl (SqL.of (R.wd.sub _ _ h1)), fun t ht => ?_⟩
    obtain ⟨R2, g2⟩ := R.laid ht (.lst us)
    exact q _ _ oa _ _ k p R2 g2 (by simp only [At]; exact ⟨t, us, rfl, upd_same, Ats.grow g2 _ _ h2⟩)
  · exact p.elim⟩
def cTup : DC := fun ds G => match ds with
  | [.tup l] => G (.tup l)
  | [.lst l] => G (.tup l)
  | _ => False
theorem cd_tup {X : Cx} : CallD X (.type "tuple") cTup := ⟨_, call_tuple_of, fun e env oa σ F H k vs ds Q G R a p q => by
  unfold cTup at p
  split at p
  · simp only [Ats, At] at a
    obtain ⟨v, _, rfl, ⟨x, us, rfl, h1, h2⟩, rfl⟩ := a
    exact ⟨x, us, rfl, .inr ⟨sqT_grow R.wd.sub h1, q _ _ oa F H k p R (Grow.refl _ _) (by simp only [At]; exact ⟨x, us, rfl, h1, h2⟩)⟩⟩
  · simp only [Ats, At] at a
    obtain ⟨v, _, rfl, ⟨x, us, rfl, h1, h2⟩, rfl⟩ := a
    refine ⟨x, us, rfl, .inl ⟨SqL.of (R.wd.sub _ _ h1), fun t ht => ?_⟩⟩
    obtain ⟨R2, g2⟩ := R.laid ht (.tup us)
    exact q _ _ oa _ _ k p R2 g2 (by simp only [At]; exact ⟨t, us, rfl, SqT.of upd_same, Ats.grow g2 _ _ h2⟩)
  · exact p.elim⟩
def cStr : DC := fun ds G => match ds with
  | [.int i] => i.natAbs.log2 < 1920 ∧ G (.str (toString i))
  | [.str s] => G (.str s)
  | _ => False
theorem cd_str {X : Cx} : CallD X (.type "str") cStr := ⟨_, call_or call_str_int SkE.call_str_str, fun e env oa σ F H k vs ds Q G R a p q => by
  unfold cStr at p
  split at p
  · simp only [Ats, At] at a
    obtain ⟨v, _, rfl, rfl, rfl⟩ := a
    exact .inl ⟨_, rfl, p.1, q _ _ oa F H k p.2 R (Grow.refl _ _) (by simp only [At])⟩
  · simp only [Ats, At] at a
    obtain ⟨v, _, rfl, rfl, rfl⟩ := a
    exact .inr ⟨_, rfl, q _ _ oa F H k p R (Grow.refl _ _) (by simp only [At])⟩
  · exact p.elim⟩
mutual
/-- plain data (dicts among it) -/
def plainD : D → Bool
  | .non => true
  | .bl _ => true
  | .int _ => true
  | .str _ => true
  | .tup l => plainDs l
  | .lst l => plainDs l
  | .dic l => plainDk l
  | .raw _ => false
  | .deck _ => false
  | .scr _ => false
def plainDs : List D → Bool
  | [] => true
  | d :: l => plainD d && plainDs l
def plainDk : List (Key × D) → Bool
  | [] => true
  | (_, d) :: l => plainD d && plainDk l
end
mutual
def noLst : D → Bool
  | .tup l => noLsts l
  | .lst _ => false
  | .dic l => noLstk l
  | _ => true
def noLsts : List D → Bool
  | [] => true
  | d :: l => noLst d && noLsts l
def noLstk : List (Key × D) → Bool
  | [] => true
  | (_, d) :: l => noLst d && noLstk l
end
section
variable {wx : DX} {WW : WX} {ZZ : Fz} {X : Cx} {pins : List (Addr × Obj)} {σ : St} {F H : Hp} {k : Dk} {s : Shared}
theorem keys_read {h : Heap} : ∀ {q : Key} {v : Value}, keyIs q v = true → Reads h v (match q with | .inl i => .int i | .inr x => .str x) [] := by
  intro q v h
  rcases keyIs_shape h with ⟨i, t, rfl, rfl⟩ | ⟨x, t, rfl, rfl⟩
  · exact .int i t
  · exact .str x t
mutual
theorem at_reads (I : L2.Inv X pins σ H s) (sub : ∀ a o, F a = some o → H a = some o) : ∀ (d : D) (v : V) (u : Value), plainD d = true → At X.K F k d v → RelV v u → ∃ as, Reads s.heap u (py d) as ∧ (noLst d = true → sysModules ∉ as)
  | .non, v, u, _, h, r => by simp only [At] at h; subst h; cases r; exact ⟨[], by simp only [py]; exact .none, fun _ => by simp⟩
  | .bl b, v, u, _, h, r => by simp only [At] at h; subst h; cases r; exact ⟨[], by simp only [py]; exact .bool b, fun _ => by simp⟩
  | .int i, v, u, _, h, r => by simp only [At] at h; subst h; obtain ⟨t, rfl⟩ := r; exact ⟨[], by simp only [py]; exact .int i t, fun _ => by simp⟩
  | .str x, v, u, _, h, r => by simp only [At] at h; subst h; obtain ⟨t, rfl⟩ := r; exact ⟨[], by simp only [py]; exact .str x t, fun _ => by simp⟩
  | .tup l, v, u, z, h, r => by
    simp only [At] at h
    obtain ⟨a, vs, rfl, h1, h2⟩ := h
    cases r
    simp only [plainD] at z
    obtain ⟨its, rv, ⟨o, ho, hc, n, hd⟩, _⟩ := I.tuple (sqT_grow sub h1)
    obtain ⟨as, q1, q2⟩ := ats_reads I sub l vs its z h2 rv
    exact ⟨as, by simp only [py]; exact .tuple ho hc hd q1, fun y => q2 (by simpa only [noLst] using y)⟩
  | .lst l, v, u, z, h, r => by
    simp only [At] at h
    obtain ⟨a, vs, rfl, h1, h2⟩ := h
    cases r
    simp only [plainD] at z
    obtain ⟨its, rv, ⟨o, n, ho, hc, _, hd⟩, _⟩ := I.list (SqL.of (sub _ _ h1))
    obtain ⟨as, q1, q2⟩ := ats_reads I sub l vs its z h2 rv
    exact ⟨_, by simp only [py]; exact .list ho hc hd q1, fun y => by simp [noLst] at y⟩
  | .dic l, v, u, z, h, r => by
    simp only [At] at h
    obtain ⟨a, vs, rfl, h1, h2⟩ := h
    cases r
    simp only [plainD] at z
    obtain ⟨_, hsys, us, rv, o, es, ep, ho, hx, hd, _, hp, _⟩ := I.hok a _ (sub _ _ h1)
    obtain ⟨as, q1, q2, q3⟩ := atk_reads I sub l vs us es.toList z h2 rv hp
    refine ⟨_, by simp only [py]; exact .dict ho hx.1 hd q1 q2, fun y => ?_⟩
    have q4 := q3 (by simpa only [noLst] using y)
    have hne : a ≠ sysModules := by simpa using hsys
    simp only [List.append_nil, List.cons_append, List.mem_cons, not_or, List.nil_append]
    exact ⟨fun w => hne w.symm, q4⟩
  | .raw _, _, _, z, _, _ => by simp [plainD] at z
  | .deck _, _, _, z, _, _ => by simp [plainD] at z
  | .scr _, _, _, z, _, _ => by simp [plainD] at z
theorem ats_reads (I : L2.Inv X pins σ H s) (sub : ∀ a o, F a = some o → H a = some o) : ∀ (l : List D) (vs : List V) (us : List Value), plainDs l = true → Ats X.K F k l vs → Vals vs us → ∃ as, ReadsAll s.heap us (pys l) as ∧ (noLsts l = true → sysModules ∉ as)
  | [], vs, us, _, h, r => by simp only [Ats] at h; subst h; cases r; exact ⟨[], by simp only [pys]; exact .nil, fun _ => by simp⟩
  | d :: l, vs, us, z, h, r => by
    simp only [Ats] at h
    obtain ⟨v, vr, rfl, h1, h2⟩ := h
    cases r with
    | cons r1 r2 =>
      simp only [plainDs, Bool.and_eq_true] at z
      obtain ⟨as, q1, q2⟩ := at_reads I sub d v _ z.1 h1 r1
      obtain ⟨bs, q3, q4⟩ := ats_reads I sub l vr _ z.2 h2 r2
      refine ⟨as ++ bs, by simp only [pys]; exact .cons q1 q3, fun y => ?_⟩
      simp only [noLsts, Bool.and_eq_true] at y
      simp only [List.mem_append, not_or]
      exact ⟨q2 y.1, q4 y.2⟩
theorem atk_reads (I : L2.Inv X pins σ H s) (sub : ∀ a o, F a = some o → H a = some o) : ∀ (l : List (Key × D)) (vs : List (Key × V)) (us : List (Key × Value)) (es : List DictEntry), plainDk l = true → Atk X.K F k l vs → KV vs us → Pairs (mixKind X.prog X.w) es us →
    ∃ bs, ReadsAll s.heap (es.map (·.key)) ((pyk l).map (·.1)) [] ∧ ReadsAll s.heap (es.map (·.val)) ((pyk l).map (·.2)) bs ∧ (noLstk l = true → sysModules ∉ bs)
  | [], vs, us, es, _, h, r, p => by
    simp only [Atk] at h
    subst h
    cases r
    cases p
    exact ⟨[], by simp only [pyk, List.map_nil]; exact .nil, by simp only [pyk, List.map_nil]; exact .nil, fun _ => by simp⟩
  | (q, d) :: l, vs, us, es, z, h, r, p => by
    simp only [Atk] at h
    obtain ⟨v, vr, rfl, h1, h2⟩ := h
    cases r with
    | cons r1 r2 =>
      cases p with
      | cons p1 p2 p3 =>
        simp only [plainDk, Bool.and_eq_true] at z
        obtain ⟨e1, e2⟩ := r1
        obtain ⟨as, q1, q2⟩ := at_reads I sub d v _ z.1 h1 e2
        obtain ⟨bs, q3, q4, q5⟩ := atk_reads I sub l vr _ _ z.2 h2 r2 p3
        have hk := keys_read (h := s.heap) p1
        rw [← e1] at hk
        refine ⟨as ++ bs, ?_, ?_, fun y => ?_⟩
        · cases q with
          | inl i => simp only [pyk, List.map_cons]; exact .cons (as := []) (bs := []) hk q3
          | inr x => simp only [pyk, List.map_cons]; exact .cons (as := []) (bs := []) hk q3
        · rw [← p2] at q1
          cases q with
          | inl i => simp only [pyk, List.map_cons]; exact .cons q1 q4
          | inr x => simp only [pyk, List.map_cons]; exact .cons q1 q4
        · simp only [noLstk, Bool.and_eq_true] at y
          simp only [List.mem_append, not_or]
          exact ⟨q2 y.1, q5 y.2⟩
end
end
/-- what may be shown -/
structure ShowOk (d : D) : Prop where
  pl : plainD d = true
  sh : (py d).showable = true
  ds : noLst d = true ∨ (py d).hasDict = false
  dp : (py d).depth ≤ 60
  sz : (py d).shown.length ≤ sizeLine
def shown (d : D) : Str := (py d).shown
def cRepr : DC := fun ds G => match ds with
  | [d] => ShowOk d ∧ G (.str (shown d))
  | _ => False
theorem cd_repr {X : Cx} (gd : X.A.guards = some []) (hu : X.A.units + 64 < cLine) : CallD X (.builtin "repr") cRepr := by
  refine ⟨fun xs H Q => ∃ F k v d, xs = [v] ∧ (∀ a o, F a = some o → H a = some o) ∧ At X.K F k d v ∧ ShowOk d ∧ Q (.str (shown d)) H, ?_, fun e env oa σ F H k vs ds Q G R a p q => ?_⟩
  · rintro pins s σ H xs us Q I r ⟨F, k, v, d, rfl, sub, hA, hs, q⟩
    obtain ⟨u, rfl, ru⟩ := vals1 r
    obtain ⟨as, q1, q2⟩ := at_reads I sub d v u hs.pl hA ru
    have hsm : (py d).hasDict = true → sysModules ∉ as := fun z => by
      rcases hs.ds with y | y
      · exact q2 y
      · rw [y] at z; cases z
    have fin : ∀ h' t tk, (∀ b o, s.heap.get? b = some o → h'.get? b = some o) → EP X pins σ Q (.str (py d).shown t) { s with heap := h', toks := tk } := fun h' t tk kp => ⟨.str _, H, I.kept kp, ⟨_, rfl⟩, q⟩
    have base : ∀ (T : Str), (py d).shown = T → EP X pins σ Q (.str T s.toks) { s with toks := s.toks + 1 } := fun T e => by
      subst e
      exact fin s.heap _ _ fun _ _ z => z
    cases hd : d with
    | tup l =>
      subst hd
      simp only [At] at hA
      obtain ⟨x, _, rfl, _⟩ := hA
      cases ru
      exact repr_of_reads' q1 hs.sh hsm gd (by have := hs.dp; omega) (fun _ _ z => z) fin hs.sz
    | lst l =>
      subst hd
      simp only [At] at hA
      obtain ⟨x, _, rfl, _⟩ := hA
      cases ru
      exact repr_of_reads' q1 hs.sh hsm gd (by have := hs.dp; omega) (fun _ _ z => z) fin hs.sz
    | dic l =>
      subst hd
      simp only [At] at hA
      obtain ⟨x, _, rfl, _⟩ := hA
      cases ru
      exact repr_of_reads' q1 hs.sh hsm gd (by have := hs.dp; omega) (fun _ _ z => z) fin hs.sz
    | non =>
      subst hd
      simp only [At] at hA
      subst hA
      cases ru
      exact PySem.P.repr_of_none (base _ (by simp only [py, PyData.shown]))
    | bl b =>
      subst hd
      simp only [At] at hA
      subst hA
      cases ru
      exact PySem.P.repr_of_bool (base _ (by simp only [py, PyData.shown]))
    | int i =>
      subst hd
      simp only [At] at hA
      subst hA
      obtain ⟨t, rfl⟩ := ru
      exact PySem.P.repr_of_int (by have := hs.sh; simpa only [py, PyData.showable, decide_eq_true_eq] using this) (base _ (by simp only [py, PyData.shown]))
    | str x =>
      subst hd
      simp only [At] at hA
      subst hA
      obtain ⟨t, rfl⟩ := ru
      exact PySem.P.repr_of_str (base _ (by simp only [py, PyData.shown])) (by have := hs.sz; simpa only [py, PyData.shown] using this)
    | raw _ => subst hd; exact absurd hs.pl (by simp [plainD])
    | deck _ => subst hd; exact absurd hs.pl (by simp [plainD])
    | scr _ => subst hd; exact absurd hs.pl (by simp [plainD])
  · unfold cRepr at p
    split at p
    · simp only [Ats] at a
      obtain ⟨v, _, rfl, a1, rfl⟩ := a
      exact ⟨F, k, v, _, rfl, R.wd.sub, a1, p.1, q _ _ oa F H k p.2 R (Grow.refl _ _) (by simp only [At])⟩
    · exact p.elim
end DL
namespace DL
open PySem PySem.Spec L2
/-! ### items, slices -/
def ixD (l : List D) (i : Int) : Option D := if 0 ≤ i then l[i.toNat]? else if -(l.length : Int) ≤ i then l[(i + l.length).toNat]? else none
theorem ix_at {K : PySem.W.Frag} {F : Hp} {k : Dk} {l : List D} {vs : List V} (h : Ats K F k l vs) {i : Int} {d : D} (hd : ixD l i = some d) : ∃ v, atI vs i = some v ∧ At K F k d v := by
  have hl := Ats.length h
  unfold ixD at hd
  unfold atI ixN
  split at hd
  · rename_i h0
    obtain ⟨v, h1, h2⟩ := Ats.get h _ d hd
    have hlt := (List.getElem?_eq_some_iff.mp h1).1
    refine ⟨v, ?_, h2⟩
    rw [if_pos h0, if_pos (by omega)]
    exact h1
  · rename_i h0
    split at hd
    · rename_i h1
      obtain ⟨v, e1, e2⟩ := Ats.get h _ d hd
      refine ⟨v, ?_, e2⟩
      rw [if_neg h0, if_pos (by omega)]
      rw [hl] at e1
      exact e1
    · cases hd
def oIx : DO := fun x y G => match x, y with
  | .tup l, .int i => ∃ d, ixD l i = some d ∧ G d
  | .lst l, .int i => ∃ d, ixD l i = some d ∧ G d
  | _, _ => False
section
variable {wx : DX} {WW : WX} {ZZ : Fz} {X : Cx} {a b c : Expr} {pos : Pos} {f g h : DE}
theorem dl_ix (ha : PE X a (lift (X.kx wx WW ZZ) f)) (hb : PE X b (lift (X.kx wx WW ZZ) g)) (hs : PlainIx b := by exact fun _ _ => rfl) : PE X (.Subscript a b pos) (lift (X.kx wx WW ZZ) (dBin oIx f g)) :=
  (pe_ix ix_seq ha hb hs).w (lift_bin fun e env oa σ F H k x y dx dy Q G R a1 a2 p q => by
    unfold oIx at p
    split at p
    · simp only [At] at a1 a2
      obtain ⟨ad, vs, rfl, h1, h2⟩ := a1
      subst a2
      obtain ⟨d, p1, p2⟩ := p
      obtain ⟨v, e1, e2⟩ := ix_at h2 p1
      exact .inr (.inl ⟨ad, vs, _, v, rfl, rfl, sqT_grow R.wd.sub h1, e1, q d v oa F H k p2 R (Grow.refl _ _) e2⟩)
    · simp only [At] at a1 a2
      obtain ⟨ad, vs, rfl, h1, h2⟩ := a1
      subst a2
      obtain ⟨d, p1, p2⟩ := p
      obtain ⟨v, e1, e2⟩ := ix_at h2 p1
      exact .inl ⟨ad, vs, _, v, rfl, rfl, SqL.of (R.wd.sub _ _ h1), e1, q d v oa F H k p2 R (Grow.refl _ _) e2⟩
    · exact p.elim)
abbrev DP := Evn → (Option Int → Evn → Prop) → Prop
def liftO (K : Kx) (f : DP) : TO := fun σ H Q => ∃ e env oa F k, ∃ P : Option Int → Evn → Prop, Rel K e env oa σ F H k ∧ f env P ∧ ∀ b env' oa' F' H' k', P b env' → Rel K e env' oa' σ F' H' k' → Grow F F' k k' → Q b H'
theorem _root_.L2.PO.w {X : Cx} {a : Option Expr} {t t' : TO} (h : PO X a t) (w : ∀ σ H Q, t' σ H Q → t σ H Q) : PO X a t' := ⟨fun pins s σ H Q I q => h.run pins s σ H Q I (w _ _ _ q)⟩
def dNoP : DP := fun env Q => Q none env
def dSomeP (f : DE) : DP := fun env Q => f env fun d env1 => match d with
  | .int i => Q (some i) env1
  | _ => False
theorem dp_none : PO X none (liftO (X.kx wx WW ZZ) dNoP) := po_none.w fun σ H Q ⟨e, env, oa, F, k, P, R, p, q⟩ => q none env oa F H k p R (Grow.refl _ _)
theorem dp_some (h : PE X a (lift (X.kx wx WW ZZ) f)) : PO X (some a) (liftO (X.kx wx WW ZZ) (dSomeP f)) := (po_some h).w fun σ H Q ⟨e, env, oa, F, k, P, R, p, q⟩ => ⟨e, env, oa, F, k, _, R, p, fun d env1 v oa1 F1 H1 k1 p1 R1 g1 a1 => by
  cases d with
  | int i => simp only [At] at a1; exact ⟨i, a1, q _ env1 oa1 F1 H1 k1 p1 R1 g1⟩
  | _ => exact p1.elim⟩
def cutD (l : List D) (lo hi : Option Int) : List D := (l.drop (HT.sIx l.length 0 lo)).take (HT.sIx l.length l.length hi - HT.sIx l.length 0 lo)
theorem cut_at {K : PySem.W.Frag} {F : Hp} {k : Dk} {l : List D} {vs : List V} (h : Ats K F k l vs) (lo hi : Option Int) : Ats K F k (cutD l lo hi) (cutV vs lo hi) := by
  unfold cutD cutV
  rw [Ats.length h]
  exact (h.drop _).take _
def dSlice (f : DE) (lo hi : DP) : DE := fun env Q => f env fun d env1 => lo env1 fun x env2 => hi env2 fun y env3 => match d with
  | .tup l => Q (.tup (cutD l x y)) env3
  | .lst l => Q (.lst (cutD l x y)) env3
  | .scr ns => Q (.lst (cutD (ns.map D.int) x y)) env3
  | _ => False
theorem ats_ints {K : PySem.W.Frag} {F : Hp} {k : Dk} : ∀ ns : List Int, Ats K F k (ns.map D.int) (ns.map V.int)
  | [] => .nil
  | n :: ns => .cons (by simp only [At]) (ats_ints ns)
theorem dl_slice {lo hi : Option Expr} {fl fh : DP} {p2 : Pos} (ha : PE X a (lift (X.kx wx WW ZZ) f)) (hl : PO X lo (liftO (X.kx wx WW ZZ) fl)) (hh : PO X hi (liftO (X.kx wx WW ZZ) fh)) : PE X (.Subscript a (.Slice lo hi none p2) pos) (lift (X.kx wx WW ZZ) (dSlice f fl fh)) :=
  (pe_slice (sl_list.or sl_tupA) ha hl hh).w fun σ H Q ⟨e, env, oa, F, k, P, R, p, q⟩ => ⟨e, env, oa, F, k, _, R, p, fun d env1 v oa1 F1 H1 k1 p1 R1 g1 a1 => ⟨e, env1, oa1, F1, k1, _, R1, p1, fun x env2 oa2 F2 H2 k2 p2 R2 g2 => ⟨e, env2, oa2, F2, k2, _, R2, p2, fun y env3 oa3 F3 H3 k3 p3 R3 g3 => by
    have g13 := g2.trans g3
    cases d with
    | tup l =>
      simp only [At] at a1
      obtain ⟨ad, vs, rfl, h1, h2⟩ := a1
      have h1' := sqT_grow g13.1 h1
      have h2' := Ats.grow g13 _ _ h2
      refine .inr ⟨ad, vs, rfl, sqT_grow R3.wd.sub h1', fun ⟨z1, z2⟩ => ?_, fun _ t ht => ?_⟩
      · have ec : cutD l x y = l := by
          unfold cutD
          rw [Ats.length h2, z1, z2, List.drop_zero, Nat.sub_zero, ← Ats.length h2, List.take_length]
        exact q _ env3 _ oa3 F3 H3 k3 p3 R3 (g1.trans g13) (by rw [ec]; simp only [At]; exact ⟨ad, vs, rfl, h1', h2'⟩)
      · obtain ⟨R4, g4⟩ := R3.laid ht (.tup (cutV vs x y))
        exact q _ env3 _ oa3 _ _ k3 p3 R4 (g1.trans (g13.trans g4)) (by simp only [At]; exact ⟨t, _, rfl, SqT.of upd_same, cut_at (Ats.grow g4 _ _ h2') x y⟩)
    | lst l =>
      simp only [At] at a1
      obtain ⟨ad, vs, rfl, h1, h2⟩ := a1
      have h2' := Ats.grow g13 _ _ h2
      refine .inl ⟨ad, vs, rfl, SqL.of (R3.wd.sub _ _ (g13.1 _ _ h1)), fun t ht => ?_⟩
      obtain ⟨R4, g4⟩ := R3.laid ht (.lst (cutV vs x y))
      exact q _ env3 _ oa3 _ _ k3 p3 R4 (g1.trans (g13.trans g4)) (by simp only [At]; exact ⟨t, _, rfl, upd_same, cut_at (Ats.grow g4 _ _ h2') x y⟩)
    | scr ns =>
      simp only [At] at a1
      obtain ⟨ad, rfl, h1⟩ := a1
      have h1' : SqL X.K H3 ad (ns.map V.int) := by
        rcases h1 with h1 | h1
        · exact .inl (rd_grow R3.wd.sub (rd_grow g13.1 h1))
        · exact .inr h1
      refine .inl ⟨ad, _, rfl, h1', fun t ht => ?_⟩
      obtain ⟨R4, g4⟩ := R3.laid ht (.lst (cutV (ns.map V.int) x y))
      exact q _ env3 _ oa3 _ _ k3 p3 R4 (g1.trans (g13.trans g4)) (by simp only [At]; exact ⟨t, _, rfl, upd_same, cut_at (ats_ints ns) x y⟩)
    | _ => exact p3.elim⟩⟩⟩
end
/-! ### comprehensions -/
/-- an object of ours that is not yet given out, guarded while other things run -/
def gd (e : Ent) (p : Addr) (o : HO) : Ent := ⟨upd e.H0 p o, e.F0, e.k0⟩
section
variable {K : PySem.W.Frag} {e : Ent} {env : Evn} {oa : Nat → Addr} {σ : St} {F H : Hp} {k : Dk} {p : Addr} {o u : HO}
theorem Wd.noF (W : Wd e F H k) (hp : H p = none) : F p = none := by
  cases q : F p with
  | none => rfl
  | some u => rw [W.sub _ _ q] at hp; cases hp
theorem Wd.noDk (W : Wd e F H k) (hp : H p = none) : ∀ q, k = some q → p ≠ q.1 ∧ p ≠ q.2 := fun q hq => by
  obtain ⟨⟨kv, cs, h1, h2, _⟩, _⟩ := W.dk q hq
  exact ⟨fun z => (by rw [z, h1] at hp; cases hp), fun z => (by rw [z, h2] at hp; cases hp)⟩
/-- what is known of a guarded object -/
structure Gd (e : Ent) (p : Addr) : Prop where
  h0 : e.H0 p = none
  f0 : e.F0 p = none
  k0 : ∀ q, e.k0 = some q → p ≠ q.1 ∧ p ≠ q.2
/-- a new object is laid under guard -/
theorem Rel0.guard (R : Rel0 K e env oa σ F H k) (hp : H p = none) : Gd e p ∧ Rel0 K (gd e p o) env oa σ F (upd H p o) k := by
  have W := R.wd
  have hF := W.noF hp
  have hD := W.noDk hp
  have keep : ∀ a u, H a = some u → upd H p o a = some u := fun a u q => by rw [upd_ne (ne_of_none q hp)]; exact q
  refine ⟨⟨W.old hp, ?_, fun q hq => hD q (W.kk1 q hq)⟩, ⟨⟨fun a u q => keep _ _ (W.sub a u q), W.ini, fun a u q => ?_, fun a u q z => ?_, W.kk1, fun z q hq => ?_, fun q hq => ?_⟩, R.len, R.val, fun i ds hi => ?_, R.inj⟩⟩
  · cases q : e.F0 p with
    | none => rfl
    | some u => rw [W.ini _ _ q] at hF; cases hF
  · rcases W.new a u q with z | z
    · exact .inl z
    · by_cases ha : a = p
      · subst ha; rw [hF] at q; cases q
      · exact .inr ((upd_ne ha).trans z)
  · by_cases ha : a = p
    · subst ha
      have q' : upd e.H0 a o a = some u := q
      rw [upd_same] at q' ⊢; exact q'
    · have q' : upd e.H0 p o a = some u := q
      rw [upd_ne ha] at q'
      exact keep _ _ (W.fr a u q' z)
  · obtain ⟨n1, n2⟩ := W.kk2 z q hq
    obtain ⟨m1, m2⟩ := hD q hq
    exact ⟨(upd_ne (Ne.symm m1)).trans n1, (upd_ne (Ne.symm m2)).trans n2⟩
  · obtain ⟨⟨kv, cs, h1, h2, h3⟩, h4, h5⟩ := W.dk q hq
    exact ⟨⟨kv, cs, keep _ _ h1, keep _ _ h2, h3⟩, h4, h5⟩
  · obtain ⟨h1, ⟨vs, h2, h3⟩, h4, h5, h6⟩ := R.own i ds hi
    exact ⟨h1, ⟨vs, keep _ _ h2, h3⟩, h4, (upd_ne (ne_of_none h2 hp)).trans h5, h6⟩
/-- what stands under guard is as it was -/
theorem Rel0.guarded (G : Gd e p) (R : Rel0 K (gd e p o) env oa σ F H k) : H p = some o ∧ F p = none ∧ (∀ q, k = some q → p ≠ q.1 ∧ p ≠ q.2) ∧ ∀ i ds, env[i]? = some (Slot.own ds) → oa i ≠ p := by
  have W := R.wd
  have e1 : (gd e p o).H0 p = some o := upd_same
  have hH : H p = some o := W.fr p o e1 G.k0
  refine ⟨hH, ?_, fun q hq => ?_, fun i ds hi z => ?_⟩
  · cases q : F p with
    | none => rfl
    | some u =>
      rcases W.new p u q with z | z
      · have z' : e.F0 p = some u := z
        rw [G.f0] at z'; cases z'
      · rw [e1] at z; cases z
  · cases hk : e.k0 with
    | some q' =>
      have := W.kk1 q' hk
      rw [hq] at this; cases this
      exact G.k0 q hk
    | none =>
      obtain ⟨n1, n2⟩ := W.kk2 hk q hq
      exact ⟨fun z => (by rw [← z, e1] at n1; cases n1), fun z => (by rw [← z, e1] at n2; cases n2)⟩
  · obtain ⟨_, _, _, h5, _⟩ := R.own i ds hi
    rw [z, e1] at h5; cases h5
/-- it is written -/
theorem Rel0.gset (G : Gd e p) (R : Rel0 K (gd e p o) env oa σ F H k) (u : HO) : Rel0 K (gd e p u) env oa σ F (upd H p u) k := by
  obtain ⟨hH, hF, hD, hO⟩ := R.guarded G
  have W := R.wd
  refine ⟨⟨fun a v q => ?_, W.ini, fun a v q => ?_, fun a v q z => ?_, W.kk1, fun z q hq => ?_, fun q hq => ?_⟩, R.len, R.val, fun i ds hi => ?_, R.inj⟩
  · have ha : a ≠ p := fun z => by rw [z, hF] at q; cases q
    rw [upd_ne ha]; exact W.sub a v q
  · rcases W.new a v q with z | z
    · exact .inl z
    · by_cases ha : a = p
      · subst ha; rw [hF] at q; cases q
      · have z' : upd e.H0 p o a = none := z
        rw [upd_ne ha] at z'
        exact .inr ((upd_ne ha).trans z')
  · have q' : upd e.H0 p u a = some v := q
    by_cases ha : a = p
    · subst ha; rw [upd_same] at q' ⊢; exact q'
    · rw [upd_ne ha] at q' ⊢
      exact W.fr a v ((upd_ne ha).trans q') z
  · obtain ⟨m1, m2⟩ := hD q hq
    obtain ⟨n1, n2⟩ := W.kk2 z q hq
    have n1' : upd e.H0 p o q.1 = none := n1
    have n2' : upd e.H0 p o q.2 = none := n2
    rw [upd_ne (Ne.symm m1)] at n1'
    rw [upd_ne (Ne.symm m2)] at n2'
    exact ⟨(upd_ne (Ne.symm m1)).trans n1', (upd_ne (Ne.symm m2)).trans n2'⟩
  · obtain ⟨m1, m2⟩ := hD q hq
    obtain ⟨⟨kv, cs, h1, h2, h3⟩, h4, h5⟩ := W.dk q hq
    exact ⟨⟨kv, cs, (upd_ne (Ne.symm m1)).trans h1, (upd_ne (Ne.symm m2)).trans h2, h3⟩, h4, h5⟩
  · obtain ⟨h1, ⟨vs, h2, h3⟩, h4, h5, h6⟩ := R.own i ds hi
    have hne := hO i ds hi
    have h5' : upd e.H0 p o (oa i) = none := h5
    rw [upd_ne hne] at h5'
    exact ⟨h1, ⟨vs, (upd_ne hne).trans h2, h3⟩, h4, (upd_ne hne).trans h5', h6⟩
/-- it is given out, frozen -/
theorem Rel0.give (G : Gd e p) (R : Rel0 K (gd e p o) env oa σ F H k) : Rel0 K e env oa σ (upd F p o) H k ∧ Grow F (upd F p o) k k := by
  obtain ⟨hH, hF, hD, hO⟩ := R.guarded G
  have W := R.wd
  have g : Grow F (upd F p o) k k := ⟨fun a v q => by rw [upd_ne (ne_of_none q hF)]; exact q, fun _ q => q⟩
  refine ⟨⟨⟨fun a v q => ?_, fun a v q => g.1 _ _ (W.ini a v q), fun a v q => ?_, fun a v q z => ?_, W.kk1, fun z q hq => ?_, fun q hq => ?_⟩, R.len, fun i d hi => ?_, fun i ds hi => ?_, R.inj⟩, g⟩
  · by_cases ha : a = p
    · subst ha; rw [upd_same] at q; cases q; exact hH
    · rw [upd_ne ha] at q; exact W.sub a v q
  · by_cases ha : a = p
    · subst ha; exact .inr G.h0
    · rw [upd_ne ha] at q
      rcases W.new a v q with z | z
      · exact .inl z
      · exact .inr ((upd_ne ha).symm.trans z)
  · have ha : a ≠ p := fun y => by rw [y, G.h0] at q; cases q
    exact W.fr a v ((upd_ne ha).trans q) z
  · obtain ⟨m1, m2⟩ := hD q hq
    obtain ⟨n1, n2⟩ := W.kk2 z q hq
    exact ⟨(upd_ne (Ne.symm m1)).symm.trans n1, (upd_ne (Ne.symm m2)).symm.trans n2⟩
  · obtain ⟨m1, m2⟩ := hD q hq
    obtain ⟨d1, d2, d3⟩ := W.dk q hq
    exact ⟨d1, (upd_ne (Ne.symm m1)).trans d2, (upd_ne (Ne.symm m2)).trans d3⟩
  · obtain ⟨v, h1, h2⟩ := R.val i d hi
    exact ⟨v, h1, At.grow g d v h2⟩
  · obtain ⟨h1, ⟨vs, h2, h3⟩, h4, h5, h6⟩ := R.own i ds hi
    have hne := hO i ds hi
    exact ⟨h1, ⟨vs, h2, Ats.grow g ds vs h3⟩, (upd_ne hne).trans h4, (upd_ne hne).symm.trans h5, h6⟩
end
section
variable {K : Kx} {e : Ent} {env : Evn} {oa : Nat → Addr} {σ : St} {F H : Hp} {k : Dk} {p : Addr} {o u : HO}
theorem Lnk.gd (L : Lnk K e F k) (G : Gd e p) : Lnk K (gd e p o) F k := fun x env oa σ F' H' k' cls d hw R g hx => by
  obtain ⟨R2, g2⟩ := Rel0.give G R
  exact L x env oa σ _ H' k' cls d hw R2 (g.trans g2) (hx.grow g2)
theorem Rel.guard (R : Rel K e env oa σ F H k) (hp : H p = none) : Gd e p ∧ Rel K (gd e p o) env oa σ F (upd H p o) k := by
  obtain ⟨G, R1⟩ := R.toRel0.guard (o := o) hp
  exact ⟨G, R1, R.lnk.gd G, R.pz⟩
theorem Rel.guarded (G : Gd e p) (R : Rel K (DL.gd e p o) env oa σ F H k) : H p = some o ∧ F p = none ∧ (∀ q, k = some q → p ≠ q.1 ∧ p ≠ q.2) ∧ ∀ i ds, env[i]? = some (Slot.own ds) → oa i ≠ p := R.toRel0.guarded G
theorem Rel.gset (L : Lnk K e F k) (G : Gd e p) (R : Rel K (DL.gd e p o) env oa σ F H k) (u : HO) : Rel K (DL.gd e p u) env oa σ F (upd H p u) k := ⟨R.toRel0.gset G u, L.gd G, R.pz⟩
theorem Rel.give (L : Lnk K e F k) (G : Gd e p) (R : Rel K (DL.gd e p o) env oa σ F H k) : Rel K e env oa σ (upd F p o) H k ∧ Grow F (upd F p o) k k := by
  obtain ⟨a, g⟩ := Rel0.give G R.toRel0
  exact ⟨⟨a, L.grow g, K.z.mono g R.pz⟩, g⟩
end
end DL
namespace DL
open PySem PySem.Spec L2
section
variable {K : PySem.W.Frag} {e : Ent} {env : Evn} {oa : Nat → Addr} {σ : St} {F H : Hp} {k : Dk} {p : Addr} {o u : HO}
theorem Rel0.clear (R : Rel0 K e env oa σ F H k) (i : Nat) : Rel0 K e (env.set i .no) oa (σ.set i none) F H k := by
  have back : ∀ (j : Nat) (s : Slot), s ≠ .no → (env.set i Slot.no)[j]? = some s → j ≠ i ∧ env[j]? = some s := fun j s hs h => by
    by_cases hj : j = i
    · subst hj
      by_cases hl : j < env.length
      · rw [List.getElem?_set_self hl] at h; cases h; exact absurd rfl hs
      · rw [List.getElem?_eq_none (by rw [List.length_set]; omega)] at h; cases h
    · rw [List.getElem?_set_ne (Ne.symm hj)] at h
      exact ⟨hj, h⟩
  refine ⟨R.wd, by rw [List.length_set, List.length_set]; exact R.len, fun j d h => ?_, fun j ds h => ?_, fun j j' ds es h h' => ?_⟩
  · obtain ⟨hj, h⟩ := back j _ (by simp) h
    obtain ⟨v, h1, h2⟩ := R.val j d h
    exact ⟨v, by rw [List.getElem?_set_ne (Ne.symm hj)]; exact h1, h2⟩
  · obtain ⟨hj, h⟩ := back j _ (by simp) h
    obtain ⟨h1, h2⟩ := R.own j ds h
    exact ⟨by rw [List.getElem?_set_ne (Ne.symm hj)]; exact h1, h2⟩
  · exact R.inj j j' ds es (back j _ (by simp) h).2 (back j' _ (by simp) h').2
def wipeD (env : Evn) : List Nat → Evn
  | [] => env
  | v :: vs => (wipeD env vs).set v .no
theorem Rel0.wipe (R : Rel0 K e env oa σ F H k) : ∀ vs : List Nat, Rel0 K e (wipeD env vs) oa (wipe σ vs) F H k
  | [] => R
  | v :: vs => (Rel0.wipe R vs).clear v
def keepS : Option Slot → Slot
  | some (.val d) => .val d
  | _ => .no
def restD (env : Evn) : List Nat → Evn → Evn
  | [], env4 => env4
  | v :: vs, env4 => (restD env vs env4).set v (keepS env[v]?)
theorem restD_length (env : Evn) : ∀ (vs : List Nat) (env4 : Evn), (restD env vs env4).length = env4.length
  | [], _ => rfl
  | v :: vs, env4 => by unfold restD; rw [List.length_set, restD_length env vs env4]
theorem restD_at {env env4 : Evn} {i : Nat} {s : Slot} : ∀ {vs : List Nat}, (restD env vs env4)[i]? = some s → (i ∈ vs ∧ s = keepS env[i]?) ∨ (i ∉ vs ∧ env4[i]? = some s)
  | [], h => .inr ⟨by simp, h⟩
  | v :: vs, h => by
    unfold restD at h
    by_cases hi : i = v
    · subst hi
      by_cases hl : i < (restD env vs env4).length
      · rw [List.getElem?_set_self hl] at h
        exact .inl ⟨by simp, (Option.some.inj h).symm⟩
      · rw [List.getElem?_eq_none (by rw [List.length_set]; omega)] at h; cases h
    · rw [List.getElem?_set_ne (Ne.symm hi)] at h
      rcases restD_at h with ⟨a, b⟩ | ⟨a, b⟩
      · exact .inl ⟨List.mem_cons_of_mem _ a, b⟩
      · exact .inr ⟨by simp only [List.mem_cons, not_or]; exact ⟨hi, a⟩, b⟩
theorem Rel0.restore {e' : Ent} {oa4 : Nat → Addr} {env4 : Evn} {σ4 : St} {F4 H4 : Hp} {k4 : Dk} (R : Rel0 K e' env oa σ F H k) (R4 : Rel0 K e env4 oa4 σ4 F4 H4 k4) (g : Grow F F4 k k4) {vs : List Nat} (hl : σ4.length = σ.length) (hs : ∀ j, j ∉ vs → σ4[j]? = σ[j]?) :
    Rel0 K e (restD env vs env4) oa4 σ F4 H4 k4 := by
  have own : ∀ (i : Nat) (ds : List D), (restD env vs env4)[i]? = some (.own ds) → i ∉ vs ∧ env4[i]? = some (.own ds) := fun i ds h => by
    rcases restD_at h with ⟨_, b⟩ | z
    · cases q : env[i]? with
      | none => rw [q] at b; cases b
      | some s => rw [q] at b; cases s <;> cases b
    · exact z
  refine ⟨R4.wd, by rw [restD_length, R4.len, hl], fun i d h => ?_, fun i ds h => ?_, fun i j ds es h h' => R4.inj i j ds es (own i ds h).2 (own j es h').2⟩
  · rcases restD_at h with ⟨_, b⟩ | ⟨hn, z⟩
    · cases q : env[i]? with
      | none => rw [q] at b; cases b
      | some s =>
        rw [q] at b
        cases s with
        | val d' =>
          cases b
          obtain ⟨v, h1, h2⟩ := R.val i d q
          exact ⟨v, h1, At.grow g d v h2⟩
        | no => cases b
        | own _ => cases b
    · obtain ⟨v, h1, h2⟩ := R4.val i d z
      exact ⟨v, by rw [← hs i hn]; exact h1, h2⟩
  · obtain ⟨hn, z⟩ := own i ds h
    obtain ⟨h1, h2⟩ := R4.own i ds z
    exact ⟨by rw [← hs i hn]; exact h1, h2⟩
end
section
variable {K : Kx} {e : Ent} {env : Evn} {oa : Nat → Addr} {σ : St} {F H : Hp} {k : Dk} {p : Addr} {o u : HO}
theorem Rel.wipe (R : Rel K e env oa σ F H k) (vs : List Nat) : Rel K e (wipeD env vs) oa (wipe σ vs) F H k := R.up (R.toRel0.wipe vs) (Grow.refl _ _)
theorem Rel.clear (R : Rel K e env oa σ F H k) (i : Nat) : Rel K e (env.set i .no) oa (σ.set i none) F H k := R.up (R.toRel0.clear i) (Grow.refl _ _)
theorem Rel.restore {e' : Ent} {oa4 : Nat → Addr} {env4 : Evn} {σ4 : St} {F4 H4 : Hp} {k4 : Dk} (R : Rel K e' env oa σ F H k) (R4 : Rel K e env4 oa4 σ4 F4 H4 k4) (g : Grow F F4 k k4) {vs : List Nat} (hl : σ4.length = σ.length) (hs : ∀ j, j ∉ vs → σ4[j]? = σ[j]?) :
    Rel K e (restD env vs env4) oa4 σ F4 H4 k4 := R4.up (Rel0.restore R.toRel0 R4.toRel0 g hl hs) (Grow.refl _ _)
end
def compL (g : DG) (t : DT) (f : DE) (vs : List Nat) : List D → List D → Evn → (List D → Evn → Prop) → Prop
  | [], acc, env, Q => Q acc env
  | d :: l, acc, env, Q => g d (wipeD env vs) fun env2 => t env2 fun b env3 => if b = true then f env3 fun y env4 => acc.length < 10000000 ∧ compL g t f vs l (acc ++ [y]) (restD env vs env4) Q else compL g t f vs l acc (restD env vs env3) Q
def dLc (fi : DA) (g : DG) (t : DT) (f : DE) (vs : List Nat) : DE := fun env Q => fi env fun ds env1 => compL g t f vs ds [] env1 fun acc env2 => Q (.lst acc) env2
theorem wipe_ext {σ σ' : St} : ∀ {vs : List Nat}, σ'.length = σ.length → (∀ j, j ∉ vs → σ'[j]? = σ[j]?) → wipe σ' vs = wipe σ vs := by
  intro vs hl hs
  apply List.ext_getElem?
  intro i
  by_cases hi : i ∈ vs
  · have z : ∀ τ : St, τ.length = σ.length → (wipe τ vs)[i]? = if i < σ.length then some none else none := fun τ ht => by
      by_cases hlt : i < σ.length
      · rw [if_pos hlt]
        cases q : (wipe τ vs)[i]? with
        | none => exact absurd (List.getElem?_eq_none_iff.mp q) (by rw [wipe_length, ht]; omega)
        | some s =>
          cases s with
          | none => rfl
          | some v => exact absurd hi (wipe_some q).2
      · rw [if_neg hlt, List.getElem?_eq_none (by rw [wipe_length, ht]; omega)]
    rw [z σ' hl, z σ rfl]
  · rw [wipe_out hi, wipe_out hi, hs i hi]
theorem lift_lc {K : Kx} {fi : DA} {g : DG} {t : DT} {f : DE} {vs L : List Nat} (hL : ∀ i ∈ L, i ∈ vs) : ∀ σ H Q, lift K (dLc fi g t f vs) σ H Q → tLc (liftI K fi) (liftG K L g) (liftT K t) (lift K f) vs σ H Q := fun σ H Q ⟨e, env, oa, F, k, P, R, p, q⟩ =>
  ⟨e, env, oa, F, k, _, R, p, fun ds env1 oa1 F1 H1 k1 J p1 R1 g1 runs => fun Dd hD => by
    refine ⟨fun i m H' => m = ds.length - i ∧ i ≤ ds.length ∧ ∃ acc vacc env' oa' F' k', Gd e Dd ∧ Rel K (gd e Dd (.lst vacc)) env' oa' σ F' H' k' ∧ Grow F1 F' k1 k' ∧ Ats K F' k' acc vacc ∧ compL g t f vs (ds.drop i) acc env' fun acc env2 => P (.lst acc) env2, ?_, ?_⟩
    · obtain ⟨G, R2⟩ := R1.guard (o := .lst []) hD
      exact ⟨ds.length, by simp, Nat.zero_le _, [], [], env1, oa1, F1, k1, G, R2, Grow.refl _ _, .nil, p1⟩
    rintro i m H2 ⟨rfl, hi, acc, vacc, env2, oa2, F2, k2, G, R2, g2, A2, p2⟩
    obtain ⟨hs, hg⟩ := runs _ env2 oa2 σ F2 H2 k2 i R2.toRel0 g2
    by_cases hlt : i < ds.length
    · refine .inr ⟨(hg ds[i] (by simp [hlt])).1, fun H' => ∃ acc vacc env' oa' F' k', Gd e Dd ∧ Rel K (gd e Dd (.lst vacc)) env' oa' σ F' H' k' ∧ Grow F1 F' k1 k' ∧ Ats K F' k' acc vacc ∧ compL g t f vs (ds.drop (i + 1)) acc env' fun acc env2 => P (.lst acc) env2,
        fun H' h => ⟨ds.length - (i + 1), by omega, rfl, hlt, h⟩, fun y H3 hy => ?_⟩
      obtain ⟨F3, R30, g3, a3⟩ := (hg ds[i] (by simp [hlt])).2 y H3 hy
      have R3 := R2.up R30 g3
      rw [List.drop_eq_getElem_cons hlt] at p2
      refine ⟨_, wipeD env2 vs, oa2, F3, k2, ds[i], _, R3.wipe vs, a3, p2, fun env4 oa4 σ4 F4 H4 k4 p4 R4 g4 l4 s4 => ?_⟩
      have l4' : σ4.length = σ.length := l4.trans (wipe_length σ vs)
      have s4' : ∀ j, j ∉ vs → σ4[j]? = σ[j]? := fun j hj => (s4 j fun z => hj (hL j z)).trans (wipe_out hj)
      refine ⟨by
        have := wipe_ext (vs := vs) l4' s4'
        exact this, _, env4, oa4, F4, k4, _, R4, p4, fun b env5 oa5 F5 H5 k5 p5 R5 g5 => ?_⟩
      cases b with
      | false =>
        have g35 := g4.trans g5
        exact ⟨acc, vacc, _, oa5, F5, k5, G, R3.restore R5 g35 l4' s4', g2.trans (g3.trans g35), Ats.grow (g3.trans g35) _ _ A2, p5⟩
      | true =>
        refine ⟨_, env5, oa5, F5, k5, _, R5, p5, fun d env6 v oa6 F6 H6 k6 p6 R6 g6 a6 => ?_⟩
        have g36 := g4.trans (g5.trans g6)
        obtain ⟨hH, _⟩ := R6.guarded G
        have hlen : vacc.length < sizeLine := by
          rw [← Ats.length A2]
          exact Nat.lt_of_lt_of_le p6.1 (size10 (Nat.le_refl _))
        have R6' := R3.restore R6 g36 l4' s4'
        exact ⟨vacc, hH, hlen, acc ++ [d], vacc ++ [v], _, oa6, F6, k6, G, R6'.gset (R1.lnk.grow (g2.trans (g3.trans g36))) G _, g2.trans (g3.trans g36), Ats.append (Ats.grow (g3.trans g36) _ _ A2) (.cons a6 .nil), p6.2⟩
    · have ei : i = ds.length := by omega
      subst ei
      rw [List.drop_length] at p2
      obtain ⟨R3, g3⟩ := R2.give (R1.lnk.grow g2) G
      refine .inl ⟨hs (Nat.le_refl _), q _ env2 _ oa2 _ H2 k2 p2 R3 (g1.trans (g2.trans g3)) ?_⟩
      simp only [At]
      exact ⟨Dd, vacc, rfl, upd_same, Ats.grow g3 _ _ A2⟩⟩
def dYes : DT := fun env Q => Q true env
section
variable {wx : DX} {WW : WX} {ZZ : Fz} {X : Cx}
theorem dts_nil : PTs X [] (liftT (X.kx wx WW ZZ) dYes) := ⟨fun pins s σ H Q I ⟨e, env, oa, F, k, P, R, p, q⟩ => pts_nil.run pins s σ H Q I (q true env oa F H k p R (Grow.refl _ _))⟩
theorem dl_lc {elt tg iter : Expr} {ifs : List Expr} {scope : Scope} {own : List (Str × Nat)} {pos : Pos} {fi : DA} {g : DG} {t : DT} {f : DE} {L : List Nat} (hc : X.calm = true) (hN : X.N.Nodup) (hi : PI X tg iter (liftI (X.kx wx WW ZZ) fi)) (ok : BlkOk X.N X.env.scope scope own)
    (hg : ∀ (s : Shared) (H : Hp) (C : Addr) (cl : List (Str × Addr)) (fp : List Addr), PG (X.blk s H scope (compEnvC scope cl C X.env) fp) tg (liftG (X.kx wx WW ZZ) L g)) (ht : ∀ (s : Shared) (H : Hp) (C : Addr) (cl : List (Str × Addr)) (fp : List Addr), PTs (X.blk s H scope (compEnvC scope cl C X.env) fp) ifs (liftT (X.kx wx WW ZZ) t))
    (he : ∀ (s : Shared) (H : Hp) (C : Addr) (cl : List (Str × Addr)) (fp : List Addr), PE (X.blk s H scope (compEnvC scope cl C X.env) fp) elt (lift (X.kx wx WW ZZ) f)) (hL : ∀ i ∈ L, i ∈ own.map (·.2)) (hs : ∀ x, foldedSetIterable iter X.env x = pure x := by intro _; rfl) :
    PE X (.ListComp elt [⟨tg, iter, ifs, 0⟩] scope pos) (lift (X.kx wx WW ZZ) (dLc fi g t f (own.map (·.2)))) := (pe_lc hc hN hi ok hg ht he hs).w (lift_lc hL)
theorem ds_setLc {i : Nat} {y : Str} {py : Pos} {elt tg iter : Expr} {ifs : List Expr} {scope : Scope} {own : List (Str × Nat)} {pos spos : Pos} {fi : DA} {g : DG} {t : DT} {f : DE} {L : List Nat} (hc : X.calm = true) (hN : X.N.Nodup) (hy : X.N[i]? = some y) (hyl : X.env.scope.names.lookup y = some .local)
    (hsw : swapsWith (.ListComp elt [⟨tg, iter, ifs, 0⟩] scope pos) (some (.Name y py)) spos.line X.env = pure true) (hi : PI X tg iter (liftI (X.kx wx WW ZZ) fi)) (ok : BlkOk X.N X.env.scope scope own)
    (hg : ∀ (s : Shared) (H : Hp) (C : Addr) (cl : List (Str × Addr)) (fp : List Addr), PG (X.blk s H scope (compEnvC scope cl C X.env) fp) tg (liftG (X.kx wx WW ZZ) L g)) (ht : ∀ (s : Shared) (H : Hp) (C : Addr) (cl : List (Str × Addr)) (fp : List Addr), PTs (X.blk s H scope (compEnvC scope cl C X.env) fp) ifs (liftT (X.kx wx WW ZZ) t))
    (he : ∀ (s : Shared) (H : Hp) (C : Addr) (cl : List (Str × Addr)) (fp : List Addr), PE (X.blk s H scope (compEnvC scope cl C X.env) fp) elt (lift (X.kx wx WW ZZ) f)) (hL : ∀ i ∈ L, i ∈ own.map (·.2)) (hs : ∀ x, foldedSetIterable iter X.env x = pure x := by intro _; rfl) :
    PS X (.Assign [.Name y py] (.ListComp elt [⟨tg, iter, ifs, 0⟩] scope pos) spos) (liftS (X.kx wx WW ZZ) (dAsg (dLc fi g t f (own.map (·.2))) (gName i))) :=
  (L2.ps_setLc (i := i) hc hN hy hyl hsw hi ok hg ht he hs).w fun E σ H ⟨e, env, oa, F, k, B, R, p, n, r, b, c⟩ => lift_lc hL σ H _ ⟨e, env, oa, F, k, _, R, p, fun d env1 w oa1 F1 H1 k1 p1 R1 g1 a1 => n _ oa1 _ F1 H1 k1 p1 (R1.put a1) g1⟩
end
end DL
namespace DL
open PySem PySem.Spec L2
/-! ### lists of the def's own -/
section
variable {K : PySem.W.Frag} {e : Ent} {env : Evn} {oa : Nat → Addr} {σ : St} {F H : Hp} {k : Dk} {p : Addr}
/-- a new list, bound to a slot -/
theorem Rel0.putOwn (R : Rel0 K e env oa σ F H k) (hp : H p = none) {ds : List D} {vs : List V} (hA : Ats K F k ds vs) (i : Nat) :
    Rel0 K e (env.set i (.own ds)) (fun j => if j = i then p else oa j) (σ.set i (some (.ref p))) F (upd H p (.lst vs)) k := by
  have W := R.wd
  have hF := W.noF hp
  have hD := W.noDk hp
  have keep : ∀ a u, H a = some u → upd H p (.lst vs) a = some u := fun a u q => by rw [upd_ne (ne_of_none q hp)]; exact q
  have back : ∀ (j : Nat) (s : Slot), j ≠ i → (env.set i (Slot.own ds))[j]? = some s → env[j]? = some s := fun j s hj h => by
    rw [List.getElem?_set_ne (Ne.symm hj)] at h; exact h
  have lt : ∀ (s : Slot), (env.set i (Slot.own ds))[i]? = some s → i < env.length ∧ s = .own ds := fun s h => by
    by_cases hl : i < env.length
    · rw [List.getElem?_set_self hl] at h; cases h; exact ⟨hl, rfl⟩
    · rw [List.getElem?_eq_none (by rw [List.length_set]; omega)] at h; cases h
  refine ⟨⟨fun a u q => keep _ _ (W.sub a u q), W.ini, W.new, fun a u q z => keep _ _ (W.fr a u q z), W.kk1, W.kk2, fun q hq => ?_⟩, by rw [List.length_set, List.length_set]; exact R.len, fun j d h => ?_, fun j es h => ?_, fun j j' es es' h h' hj => ?_⟩
  · obtain ⟨⟨kv, cs, h1, h2, h3⟩, h4, h5⟩ := W.dk q hq
    exact ⟨⟨kv, cs, keep _ _ h1, keep _ _ h2, h3⟩, h4, h5⟩
  · by_cases hj : j = i
    · subst hj; cases (lt _ h).2
    · obtain ⟨v, h1, h2⟩ := R.val j d (back j _ hj h)
      exact ⟨v, by rw [List.getElem?_set_ne (Ne.symm hj)]; exact h1, h2⟩
  · by_cases hj : j = i
    · subst hj
      obtain ⟨hl, e1⟩ := lt _ h
      cases e1
      rw [if_pos rfl]
      exact ⟨List.getElem?_set_self (by rw [← R.len]; exact hl), ⟨vs, upd_same, hA⟩, hF, W.old hp, hD⟩
    · obtain ⟨h1, ⟨us, h2, h3⟩, h4, h5, h6⟩ := R.own j es (back j _ hj h)
      rw [if_neg hj]
      exact ⟨by rw [List.getElem?_set_ne (Ne.symm hj)]; exact h1, ⟨us, keep _ _ h2, h3⟩, h4, h5, h6⟩
  · have nz : ∀ (m : Nat) (es : List D), m ≠ i → (env.set i (Slot.own ds))[m]? = some (.own es) → oa m ≠ p := fun m es hm hh => by
      obtain ⟨_, ⟨us, h2, _⟩, _⟩ := R.own m es (back m _ hm hh)
      exact ne_of_none h2 hp
    by_cases h1 : j = i
    · by_cases h2 : j' = i
      · rw [h1, h2]
      · rw [if_pos h1, if_neg h2] at hj
        exact absurd hj.symm (nz j' es' h2 h')
    · by_cases h2 : j' = i
      · rw [if_neg h1, if_pos h2] at hj
        exact absurd hj (nz j es h1 h)
      · rw [if_neg h1, if_neg h2] at hj
        exact R.inj j j' es es' (back j _ h1 h) (back j' _ h2 h') hj
/-- an own list is written -/
theorem Rel0.setOwn (R : Rel0 K e env oa σ F H k) {i : Nat} {ds es : List D} {us : List V} (hi : env[i]? = some (.own ds)) (hA : Ats K F k es us) : Rel0 K e (env.set i (.own es)) oa σ F (upd H (oa i) (.lst us)) k := by
  have W := R.wd
  obtain ⟨i1, ⟨vs, i2, i3⟩, i4, i5, i6⟩ := R.own i ds hi
  have hlt : i < env.length := (List.getElem?_eq_some_iff.mp hi).1
  have back : ∀ (j : Nat) (s : Slot), j ≠ i → (env.set i (Slot.own es))[j]? = some s → env[j]? = some s := fun j s hj h => by
    rw [List.getElem?_set_ne (Ne.symm hj)] at h; exact h
  have own' : ∀ (j : Nat) (fs : List D), (env.set i (Slot.own es))[j]? = some (.own fs) → ∃ gs, env[j]? = some (.own gs) := fun j fs h => by
    by_cases hj : j = i
    · subst hj; exact ⟨ds, hi⟩
    · exact ⟨fs, back j _ hj h⟩
  refine ⟨⟨fun a u q => ?_, W.ini, W.new, fun a u q z => ?_, W.kk1, W.kk2, fun q hq => ?_⟩, by rw [List.length_set]; exact R.len, fun j d h => ?_, fun j fs h => ?_, fun j j' fs fs' h h' hj => ?_⟩
  · rw [upd_ne fun z => by rw [z, i4] at q; cases q]; exact W.sub a u q
  · rw [upd_ne fun z => by rw [z, i5] at q; cases q]; exact W.fr a u q z
  · obtain ⟨⟨kv, cs, h1, h2, h3⟩, h4, h5⟩ := W.dk q hq
    obtain ⟨n1, n2⟩ := i6 q hq
    exact ⟨⟨kv, cs, (upd_ne (Ne.symm n1)).trans h1, (upd_ne (Ne.symm n2)).trans h2, h3⟩, h4, h5⟩
  · by_cases hj : j = i
    · subst hj; rw [List.getElem?_set_self hlt] at h; cases h
    · exact R.val j d (back j _ hj h)
  · by_cases hj : j = i
    · subst hj
      rw [List.getElem?_set_self hlt] at h
      cases h
      exact ⟨i1, ⟨us, upd_same, hA⟩, i4, i5, i6⟩
    · have hb := back j _ hj h
      obtain ⟨h1, ⟨us', h2, h3⟩, h4, h5, h6⟩ := R.own j fs hb
      have ne : oa j ≠ oa i := fun z => hj (R.inj j i fs ds hb hi z)
      exact ⟨h1, ⟨us', (upd_ne ne).trans h2, h3⟩, h4, h5, h6⟩
  · obtain ⟨gs, hg⟩ := own' j fs h
    obtain ⟨gs', hg'⟩ := own' j' fs' h'
    exact R.inj j j' gs gs' hg hg' hj
end
section
variable {K : Kx} {e : Ent} {env : Evn} {oa : Nat → Addr} {σ : St} {F H : Hp} {k : Dk} {p : Addr}
theorem Rel.putOwn (R : Rel K e env oa σ F H k) (hp : H p = none) {ds : List D} {vs : List V} (hA : Ats K F k ds vs) (i : Nat) :
    Rel K e (env.set i (.own ds)) (fun j => if j = i then p else oa j) (σ.set i (some (.ref p))) F (upd H p (.lst vs)) k := R.up (R.toRel0.putOwn hp hA i) (Grow.refl _ _)
theorem Rel.setOwn (R : Rel K e env oa σ F H k) {i : Nat} {ds es : List D} {us : List V} (hi : env[i]? = some (.own ds)) (hA : Ats K F k es us) : Rel K e (env.set i (.own es)) oa σ F (upd H (oa i) (.lst us)) k := R.up (R.toRel0.setOwn hi hA) (Grow.refl _ _)
end
section
variable {wx : DX} {WW : WX} {ZZ : Fz} {X : Cx} {a b c : Expr} {es : List Expr} {pos : Pos} {f g h : DE} {fa : DA}
def dNew (i : Nat) (fa : DA) : DS := fun B env => fa env fun ds env1 => ds.length ≤ 10000000 ∧ B.nx (env1.set i (.own ds))
/-- x = [..], the list to be changed later -/
theorem ds_new {i : Nat} {x : Str} {pos' lp : Pos} (hN : X.N.Nodup) (hi : X.N[i]? = some x) (hx : Loc X.env.scope x) (h : PA X es (liftA (X.kx wx WW ZZ) fa)) (hs : swapsWith (.List es lp) (some (.Name x pos')) pos.line X.env = pure false := by rfl)
    (hf : X.fn x = true ∨ X.env.scope.names.lookup x = some .local := by first | exact .inl rfl | exact .inr rfl | assumption) : PS X (.Assign [.Name x pos'] (.List es lp) pos) (liftS (X.kx wx WW ZZ) (dNew i fa)) :=
  (ps_set (i := i) hN hi hx (pe_lst h) hs hf).w fun E σ H ⟨e, env, oa, F, k, B, R, p, n, r, b, c⟩ => ⟨e, env, oa, F, k, _, R, p, fun ds env1 vs oa1 F1 H1 k1 ⟨z, p1⟩ R1 g1 a1 => ⟨by rw [← Ats.length a1]; exact size10 z, fun t ht =>
    n _ _ _ F1 _ k1 p1 (R1.putOwn ht a1 i) g1⟩⟩
def isOwn : Option Slot → Bool
  | some (.own _) => true
  | _ => false
def dAppend (i : Nat) (f : DE) : DS := fun B env => isOwn env[i]? = true ∧ f env fun d env1 => match env1[i]? with
  | some (.own ds) => ds.length < 10000000 ∧ B.nx (env1.set i (.own (ds ++ [d])))
  | _ => False
/-- x.append(e) -/
theorem ds_append {i : Nat} {o : Expr} {apos cpos : Pos} (ho : PE X o (tVar i)) (h : PE X a (lift (X.kx wx WW ZZ) f)) (hbase : attributeBase o "append" X.env (eval o X.env) = eval o X.env := by rfl)
    (hfew : ((backTo cpos (starEach [a] X.env)).all (fun x => !x.1) && (backToKw cpos (keywordEach [] X.env)).all (fun x => x.1.isSome) && decide (([a] : List Expr).length + ([] : List Keyword).length + (if ([] : List Keyword).isEmpty then 0 else 1) < 30)) = true := by rfl)
    (hline : (apos.endLine == cpos.line) = true := by rfl) (hs : starEach [a] X.env = (false, eval a X.env) :: starEach [] X.env := by rfl) (hplain : (backTo cpos (starEach [] X.env)).any (·.1) = false := by rfl) (hs0 : starEach [] X.env = [] := by rfl)
    (hsw : swapsWith (.Call (.Attribute o "append" apos) [a] [] cpos) none pos.line X.env = pure false := by rfl) : PS X (.Expr (.Call (.Attribute o "append" apos) [a] [] cpos) pos) (liftS (X.kx wx WW ZZ) (dAppend i f)) :=
  (ps_expr (pe_bm PySem.F.plainAttrs_list PySem.F.slot_list_append PySem.F.type_list_append mt_append ho (pa_cons h pa_nil hs) hbase hfew hline hs hplain) hsw).w fun E σ H ⟨e, env, oa, F, k, B, R, ⟨po, p⟩, n, r, b, c⟩ => by
    cases hq : env[i]? with
    | none => rw [hq] at po; cases po
    | some s =>
      cases s with
      | no => rw [hq] at po; cases po
      | val _ => rw [hq] at po; cases po
      | own ds0 =>
        obtain ⟨i1, ⟨vs0, i2, i3⟩, i4, i5, i6⟩ := R.own i ds0 hq
        refine ⟨_, i1, .inl ⟨rfl, vs0, SqL.of i2⟩, e, env, oa, F, k, _, R, p, fun d env1 v oa1 F1 H1 k1 p1 R1 g1 a1 => ?_⟩
        cases hq1 : env1[i]? with
        | none => rw [hq1] at p1; exact p1.elim
        | some s =>
          rw [hq1] at p1
          cases s with
          | no => exact p1.elim
          | val _ => exact p1.elim
          | own ds =>
            obtain ⟨j1, ⟨vs, j2, j3⟩, j4, j5, j6⟩ := R1.own i ds hq1
            have eo : oa i = oa1 i := by
              rw [i1] at j1
              exact V.ref.inj (Option.some.inj (Option.some.inj j1))
            refine ⟨oa i, vs, v, rfl, rfl, by rw [eo]; exact j2, by rw [← Ats.length j3]; exact Nat.lt_of_lt_of_le p1.1 (size10 (Nat.le_refl _)), ?_⟩
            rw [eo]
            exact n _ oa1 σ F1 _ k1 p1.2 (R1.setOwn hq1 (Ats.append j3 (.cons a1 .nil))) g1
/-! ### dict displays -/
def dDic0 : DE := fun env Q => Q (.dic []) env
theorem dl_dic0 : PE X (.Dict [] [] pos) (lift (X.kx wx WW ZZ) dDic0) := pe_dnewK.w fun σ H Q ⟨e, env, oa, F, k, P, R, p, q⟩ t ht => by
  obtain ⟨R2, g2⟩ := R.laid ht (.dK [])
  exact q _ env _ oa _ _ k p R2 g2 (by simp only [At]; exact ⟨t, [], rfl, upd_same, by simp only [Atk]⟩)
def dDic1 (s : Str) (f : DE) : DE := fun env Q => f env fun d env1 => Q (.dic [(.inr s, d)]) env1
theorem dl_dic1 {s : Str} {j : Nat} {kp : Pos} (h : PE X a (lift (X.kx wx WW ZZ) f)) : PE X (.Dict [some (.Constant (.str s) j kp)] [a] pos) (lift (X.kx wx WW ZZ) (dDic1 s f)) :=
  (pe_disp (pps_cons pe_str h pps_nil) rfl rfl (by simp) (by show 1 ≤ 15; decide)).w fun σ H Q ⟨e, env, oa, F, k, P, R, p, q⟩ t ht => by
    obtain ⟨G, R1⟩ := R.guard (o := .dK []) ht
    refine ⟨_, env, oa, F, k, _, R1, p, fun d env2 v oa2 F2 H2 k2 p2 R2 g2 a2 => ?_⟩
    refine ⟨(R2.guarded G).1, [(.inr s, v)], rfl, (by show 1 ≤ 15; decide), ?_⟩
    obtain ⟨R3, g3⟩ := (R2.gset (R.lnk.grow g2) G (.dK [(.inr s, v)])).give (R.lnk.grow g2) G
    refine q _ env2 _ oa2 _ _ k2 p2 R3 (g2.trans g3) ?_
    simp only [At]
    refine ⟨t, [(.inr s, v)], rfl, upd_same, ?_⟩
    simp only [Atk]
    exact ⟨v, [], rfl, At.grow g3 _ _ a2, rfl⟩
end
/-! ### calls with keywords -/
def pickL {α : Type} (ix : List Nat) (l : List α) : List α := ix.filterMap fun i => l[i]?
theorem vals_pick {vs : List V} {us : List Value} (r : Vals vs us) : ∀ ix : List Nat, Vals (pickL ix vs) (pickL ix us)
  | [] => .nil
  | i :: ix => by
    have ih := vals_pick r ix
    unfold pickL at ih ⊢
    rw [List.filterMap_cons, List.filterMap_cons]
    cases q : vs[i]? with
    | none => rw [Vals.none_of r q]; exact ih
    | some v =>
      obtain ⟨u, h1, h2⟩ := Vals.get r q
      rw [h1]
      exact .cons h2 ih
theorem ats_pick {K : PySem.W.Frag} {F : Hp} {k : Dk} {ds : List D} {vs : List V} (r : Ats K F k ds vs) : ∀ ix : List Nat, Ats K F k (pickL ix ds) (pickL ix vs)
  | [] => .nil
  | i :: ix => by
    have ih := ats_pick r ix
    unfold pickL at ih ⊢
    rw [List.filterMap_cons, List.filterMap_cons]
    cases q : ds[i]? with
    | none =>
      have : vs[i]? = none := by
        rw [List.getElem?_eq_none_iff] at q ⊢
        rw [← Ats.length r]; exact q
      rw [this]; exact ih
    | some d =>
      obtain ⟨v, h1, h2⟩ := Ats.get r i d q
      rw [h1]
      exact .cons h2 ih
/-- how a call with n positional values and the keywords ks binds -/
def KwB (K : PySem.W.Frag) (fd : FuncData) (ps : List Str) (n : Nat) (ks : List Str) (ix : List Nat) : Prop := ∀ (s : Shared) (us ws : List Value), us.length = n → ws.length = ks.length → BindsTo s fd ⟨us, ks.zip ws⟩ (ps.zip (pickL ix (us ++ ws)))
theorem kwB {K : PySem.W.Frag} {x qual : Str} {params : Arguments} {body : List Stmt} {scope : Scope} {kws : List (Str × V)} {f : Addr} {fd : FuncData} {ps : List Str} {n : Nat} {ks : List Str} {ix : List Nat} (F : FunD K x qual params body scope [] kws f fd)
    (h : ∀ (kV doc pm : Value) (an : Option Addr) (cdv ct : Value) (us ws : List Value), us.length = n → ws.length = ks.length → bindArgs (PySem.W.fnOf x qual params body scope .none kV doc pm an cdv ct) ⟨us, ks.zip ws⟩ = pure (ps.zip (pickL ix (us ++ ws)))) : KwB K fd ps n ks ix := by
  obtain ⟨oc, od, dV, kV, doc, pm, an, cdv, ct, osl, rfl, lk, hcd, hD, hK⟩ := F.ex
  rcases hD with ⟨_, rfl⟩ | ⟨z, _⟩
  · exact fun s us ws l1 l2 => .of_eq (h kV doc pm an cdv ct us ws l1 l2)
  · exact absurd rfl z
def liftK := liftA
def dCallK (S : SD) (n m : Nat) (ix : List Nat) (fa fk : DA) : DE := fun env Q => fa env fun ds env1 => fk env1 fun zs env2 => (ds.length = n ∧ zs.length = m) ∧ S (pickL ix (ds ++ zs)) (fun d => Q d env2) fun _ => False
section
variable {wx : DX} {WW : WX} {ZZ : Fz} {X : Cx} {k : Nat} {f : Addr} {fd : FuncData} {ps ks : List Str} {S : SD} {x : Str} {p pos : Pos} {e : Expr} {es : List Expr} {kws : List Keyword} {fa fk : DA} {n : Nat} {ix : List Nat}
theorem _root_.L2.PK.w {a : List Keyword} {t t' : TA} (h : PK X a t) (w : ∀ σ H Q, t' σ H Q → t σ H Q) : PK X a t' := ⟨fun pos pins s σ H Q I q => h.run pos pins s σ H Q I (w _ _ _ q)⟩
theorem dk_nil : PK X [] (liftA (X.kx wx WW ZZ) dNil) := pk_nil.w fun σ H Q ⟨e, env, oa, F, k, P, R, p, q⟩ => q [] env [] oa F H k p R (Grow.refl _ _) .nil
theorem dk_cons {a : Expr} {g : DE} {nm : Option Str} {kpos : Pos} (ha : PE X a (lift (X.kx wx WW ZZ) g)) (hr : PK X kws (liftA (X.kx wx WW ZZ) fk)) : PK X (⟨nm, a, kpos⟩ :: kws) (liftA (X.kx wx WW ZZ) (dCons g fk)) :=
  (pk_cons ha hr).w fun σ H Q ⟨e, env, oa, F, k, P, R, p, q⟩ => ⟨e, env, oa, F, k, _, R, p, fun d env1 v oa1 F1 H1 k1 p1 R1 g1 a1 => ⟨e, env1, oa1, F1, k1, _, R1, p1, fun ds env2 vs oa2 F2 H2 k2 p2 R2 g2 a2 =>
    q (d :: ds) env2 (v :: vs) oa2 F2 H2 k2 p2 R2 (g1.trans g2) (.cons (At.grow g2 _ _ a1) a2)⟩⟩
/-- the callee, at data -/
theorem ranD {pins : List (Addr × Obj)} {σ : L2.St} {H : Hp} {s : Shared} {args : Args} {us : List Value} {vs : List V} {en : Ent} {env : Evn} {oa : Nat → Addr} {F : Hp} {dk : Dk} {ds : List D} {PP : D → Prop} {Q : VK} (FN : FnG X.prog X.w X.K X.mg X.base (L2.CX X.prog X.w) k f fd ps (spD X.K X.mg S))
    (gd : X.A.guards = some []) (hr : Room k X.A) (I : L2.Inv X pins σ H s) (hb : BindsTo s fd args (ps.zip us)) (rv : Vals vs us) (R : Rel (X.kx wx WW ZZ) en env oa σ F H dk) (a : Ats X.K F dk ds vs) (h : S ds PP fun _ => False)
    (q : ∀ d v F' H' k', PP d → Rel (X.kx wx WW ZZ) en env oa σ F' H' k' → Grow F F' dk k' → At X.K F' k' d v → Q v H') : wpAny (model X.prog X.w) X.A (call (.ref f) args.pos args.kw) (EP X pins σ Q) X.xe s := by
  have hsp : spD X.K X.mg S vs H Q E0 := ⟨ds, F, dk, PP, _, R.self, a, h, fun d v H' pd ⟨F', k', W, ad⟩ => by
    obtain ⟨R2, g2⟩ := R.after W
    exact q d v F' H' k' pd R2 g2 ad, fun _ _ _ _ z _ => z.elim⟩
  refine PySem.wpAny_call (codeAny_mono (ranG FN gd hr (E := E0) passL I hb rv hsp) ?_)
  intro r s' z
  rcases r with z' | fl
  · exact z
  · cases fl <;> exact z
theorem dl_callK (FN : FnG X.prog X.w X.K X.mg X.base (L2.CX X.prog X.w) k f fd ps (spD X.K X.mg S)) (gd : X.A.guards = some []) (hr : Room k X.A) (hg : Gl X x) (hm : X.mg x = some (.ref f)) (hk : PySem.W.keepIn X.K (.ref f) = true) (hb : KwB X.K fd ps n ks ix)
    (ha : PA X (e :: es) (liftA (X.kx wx WW ZZ) fa)) (hkw : PK X kws (liftA (X.kx wx WW ZZ) fk)) (hall : (backToKw pos (keywordEach kws X.env)).all (·.1.isSome) = true := by rfl) (hks : (backToKw pos (keywordEach kws X.env)).filterMap (·.1) = ks := by rfl)
    (hdb : (x == ("__debug__" : Str)) = false := by decide) (he : starEach (e :: es) X.env = (false, eval e X.env) :: starEach es X.env := by rfl)
    (hpl : ((backTo pos (starEach (e :: es) X.env)).any (·.1) || (backToKw pos (keywordEach kws X.env)).any (·.1.isNone)) = false := by rfl) :
    PE X (.Call (.Name x p) (e :: es) kws pos) (lift (X.kx wx WW ZZ) (dCallK S n ks.length ix fa fk)) := by
  constructor
  intro pins s σ H Q I ⟨en, env, oa, F, dk, P, R, pp, q⟩
  apply wpAny_Call_Name_kw (ld_glob I hg hm _ hdb)
  refine PySem.W.callWith_KW I.ok.mod.kin hk hall (thn (ha.run pos pins s σ H (fun vs H1 => ∃ ds env1 oa1 F1 k1, _ ∧ Rel (X.kx wx WW ZZ) en env1 oa1 σ F1 H1 k1 ∧ Grow F F1 dk k1 ∧ Ats X.K F1 k1 ds vs) I ⟨en, env, oa, F, dk, _, R, pp, fun ds env1 vs oa1 F1 H1 k1 p1 R1 g1 a1 => ⟨ds, env1, oa1, F1, k1, p1, R1, g1, a1⟩⟩) ?_) hpl he
  rintro us s1 ⟨vs, H1, I1, r1, ds, env1, oa1, F1, k1, p1, R1, g1, a1⟩
  refine thn (hkw.run pos pins s1 σ H1 (fun vs H2 => ∃ zs env2 oa2 F2 k2, _ ∧ Rel (X.kx wx WW ZZ) en env2 oa2 σ F2 H2 k2 ∧ Grow F1 F2 k1 k2 ∧ Ats X.K F2 k2 zs vs) I1 ⟨en, env1, oa1, F1, k1, _, R1, p1, fun ds env1 vs oa1 F1 H1 k1 p1 R1 g1 a1 => ⟨ds, env1, oa1, F1, k1, p1, R1, g1, a1⟩⟩) ?_
  rintro ws s2 ⟨zv, H2, I2, r2, zs, env2, oa2, F2, k2, ⟨⟨l1, l2⟩, p2⟩, R2, g2, a2⟩
  refine ⟨I2.kIn, ?_⟩
  rw [hks]
  have a12 := Ats.append (Ats.grow g2 _ _ a1) a2
  have l1' : us.length = n := by rw [← r1.length, ← Ats.length a1]; exact l1
  have l2' : ws.length = ks.length := by rw [← r2.length, ← Ats.length a2]; exact l2
  exact ranD (args := ⟨us, ks.zip ws⟩) FN gd hr I2 (hb s2 us ws l1' l2') (vals_pick (r1.append r2) ix) R2 (ats_pick a12 ix) p2 fun d v F' H' k' pd R' g' a' => q d env2 v oa2 F' H' k' pd R' (g1.trans (g2.trans g')) a'
theorem dl_callK0 (FN : FnG X.prog X.w X.K X.mg X.base (L2.CX X.prog X.w) k f fd ps (spD X.K X.mg S)) (gd : X.A.guards = some []) (hr : Room k X.A) (hg : Gl X x) (hm : X.mg x = some (.ref f)) (hk : PySem.W.keepIn X.K (.ref f) = true) (hb : KwB X.K fd ps 0 ks ix)
    (hkw : PK X kws (liftA (X.kx wx WW ZZ) fk)) (hall : (backToKw pos (keywordEach kws X.env)).all (·.1.isSome) = true := by rfl) (hks : (backToKw pos (keywordEach kws X.env)).filterMap (·.1) = ks := by rfl)
    (hdb : (x == ("__debug__" : Str)) = false := by decide) (hpl : ((backTo pos (starEach [] X.env)).any (·.1) || (backToKw pos (keywordEach kws X.env)).any (·.1.isNone)) = false := by rfl) :
    PE X (.Call (.Name x p) [] kws pos) (lift (X.kx wx WW ZZ) (dCallK S 0 ks.length ix dNil fk)) := by
  constructor
  intro pins s σ H Q I ⟨en, env, oa, F, dk, P, R, pp, q⟩
  apply wpAny_Call_Name_kw (ld_glob I hg hm _ hdb)
  refine PySem.W.callWith_KW0 I.kIn hk hall ?_ hpl
  refine thn (hkw.run pos pins s σ H (fun vs H2 => ∃ zs env2 oa2 F2 k2, _ ∧ Rel (X.kx wx WW ZZ) en env2 oa2 σ F2 H2 k2 ∧ Grow F F2 dk k2 ∧ Ats X.K F2 k2 zs vs) I ⟨en, env, oa, F, dk, _, R, pp, fun ds env1 vs oa1 F1 H1 k1 p1 R1 g1 a1 => ⟨ds, env1, oa1, F1, k1, p1, R1, g1, a1⟩⟩) ?_
  rintro ws s2 ⟨zv, H2, I2, r2, zs, env2, oa2, F2, k2, ⟨⟨l1, l2⟩, p2⟩, R2, g2, a2⟩
  refine ⟨I2.kIn, ?_⟩
  rw [hks]
  have l2' : ws.length = ks.length := by rw [← r2.length, ← Ats.length a2]; exact l2
  exact ranD (args := ⟨[], ks.zip ws⟩) FN gd hr I2 (hb s2 [] ws rfl l2') (vals_pick r2 ix) R2 (ats_pick a2 ix) p2 fun d v F' H' k' pd R' g' a' => q d env2 v oa2 F' H' k' pd R' (g2.trans g') a'
end
end DL
namespace DL
open PySem PySem.Spec L2
/-! ### a def that others call -/
structure Cal (P : Program) (w : World) (K : PySem.W.Frag) (mg : Str → Option Value) (base : Heap) (x : Str) (ps : List Str) (n : Nat) (kw : List (Nat × List Str × List Nat)) (S : SD) : Prop where
  ex : ∃ a fd, FnG P w K mg base (L2.CX P w) n a fd ps (spD K mg S) ∧ mg x = some (.ref a) ∧ PySem.W.keepIn K (.ref a) = true ∧ Binds K fd ps [] ∧ ∀ t ∈ kw, KwB K fd ps t.1 t.2.1 t.2.2
section
variable {wx : DX} {WW : WX} {ZZ : Fz} {X : Cx} {k n : Nat} {ps ks : List Str} {S : SD} {x : Str} {p pos : Pos} {e : Expr} {es : List Expr} {kws : List Keyword} {fa fk : DA} {ix : List Nat} {kw : List (Nat × List Str × List Nat)}
theorem dc (C : Cal X.prog X.w X.K X.mg X.base x ps k kw S) (gd : X.A.guards = some []) (hr : Room k X.A) (hg : Gl X x)
    (ha : PA X (e :: es) (liftA (X.kx wx WW ZZ) fa)) (hdb : (x == ("__debug__" : Str)) = false := by decide) (he : starEach (e :: es) X.env = (false, eval e X.env) :: starEach es X.env := by rfl) (hpl : (backTo pos (starEach es X.env)).any (·.1) = false := by rfl) :
    PE X (.Call (.Name x p) (e :: es) [] pos) (lift (X.kx wx WW ZZ) (dCall S fa)) := by
  obtain ⟨a, fd, F, hm, hk, hb, _⟩ := C.ex
  exact dl_call F gd hr hg hm hk hb ha hdb he hpl
theorem dc0 (C : Cal X.prog X.w X.K X.mg X.base x ps k kw S) (gd : X.A.guards = some []) (hr : Room k X.A) (hg : Gl X x) (hdb : (x == ("__debug__" : Str)) = false := by decide) :
    PE X (.Call (.Name x p) [] [] pos) (lift (X.kx wx WW ZZ) (dCall S dNil)) := by
  obtain ⟨a, fd, F, hm, hk, hb, _⟩ := C.ex
  exact dl_call0 F gd hr hg hm hk hb hdb
theorem dck (C : Cal X.prog X.w X.K X.mg X.base x ps k kw S) (gd : X.A.guards = some []) (hr : Room k X.A) (hg : Gl X x) (hw : (n, ks, ix) ∈ kw)
    (ha : PA X (e :: es) (liftA (X.kx wx WW ZZ) fa)) (hkw : PK X kws (liftA (X.kx wx WW ZZ) fk)) (hall : (backToKw pos (keywordEach kws X.env)).all (·.1.isSome) = true := by rfl) (hks : (backToKw pos (keywordEach kws X.env)).filterMap (·.1) = ks := by rfl)
    (hdb : (x == ("__debug__" : Str)) = false := by decide) (he : starEach (e :: es) X.env = (false, eval e X.env) :: starEach es X.env := by rfl)
    (hpl : ((backTo pos (starEach (e :: es) X.env)).any (·.1) || (backToKw pos (keywordEach kws X.env)).any (·.1.isNone)) = false := by rfl) :
    PE X (.Call (.Name x p) (e :: es) kws pos) (lift (X.kx wx WW ZZ) (dCallK S n ks.length ix fa fk)) := by
  obtain ⟨a, fd, F, hm, hk, hb, hq⟩ := C.ex
  exact dl_callK F gd hr hg hm hk (hq _ hw) ha hkw hall hks hdb he hpl
theorem dck0 (C : Cal X.prog X.w X.K X.mg X.base x ps k kw S) (gd : X.A.guards = some []) (hr : Room k X.A) (hg : Gl X x) (hw : (0, ks, ix) ∈ kw)
    (hkw : PK X kws (liftA (X.kx wx WW ZZ) fk)) (hall : (backToKw pos (keywordEach kws X.env)).all (·.1.isSome) = true := by rfl) (hks : (backToKw pos (keywordEach kws X.env)).filterMap (·.1) = ks := by rfl)
    (hdb : (x == ("__debug__" : Str)) = false := by decide) (hpl : ((backTo pos (starEach [] X.env)).any (·.1) || (backToKw pos (keywordEach kws X.env)).any (·.1.isNone)) = false := by rfl) :
    PE X (.Call (.Name x p) [] kws pos) (lift (X.kx wx WW ZZ) (dCallK S 0 ks.length ix dNil fk)) := by
  obtain ⟨a, fd, F, hm, hk, hb, hq⟩ := C.ex
  exact dl_callK0 F gd hr hg hm hk (hq _ hw) hkw hall hks hdb hpl
end
/-! ### built-ins' names -/
theorem bt_isinstance : bootBuiltins "isinstance" = some (.builtin "isinstance") := by decide +kernel
theorem bt_len : bootBuiltins "len" = some (.builtin "len") := by decide +kernel
theorem bt_all : bootBuiltins "all" = some (.builtin "all") := by decide +kernel
theorem bt_any : bootBuiltins "any" = some (.builtin "any") := by decide +kernel
theorem bt_abs : bootBuiltins "abs" = some (.builtin "abs") := by decide +kernel
theorem bt_max : bootBuiltins "max" = some (.builtin "max") := by decide +kernel
theorem bt_min : bootBuiltins "min" = some (.builtin "min") := by decide +kernel
theorem bt_repr : bootBuiltins "repr" = some (.builtin "repr") := by decide +kernel
theorem bt_sum : bootBuiltins "sum" = some (.builtin "sum") := by decide +kernel
theorem bt_sorted : bootBuiltins "sorted" = some (.builtin "sorted") := by decide +kernel
theorem bt_int : bootBuiltins "int" = some (.type "int") := by decide +kernel
theorem bt_bool : bootBuiltins "bool" = some (.type "bool") := by decide +kernel
theorem bt_str : bootBuiltins "str" = some (.type "str") := by decide +kernel
theorem bt_list : bootBuiltins "list" = some (.type "list") := by decide +kernel
theorem bt_tuple : bootBuiltins "tuple" = some (.type "tuple") := by decide +kernel
theorem bt_dict : bootBuiltins "dict" = some (.type "dict") := by decide +kernel
theorem bt_range : bootBuiltins "range" = some (.type "range") := by decide +kernel
/-! ### the law's own end -/
def spLaw (K : PySem.W.Frag) : Sp := fun vs H Q _ => ∃ (p : Addr) (ns : List Int), vs = [.ref p] ∧ SqL K H p (ns.map V.int) ∧ ns.length ≤ 63 ∧ Only H ∧ ∀ H', Q (.bl true) H'
/-- the law, called: K its written part, H nothing but the script -/
theorem lawG {P : Program} {w : World} {K : PySem.W.Frag} {mg mb : Str → Option Value} {n : Nat} {fa p : Addr} {fd : FuncData} {x : Str} {s1 : Shared} {vs : List Value} {ns : List Int}
    (inK : K.In s1.heap) (main : s1.heap.Ns mainGlobals mg) (blt : s1.heap.Ns builtinsNs mb) (bts : ∀ y : Str, y ≠ "__name__" → mb y = bootBuiltins y) (lim : s1.heap.NoLimit) (gens : s1.gens = #[])
    (obj : s1.heap.get? p = some { cls := .type "list", data := .seq vs.toArray }) (are : PyProof.Rows.IntsAre vs ns) (len : ns.length ≤ 63) (room : Room n PySem.callerA)
    (F : ∀ base : Heap, K.In base → base.Ns mainGlobals mg → FnG P w K mg base (L2.CX P w) n fa fd [x] (spLaw K)) (binds : ∀ (s : Shared) (u : Value), BindsTo s fd ⟨[u], []⟩ [(x, u)]) :
    codeAny (model P w) PySem.callerA (.call (.ref fa) ⟨[.ref p], []⟩) (fun r s' => r = .ok (.ret (.bool true)) ∧ PySem.OldK s1.heap s'.heap ∧ s'.os = s1.os ∧ PyProof.Rows.AllBare s'.gens) s1 := by
  have rv := vals_ints are
  have lvs := are.length
  have go : ∀ H : Hp, Only H → SqL K H p (ns.map V.int) → HOk P w H s1.heap → (∀ q, H q ≠ none → q = p ∧ K.lookup p = none) →
      codeAny (model P w) PySem.callerA (.call (.ref fa) ⟨[.ref p], []⟩) (fun r s' => r = .ok (.ret (.bool true)) ∧ PySem.OldK s1.heap s'.heap ∧ s'.os = s1.os ∧ PyProof.Rows.AllBare s'.gens) s1 := by
    intro H only seq ok here
    have off : ∀ {q : Addr} {o : Obj}, s1.heap.get? q = some o → (∀ a b, o.data ≠ .seq a b) → H q = none := by
      intro q o h1 h2
      cases e : H q with
      | none => rfl
      | some u =>
        obtain ⟨rfl, _⟩ := here q (by rw [e]; simp)
        rw [obj] at h1
        cases h1
        exact absurd rfl (h2 _ _)
    have offK : ∀ {q : Addr} {o : Obj}, K.lookup q = some o → H q = none := by
      intro q o h1
      cases e : H q with
      | none => rfl
      | some u =>
        obtain ⟨rfl, h2⟩ := here q (by rw [e]; simp)
        rw [h1] at h2; cases h2
    have nsB : ∀ {q : Addr} {m : Str → Option Value}, s1.heap.Ns q m → (hidT s1.heap H).Ns q m := by
      rintro q m ⟨o, es, ep, h1, h2, h3⟩
      exact ⟨o, es, ep, hidT_get h1 (off h1 fun a b z => by rw [h2] at z; cases z), h2, h3⟩
    have kB : K.In (hidT s1.heap H) := fun q o h1 => hidT_get (inK q o h1) (offK h1)
    obtain ⟨ml, lim1, lim2⟩ := lim
    have e0 : Env0 P w K mg (hidT s1.heap H) PySem.callerA [] s1 H :=
      { frames := rfl, mod := ⟨kB, nsB main, ⟨mb, nsB blt, bts⟩, ⟨ml, nsB lim1, lim2⟩⟩, bs := fun q o h1 => of_hidT h1, bsz := Nat.le_of_eq (hidT_size _ _), funs := trivial,
        frf := fun q hq => absurd (show q ∈ ([] : List Addr) from hq) (by simp), hok := ok, bare := .of_eq gens }
    have hsp : spLaw K [.ref p] H (fun v _ => v = .bl true) E0 := ⟨p, ns, rfl, seq, len, only, fun _ => rfl⟩
    refine codeAny_mono ((F _ kB (nsB main)).go (us := [.ref p]) (vs := [.ref p]) rfl room e0 (binds s1 (.ref p)) (.cons rfl .nil) hsp) ?_
    intro r s' h
    rcases r with z | fl
    · obtain ⟨_, _, _, _, _, _, _, _, _, _, _, _, zz⟩ := h
      exact False.elim zz
    cases fl with
    | next => exact False.elim h
    | brk => exact False.elim h
    | cont => exact False.elim h
    | ret u =>
      obtain ⟨v, H', os, bare, un, ok', r', q⟩ := h
      cases (show v = .bl true from q)
      cases (show u = Value.bool true from r')
      refine ⟨rfl, PySem.OldK.of_keep fun q o h1 => ?_, os, bare⟩
      cases e : H q with
      | none => exact un.keep q o h1 e (fun z => absurd (show q ∈ ([] : List Addr) from z) (by simp)) (by simp)
      | some u =>
        rcases only q with z | ⟨ob, xs, z⟩
        · rw [e] at z; cases z
        · have a1 := ok q _ z
          have a2 := ok' q _ (un.frzs q ob _ z)
          have b1 : s1.heap.get? q = some ob := a1.1
          have b2 : s'.heap.get? q = some ob := a2.1
          rw [h1] at b1
          cases b1
          exact b2
  cases hk : K.lookup p with
  | some o =>
    have h1 := inK p o hk
    rw [obj] at h1
    cases h1
    refine go (fun _ => none) (fun _ => .inl rfl) (.inr ⟨_, vs.toArray, _, hk, rfl, rfl, rfl, ?_, by simpa using rv⟩) (fun q u z => by cases (show (none : Option HO) = some u from z)) fun q z => absurd rfl z
    rw [List.size_toArray, lvs]
    exact size10 (by omega)
  | none =>
    refine go (upd (fun _ => none) p (.frz { cls := .type "list", data := .seq vs.toArray } (.lst (ns.map V.int)))) (fun q => ?_) (.inl (.inr ⟨_, upd_same⟩)) (fun q u z => ?_) fun q z => ?_
    · by_cases hq : q = p
      · subst hq; exact .inr ⟨_, _, upd_same⟩
      · exact .inl (upd_ne hq)
    · by_cases hq : q = p
      · subst hq
        rw [upd_same] at z
        cases z
        exact ⟨obj, by rw [List.length_map]; exact size10 (by omega), vs, _, rv, obj⟩
      · rw [upd_ne hq] at z; cases z
    · by_cases hq : q = p
      · exact ⟨hq, hk⟩
      · exact absurd (upd_ne hq) z
theorem walkG {l : PySem.W.OpenLaw} {n : Nat} {q : Program} {loose : List Str} {XP : (Str → Option Value) → Heap → Prop} {YP : World → Heap → Prop} {d : DefRec} {x : Str} (hm : l.most = some 63) (hd : d.params.defaults = []) (room : Room n PySem.callerA)
    (F : ∀ (w : World) (mg : Str → Option Value) (fa : Addr) (h : Heap), YP w h → h.Ns mainGlobals mg → mg d.name = some (.ref fa) →
      ∃ (K : PySem.W.Frag) (fd : FuncData), K.In h ∧ (∀ (s : Shared) (u : Value), BindsTo s fd ⟨[u], []⟩ [(x, u)]) ∧
        ∀ base : Heap, K.In base → base.Ns mainGlobals mg → FnG l.prog w K mg base (L2.CX l.prog w) n fa fd [x] (spLaw K)) : PySem.W.WalkO q loose XP YP l.row.toRowW d [] (fun f vs => PySem.call f vs) := by
  apply Att.attach_call hm hd
  intro w s0 s1 mg mb fa o pm cd doc p vs ns G Y _ _ _ hmg obj are len gens
  obtain ⟨K, fd, inK, binds, FF⟩ := F w mg fa _ Y G.T.g hmg
  exact lawG inK G.T.g G.T.b G.T.builtins G.T.nolimit gens obj are len room FF binds
end DL
namespace DL
open PySem PySem.Spec L2
/-! ### x[::-1] -/
section
variable {prog : Program} {w : World} {A : Around} {E : Value → Shared → Prop} {s : Shared}
theorem back_applied {sl : Addr} {t : Tok} {n : Nat} {Q : Int × Int × Nat → Shared → Prop} (hs : s.heap.IsSliceOf sl .none .none (.int (-1) t)) (h : Q ((n : Int) - 1, -1, n) s) :
    wpAny (model prog w) A (Builtin.Slice.sliceApplied (.ref sl) (pure (n : Int))) Q E s := by
  obtain ⟨o, h1, h2, h3⟩ := id hs
  unfold Builtin.Slice.sliceApplied Builtin.Slice.sliceFields
  refine wpAny_bind (wpAny_bind (wpAny_field h1 h3 (x := .none) rfl ?_))
  refine wpAny_bind (wpAny_field h1 h3 (x := .none) rfl ?_)
  refine wpAny_bind (wpAny_field h1 h3 (x := .int (-1) t) rfl (wpAny_pure ?_))
  refine wpAny_bind (HT.slicePart_ (.int (-1) t) ?_)
  show wpAny _ _ (if ((-1 : Int) == 0) = true then _ else _) _ _ s
  rw [if_neg (by decide)]
  refine wpAny_bind (HT.slicePart_ .none (wpAny_bind (HT.slicePart_ .none (wpAny_bind (wpAny_pure ?_)))))
  have e1 : Builtin.Slice.sliceAdjust none none (-1) (n : Int) = ((n : Int) - 1, -1) := by
    unfold Builtin.Slice.sliceAdjust
    simp
  have e2 : Builtin.Slice.slicePlaces ((n : Int) - 1) (-1) (-1) = n := by
    unfold Builtin.Slice.slicePlaces
    simp
    try omega
  show wpAny _ _ (match Builtin.Slice.sliceAdjust none none (-1) (n : Int) with | (lo, hi) => pure (lo, (-1 : Int), Builtin.Slice.slicePlaces lo hi (-1))) _ _ s
  rw [e1]
  show wpAny _ _ (pure ((n : Int) - 1, (-1 : Int), Builtin.Slice.slicePlaces ((n : Int) - 1) (-1) (-1))) _ _ s
  rw [e2]
  exact wpAny_pure h
theorem fm_congr {α β : Type} {f g : α → Option β} : ∀ {l : List α}, (∀ x ∈ l, f x = g x) → l.filterMap f = l.filterMap g
  | [], _ => rfl
  | a :: l, h => by
    rw [List.filterMap_cons, List.filterMap_cons, h a (List.mem_cons_self ..), fm_congr (l := l) fun x hx => h x (List.mem_cons_of_mem _ hx)]
theorem back_pick (xs : Array Value) : ((List.range xs.size).filterMap fun (m : Nat) => xs[(((xs.size : Int) - 1) + (m : Int) * (-1)).toNat]?).toArray = xs.toList.reverse.toArray := by
  congr 1
  have e : (List.range xs.size).filterMap (fun (m : Nat) => xs[(((xs.size : Int) - 1) + (m : Int) * (-1)).toNat]?) = (List.range xs.size).filterMap (fun m => xs.toList.reverse[m]?) := by
    apply fm_congr
    intro m hm
    have hm' : m < xs.size := List.mem_range.mp hm
    have z : (((xs.size : Int) - 1) + (m : Int) * (-1)).toNat = xs.size - 1 - m := by omega
    rw [z, List.getElem?_reverse (by simpa using hm'), Array.length_toList, Array.getElem?_toList]
  rw [e]
  have f : ∀ l : List Value, (List.range l.length).filterMap (fun m => l[m]?) = l := by
    intro l
    induction l with
    | nil => rfl
    | cons a l ih =>
      rw [List.length_cons, List.range_succ_eq_map, List.filterMap_cons]
      simp only [List.getElem?_cons_zero, List.filterMap_map]
      congr 1
  have := f xs.toList.reverse
  rw [List.length_reverse, Array.length_toList] at this
  exact this
theorem getItem_tuple_back {t sl : Addr} {items : Array Value} {u : Tok} {Q : Value → Shared → Prop} (ht : PyProof.Rows.IsTup s.heap t items) (hs : s.heap.IsSliceOf sl .none .none (.int (-1) u))
    (h : Q (.ref s.heap.objs.size) { s with heap := s.heap.push { cls := .type "tuple", data := .seq items.toList.reverse.toArray } }) (hsz : items.size ≤ sizeLine) : wpAny (model prog w) A (getItem (.ref t) (.ref sl)) Q E s := by
  have room : sizeOk (.seq items.toList.reverse.toArray) := by
    show items.toList.reverse.toArray.size ≤ sizeLine
    simpa using hsz
  obtain ⟨os, hos, hcs, hds⟩ := id hs
  have ty : s.TypeIs (.ref sl) "slice" := ⟨os, hos, hcs⟩
  unfold getItem
  try with_reducible refine wpAny_holding ?_
  first | refine wpAny_bind (wpAny_pure ?_) | skip
  refine wpAny_bind (wpAny_sequenceKey ht.typeIs (by decide) ?_)
  refine wpAny_bind (wpAny_callSpecial?_slot (name := Str.ofString "__getitem__") ht.typeIs PyProof.Rows.slot_tuple_getitem ?_)
  refine wpAny_call_entry PyProof.Rows.slot_tuple_getitem ht.typeIs PyProof.Rows.entry_tuple_getitem ?_ (PyProof.Rows.args_tuple_getitem _ _)
  show wpAny _ _ (Builtin.Tuple.tupleItemsOf (.ref t) >>= _) _ _ s
  refine wpAny_bind (PyProof.Rows.tupleItemsOf_ ht ?_)
  refine wpAny_bind (wpAny_typeOf ty ?_)
  rw [if_pos (by decide)]
  refine wpAny_bind (back_applied hs ?_)
  show wpAny _ _ (if (((items.size : Int) - 1) == 0 && (-1 : Int) == 1 && items.size == items.size) = true then _ else _) _ _ s
  rw [if_neg (by simp), back_pick]
  first
    | exact wpAny_bind (m := Builtin.Tuple.tupleExact _) (wpAny_newObj_type (wpAny_pure ⟨_, rfl, wpAny_pure h⟩) room)
    | exact wpAny_bind (m := Builtin.Tuple.tupleExact _) (wpAny_newObj_type (wpAny_bind (wpAny_pure (wpAny_pure ⟨_, rfl, wpAny_pure h⟩))) room)
    | exact wpAny_bind (wpAny_bind (m := Builtin.Tuple.tupleExact _) (wpAny_newObj_type (wpAny_pure (wpAny_pure ⟨_, rfl, wpAny_pure h⟩)) room))
end
end DL
namespace DL
open PySem PySem.Spec L2
def dRev (f : DE) : DE := fun env Q => f env fun d env1 => match d with
  | .tup l => Q (.tup l.reverse) env1
  | .lst l => Q (.lst l.reverse) env1
  | _ => False
theorem Ats.rev {K : PySem.W.Frag} {F : Hp} {k : Dk} : ∀ {ds : List D} {vs : List V}, Ats K F k ds vs → Ats K F k ds.reverse vs.reverse
  | [], vs, h => by simp only [Ats] at h; subst h; exact .nil
  | d :: ds, vs, h => by
    simp only [Ats] at h
    obtain ⟨v, r, rfl, h1, h2⟩ := h
    rw [List.reverse_cons, List.reverse_cons]
    exact .append (Ats.rev h2) (.cons h1 .nil)
section
variable {wx : DX} {WW : WX} {ZZ : Fz} {X : Cx} {a : Expr} {f : DE}
theorem dl_rev {kk : Nat} {pa pb pc pos : Pos} (h : PE X a (lift (X.kx wx WW ZZ) f)) : PE X (.Subscript a (.Slice none none (some (.UnaryOp .USub (.Constant (.int 1) kk pa) pb)) pc) pos) (lift (X.kx wx WW ZZ) (dRev f)) := by
  refine ⟨fun pins s σ H Q I ⟨e, env, oa, F, k, P, R, p, q⟩ => ?_⟩
  refine PyProof.Rows.Subscript_ (thn (h.run pins s σ H (fun v H1 => ∃ env1 oa1 F1 k1 d, dRev (fun _ Q => Q d env1) env1 P ∧ Rel (X.kx wx WW ZZ) e env1 oa1 σ F1 H1 k1 ∧ Grow F F1 k k1 ∧ At X.K F1 k1 d v) I ⟨e, env, oa, F, k, _, R, p, fun d env1 v oa1 F1 H1 k1 p1 R1 g1 a1 => ⟨env1, oa1, F1, k1, d, p1, R1, g1, a1⟩⟩) ?_)
  rintro v s1 ⟨x, H1, I1, r1, env1, oa1, F1, k1, d, p1, R1, g1, a1⟩
  have hst : PO X (some (.UnaryOp .USub (.Constant (.int 1) kk pa) pb)) (tPart (tUn (rU fun i => .int (-i)) (tC (.int 1)))) := po_some (pe_un un_neg pe_int)
  refine PySem.wpAny_Slice (thn (po_none.run pins s1 σ H1 (fun o H2 => o = none ∧ H2 = H1) I1 ⟨rfl, rfl⟩) ?_)
  rintro vl s2 ⟨l, H2, I2, pl, rfl, rfl⟩
  refine thn (po_none.run pins s2 σ H2 (fun o H3 => o = none ∧ H3 = H2) I2 ⟨rfl, rfl⟩) ?_
  rintro vu s3 ⟨u, H3, I3, pu, rfl, rfl⟩
  refine thn (hst.run pins s3 σ H3 (fun o H4 => o = some (-1) ∧ H4 = H3) I3 ⟨1, rfl, -1, rfl, rfl, rfl⟩) ?_
  rintro vs s4 ⟨o, H4, I4, ps, rfl, rfl⟩
  have I5 : L2.Inv X pins σ H4 { s4 with heap := s4.heap.push { cls := .type "slice", data := .fields #[vl, vu, vs] } } := I4.kept (t' := s4.toks) fun b ob q => Heap.get?_push_of_some _ q
  have fresh := I5.hok.fresh (Nat.le_refl _)
  cases pl
  cases pu
  cases d with
  | lst l =>
    simp only [At] at a1
    obtain ⟨ad, xs, rfl, h1, h2⟩ := a1
    cases r1
    obtain ⟨its, rv, ht, hz⟩ := I5.list (SqL.of (R1.wd.sub _ _ h1))
    show wpAny (model X.prog X.w) X.A (PyProof.Rows.subscriptTail _ _ (.ref ad) (.ref s4.heap.objs.size)) _ _ _
    refine PyProof.Rows.tail_any (ops := [.ref ad, .ref s4.heap.objs.size]) ht.isList.typeIs (PySem.slot_list_getitem.lookup) ?_ (by with_unfolding_all rfl)
    refine PySem.wpAny_getItem_list_slice ht.isList (Heap.IsSliceOf.new _ _ _ _) .none .none ps (by decide) ?_ (by rw [List.size_toArray, ← rv.length]; exact hz)
    rw [PySem.W.krv_pick]
    obtain ⟨R2, g2⟩ := R1.laid fresh (.lst xs.reverse)
    refine ⟨.ref _, _, I5.laid (t' := s4.toks) (o := .lst xs.reverse) (fun b ob q => Heap.get?_push_of_some _ q) (Nat.le_refl _) ⟨by rw [List.length_reverse]; exact hz, _, 0, rv.reverse, Heap.get?_push_size _ rfl⟩, rfl, q _ env1 _ oa1 _ _ k1 p1 R2 (g1.trans g2) ?_⟩
    simp only [At]
    exact ⟨_, _, rfl, upd_same, (Ats.grow g2 _ _ h2).rev⟩
  | tup l =>
    simp only [At] at a1
    obtain ⟨ad, xs, rfl, h1, h2⟩ := a1
    cases r1
    obtain ⟨its, rv, ht, hz⟩ := I5.tuple (sqT_grow R1.wd.sub h1)
    cases ps with
    | int _ t =>
      show wpAny (model X.prog X.w) X.A (PyProof.Rows.subscriptTail _ _ (.ref ad) (.ref s4.heap.objs.size)) _ _ _
      refine PyProof.Rows.tail_any (ops := [.ref ad, .ref s4.heap.objs.size]) ht.typeIs (PyProof.Rows.slot_tuple_getitem.lookup) ?_ (by with_unfolding_all rfl)
      refine getItem_tuple_back ht (Heap.IsSliceOf.new _ _ _ _) ?_ (by rw [List.size_toArray, ← rv.length]; exact hz)
      obtain ⟨R2, g2⟩ := R1.laid fresh (.tup xs.reverse)
      refine ⟨.ref _, _, I5.laid (t' := s4.toks) (o := .tup xs.reverse) (fun b ob q => Heap.get?_push_of_some _ q) (Nat.le_refl _) ⟨by rw [List.length_reverse]; exact hz, _, rv.reverse, PyProof.Rows.IsTup.new _ _⟩, rfl, q _ env1 _ oa1 _ _ k1 p1 R2 (g1.trans g2) ?_⟩
      simp only [At]
      exact ⟨_, _, rfl, SqT.of upd_same, (Ats.grow g2 _ _ h2).rev⟩
  | _ => exact p1.elim
end
end DL
namespace DL
open PySem PySem.Spec L2
/-! ### a dict displayed by written text keys -/
def dList : List DE → DA
  | [] => dNil
  | f :: fs => dCons f (dList fs)
theorem lift_pairs {K : Kx} {e : Ent} {σ : St} : ∀ (ks : List Str) (fs : List DE) (env : Evn) (oa : Nat → Addr) (F H : Hp) (k : Dk) (P : List D → Evn → Prop) (Q : List (V × V) → Hp → Prop), ks.length = fs.length → Rel K e env oa σ F H k → dList fs env P →
    (∀ ds env' vs oa' F' H' k', P ds env' → Rel K e env' oa' σ F' H' k' → Grow F F' k k' → Ats K F' k' ds vs → Q ((ks.zip vs).map fun q => (V.str q.1, q.2)) H') → tPairs ((ks.zip fs).map fun q => (tC (.str q.1), lift K q.2)) σ H Q
  | [], [], env, oa, F, H, k, P, Q, _, R, p, q => q [] env [] oa F H k p R (Grow.refl _ _) .nil
  | x :: ks, f :: fs, env, oa, F, H, k, P, Q, l, R, p, q => by
    show tC (.str x) σ H fun y H1 => lift K f σ H1 fun z H2 => tPairs _ σ H2 fun ps H3 => Q ((y, z) :: ps) H3
    refine ⟨e, env, oa, F, k, _, R, p, fun d env1 v oa1 F1 H1 k1 p1 R1 g1 a1 => ?_⟩
    exact lift_pairs ks fs env1 oa1 F1 H1 k1 _ _ (by simpa using l) R1 p1 fun ds env2 vs oa2 F2 H2 k2 p2 R2 g2 a2 => q (d :: ds) env2 (v :: vs) oa2 F2 H2 k2 p2 R2 (g1.trans g2) (.cons (At.grow g2 _ _ a1) a2)
  | [], _ :: _, _, _, _, _, _, _, _, l, _, _, _ => by simp at l
  | _ :: _, [], _, _, _, _, _, _, _, l, _, _, _ => by simp at l
theorem merge_new : ∀ (more acc : List (Key × V)), (more.map (·.1)).Nodup → (∀ q ∈ more, valV acc q.1 = none) → mergeK acc more = acc ++ more
  | [], acc, _, _ => by unfold mergeK; simp
  | q :: more, acc, nd, h => by
    rw [List.map_cons, List.nodup_cons] at nd
    show mergeK (putK acc q.1 q.2) more = _
    rw [putK_new _ (h q (List.mem_cons_self ..)), merge_new more _ nd.2 fun r hr => ?_]
    · simp
    · have h1 := h r (List.mem_cons_of_mem _ hr)
      have h2 : ¬ q.1 = r.1 := fun z => nd.1 (z ▸ List.mem_map_of_mem hr)
      unfold valV at h1 ⊢
      rw [List.find?_append]
      cases e : acc.find? (fun kv => decide (kv.1 = r.1)) with
      | some v => rw [e] at h1; cases h1
      | none => simp [h2]
theorem atk_zip {K : PySem.W.Frag} {F : Hp} {k : Dk} : ∀ (ks : List Str) (ds : List D) (vs : List V), Ats K F k ds vs → Atk K F k ((ks.zip ds).map fun q => (.inr q.1, q.2)) ((ks.zip vs).map fun q => (.inr q.1, q.2))
  | [], ds, vs, h => by simp [Atk]
  | x :: ks, [], vs, h => by simp only [Ats] at h; subst h; simp [Atk]
  | x :: ks, d :: ds, vs, h => by
    simp only [Ats] at h
    obtain ⟨v, r, rfl, h1, h2⟩ := h
    simp only [List.zip_cons_cons, List.map_cons, Atk]
    exact ⟨v, _, rfl, h1, atk_zip ks ds r h2⟩
theorem zip_fst_sub {α β : Type} : ∀ (a : List α) (b : List β), ((a.zip b).map (·.1)).Sublist a
  | [], _ => by simp
  | _ :: _, [] => by simp
  | x :: a, y :: b => by
    rw [List.zip_cons_cons, List.map_cons]
    exact (zip_fst_sub a b).cons_cons x
def dDisp (ks : List Str) (fs : List DE) : DE := fun env Q => dList fs env fun ds env1 => Q (.dic ((ks.zip ds).map fun q => (.inr q.1, q.2))) env1
theorem dl_disp {wx : DX} {WW : WX} {ZZ : Fz} {X : Cx} {keys : List (Option Expr)} {values : List Expr} {pos : Pos} {ks : List Str} {fs : List DE} (h : PPs X pos keys values ((ks.zip fs).map fun q => (tC (.str q.1), lift (X.kx wx WW ZZ) q.2))) (hall : keys.all (·.isSome) = true) (hl : keys.length = values.length) (h0 : keys ≠ [])
    (h15 : keys.length ≤ 15) (hk : ks.length = fs.length) (hf : fs.length ≤ 15) (nd : ks.Nodup) : PE X (.Dict keys values pos) (lift (X.kx wx WW ZZ) (dDisp ks fs)) :=
  (pe_disp h hall hl h0 h15).w fun σ H Q ⟨e, env, oa, F, k, P, R, p, q⟩ t ht => by
    obtain ⟨G, R1⟩ := R.guard (o := .dK []) ht
    refine lift_pairs ks fs env oa F _ k _ _ hk R1 p fun ds env2 vs oa2 F2 H2 k2 p2 R2 g2 a2 => ?_
    have hkv : (((ks.zip vs).map fun q => ((Sum.inr q.1 : Key), q.2)).map (·.1)).Nodup := by
      have e1 : ((ks.zip vs).map fun q => ((Sum.inr q.1 : Key), q.2)).map (·.1) = ((ks.zip vs).map (·.1)).map Sum.inr := by simp
      rw [e1]
      exact List.Pairwise.map _ (fun a b hab z => hab (Sum.inr.inj z)) (nd.sublist (zip_fst_sub ks vs))
    refine ⟨(R2.guarded G).1, (ks.zip vs).map fun q => (.inr q.1, q.2), by simp [kV], ?_, ?_⟩
    · rw [List.length_map, List.length_zip]
      omega
    · rw [merge_new _ _ hkv (fun _ _ => valV_nil), List.nil_append]
      obtain ⟨R3, g3⟩ := (R2.gset (R.lnk.grow g2) G (.dK ((ks.zip vs).map fun q => (.inr q.1, q.2)))).give (R.lnk.grow g2) G
      refine q _ env2 _ oa2 _ _ k2 p2 R3 (g2.trans g3) ?_
      simp only [At]
      exact ⟨t, _, rfl, upd_same, Atk.grow g3 _ _ (atk_zip ks ds vs a2)⟩
/-! ### the law: its deck first -/
def deckD : Nat → D → Prop
  | 0, d => ∃ (cs : List Int) (m t : Int), cs.length ≤ 63 ∧ d = .dic [(.inr "cells", .lst (cs.map D.int)), (.inr "mixed", .int m), (.inr "turn", .int t)] ∧ 0 ≤ m ∧ m < 2147483648
  | 1, d => ∃ (cs : List Int) (m t : Int), cs.length ≤ 63 ∧ d = .dic [(.inr "rest", .lst (cs.map D.int)), (.inr "mixed", .int m), (.inr "turn", .int t)] ∧ 0 ≤ m ∧ m < 2147483648
  | 2, d => ∃ (cs : List Int) (m t : Int), cs.length ≤ 63 ∧ d = .dic [(.inr "left", .lst (cs.map D.int)), (.inr "mixed", .int m), (.inr "draws", .int t)] ∧ 0 ≤ m ∧ m < 2147483648
  | _, d => ∃ (cs : List Int) (m : Int), cs.length ≤ 63 ∧ d = .dic [(.inr "cells", .lst (cs.map D.int)), (.inr "mixed", .int m)] ∧ 0 ≤ m ∧ m < 2147483648
theorem deck_at {K : PySem.W.Frag} {F H : Hp} {k : Dk} {n : Nat} {d : D} {v : V} (h : deckD n d) (hA : At K F k d v) (sub : ∀ a o, F a = some o → H a = some o) : ∃ p : DkP, p.3 = n ∧ v = .ref p.1 ∧ DeckAt H p := by
  have core : ∀ (nm : Str) (cs : List Int) (r : List (Key × D)), d = .dic ((.inr nm, .lst (cs.map D.int)) :: r) → ∃ dk l vr, v = .ref dk ∧ H dk = some (.dK ((.inr nm, .ref l) :: vr)) ∧ H l = some (.lst (cs.map V.int)) ∧ Atk K F k r vr := by
    intro nm cs r hd
    subst hd
    simp only [At, Atk] at hA
    obtain ⟨dk, vs, rfl, h1, v1, vr, rfl, ⟨l, us, rfl, h2, h3⟩, h4⟩ := hA
    have := ats_int h3
    subst this
    exact ⟨dk, l, vr, rfl, sub _ _ h1, sub _ _ h2, h4⟩
  match n, h with
  | 0, ⟨cs, m, t, hl, hd, hm⟩ =>
    obtain ⟨dk, l, vr, hv, h1, h2, h3⟩ := core _ cs _ hd
    simp only [Atk, At] at h3
    obtain ⟨v2, r2, rfl, rfl, v3, r3, rfl, rfl, rfl⟩ := h3
    exact ⟨⟨dk, l, 0⟩, rfl, hv, _, cs, h1, h2, hl, m, t, rfl, hm⟩
  | 1, ⟨cs, m, t, hl, hd, hm⟩ =>
    obtain ⟨dk, l, vr, hv, h1, h2, h3⟩ := core _ cs _ hd
    simp only [Atk, At] at h3
    obtain ⟨v2, r2, rfl, rfl, v3, r3, rfl, rfl, rfl⟩ := h3
    exact ⟨⟨dk, l, 1⟩, rfl, hv, _, cs, h1, h2, hl, m, t, rfl, hm⟩
  | 2, ⟨cs, m, t, hl, hd, hm⟩ =>
    obtain ⟨dk, l, vr, hv, h1, h2, h3⟩ := core _ cs _ hd
    simp only [Atk, At] at h3
    obtain ⟨v2, r2, rfl, rfl, v3, r3, rfl, rfl, rfl⟩ := h3
    exact ⟨⟨dk, l, 2⟩, rfl, hv, _, cs, h1, h2, hl, m, t, rfl, hm⟩
  | n + 3, ⟨cs, m, hl, hd, hm⟩ =>
    obtain ⟨dk, l, vr, hv, h1, h2, h3⟩ := core _ cs _ hd
    simp only [Atk, At] at h3
    obtain ⟨v2, r2, rfl, rfl, rfl⟩ := h3
    exact ⟨⟨dk, l, n + 3⟩, rfl, hv, _, cs, h1, h2, hl, m, rfl, hm⟩
def S_deck (n : Nat) : SD := fun ds P _ => ∃ ns : List Int, ds = [.scr ns] ∧ ns.length ≤ 63 ∧ ∀ d, deckD n d → P d
def lawEnv (len j n : Nat) : Evn := (List.replicate len Slot.no).set j (.val (.deck n))
theorem law_def {P : Program} {w : World} {K : PySem.W.Frag} {mg : Str → Option Value} {base : Heap} {x qual : Str} {params : Arguments} {body : List Stmt} {scope : Scope} {f : Addr} {fd : FuncData} {N : List Str} {k j n : Nat} {g : DS}
    (F : FunD K x qual params body scope [] [] f fd) (C : FnScope N ["script"] scope) (h0 : 0 < N.length) (hj : j ≠ 0)
    (walk : ∀ (cdv : Value) (A : Around) (outer : List PySem.Env) (s : Shared) (H : Hp) (E : XK), A.guards = some [] → Room k (A.deeper (PyProof.Rows.envOfC qual scope s.heap.objs.size f cdv)) →
      PSs (cxOf (L2.CX P w) P w K mg base N qual scope f cdv A outer s H E).nox body (tSeq (tAsg (tCall (spD K mg (S_deck n)) [] E0 (tCons (tVar 0) tNil)) (L2.gName j)) (liftS (k0 K mg) g)))
    (sem : g { nx := fun _ => False, rt := fun d => d = .bl true } (lawEnv N.length j n)) : FnG P w K mg base (L2.CX P w) (k + 1) f fd ["script"] (spLaw K) := by
  refine fnG F C (fun vs H Q E ⟨p, ns, e, _⟩ => by subst e; rfl) fun cdv A outer s H vs Q E gd hr ⟨p, ns, e, seq, len, only, q⟩ => ⟨_, (walk cdv A outer s H E gd hr).nox, ?_⟩
  subst e
  refine ⟨.ref p, rfl, [.scr ns], H, none, deckD n, fun _ => False, ⟨fun _ _ q => q, fun _ _ q => q, fun _ _ q => .inl q, fun _ _ q _ => q, fun _ q => (by cases q), fun _ _ q => (by cases q), fun _ q => (by cases q)⟩, ?_, ⟨ns, rfl, len, fun d h => h⟩, ?_, fun _ _ _ _ z _ => False.elim z⟩
  · simp only [Ats, At, List.append_nil]
    exact ⟨.ref p, [], rfl, ⟨p, rfl, seq⟩, rfl⟩
  · rintro d v H' hd ⟨F', k', W, hA⟩
    obtain ⟨pd, e3, rfl, dAt⟩ := deck_at hd hA W.sub
    refine ⟨⟨fun _ => none, fun _ => none, none⟩, lawEnv N.length j n, fun _ => 0, fun _ => none, some pd, { nx := fun _ => False, rt := fun d => d = .bl true }, ?_, sem, fun _ _ _ _ _ _ z => False.elim z, fun d v H2 z ⟨F2, k2, _, a⟩ => ?_, fun _ _ _ _ _ _ z => False.elim z, fun _ _ _ _ _ _ z => False.elim z⟩
    · have at' : ∀ (i : Nat) (s : Slot), (lawEnv N.length j n)[i]? = some s → s = .no ∨ (i = j ∧ j < N.length ∧ s = .val (.deck n)) := fun i s h => by
        unfold lawEnv at h
        by_cases hi : i = j
        · subst hi
          by_cases hl : i < N.length
          · rw [List.getElem?_set_self (by simpa using hl)] at h
            exact .inr ⟨rfl, hl, (Option.some.inj h).symm⟩
          · rw [List.getElem?_eq_none (by simpa using hl)] at h; cases h
        · rw [List.getElem?_set_ne (Ne.symm hi), List.getElem?_replicate] at h
          split at h
          · exact .inl (Option.some.inj h).symm
          · cases h
      refine ⟨⟨⟨fun _ _ z => (by cases z), fun _ _ z => (by cases z), fun _ _ z => (by cases z), fun _ _ z => (by cases z), fun _ z => (by cases z), fun _ _ _ => ⟨rfl, rfl⟩, fun p' z => (by cases z; exact ⟨dAt, rfl, rfl⟩)⟩, ?_, fun i d h => ?_, fun i ds h => ?_, fun i _ ds _ h => ?_⟩, fun _ _ _ _ _ _ _ _ _ z => False.elim z, trivial⟩
      · unfold lawEnv L2.start
        simp
        omega
      · rcases at' i _ h with z | ⟨rfl, hl, z⟩
        · cases z
        · cases z
          refine ⟨.ref pd.1, List.getElem?_set_self ?_, by simp only [At]; exact ⟨pd, rfl, e3, rfl⟩⟩
          unfold L2.start
          simp
          omega
      · rcases at' i _ h with z | ⟨_, _, z⟩ <;> cases z
      · rcases at' i _ h with z | ⟨_, _, z⟩ <;> cases z
    · cases (show d = .bl true from z)
      have : v = .bl true := by simpa only [At] using a
      subst this
      exact q H2
end DL
namespace DL
open PySem PySem.Spec L2
/-! ### a draw -/
def S_draw (n : Nat) : SD := fun ds P _ => match ds with
  | [.deck m, .int b] => m = n ∧ 0 < b ∧ b < 10 ^ 200 ∧ ∀ r : Int, 0 ≤ r → r < b → P (.int r)
  | _ => False
def kv3 (a b c : Str) (l : Addr) (m t : Int) : List (Key × V) := [(.inr a, .ref l), (.inr b, .int m), (.inr c, .int t)]
/-- the deck while a draw runs, ahead of which H0 stood -/
structure D3 (a b c : Str) (H0 : Hp) (p : DkP) (H : Hp) (cs : List Int) (m t : Int) : Prop where
  dk : H p.1 = some (.dK (kv3 a b c p.2 m t))
  ls : H p.2 = some (.lst (cs.map V.int))
  off : ∀ x o, H0 x = some o → x ≠ p.1 → x ≠ p.2 → H x = some o
  n1 : H0 p.1 ≠ none
  n2 : H0 p.2 ≠ none
structure Ne3 (a b c : Str) : Prop where
  ab : a ≠ b
  ac : a ≠ c
  bc : b ≠ c
section
variable {a b c : Str} {H0 H : Hp} {p : DkP} {cs : List Int} {m t : Int}
theorem D3.ne (d : D3 a b c H0 p H cs m t) : p.1 ≠ p.2 := ne_of d.dk d.ls fun z => by cases z
theorem D3.getC (d : D3 a b c H0 p H cs m t) : DGet H p.1 (.str a) (some (.ref p.2)) := by
  have := DGet.k (k := .inr a) d.dk
  simpa [kv3, valV, kV] using this
theorem D3.getM (d : D3 a b c H0 p H cs m t) (n : Ne3 a b c) : DGet H p.1 (.str b) (some (.int m)) := by
  have := DGet.k (k := .inr b) d.dk
  simpa [kv3, valV, kV, n.ab] using this
theorem D3.getT (d : D3 a b c H0 p H cs m t) (n : Ne3 a b c) : DGet H p.1 (.str c) (some (.int t)) := by
  have := DGet.k (k := .inr c) d.dk
  simpa [kv3, valV, kV, n.ac, n.bc] using this
theorem D3.putM (d : D3 a b c H0 p H cs m t) (n : Ne3 a b c) (m' : Int) : DPut H p.1 (.str b) (.int m') (upd H p.1 (.dK (kv3 a b c p.2 m' t))) := by
  have := DPut.k (k := .inr b) (v := .int m') d.dk (by show 3 < sizeLine; exact small1000 (by decide))
  simpa [kv3, putK, kV, n.ab, n.bc, n.bc.symm] using this
theorem D3.putT (d : D3 a b c H0 p H cs m t) (n : Ne3 a b c) (t' : Int) : DPut H p.1 (.str c) (.int t') (upd H p.1 (.dK (kv3 a b c p.2 m t'))) := by
  have := DPut.k (k := .inr c) (v := .int t') d.dk (by show 3 < sizeLine; exact small1000 (by decide))
  simpa [kv3, putK, kV, n.ac, n.bc] using this
theorem D3.setD (d : D3 a b c H0 p H cs m t) (m' t' : Int) : D3 a b c H0 p (upd H p.1 (.dK (kv3 a b c p.2 m' t'))) cs m' t' :=
  ⟨upd_same, (upd_ne d.ne.symm).trans d.ls, fun x o h h1 h2 => (upd_ne h1).trans (d.off x o h h1 h2), d.n1, d.n2⟩
theorem D3.setL (d : D3 a b c H0 p H cs m t) (cs' : List Int) : D3 a b c H0 p (upd H p.2 (.lst (cs'.map V.int))) cs' m t :=
  ⟨(upd_ne d.ne).trans d.dk, upd_same, fun x o h h1 h2 => (upd_ne h2).trans (d.off x o h h1 h2), d.n1, d.n2⟩
theorem D3.laid (d : D3 a b c H0 p H cs m t) {l : Addr} (hl : H l = none) (u : HO) : D3 a b c H0 p (upd H l u) cs m t :=
  ⟨(upd_ne (ne_of_none d.dk hl)).trans d.dk, (upd_ne (ne_of_none d.ls hl)).trans d.ls, fun x o h h1 h2 => (upd_ne (ne_of_none (d.off x o h h1 h2) hl)).trans (d.off x o h h1 h2), d.n1, d.n2⟩
theorem dp_ints {K : PySem.W.Frag} : ∀ ns : List Int, DpAll K H (ns.map V.int) (ns.map PyData.int)
  | [] => .nil
  | n :: ns => .cons (.int n) (dp_ints ns)
theorem lay_ints : ∀ ns : List Int, PyData.canLayAll0 (ns.map PyData.int) = true ∧ PyData.depthAll (ns.map PyData.int) = 0
  | [] => by simp [PyData.canLayAll0, PyData.depthAll]
  | n :: ns => by
    obtain ⟨h1, h2⟩ := lay_ints ns
    simp [PyData.canLayAll0, PyData.depthAll, PyData.canLay0, PyData.depth, h1, h2]
theorem shaped_ints (ns : List Int) : SeqAt.shaped (.list (ns.map PyData.int)) = true := by
  obtain ⟨h1, h2⟩ := lay_ints ns
  simp [SeqAt.shaped, PyData.canLay0, PyData.depth, h1, h2]
/-- deck[..] != [] -/
theorem D3.full {K : PySem.W.Frag} (d : D3 a b c H0 p H cs m t) {σ : St} (hσ : σ[0]? = some (some (.ref p.1))) {Q : Bool → Hp → Prop} (h : ∀ l, H l = none → Q (!cs.isEmpty) (upd H l (.lst []))) :
    tTest (tOp (rNeD K) (tDGet (tVar 0) (tC (.str a))) (tLst tNil)) σ H Q := by
  refine ⟨_, hσ, _, _, rfl, d.getC, Nat.zero_le _, fun l hl => ?_⟩
  have d' := d.laid hl (.lst [])
  refine ⟨.list (cs.map PyData.int), .list [], .lst (SqL.of d'.ls) (dp_ints cs), .lst (SqL.of upd_same) .nil, shaped_ints cs, by decide +kernel, _, rfl, ?_⟩
  have e : PyData.eqv (.list (cs.map PyData.int)) (.list []) = cs.isEmpty := by
    cases cs <;> simp [PyData.eqv, PyData.eqvAll]
  rw [e]
  exact h l hl
theorem D3.fin {K : PySem.W.Frag} {F : Hp} {k : Dk} {n : Nat} {r : Int} (W : Wd ⟨H0, F, k⟩ F H0 k) (hk : k = some p) (d : D3 a b c H0 p H cs m t) (hd : DeckIs p.3 p.2 (kv3 a b c p.2 m t) cs) : Out K ⟨H0, F, k⟩ (.int r) (.int r) H := by
  obtain ⟨_, f1, f2⟩ := W.dk p hk
  refine ⟨F, k, ⟨fun x o h => ?_, fun _ _ h => h, fun _ _ h => .inl h, fun x o h z => ?_, fun _ h => h, fun z q hq => ?_, fun q hq => ?_⟩, by simp only [At]⟩
  · exact d.off x o (W.sub x o h) (fun z => by rw [z, f1] at h; cases h) (fun z => by rw [z, f2] at h; cases h)
  · obtain ⟨z1, z2⟩ := z p hk
    exact d.off x o h z1 z2
  · have z' : k = none := z
    rw [z'] at hk; cases hk
  · rw [hk] at hq; cases hq
    exact ⟨⟨_, cs, d.dk, d.ls, hd⟩, f1, f2⟩
end
end DL
namespace DL
open PySem PySem.Spec L2
theorem ptsD {wx : DX} {WW : WX} {ZZ : Fz} {X : Cx} {c : Expr} {t : DT} (h : PT X c (liftT (X.kx wx WW ZZ) t)) : PTs X [c] (liftT (X.kx wx WW ZZ) t) := pts_one h
end DL
namespace DL
open PySem PySem.Spec L2
section
variable {env : Evn} {Q : D → Evn → Prop} {QA : List D → Evn → Prop} {QT : Bool → Evn → Prop} {B : DEnd} {f g : DE} {fa fk : DA} {t p q : DT} {u v : DS} {S : SD} {o : DC} {od : DO} {d x y : D} {G : D → Prop}
@[simp] theorem e_C : dC d env Q = Q d env := rfl
@[simp] theorem e_Bin : dBin od f g env Q = f env fun x env1 => g env1 fun y env2 => od x y fun d => Q d env2 := rfl
@[simp] theorem e_Test : dTest f env QT = f env fun d env1 => match d with | .bl b => QT b env1 | _ => False := rfl
@[simp] theorem e_And : dAnd p q env QT = p env fun b env1 => if b = true then q env1 QT else QT false env1 := rfl
@[simp] theorem e_Or : dOr p q env QT = p env fun b env1 => if b = true then QT true env1 else q env1 QT := rfl
@[simp] theorem e_Not : dNot p env QT = p env fun b env1 => QT (!b) env1 := rfl
@[simp] theorem e_AndV : dAndV f g env Q = f env fun d env1 => match d with | .bl b => if b = true then g env1 Q else Q (.bl false) env1 | _ => False := rfl
@[simp] theorem e_OrV : dOrV f g env Q = f env fun d env1 => match d with | .bl b => if b = true then Q (.bl true) env1 else g env1 Q | _ => False := rfl
@[simp] theorem e_NotV : dNotV f env Q = f env fun d env1 => match d with | .bl b => Q (.bl (!b)) env1 | _ => False := rfl
@[simp] theorem e_IfE : dIfE t f g env Q = t env fun b env1 => if b = true then f env1 Q else g env1 Q := rfl
@[simp] theorem e_Tru : dTru f env QT = f env fun d env1 => ∃ b, truD d = some b ∧ (∀ s, d = .str s → s.length ≤ sizeLine) ∧ QT b env1 := rfl
@[simp] theorem e_Nil : dNil env QA = QA [] env := rfl
@[simp] theorem e_Cons : dCons f fa env QA = f env fun d env1 => fa env1 fun ds env2 => QA (d :: ds) env2 := rfl
@[simp] theorem e_Tup : dTup fa env Q = fa env fun ds env1 => ds.length ≤ 10000000 ∧ Q (.tup ds) env1 := rfl
@[simp] theorem e_Lst : dLst fa env Q = fa env fun ds env1 => ds.length ≤ 10000000 ∧ Q (.lst ds) env1 := rfl
@[simp] theorem e_Call : dCall S fa env Q = fa env fun ds env' => S ds (fun d => Q d env') fun _ => False := rfl
@[simp] theorem e_CallK {n m : Nat} {ix : List Nat} : dCallK S n m ix fa fk env Q = fa env fun ds env1 => fk env1 fun zs env2 => (ds.length = n ∧ zs.length = m) ∧ S (pickL ix (ds ++ zs)) (fun d => Q d env2) fun _ => False := rfl
@[simp] theorem e_Blt : dBlt o fa env Q = fa env fun ds env1 => o ds fun d => Q d env1 := rfl
@[simp] theorem e_Neg : dNeg f env Q = f env fun d env1 => match d with | .int i => Q (.int (-i)) env1 | _ => False := rfl
@[simp] theorem e_Next : dNext B env = B.nx env := rfl
@[simp] theorem e_Seq : dSeq u v B env = u { B with nx := v B } env := rfl
@[simp] theorem e_Brk : dBrk B env = B.bk env := rfl
@[simp] theorem e_Cnt : dCnt B env = B.ct env := rfl
@[simp] theorem e_If : dIf t u v B env = t env fun b env1 => if b = true then u B env1 else v B env1 := rfl
@[simp] theorem e_Ret : dRet f B env = f env fun d _ => B.rt d := rfl
@[simp] theorem e_RetN : dRetN B env = B.rt .non := rfl
@[simp] theorem e_Drop : dDrop f B env = f env fun _ env1 => B.nx env1 := rfl
@[simp] theorem e_gName {i : Nat} {P : Evn → Prop} : gName i d env P = P (env.set i (.val d)) := rfl
@[simp] theorem e_gNil {P : Evn → Prop} : gNil [] env P = P env := rfl
@[simp] theorem e_gCons {gt : DG} {r : DGs} {l : List D} {P : Evn → Prop} : gCons gt r (d :: l) env P = gt d env fun env1 => r l env1 P := rfl
@[simp] theorem e_gTup {n : Nat} {r : DGs} {l : List D} {P : Evn → Prop} : gTup n r (.tup l) env P = (l.length = n ∧ r l env P) := rfl
@[simp] theorem e_Asg {gt : DG} : dAsg f gt B env = f env fun d env1 => gt d env1 B.nx := rfl
@[simp] theorem e_Par {i j : Nat} : dPar i j fa B env = fa env fun ds env1 => match ds with | [d, d'] => B.nx ((env1.set i (.val d)).set j (.val d')) | _ => False := rfl
@[simp] theorem e_Par3 {i j l : Nat} : dPar3 i j l fa B env = fa env fun ds env1 => match ds with | [d, d', d''] => B.nx (((env1.set i (.val d)).set j (.val d')).set l (.val d'')) | _ => False := rfl
@[simp] theorem e_For {fi : DA} {gt : DG} : dFor fi gt u B env = fi env fun ds env1 => forL gt u ds B env1 := rfl
@[simp] theorem e_Items : dItems f env QA = f env fun d env1 => match d with | .tup l => QA l env1 | .lst l => QA l env1 | _ => False := rfl
@[simp] theorem e_Range1 : dRange1 f env QA = f env fun d env1 => match d with | .int j => (-(2 ^ 62) ≤ j ∧ j < 2 ^ 62) ∧ QA (rngD 0 j.toNat) env1 | _ => False := rfl
@[simp] theorem e_Range2 : dRange2 f g env QA = f env fun d env1 => g env1 fun d' env2 => match d, d' with | .int i, .int j => (-(2 ^ 62) ≤ i ∧ i < 2 ^ 62 ∧ -(2 ^ 62) ≤ j ∧ j < 2 ^ 62) ∧ QA (rngD i (j - i).toNat) env2 | _, _ => False := rfl
@[simp] theorem e_Lc {fi : DA} {gt : DG} {vs : List Nat} : dLc fi gt t f vs env Q = fi env fun ds env1 => compL gt t f vs ds [] env1 fun acc env2 => Q (.lst acc) env2 := rfl
@[simp] theorem e_Yes : dYes env QT = QT true env := rfl
@[simp] theorem e_NoP {QP : Option Int → Evn → Prop} : dNoP env QP = QP none env := rfl
@[simp] theorem e_SomeP {QP : Option Int → Evn → Prop} : dSomeP f env QP = f env fun d env1 => match d with | .int i => QP (some i) env1 | _ => False := rfl
@[simp] theorem e_Slice {lo hi : DP} : dSlice f lo hi env Q = f env fun d env1 => lo env1 fun x env2 => hi env2 fun y env3 => match d with
  | .tup l => Q (.tup (cutD l x y)) env3 | .lst l => Q (.lst (cutD l x y)) env3 | .scr ns => Q (.lst (cutD (ns.map D.int) x y)) env3 | _ => False := rfl
@[simp] theorem e_Rev : dRev f env Q = f env fun d env1 => match d with | .tup l => Q (.tup l.reverse) env1 | .lst l => Q (.lst l.reverse) env1 | _ => False := rfl
@[simp] theorem e_Dic0 : dDic0 env Q = Q (.dic []) env := rfl
@[simp] theorem e_Dic1 {s : Str} : dDic1 s f env Q = f env fun d env1 => Q (.dic [(.inr s, d)]) env1 := rfl
@[simp] theorem e_New {i : Nat} : dNew i fa B env = fa env fun ds env1 => ds.length ≤ 10000000 ∧ B.nx (env1.set i (.own ds)) := rfl
@[simp] theorem e_var_val {i : Nat} (h : env[i]? = some (.val d)) : dVar i env Q = Q d env := by unfold dVar; rw [h]
@[simp] theorem e_var_own {i : Nat} {l : List D} (h : env[i]? = some (.own l)) : dVar i env Q = Q (.lst l) (env.set i (.val (.lst l))) := by unfold dVar; rw [h]
@[simp] theorem e_append {i : Nat} {l : List D} (h : env[i]? = some (.own l)) : dAppend i f B env = f env fun d env1 => match env1[i]? with | some (.own ds) => ds.length < 10000000 ∧ B.nx (env1.set i (.own (ds ++ [d]))) | _ => False := by
  unfold dAppend
  rw [h]
  apply propext
  exact ⟨fun z => z.2, fun z => ⟨rfl, z⟩⟩
@[simp] theorem e_comp_nil {gt : DG} {vs : List Nat} {acc : List D} {QL : List D → Evn → Prop} : compL gt t f vs [] acc env QL = QL acc env := rfl
@[simp] theorem e_forL_nil {gt : DG} : forL gt u [] B env = B.nx env := rfl
/-! operators -/
@[simp] theorem o_add_int {i j : Int} : oAdd (.int i) (.int j) G = G (.int (i + j)) := rfl
@[simp] theorem o_add_tup {l m : List D} : oAdd (.tup l) (.tup m) G = (l.length + m.length ≤ 10000000 ∧ G (.tup (l ++ m))) := rfl
@[simp] theorem o_add_lst {l m : List D} : oAdd (.lst l) (.lst m) G = (l.length + m.length ≤ 10000000 ∧ G (.lst (l ++ m))) := rfl
@[simp] theorem o_sub {i j : Int} : oSub (.int i) (.int j) G = G (.int (i - j)) := rfl
@[simp] theorem o_mul {i j : Int} : oMul (.int i) (.int j) G = (CMulW i j ∧ G (.int (i * j))) := rfl
@[simp] theorem o_mul_lst {l : List D} {k : Int} : oMul (.lst l) (.int k) G = ((-(2 ^ 63) ≤ k ∧ k < 2 ^ 63 ∧ l.length * k.toNat ≤ 10000000) ∧ G (.lst (List.replicate k.toNat l).flatten)) := rfl
@[simp] theorem o_mod {i j : Int} : oMod (.int i) (.int j) G = (0 < j ∧ G (.int (i % j))) := rfl
@[simp] theorem o_div {i j : Int} : oDiv (.int i) (.int j) G = if 0 < j then j.natAbs.log2 < 9000 ∧ G (.int (i / j)) else (j < 0 ∧ j.natAbs < 1073741824) ∧ G (.int (i.fdiv j)) := rfl
@[simp] theorem o_pow {i j : Int} : oPow (.int i) (.int j) G = ((0 ≤ j ∧ j ≤ 1000000 ∧ i.natAbs < 2 ^ 64) ∧ G (.int (i ^ j.toNat))) := rfl
@[simp] theorem o_lt {i j : Int} : oLt (.int i) (.int j) G = G (.bl (decide (i < j))) := rfl
@[simp] theorem o_le {i j : Int} : oLe (.int i) (.int j) G = G (.bl (decide (i ≤ j))) := rfl
@[simp] theorem o_gt {i j : Int} : oGt (.int i) (.int j) G = G (.bl (decide (j < i))) := rfl
@[simp] theorem o_ge {i j : Int} : oGe (.int i) (.int j) G = G (.bl (decide (j ≤ i))) := rfl
@[simp] theorem ok_int {i : Int} : eqOk (.int i) := ⟨rfl, by simp [py, PyData.depth]⟩
@[simp] theorem ok_bl {b : Bool} : eqOk (.bl b) := ⟨rfl, by simp [py, PyData.depth]⟩
@[simp] theorem ok_non : eqOk .non := ⟨rfl, by simp [py, PyData.depth]⟩
@[simp] theorem eqv_int {i j : Int} : eqv (.int i) (.int j) = (i == j) := by simp [eqv, py, PyData.eqv]
@[simp] theorem o_eq_int {i j : Int} : oEq (.int i) (.int j) G = G (.bl (i == j)) := by simp [oEq]
@[simp] theorem o_ne_int {i j : Int} : oNe (.int i) (.int j) G = G (.bl (!(i == j))) := by simp [oNe]
@[simp] theorem o_ix_tup {l : List D} {i : Int} : oIx (.tup l) (.int i) G = ∃ d, ixD l i = some d ∧ G d := rfl
@[simp] theorem o_ix_lst {l : List D} {i : Int} : oIx (.lst l) (.int i) G = ∃ d, ixD l i = some d ∧ G d := rfl
@[simp] theorem o_isN {x : D} (h : ∀ u, x ≠ .raw u) : oIsN x .non G = G (.bl (isNon x)) := by
  cases x <;> first | rfl | exact absurd rfl (h _)
@[simp] theorem o_notN {x : D} (h : ∀ u, x ≠ .raw u) : oNotN x .non G = G (.bl (!isNon x)) := by
  cases x <;> first | rfl | exact absurd rfl (h _)
@[simp] theorem o_isB {i j : Bool} : oIsB (.bl i) (.bl j) G = G (.bl (decide (i = j))) := rfl
@[simp] theorem o_notB {i j : Bool} : oNotB (.bl i) (.bl j) G = G (.bl (!decide (i = j))) := rfl
/-! built-ins -/
@[simp] theorem c_isi {n : String} : cIsi [d, .raw (.ty n)] G = ((tyS d ≠ "?" ∧ n ∈ ["int", "bool", "tuple", "list", "dict", "str"]) ∧ G (.bl (isiS (tyS d) n))) := rfl
@[simp] theorem c_len_tup {l : List D} : cLen [.tup l] G = G (.int l.length) := rfl
@[simp] theorem c_len_lst {l : List D} : cLen [.lst l] G = G (.int l.length) := rfl
@[simp] theorem c_abs {i : Int} : cAbs [.int i] G = G (.int i.natAbs) := rfl
@[simp] theorem c_max2 {i j : Int} : cMax2 [.int i, .int j] G = G (.int (max i j)) := rfl
@[simp] theorem c_min2 {i j : Int} : cMin2 [.int i, .int j] G = G (.int (min i j)) := rfl
@[simp] theorem c_int {i : Int} : cInt [.int i] G = G (.int i) := rfl
@[simp] theorem c_int_bl {b : Bool} : cInt [.bl b] G = G (.int (if b then 1 else 0)) := rfl
@[simp] theorem c_list_tup {l : List D} : cList [.tup l] G = G (.lst l) := rfl
@[simp] theorem c_list_lst {l : List D} : cList [.lst l] G = G (.lst l) := rfl
@[simp] theorem c_tup_tup {l : List D} : cTup [.tup l] G = G (.tup l) := rfl
@[simp] theorem c_tup_lst {l : List D} : cTup [.lst l] G = G (.tup l) := rfl
@[simp] theorem c_str_int {i : Int} : cStr [.int i] G = (i.natAbs.log2 < 1920 ∧ G (.str (toString i))) := rfl
@[simp] theorem c_str_str {s : Str} : cStr [.str s] G = G (.str s) := rfl
@[simp] theorem c_repr : cRepr [d] G = (ShowOk d ∧ G (.str (shown d))) := rfl
@[simp] theorem ty_int {i : Int} : tyS (.int i) = "int" := rfl
@[simp] theorem ty_bl {b : Bool} : tyS (.bl b) = "bool" := rfl
@[simp] theorem ty_str {s : Str} : tyS (.str s) = "str" := rfl
@[simp] theorem ty_non : tyS .non = "NoneType" := rfl
@[simp] theorem ty_tup {l : List D} : tyS (.tup l) = "tuple" := rfl
@[simp] theorem ty_lst {l : List D} : tyS (.lst l) = "list" := rfl
@[simp] theorem ty_dic {l : List (Key × D)} : tyS (.dic l) = "dict" := rfl
end
/-! ### sizes -/
theorem cmulW {i j : Int} {a b : Nat} (ha : i.natAbs < 2 ^ a) (hb : j.natAbs < 2 ^ b) (h : a + b < 1000000) : CMulW i j := by
  have e : ∀ (n k : Nat), n < 2 ^ k → n.log2 ≤ k := fun n k hn => by
    by_cases h0 : n = 0
    · subst h0; simp
    · exact Nat.le_of_lt ((Nat.log2_lt h0).mpr hn)
  have h1 := e _ _ ha
  have h2 := e _ _ hb
  unfold CMulW
  omega
/-- an int below 2 ^ 400 -/
abbrev Sm (i : Int) : Prop := i.natAbs < 2 ^ 400
theorem cmulS {i j : Int} (ha : i.natAbs < 2 ^ 100000) (hb : j.natAbs < 2 ^ 100000) : CMulW i j := cmulW ha hb (by decide)
/-! ### what may be shown -/
mutual
/-- its ints below 10 ^ 100, its texts of plain signs -/
def leaf : D → Bool
  | .non => true
  | .bl _ => true
  | .int i => decide (i.natAbs < 10 ^ 100)
  | .str s => s.cps.toList.all fun c => decide (c < 16 ^ 8)
  | .tup l => leafs l
  | .lst l => leafs l
  | .dic l => leafk l
  | .raw _ => false
  | .deck _ => false
  | .scr _ => false
def leafs : List D → Bool
  | [] => true
  | d :: l => leaf d && leafs l
def leafk : List (Key × D) → Bool
  | [] => true
  | (.inl i, d) :: l => decide (i.natAbs < 10 ^ 100) && leaf d && leafk l
  | (.inr s, d) :: l => (s.cps.toList.all fun c => decide (c < 16 ^ 8)) && leaf d && leafk l
end
mutual
/-- how much there is to show -/
def nds : D → Nat
  | .str s => 1 + s.cps.size
  | .tup l => 1 + ndss l
  | .lst l => 1 + ndss l
  | .dic l => 1 + ndsk l
  | _ => 1
def ndss : List D → Nat
  | [] => 0
  | d :: l => nds d + ndss l
def ndsk : List (Key × D) → Nat
  | [] => 0
  | (.inl _, d) :: l => 1 + nds d + ndsk l
  | (.inr s, d) :: l => 1 + s.cps.size + nds d + ndsk l
end
theorem int_text {i : Int} (h : i.natAbs < 10 ^ 100) : (PyData.shown (.int i)).length ≤ 101 := by
  have e := int_text_length_le10 (k := 100) (by decide) h
  show (Str.ofString (toString i)).length ≤ 101
  rw [ofString_length]
  exact e
theorem str_text {x : Str} (h : (x.cps.toList.all fun c => decide (c < 16 ^ 8)) = true) : (reprText x).length ≤ 10 * x.cps.size + 8 := by
  have hx : ∀ c ∈ x.cps.toList, c < 16 ^ 8 := by simpa only [List.all_eq_true, decide_eq_true_eq] using h
  have e := StrLaws.reprText_len x hx
  have e2 : x.length = x.cps.size := rfl
  omega
theorem int_bits {i : Int} (h : i.natAbs < 10 ^ 100) : i.natAbs.log2 < 1920 := by
  by_cases h0 : i.natAbs = 0
  · rw [h0]; decide
  · rw [Nat.log2_lt h0]
    exact Nat.lt_of_lt_of_le h (by decide +kernel)
mutual
theorem plain_leaf : ∀ d : D, leaf d = true → plainD d = true
  | .non, _ => rfl
  | .bl _, _ => rfl
  | .int _, _ => rfl
  | .str _, _ => rfl
  | .tup l, h => by simp only [plainD]; exact plain_leafs l (by simpa only [leaf] using h)
  | .lst l, h => by simp only [plainD]; exact plain_leafs l (by simpa only [leaf] using h)
  | .dic l, h => by simp only [plainD]; exact plain_leafk l (by simpa only [leaf] using h)
  | .raw _, h => by simp [leaf] at h
  | .deck _, h => by simp [leaf] at h
  | .scr _, h => by simp [leaf] at h
theorem plain_leafs : ∀ l : List D, leafs l = true → plainDs l = true
  | [], _ => rfl
  | d :: l, h => by
    simp only [leafs, Bool.and_eq_true] at h
    simp only [plainDs, plain_leaf d h.1, plain_leafs l h.2, Bool.and_true]
theorem plain_leafk : ∀ l : List (Key × D), leafk l = true → plainDk l = true
  | [], _ => rfl
  | (.inl _, d) :: l, h => by
    simp only [leafk, Bool.and_eq_true] at h
    simp only [plainDk, plain_leaf d h.1.2, plain_leafk l h.2, Bool.and_true]
  | (.inr _, d) :: l, h => by
    simp only [leafk, Bool.and_eq_true] at h
    simp only [plainDk, plain_leaf d h.1.2, plain_leafk l h.2, Bool.and_true]
end
mutual
theorem show_leaf : ∀ d : D, leaf d = true → (py d).showable = true
  | .non, _ => by simp only [py, PyData.showable]
  | .bl _, _ => by simp only [py, PyData.showable]
  | .int i, h => by
    simp only [leaf, decide_eq_true_eq] at h
    simp only [py, PyData.showable, decide_eq_true_eq]
    exact int_bits h
  | .str _, _ => by simp only [py, PyData.showable]
  | .tup l, h => by simp only [py, PyData.showable]; exact show_leafs l (by simpa only [leaf] using h)
  | .lst l, h => by simp only [py, PyData.showable]; exact show_leafs l (by simpa only [leaf] using h)
  | .dic l, h => by simp only [py, PyData.showable]; exact show_leafk l (by simpa only [leaf] using h)
  | .raw _, h => by simp [leaf] at h
  | .deck _, h => by simp [leaf] at h
  | .scr _, h => by simp [leaf] at h
theorem show_leafs : ∀ l : List D, leafs l = true → PyData.showableAll (pys l) = true
  | [], _ => by simp only [pys, PyData.showableAll]
  | d :: l, h => by
    simp only [leafs, Bool.and_eq_true] at h
    simp only [pys, PyData.showableAll, show_leaf d h.1, show_leafs l h.2, Bool.and_true]
theorem show_leafk : ∀ l : List (Key × D), leafk l = true → PyData.showableKv (pyk l) = true
  | [], _ => by simp only [pyk, PyData.showableKv]
  | (.inl i, d) :: l, h => by
    simp only [leafk, Bool.and_eq_true, decide_eq_true_eq] at h
    simp only [pyk, PyData.showableKv, PyData.showable, show_leaf d h.1.2, show_leafk l h.2, Bool.and_true, decide_eq_true_eq]
    exact int_bits h.1.1
  | (.inr _, d) :: l, h => by
    simp only [leafk, Bool.and_eq_true] at h
    simp only [pyk, PyData.showableKv, PyData.showable, show_leaf d h.1.2, show_leafk l h.2, Bool.and_true]
end
mutual
theorem len_leaf : ∀ d : D, leaf d = true → (py d).shown.length + 2 ≤ 110 * nds d
  | .non, _ => by
    have e : (PyData.shown .none).length = 4 := rfl
    simp only [py, nds]; omega
  | .bl b, _ => by
    have e : (PyData.shown (.bool b)).length ≤ 5 := by cases b <;> decide
    simp only [py, nds]; omega
  | .int i, h => by
    simp only [leaf, decide_eq_true_eq] at h
    have e := int_text h
    simp only [py, nds]; omega
  | .str s, h => by
    have e := str_text (by simpa only [leaf] using h)
    simp only [py, nds, PyData.shown]; omega
  | .tup l, h => by
    have e := len_leafs l (by simpa only [leaf] using h)
    have e2 := tupleText_len_le (PyData.shownAll (pys l))
    simp only [py, nds, PyData.shown]; omega
  | .lst l, h => by
    have e := len_leafs l (by simpa only [leaf] using h)
    have e2 := listText_len_le (PyData.shownAll (pys l))
    simp only [py, nds, PyData.shown]; omega
  | .dic l, h => by
    have e := len_leafk l (by simpa only [leaf] using h)
    have e2 := dictText_len_le (PyData.shownKv (pyk l))
    simp only [py, nds, PyData.shown]; omega
  | .raw _, h => by simp [leaf] at h
  | .deck _, h => by simp [leaf] at h
  | .scr _, h => by simp [leaf] at h
theorem len_leafs : ∀ l : List D, leafs l = true → ((PyData.shownAll (pys l)).map (·.length)).sum + 2 * (PyData.shownAll (pys l)).length ≤ 110 * ndss l
  | [], _ => by simp [pys, PyData.shownAll]
  | d :: l, h => by
    simp only [leafs, Bool.and_eq_true] at h
    have e1 := len_leaf d h.1
    have e2 := len_leafs l h.2
    simp only [pys, PyData.shownAll, List.map_cons, List.sum_cons, List.length_cons, ndss]
    omega
theorem len_leafk : ∀ l : List (Key × D), leafk l = true → ((PyData.shownKv (pyk l)).map (·.length)).sum + 2 * (PyData.shownKv (pyk l)).length ≤ 110 * ndsk l
  | [], _ => by simp [pyk, PyData.shownKv]
  | (.inl i, d) :: l, h => by
    simp only [leafk, Bool.and_eq_true, decide_eq_true_eq] at h
    have e0 := int_text h.1.1
    have e1 := len_leaf d h.1.2
    have e2 := len_leafk l h.2
    have e3 : (": " : Str).length = 2 := rfl
    simp only [pyk, PyData.shownKv, List.map_cons, List.sum_cons, List.length_cons, ndsk, strLen_append]
    omega
  | (.inr s, d) :: l, h => by
    simp only [leafk, Bool.and_eq_true] at h
    have e0 := str_text h.1.1
    have e1 := len_leaf d h.1.2
    have e2 := len_leafk l h.2
    have e3 : (": " : Str).length = 2 := rfl
    simp only [pyk, PyData.shownKv, PyData.shown, List.map_cons, List.sum_cons, List.length_cons, ndsk, strLen_append]
    omega
end
mutual
def noDic : D → Bool
  | .tup l => noDics l
  | .lst l => noDics l
  | .dic _ => false
  | _ => true
def noDics : List D → Bool
  | [] => true
  | d :: l => noDic d && noDics l
end
mutual
theorem noDic_py : ∀ d : D, noDic d = true → (py d).hasDict = false
  | .non, _ => by simp only [py, PyData.hasDict]
  | .bl _, _ => by simp only [py, PyData.hasDict]
  | .int _, _ => by simp only [py, PyData.hasDict]
  | .str _, _ => by simp only [py, PyData.hasDict]
  | .tup l, h => by simp only [py, PyData.hasDict]; exact noDics_py l (by simpa only [noDic] using h)
  | .lst l, h => by simp only [py, PyData.hasDict]; exact noDics_py l (by simpa only [noDic] using h)
  | .dic _, h => by simp [noDic] at h
  | .raw _, _ => by simp only [py, PyData.hasDict]
  | .deck _, _ => by simp only [py, PyData.hasDict]
  | .scr _, _ => by simp only [py, PyData.hasDict]
theorem noDics_py : ∀ l : List D, noDics l = true → PyData.hasDictAll (pys l) = false
  | [], _ => by simp only [pys, PyData.hasDictAll]
  | d :: l, h => by
    simp only [noDics, Bool.and_eq_true] at h
    simp only [pys, PyData.hasDictAll, noDic_py d h.1, noDics_py l h.2, Bool.or_self]
end
mutual
def dep : D → Nat
  | .tup l => deps l + 1
  | .lst l => deps l + 1
  | .dic l => depk l + 1
  | _ => 0
def deps : List D → Nat
  | [] => 0
  | d :: l => max (dep d) (deps l)
def depk : List (Key × D) → Nat
  | [] => 0
  | (_, d) :: l => max (dep d) (depk l)
end
mutual
theorem dep_py : ∀ d : D, (py d).depth = dep d
  | .non => by simp only [py, PyData.depth, dep]
  | .bl _ => by simp only [py, PyData.depth, dep]
  | .int _ => by simp only [py, PyData.depth, dep]
  | .str _ => by simp only [py, PyData.depth, dep]
  | .tup l => by simp only [py, PyData.depth, dep, deps_py l]
  | .lst l => by simp only [py, PyData.depth, dep, deps_py l]
  | .dic l => by simp only [py, PyData.depth, dep, depk_py l]
  | .raw _ => by simp only [py, PyData.depth, dep]
  | .deck _ => by simp only [py, PyData.depth, dep]
  | .scr _ => by simp only [py, PyData.depth, dep]
theorem deps_py : ∀ l : List D, PyData.depthAll (pys l) = deps l
  | [] => by simp only [pys, PyData.depthAll, deps]
  | d :: l => by simp only [pys, PyData.depthAll, deps, dep_py d, deps_py l]
theorem depk_py : ∀ l : List (Key × D), PyData.depthKv (pyk l) = depk l
  | [] => by simp only [pyk, PyData.depthKv, depk]
  | (.inl _, d) :: l => by simp only [pyk, PyData.depthKv, depk, dep_py d, depk_py l, PyData.depth]; omega
  | (.inr _, d) :: l => by simp only [pyk, PyData.depthKv, depk, dep_py d, depk_py l, PyData.depth]; omega
end
structure Fine (d : D) : Prop where
  lf : leaf d = true
  nd : noLst d = true ∨ noDic d = true
  dp : dep d ≤ 60
  sz : nds d ≤ 100000
theorem Fine.ok {d : D} (h : Fine d) : ShowOk d := by
  refine ⟨plain_leaf d h.lf, show_leaf d h.lf, h.nd.imp id (noDic_py d), by rw [dep_py]; exact h.dp, ?_⟩
  have e := len_leaf d h.lf
  have e2 := h.sz
  have e3 : sizeLine = 16777216 := by rw [sizeLine_eq]
  omega
end DL
namespace DL
open PySem PySem.Spec L2
/-! ### loops and comprehensions, by what holds -/
theorem for_inv {g : DG} {u : DS} {B : DEnd} (I : List D → Evn → Prop) (step : ∀ d l env (N : Evn → Prop), I (d :: l) env → (∀ env', I l env' → N env') → g d env fun env1 => u { B with nx := N, ct := N, bk := B.nx } env1)
    (fin : ∀ env, I [] env → B.nx env) : ∀ (l : List D) (env : Evn), I l env → forL g u l B env
  | [], env, h => fin env h
  | d :: l, env, h => step d l env _ h fun env' h' => for_inv I step fin l env' h'
theorem while_inv {t : DT} {u : DS} {B : DEnd} (I : Evn → Prop) (μ : Evn → Nat) (step : ∀ env (N : Evn → Prop), I env → (∀ env', I env' → μ env' < μ env → N env') → t env fun b env1 => if b = true then u { B with nx := N, ct := N, bk := B.nx } env1 else B.nx env1)
    {env : Evn} (h : I env) : dWhile t u B env := by
  have key : ∀ n env, I env → μ env < n → whl t u n B env := by
    intro n
    induction n with
    | zero => intro env _ hn; omega
    | succ n ih => exact fun env hI hn => step env _ hI fun env' h1 h2 => ih env' h1 (by omega)
  exact ⟨_, key _ env h (Nat.lt_succ_self _)⟩
/-- one turn of a comprehension -/
def turn (g : DG) (t : DT) (f : DE) (vs : List Nat) (env : Evn) (d : D) (Q : Option D → Evn → Prop) : Prop := g d (wipeD env vs) fun env2 => t env2 fun b env3 => if b = true then f env3 fun y env4 => Q (some y) (restD env vs env4) else Q none (restD env vs env3)
theorem comp_all {g : DG} {t : DT} {f : DE} {vs : List Nat} {env : Evn} {QL : List D → Evn → Prop} (A : D → D → Prop) : ∀ (ds acc : List D), (∀ d ∈ ds, ∀ Q : Option D → Evn → Prop, (∀ y, A d y → Q (some y) env) → turn g t f vs env d Q) → acc.length + ds.length ≤ 10000000 →
    (∀ ys, Paired A ds ys → QL (acc ++ ys) env) → compL g t f vs ds acc env QL
  | [], acc, _, _, h => by
    have := h [] .nil
    rw [List.append_nil] at this
    exact this
  | d :: ds, acc, ht, hl, h => by
    simp only [List.length_cons] at hl
    refine ht d (List.mem_cons_self ..) (fun o env' => match o with | some y => acc.length < 10000000 ∧ compL g t f vs ds (acc ++ [y]) env' QL | none => compL g t f vs ds acc env' QL) fun y hy => ⟨by omega, ?_⟩
    refine comp_all A ds (acc ++ [y]) (fun d' hd' => ht d' (List.mem_cons_of_mem _ hd')) (by rw [List.length_append, List.length_singleton]; omega) fun ys hp => ?_
    rw [List.append_assoc]
    exact h (y :: ys) (.cons hy hp)
theorem comp_map {g : DG} {t : DT} {f : DE} {vs : List Nat} {env : Evn} {QL : List D → Evn → Prop} (h : D → Option D) : ∀ (ds acc : List D), (∀ d ∈ ds, ∀ Q : Option D → Evn → Prop, Q (h d) env → turn g t f vs env d Q) → acc.length + ds.length ≤ 10000000 →
    QL (acc ++ ds.filterMap h) env → compL g t f vs ds acc env QL
  | [], acc, _, _, q => by
    rw [List.filterMap_nil, List.append_nil] at q
    exact q
  | d :: ds, acc, ht, hl, q => by
    simp only [List.length_cons] at hl
    refine ht d (List.mem_cons_self ..) (fun o env' => match o with | some y => acc.length < 10000000 ∧ compL g t f vs ds (acc ++ [y]) env' QL | none => compL g t f vs ds acc env' QL) ?_
    cases e : h d with
    | some y =>
      refine ⟨by omega, comp_map h ds (acc ++ [y]) (fun d' hd' => ht d' (List.mem_cons_of_mem _ hd')) (by rw [List.length_append, List.length_singleton]; omega) ?_⟩
      rw [List.filterMap_cons, e] at q
      rw [List.append_assoc]
      exact q
    | none =>
      refine comp_map h ds acc (fun d' hd' => ht d' (List.mem_cons_of_mem _ hd')) (by omega) ?_
      rw [List.filterMap_cons, e] at q
      exact q
/-! ### a deck made -/
theorem rng_map (ns : List Int) : ns.map D.int = ns.map fun n => D.int n := rfl
/-! ### items -/
theorem ix_mem {l : List D} {i : Int} (h0 : 0 ≤ i) (h1 : i < l.length) : ∃ d ∈ l, ixD l i = some d := by
  have hi : i.toNat < l.length := by omega
  refine ⟨l[i.toNat], List.getElem_mem hi, ?_⟩
  unfold ixD
  rw [if_pos h0, List.getElem?_eq_getElem hi]
/-! ### the program's own small functions, in every law -/
def intD : D → Bool
  | .int _ => true
  | _ => false
def areD (d : D) (n : Int) : Bool := match d with
  | .tup l => decide ((l.length : Int) = n) && l.all intD
  | _ => false
theorem all_ints : ∀ {l : List D}, l.all intD = true → ∃ ns : List Int, l = ns.map D.int
  | [], _ => ⟨[], rfl⟩
  | d :: l, h => by
    simp only [List.all_cons, Bool.and_eq_true] at h
    obtain ⟨ns, rfl⟩ := all_ints h.2
    cases d with
    | int i => exact ⟨i :: ns, rfl⟩
    | _ => simp [intD] at h
theorem are3 {d : D} (h : areD d 3 = true) : ∃ a b c : Int, d = .tup [.int a, .int b, .int c] := by
  cases d with
  | tup l =>
    simp only [areD, Bool.and_eq_true, decide_eq_true_eq] at h
    obtain ⟨ns, rfl⟩ := all_ints h.2
    have hl : ns.length = 3 := by have := h.1; rw [List.length_map] at this; omega
    match ns, hl with
    | [a, b, c], _ => exact ⟨a, b, c, rfl⟩
  | _ => simp [areD] at h
theorem are4 {d : D} (h : areD d 4 = true) : ∃ a b c e : Int, d = .tup [.int a, .int b, .int c, .int e] := by
  cases d with
  | tup l =>
    simp only [areD, Bool.and_eq_true, decide_eq_true_eq] at h
    obtain ⟨ns, rfl⟩ := all_ints h.2
    have hl : ns.length = 4 := by have := h.1; rw [List.length_map] at this; omega
    match ns, hl with
    | [a, b, c, e], _ => exact ⟨a, b, c, e, rfl⟩
  | _ => simp [areD] at h
theorem are2 {d : D} (h : areD d 2 = true) : ∃ a b : Int, d = .tup [.int a, .int b] := by
  cases d with
  | tup l =>
    simp only [areD, Bool.and_eq_true, decide_eq_true_eq] at h
    obtain ⟨ns, rfl⟩ := all_ints h.2
    have hl : ns.length = 2 := by have := h.1; rw [List.length_map] at this; omega
    match ns, hl with
    | [a, b], _ => exact ⟨a, b, rfl⟩
  | _ => simp [areD] at h
theorem plain_ty {d : D} (h : plainD d = true) : tyS d ≠ "?" := by
  cases d <;> first | (simp [tyS]; done) | simp [plainD] at h
theorem plain_mem : ∀ {l : List D}, plainDs l = true → ∀ d ∈ l, plainD d = true
  | [], _, d, h => by simp at h
  | x :: l, h, d, hd => by
    simp only [plainDs, Bool.and_eq_true] at h
    rcases List.mem_cons.mp hd with rfl | hd
    · exact h.1
    · exact plain_mem h.2 d hd
def S_isint : SD := fun ds P _ => match ds with
  | [d] => plainD d = true ∧ P (.bl (intD d))
  | _ => False
def S_areints : SD := fun ds P _ => match ds with
  | [d, .int n] => plainD d = true ∧ nds d ≤ 1000000 ∧ P (.bl (areD d n))
  | _ => False
def S_gcd : SD := fun ds P _ => match ds with
  | [.int a, .int b] => P (.int (Nat.gcd a.natAbs b.natAbs))
  | _ => False
theorem len_nds : ∀ l : List D, l.length ≤ ndss l
  | [] => Nat.le_refl _
  | d :: l => by
    have := len_nds l
    have h : 1 ≤ nds d := by cases d <;> simp [nds]
    simp only [List.length_cons, ndss]
    omega
end DL
namespace DL
open PySem PySem.Spec L2
/-! ### widths, found by instance -/
class Lt (n : outParam Nat) (i : Int) : Prop where
  h : i.natAbs < 2 ^ n
theorem Lt.mono {a b : Nat} {i : Int} (hi : Lt a i) (h : a ≤ b) : Lt b i := ⟨Nat.lt_of_lt_of_le hi.h (Nat.pow_le_pow_right (by decide) h)⟩
instance Lt.mul {a b : Nat} {i j : Int} [hi : Lt a i] [hj : Lt b j] : Lt (a + b) (i * j) := ⟨wide_lt hi.h hj.h⟩
instance Lt.add {a b : Nat} {i j : Int} [hi : Lt a i] [hj : Lt b j] : Lt (max a b + 1) (i + j) := ⟨by
  have h1 := (hi.mono (Nat.le_max_left a b)).h
  have h2 := (hj.mono (Nat.le_max_right a b)).h
  rw [Nat.pow_succ]
  omega⟩
instance Lt.sub {a b : Nat} {i j : Int} [hi : Lt a i] [hj : Lt b j] : Lt (max a b + 1) (i - j) := ⟨by
  have h1 := (hi.mono (Nat.le_max_left a b)).h
  have h2 := (hj.mono (Nat.le_max_right a b)).h
  rw [Nat.pow_succ]
  omega⟩
instance Lt.neg {a : Nat} {i : Int} [hi : Lt a i] : Lt a (-i) := ⟨by rw [Int.natAbs_neg]; exact hi.h⟩
instance (priority := low) Lt.lit {n : Nat} : Lt (n.log2 + 1) (no_index (OfNat.ofNat n : Int)) := ⟨Nat.lt_log2_self⟩
theorem Lt.cm {a b : Nat} {i j : Int} [hi : Lt a i] [hj : Lt b j] (h : a + b < 1000000) : CMulW i j := cmulW hi.h hj.h h
theorem Lt.to {a b : Nat} {i : Int} [hi : Lt a i] (h : a ≤ b) : Lt b i := hi.mono h
theorem Lt.of {n : Nat} {i : Int} (h : i.natAbs < 2 ^ n) : Lt n i := ⟨h⟩
/-! ### equality of lists and tuples of plain things -/
mutual
def lvl : D → Nat
  | .tup l => 1 + lvls l
  | .lst l => 1 + lvls l
  | _ => 1
def lvls : List D → Nat
  | [] => 0
  | d :: l => max (lvl d) (lvls l)
end
mutual
theorem lvl_py : ∀ d : D, flatD d = true → (py d).depth ≤ lvl d
  | .non, _ | .bl _, _ | .int _, _ | .str _, _ => by simp [py, PyData.depth, lvl]
  | .tup l, h | .lst l, h => by
    simp only [flatD] at h
    have := lvls_py l h
    simp only [py, PyData.depth, lvl]
    omega
  | .dic _, h | .raw _, h | .deck _, h | .scr _, h => by simp [flatD] at h
theorem lvls_py : ∀ l : List D, flatDs l = true → PyData.depthAll (pys l) ≤ lvls l
  | [], _ => by simp [pys, PyData.depthAll, lvls]
  | d :: l, h => by
    simp only [flatDs, Bool.and_eq_true] at h
    have h1 := lvl_py d h.1
    have h2 := lvls_py l h.2
    simp only [pys, PyData.depthAll, lvls]
    omega
end
theorem eqOk.of {d : D} (h : flatD d = true) (h2 : lvl d ≤ 64) : eqOk d := ⟨h, Nat.le_trans (lvl_py d h) h2⟩
def eqvs : List D → List D → Bool
  | [], [] => true
  | a :: l, b :: m => eqv a b && eqvs l m
  | _, _ => false
theorem eqvs_py : ∀ l m : List D, PyData.eqvAll (pys l) (pys m) = eqvs l m
  | [], [] => by simp [pys, PyData.eqvAll, eqvs]
  | [], b :: m => by simp [pys, PyData.eqvAll, eqvs]
  | a :: l, [] => by simp [pys, PyData.eqvAll, eqvs]
  | a :: l, b :: m => by simp [pys, PyData.eqvAll, eqvs, eqvs_py l m, eqv]
@[simp] theorem eqv_tup {l m : List D} : eqv (.tup l) (.tup m) = eqvs l m := by simp [eqv, py, PyData.eqv, eqvs_py]
@[simp] theorem eqv_lst {l m : List D} : eqv (.lst l) (.lst m) = eqvs l m := by simp [eqv, py, PyData.eqv, eqvs_py]
@[simp] theorem eqv_tl {l m : List D} : eqv (.tup l) (.lst m) = false := by simp [eqv, py, PyData.eqv]
@[simp] theorem eqv_lt {l m : List D} : eqv (.lst l) (.tup m) = false := by simp [eqv, py, PyData.eqv]
@[simp] theorem eqvs_nn : eqvs [] [] = true := rfl
@[simp] theorem eqvs_cn {a : D} {l : List D} : eqvs (a :: l) [] = false := rfl
@[simp] theorem eqvs_nc {a : D} {l : List D} : eqvs [] (a :: l) = false := rfl
@[simp] theorem eqvs_cc {a b : D} {l m : List D} : eqvs (a :: l) (b :: m) = (eqv a b && eqvs l m) := rfl
theorem eqvs_emp {l : List D} : eqvs l [] = l.isEmpty := by cases l <;> rfl
theorem flat_ints : ∀ {l : List D}, (∀ d ∈ l, ∃ i, d = .int i) → flatDs l = true ∧ lvls l ≤ 1
  | [], _ => ⟨rfl, by simp [lvls]⟩
  | d :: l, h => by
    obtain ⟨i, rfl⟩ := h d (List.mem_cons_self ..)
    have := flat_ints fun x hx => h x (List.mem_cons_of_mem _ hx)
    exact ⟨by simp [flatDs, flatD, this.1], by simp only [lvls, lvl]; omega⟩
theorem ok_ints {l : List D} (h : ∀ d ∈ l, ∃ i, d = .int i) : eqOk (.lst l) ∧ eqOk (.tup l) := by
  have := flat_ints h
  exact ⟨.of (by simpa [flatD] using this.1) (by simp only [lvl]; omega), .of (by simpa [flatD] using this.1) (by simp only [lvl]; omega)⟩
section
variable {l m : List D} {a b : Str} {G : D → Prop}
@[simp] theorem o_eq_tt : oEq (.tup l) (.tup m) G = ((m = [] ∨ (eqOk (.tup l) ∧ eqOk (.tup m))) ∧ G (.bl (eqvs l m))) := by simp [oEq]
@[simp] theorem o_ne_tt : oNe (.tup l) (.tup m) G = ((m = [] ∨ (eqOk (.tup l) ∧ eqOk (.tup m))) ∧ G (.bl (!eqvs l m))) := by simp [oNe]
@[simp] theorem o_eq_ll : oEq (.lst l) (.lst m) G = ((m = [] ∨ (eqOk (.lst l) ∧ eqOk (.lst m))) ∧ G (.bl (eqvs l m))) := by simp [oEq]
@[simp] theorem o_ne_ll : oNe (.lst l) (.lst m) G = ((m = [] ∨ (eqOk (.lst l) ∧ eqOk (.lst m))) ∧ G (.bl (!eqvs l m))) := by simp [oNe]
@[simp] theorem o_eq_ss : oEq (.str a) (.str b) G = G (.bl (decide (a = b))) := rfl
@[simp] theorem o_ne_ss : oNe (.str a) (.str b) G = G (.bl (!decide (a = b))) := rfl
@[simp] theorem pick0 {d : D} {l : List D} : pickL [0] (d :: l) = [d] := rfl
end
@[simp] theorem ok_nl : eqOk (.lst []) := .of rfl (by simp [lvl, lvls])
@[simp] theorem ok_nt : eqOk (.tup []) := .of rfl (by simp [lvl, lvls])
@[simp] theorem nat_beq1 {n : Nat} : ((n : Int) == 1) = (n == 1) := by
  rw [Bool.eq_iff_iff]; simp; omega
end DL
namespace DL
open PySem PySem.Spec L2
/-! ### a draw from a deck of cells, a mixed number and turns -/
section
variable (K : PySem.W.Frag)
abbrev tInt1 (t : TE) : TE := tCB (fun xs H Q => (∃ i, xs = [.int i] ∧ Q (.int i) H) ∨ ∃ k, xs = [.bl k] ∧ Q (.int (if k then 1 else 0)) H) (tCons t tNil)
abbrev tKey (s : Str) : TE := tDGet (tVar 0) (tC (.str s))
abbrev tAd (a b : TE) : TE := tOp (rI0 fun i j => V.int (i + j)) a b
abbrev tMo (a b : TE) : TE := tOp (rI (fun _ j => 0 < j) fun i j => V.int (i % j)) a b
abbrev tMu (a b : TE) : TE := tOp (rI CMul fun i j => V.int (i * j)) a b
abbrev tI (i : Int) : TE := tC (.int i)
def drawA (a b c : Str) : TS :=
  tSeq (sDPut (tVar 0) (tC (.str c)) (tAd (tKey c) (tI 1)))
  (tSeq (tIfS (tTest (tOp (rNeD K) (tKey a) (tLst tNil)))
    (tSeq (tAsg (tBM0 K "list" rPop (tKey a)) (L2.gName 2))
    (tSeq (tIfS (tTest (tOp (rI0 fun i j => V.bl (decide (j ≤ i))) (tVar 2) (tOp (rI CPow fun i j => V.int (i ^ j.toNat)) (tI 10) (tI 18))))
      (tSeq (tDrop (tBM K "list" rAppend (tKey a) (tCons (tOp (rI CDivW fun i j => V.int (i / j)) (tVar 2)
        (tCB (fun xs H Q => ∃ i j, xs = [V.int i, V.int j] ∧ Q (V.int (if j > i then j else i)) H) (tCons (tI 2) (tCons (tVar 1) tNil)))) tNil)))
      (tRet (tMo (tInt1 (tVar 2)) (tVar 1)))) tNext)
    (sDPut (tVar 0) (tC (.str b)) (tMo (tInt1 (tAd (tKey b) (tVar 2))) (tI 2147483647))))) tNext)
  (tSeq (sDPut (tVar 0) (tC (.str b)) (tMo (tInt1 (tAd (tAd (tMu (tKey b) (tI 48271)) (tMu (tKey c) (tI 69621))) (tI 1))) (tI 2147483647)))
  (tRet (tMo (tOp (rI CDiv fun i j => V.int (i / j)) (tMo (tInt1 (tMu (tKey b) (tKey b))) (tI 2147483629)) (tI 64)) (tVar 1)))))
end
section
variable {K : PySem.W.Frag} {a b c : Str} {H0 H : Hp} {p : DkP} {cs : List Int} {m t below : Int} {D : Ends} {v2 : Option V}
theorem mm (i : Int) : 0 ≤ i % 2147483647 ∧ i % 2147483647 < 2147483647 := ⟨Int.emod_nonneg _ (by decide), Int.emod_lt_of_pos _ (by decide)⟩
theorem below_log {i : Int} (h0 : 0 < i) (h : i < 2 ^ 8000) : i.natAbs.log2 < 9000 := by
  have h1 : i.natAbs < 2 ^ 8000 := by
    have : ((i.natAbs : Nat) : Int) < ((2 ^ 8000 : Nat) : Int) := by
      rw [Int.natAbs_of_nonneg (by omega)]
      simpa using h
    exact Int.ofNat_lt.mp this
  exact Nat.lt_of_lt_of_le (PySem.Flt.log2_lt_of (by decide) h1) (by decide)
/-- the end of a draw -/
theorem drawA_end (n : Ne3 a b c) (d : D3 a b c H0 p H cs m t) (hm : 0 ≤ m ∧ m < 2147483648) (hb : 0 < below) (fin : ∀ (H : Hp) (m t r : Int), D3 a b c H0 p H cs m t → 0 ≤ m → m < 2147483648 → 0 ≤ r → r < below → D.rt (.int r) H) :
    tSeq (sDPut (tVar 0) (tC (.str b)) (tMo (tInt1 (tAd (tAd (tMu (tKey b) (tI 48271)) (tMu (tKey c) (tI 69621))) (tI 1))) (tI 2147483647)))
      (tRet (tMo (tOp (rI CDiv fun i j => V.int (i / j)) (tMo (tInt1 (tMu (tKey b) (tKey b))) (tI 2147483629)) (tI 64)) (tVar 1))) D [some (.ref p.1), some (.int below), v2] H := by
  have e := mm (m * 48271 + t * 69621 + 1)
  have d' := d.setD ((m * 48271 + t * 69621 + 1) % 2147483647) t
  refine ⟨_, rfl, _, _, rfl, d.getM n, _, _, rfl, rfl, .inr (by decide), _, rfl, _, _, rfl, d.getT n, _, _, rfl, rfl, .inr (by decide), _, _, rfl, rfl, _, _, rfl, rfl, .inl ⟨_, rfl, _, _, rfl, rfl, show (0 : Int) < 2147483647 by decide, _, rfl, _, _, rfl, d.putM n _, ?_⟩⟩
  refine ⟨_, rfl, _, _, rfl, d'.getM n, _, rfl, _, _, rfl, d'.getM n, _, _, rfl, rfl, .inl ⟨by omega, by omega⟩, .inl ⟨_, rfl, _, _, rfl, rfl, show (0 : Int) < 2147483629 by decide, _, _, rfl, rfl, ⟨by decide, by decide⟩, _, rfl, _, _, rfl, rfl, hb, ?_⟩⟩
  exact fin _ _ _ _ d' e.1 (by omega) (Int.emod_nonneg _ (by omega)) (Int.emod_lt_of_pos _ hb)
theorem drawA_ok (n : Ne3 a b c) (d : D3 a b c H0 p H cs m t) (hl : cs.length ≤ 63) (hm : 0 ≤ m ∧ m < 2147483648) (hb : 0 < below) (hb2 : below < 2 ^ 8000)
    (fin : ∀ (H : Hp) (cs : List Int) (m t r : Int), D3 a b c H0 p H cs m t → cs.length ≤ 63 → 0 ≤ m → m < 2147483648 → 0 ≤ r → r < below → D.rt (.int r) H) :
    drawA K a b c D [some (.ref p.1), some (.int below), none] H := by
  refine ⟨_, rfl, _, _, rfl, d.getT n, _, _, rfl, rfl, _, rfl, _, _, rfl, d.putT n _, ?_⟩
  have d1 := d.setD m (t + 1)
  refine d1.full rfl fun l hl0 => ?_
  have d2 := d1.laid hl0 (.lst [])
  by_cases hc : cs = []
  · subst hc
    exact drawA_end n d2 hm hb fun H m t r x h1 h2 h3 h4 => fin H [] m t r x hl h1 h2 h3 h4
  · have hcs : (!cs.isEmpty) = true := by cases cs <;> simp at hc ⊢
    rw [if_pos hcs]
    have hlen : 0 < cs.length := List.length_pos_iff.mpr hc
    obtain ⟨x, hx⟩ : ∃ x : Int, cs[cs.length - 1]? = some x := ⟨_, List.getElem?_eq_getElem (by omega)⟩
    have d3 := d2.setL cs.dropLast
    have hdl : (cs.map V.int).dropLast = cs.dropLast.map V.int := by rw [List.dropLast_eq_take, List.dropLast_eq_take, List.map_take, List.length_map]
    refine ⟨_, rfl, _, _, rfl, d2.getC, .inl ⟨rfl, _, SqL.of d2.ls⟩, _, cs.map V.int, .int x, rfl, rfl, d2.ls, by rw [List.length_map, List.getElem?_map, hx]; rfl, ?_⟩
    rw [hdl]
    refine ⟨_, rfl, _, _, rfl, rfl, ⟨by decide, by decide, by decide⟩, _, _, rfl, rfl, _, rfl, ?_⟩
    by_cases hg : (10 : Int) ^ (18 : Int).toNat ≤ x
    · rw [decide_eq_true hg]
      have hmx : CDivW x (if below > 2 then below else 2) := by
        split
        · exact ⟨hb, below_log hb hb2⟩
        · exact ⟨by decide, by decide⟩
      refine ⟨_, rfl, _, _, rfl, d3.getC, .inl ⟨rfl, _, SqL.of d3.ls⟩, _, rfl, _, rfl, _, _, rfl, _, _, rfl, rfl, hmx, _, _, _, rfl, rfl, d3.ls, ?_, ?_⟩
      · rw [List.length_map, List.length_dropLast]
        exact Nat.lt_of_le_of_lt (m := 63) (by omega) (by decide)
      · have d4 := d3.setL (cs.dropLast ++ [x / if below > 2 then below else 2])
        rw [List.map_append] at d4
        refine ⟨_, rfl, .inl ⟨_, rfl, _, rfl, _, _, rfl, rfl, hb, ?_⟩⟩
        refine fin _ _ _ _ _ d4 ?_ hm.1 hm.2 (Int.emod_nonneg _ (by omega)) (Int.emod_lt_of_pos _ hb)
        rw [List.length_append, List.length_dropLast, List.length_singleton]
        omega
    · rw [decide_eq_false hg]
      have e := mm (m + x)
      refine ⟨_, rfl, _, _, rfl, d3.getM n, _, rfl, _, _, rfl, rfl, .inl ⟨_, rfl, _, _, rfl, rfl, show (0 : Int) < 2147483647 by decide, _, rfl, _, _, rfl, d3.putM n _, ?_⟩⟩
      refine drawA_end n (d3.setD _ _) ⟨e.1, by omega⟩ hb fun H m t r y h1 h2 h3 h4 => fin H _ m t r y ?_ h1 h2 h3 h4
      rw [List.length_dropLast]
      omega
end
end DL
namespace DL
open PySem PySem.Spec L2
/-! ### loops over ints -/
theorem for_rng {g : DG} {u : DS} {B : DEnd} {lo : Int} {n : Nat} (I : Nat → Evn → Prop) (step : ∀ (i : Nat) (env : Evn) (N : Evn → Prop), i < n → I i env → (∀ env', I (i + 1) env' → N env') → g (.int (lo + i)) env fun env1 => u { B with nx := N, ct := N, bk := B.nx } env1)
    (fin : ∀ env, I n env → B.nx env) {env : Evn} (h : I 0 env) : forL g u (rngD lo n) B env := by
  have key : ∀ (k j : Nat) (env : Evn), j + k = n → I j env → forL g u ((List.range' j k).map fun (i : Nat) => D.int (lo + i)) B env := by
    intro k
    induction k with
    | zero =>
      intro j env e h
      have : j = n := by omega
      subst this
      exact fin env h
    | succ k ih =>
      intro j env e h
      rw [List.range'_succ, List.map_cons]
      exact step j env _ (by omega) h fun env' h' => ih (j + 1) env' (by omega) h'
  unfold rngD
  rw [List.range_eq_range']
  exact key n 0 env (by omega) h
theorem for_ints {g : DG} {u : DS} {B : DEnd} (I : List Int → Evn → Prop) (step : ∀ (i : Int) (l : List Int) (env : Evn) (N : Evn → Prop), I (i :: l) env → (∀ env', I l env' → N env') → g (.int i) env fun env1 => u { B with nx := N, ct := N, bk := B.nx } env1)
    (fin : ∀ env, I [] env → B.nx env) : ∀ {l : List Int} {env : Evn}, I l env → forL g u (l.map D.int) B env
  | [], env, h => fin env h
  | i :: l, env, h => step i l env _ h fun env' h' => for_ints I step fin h'
theorem cut_ints (ns : List Int) (a b : Option Int) : ∃ ms : List Int, cutD (ns.map D.int) a b = ms.map D.int ∧ ms.length ≤ ns.length := by
  refine ⟨(ns.drop (HT.sIx (ns.map D.int).length 0 a)).take (HT.sIx (ns.map D.int).length (ns.map D.int).length b - HT.sIx (ns.map D.int).length 0 a), ?_, ?_⟩
  · unfold cutD
    rw [List.map_take, List.map_drop]
  · rw [List.length_take, List.length_drop]
    omega
theorem drawA_fn {K : PySem.W.Frag} {vs : List V} {H : Hp} {Q : VK} {E : XK} {N : List Str} (hN : N.length = 3) {mg : Str → Option Value} (h : spD K mg (S_draw 0) vs H Q E) : drawA K "cells" "mixed" "turn" { nx := fun _ H' => Q .non H', rt := Q } (L2.start N vs) H := by
  obtain ⟨ds, F, k, P, PX, W, a, h, q, _⟩ := h
  unfold S_draw at h
  split at h
  case h_2 => exact h.elim
  rename_i m b
  obtain ⟨rfl, hb, hb1, hr⟩ := h
  have hb2 : b < 2 ^ 8000 := Int.lt_trans hb1 (by decide +kernel)
  simp only [Ats, At] at a
  obtain ⟨v, _, rfl, ⟨p, e0, e1, e2⟩, v2, _, rfl, e3, rfl⟩ := a
  subst e0
  subst e2
  subst e3
  obtain ⟨⟨kvs, cs, h1, h2, h3⟩, f1, f2⟩ := W.dk p rfl
  rw [e1] at h3
  obtain ⟨hl, m, t, rfl, hm⟩ := h3
  have d : D3 "cells" "mixed" "turn" H p H cs m t := ⟨h1, h2, fun _ _ h _ _ => h, by rw [h1]; simp, by rw [h2]; simp⟩
  have st : L2.start N [.ref p.1, .int b] = [some (.ref p.1), some (.int b), none] := by
    unfold L2.start
    rw [hN]
    rfl
  rw [st]
  refine drawA_ok (n := ⟨by decide, by decide, by decide⟩) d hl hm hb hb2 fun H' cs' m' t' r d' hl' hm1 hm2 h0 h1 => q (.int r) _ H' (hr r h0 h1) (d'.fin (n := 0) W rfl ?_)
  rw [e1]
  exact ⟨hl', m', t', rfl, hm1, hm2⟩
end DL
namespace DL
open PySem PySem.Spec L2
/-- a comprehension, by what its items have -/
theorem comp_mem {g : DG} {t : DT} {f : DE} {vs : List Nat} {env : Evn} {QL : List D → Evn → Prop} (A : D → Prop) : ∀ (ds acc : List D), (∀ d ∈ ds, ∀ Q : Option D → Evn → Prop, Q none env → (∀ y, A y → Q (some y) env) → turn g t f vs env d Q) → acc.length + ds.length ≤ 10000000 →
    (∀ ys, ys.length ≤ ds.length → (∀ y ∈ ys, A y) → QL (acc ++ ys) env) → compL g t f vs ds acc env QL
  | [], acc, _, _, h => by
    have := h [] (Nat.le_refl _) (by simp)
    rw [List.append_nil] at this
    exact this
  | d :: ds, acc, ht, hl, h => by
    simp only [List.length_cons] at hl
    refine ht d (List.mem_cons_self ..) (fun o env' => match o with | some y => acc.length < 10000000 ∧ compL g t f vs ds (acc ++ [y]) env' QL | none => compL g t f vs ds acc env' QL) ?_ fun y hy => ⟨by omega, ?_⟩
    · exact comp_mem A ds acc (fun d' hd' => ht d' (List.mem_cons_of_mem _ hd')) (by omega) fun ys hl ha => h ys (by simp only [List.length_cons]; omega) ha
    · refine comp_mem A ds (acc ++ [y]) (fun d' hd' => ht d' (List.mem_cons_of_mem _ hd')) (by rw [List.length_append, List.length_singleton]; omega) fun ys hl ha => ?_
      rw [List.append_assoc]
      refine h (y :: ys) (by simp only [List.length_cons]; omega) fun z hz => ?_
      rcases List.mem_cons.mp hz with rfl | hz
      · exact hy
      · exact ha z hz
/-! ### sizes of data, by members -/
structure FD (k m : Nat) (d : D) : Prop where
  lf : leaf d = true
  nd : noDic d = true
  dp : dep d ≤ k
  sz : nds d ≤ m
theorem leafs_of : ∀ {l : List D}, (∀ d ∈ l, leaf d = true) → leafs l = true
  | [], _ => rfl
  | d :: l, h => by simp only [leafs, Bool.and_eq_true]; exact ⟨h d (List.mem_cons_self ..), leafs_of fun x hx => h x (List.mem_cons_of_mem _ hx)⟩
theorem noDics_of : ∀ {l : List D}, (∀ d ∈ l, noDic d = true) → noDics l = true
  | [], _ => rfl
  | d :: l, h => by simp only [noDics, Bool.and_eq_true]; exact ⟨h d (List.mem_cons_self ..), noDics_of fun x hx => h x (List.mem_cons_of_mem _ hx)⟩
theorem deps_of {k : Nat} : ∀ {l : List D}, (∀ d ∈ l, dep d ≤ k) → deps l ≤ k
  | [], _ => Nat.zero_le _
  | d :: l, h => by
    have h1 := h d (List.mem_cons_self ..)
    have h2 := deps_of (k := k) fun x hx => h x (List.mem_cons_of_mem _ hx)
    simp only [deps]
    omega
theorem ndss_of {m : Nat} : ∀ {l : List D}, (∀ d ∈ l, nds d ≤ m) → ndss l ≤ l.length * m
  | [], _ => by simp [ndss]
  | d :: l, h => by
    have h1 := h d (List.mem_cons_self ..)
    have h2 := ndss_of (m := m) fun x hx => h x (List.mem_cons_of_mem _ hx)
    simp only [ndss, List.length_cons, Nat.succ_mul]
    omega
theorem FD.tup {k m n : Nat} {l : List D} (h : ∀ d ∈ l, FD k m d) (hl : l.length ≤ n) : FD (k + 1) (1 + n * m) (.tup l) := by
  have h2 := ndss_of fun d hd => (h d hd).sz
  have h3 := Nat.mul_le_mul_right m hl
  have h4 := deps_of fun d hd => (h d hd).dp
  exact ⟨leafs_of fun d hd => (h d hd).lf, noDics_of fun d hd => (h d hd).nd, by simp only [dep]; omega, by simp only [nds]; omega⟩
theorem FD.lst {k m n : Nat} {l : List D} (h : ∀ d ∈ l, FD k m d) (hl : l.length ≤ n) : FD (k + 1) (1 + n * m) (.lst l) := by
  have h2 := ndss_of fun d hd => (h d hd).sz
  have h3 := Nat.mul_le_mul_right m hl
  have h4 := deps_of fun d hd => (h d hd).dp
  exact ⟨leafs_of fun d hd => (h d hd).lf, noDics_of fun d hd => (h d hd).nd, by simp only [dep]; omega, by simp only [nds]; omega⟩
theorem FD.mono {k m k' m' : Nat} {d : D} (h : FD k m d) (h1 : k ≤ k') (h2 : m ≤ m') : FD k' m' d := ⟨h.lf, h.nd, Nat.le_trans h.dp h1, Nat.le_trans h.sz h2⟩
theorem FD.fine {k m : Nat} {d : D} (h : FD k m d) (h1 : k ≤ 60) (h2 : m ≤ 100000) : Fine d := ⟨h.lf, .inr h.nd, Nat.le_trans h.dp h1, Nat.le_trans h.sz h2⟩
theorem FD.int {i : Int} (h : i.natAbs < 10 ^ 100) : FD 0 1 (.int i) := ⟨decide_eq_true h, rfl, Nat.le_refl _, Nat.le_refl _⟩
theorem FD.int' {n : Nat} {i : Int} [h : Lt n i] (hn : n ≤ 330) : FD 0 1 (.int i) := FD.int (Nat.lt_of_lt_of_le (h.mono hn).h (by decide +kernel))
theorem FD.bl {b : Bool} : FD 0 1 (.bl b) := ⟨rfl, rfl, Nat.le_refl _, Nat.le_refl _⟩
theorem FD.non : FD 0 1 .non := ⟨rfl, rfl, Nat.le_refl _, Nat.le_refl _⟩
theorem cut_mem {l : List D} {a b : Option Int} {d : D} (h : d ∈ cutD l a b) : d ∈ l := List.mem_of_mem_drop (List.mem_of_mem_take h)
theorem cut_len (l : List D) (a b : Option Int) : (cutD l a b).length ≤ l.length := by
  unfold cutD
  rw [List.length_take, List.length_drop]
  omega
theorem FD.all {ns : List Int} {w : Nat} (h : ∀ n ∈ ns, Lt w n) (hw : w ≤ 330) : ∀ d ∈ ns.map D.int, FD 0 1 d := by
  intro d hd
  obtain ⟨i, hi, rfl⟩ := List.mem_map.mp hd
  have := h i hi
  exact FD.int' hw
theorem leaf_text (s : String) : leaf (.str (Str.ofString s)) = true := by
  rw [PySem.Str.ofString_eq_toList]
  simp only [leaf, List.all_eq_true, decide_eq_true_eq]
  intro c hc
  obtain ⟨x, _, rfl⟩ := List.mem_map.mp hc
  exact x.val.toNat_lt
theorem FD.text {s : String} {m : Nat} (h : (Str.ofString s).length ≤ m) : FD 0 (1 + m) (.str (Str.ofString s)) := ⟨leaf_text s, rfl, Nat.le_refl _, by simp only [nds]; exact Nat.add_le_add_left h 1⟩
/-- a text of an int -/
theorem FD.num {i : Int} (h : i.natAbs < 10 ^ 100) : FD 0 110 (.str (toString i)) := (FD.text (m := 101) (int_text h)).mono (Nat.le_refl _) (by decide)
theorem Lt.log {n : Nat} {i : Int} [h : Lt n i] (hn : n ≤ 1000) : i.natAbs.log2 < 1920 := by
  by_cases h0 : i.natAbs = 0
  · rw [h0]; decide
  · rw [Nat.log2_lt h0]
    exact Nat.lt_of_lt_of_le (h.mono hn).h (by decide +kernel)
theorem Lt.ten {n : Nat} {i : Int} [h : Lt n i] (hn : n ≤ 330) : i.natAbs < 10 ^ 100 := Nat.lt_of_lt_of_le (h.mono hn).h (by decide +kernel)
theorem FD.nil : FD 1 1 (.tup []) := ⟨rfl, rfl, by decide, by decide⟩
theorem FD.nill : FD 1 1 (.lst []) := ⟨rfl, rfl, by decide, by decide⟩
end DL
namespace DL
open PySem PySem.Spec L2
/-! ### own exception classes over Exception -/
abbrev eTail : List Value := [.type "Exception", .type "BaseException", .type "object"]
def xcB (K : PySem.W.Frag) (C : Addr) : Bool :=
  (PySem.W.clsIn K C).isSome && (He.eqO (PySem.W.findIn K (.ref C) "__getattribute__") (some (some (.builtin "BaseException.__getattribute__"))) && (He.eqO (PySem.W.findIn K (.ref C) "__getattr__") (some none) &&
  (decide (PySem.W.subIn K (.ref C) (.type "BaseException") = some true) && (He.eqO (PySem.W.findIn K (.ref C) "__class__") (some (some (.builtin "object.__class__"))) && (He.eqO (PySem.W.specialIn K (.builtin "object.__class__") "__get__") (some (some (.builtin "getset_descriptor.__get__"))) &&
  (decide (PySem.W.takesIn K (.builtin "object.__class__") = some true) && (decide (PySem.W.mroIn K C (.type "object") = some true) && (decide (PySem.W.typeIn K (.ref C) = some (.type "type")) && (PySem.W.keepIn K (.ref C) && PySem.W.hasDictIn K C)))))))))
structure XcF (K : PySem.W.Frag) (C : Addr) : Prop where
  c1 : (PySem.W.clsIn K C).isSome = true
  c2 : PySem.W.findIn K (.ref C) "__getattribute__" = some (some (.builtin "BaseException.__getattribute__"))
  c3 : PySem.W.findIn K (.ref C) "__getattr__" = some none
  c4 : PySem.W.subIn K (.ref C) (.type "BaseException") = some true
  c5 : PySem.W.findIn K (.ref C) "__class__" = some (some (.builtin "object.__class__"))
  c6 : PySem.W.specialIn K (.builtin "object.__class__") "__get__" = some (some (.builtin "getset_descriptor.__get__"))
  c7 : PySem.W.takesIn K (.builtin "object.__class__") = some true
  c8 : PySem.W.mroIn K C (.type "object") = some true
  c9 : PySem.W.typeIn K (.ref C) = some (.type "type")
  ca : PySem.W.keepIn K (.ref C) = true
  cb : PySem.W.hasDictIn K C = true
theorem xcB_ok {K : PySem.W.Frag} {C : Addr} (h : xcB K C = true) : XcF K C := by
  unfold xcB at h
  simp only [Bool.and_eq_true, decide_eq_true_eq] at h
  obtain ⟨h1, h2, h3, h4, h5, h6, h7, h8, h9, ha, hb⟩ := h
  exact ⟨h1, He.eqO_ok h2, He.eqO_ok h3, h4, He.eqO_ok h5, He.eqO_ok h6, h7, h8, h9, ha, hb⟩
theorem XcF.raises {X : Cx} {C : Addr} (h : XcF X.K C) : Raises X (.ref C) := raises_own h.c4 h.c9
/-- X() -/
theorem pmk0 {X : Cx} {C : Addr} {x : Str} {p pos : Pos} (T : XcF X.K C) (q : PySem.W.excIn X.K C eTail "Exception.__new__" = true) (gC : X.mg x = some (.ref C)) (hg : Gl X x) (hdb : (x == ("__debug__" : Str)) = false := by decide) :
    PMk X (.Call (.Name x p) [] [] pos) (fun _ H Q => Q (.ref C) none H) := by
  intro pins s σ H Q I h
  refine wpAny_Call_Name_kw (ld_glob I hg gC ?_ hdb)
  refine PySem.W.callWith_K0 I.kIn T.ca ?_
  show wpAny _ _ (call (.ref C) []) _ _ _
  obtain ⟨bm, N, nm, qn, bs, hdct, sn, sub, ab, col, dd, k0, k1, k2, k3, k5, mN, hC, hN, hni, TT⟩ := exc_obj I.kIn q
  exact wpAny_call_exc_subT PySem.F.excBase_Exception TT hC hN hni (fun h' e hm => mk_of I hm T.raises h (I.hok.gone hm.new)) (Nat.zero_le _)
end DL
namespace DL
open PySem PySem.Spec L2
/-! ### a class with an __init__ of one field -/
def iA (f : Str) (p1 p2 : Pos) : Arguments := { posonlyargs := [], args := [{ arg := "self", annotation := none, pos := p1 }, { arg := f, annotation := none, pos := p2 }], vararg := none, kwonlyargs := [], kw_defaults := [], kwarg := none, defaults := [] }
def iB (f : Str) (q1 q2 q3 q4 : Pos) : List Stmt := [.Assign [.Attribute (.Name "self" q1) f q2] (.Name f q3) q4]
def iS (f : Str) : Scope := { kind := .function, names := [("self", .local), (f, .local)], isGenerator := false, isCoroutine := false, more := [] }
def xiB (K : PySem.W.Frag) (C : Addr) (f : Str) : Bool :=
  He.eqO (PySem.W.findIn K (.ref C) f) (some none) && (He.eqO (PySem.W.findIn K (.ref C) "__setattr__") (some (some (.builtin "object.__setattr__"))) && (PySem.W.excOver K C eTail && (PySem.W.excInitIn K C eTail "Exception.__new__" &&
  (He.eqO (PySem.W.findIn K (.ref C) "__init__") (some (some (.ref (He.ma K C "__init__")))) && decide (PySem.W.typeIn K (.ref (He.ma K C "__init__")) = some (.type "function"))))))
structure XiF (K : PySem.W.Frag) (C : Addr) (f : Str) (fI : Addr) : Prop where
  d1 : PySem.W.findIn K (.ref C) f = some none
  d2 : PySem.W.findIn K (.ref C) "__setattr__" = some (some (.builtin "object.__setattr__"))
  d3 : PySem.W.excOver K C eTail = true
  d4 : PySem.W.excInitIn K C eTail "Exception.__new__" = true
  d5 : PySem.W.findIn K (.ref C) "__init__" = some (some (.ref fI))
  d6 : PySem.W.typeIn K (.ref fI) = some (.type "function")
theorem xiB_ok {K : PySem.W.Frag} {C : Addr} {f : Str} (h : xiB K C f = true) : XiF K C f (He.ma K C "__init__") := by
  unfold xiB at h
  simp only [Bool.and_eq_true, decide_eq_true_eq] at h
  obtain ⟨h1, h2, h3, h4, h5, h6⟩ := h
  exact ⟨He.eqO_ok h1, He.eqO_ok h2, h3, h4, He.eqO_ok h5, h6⟩
/-- its __init__, as it stands -/
def InitD (K : PySem.W.Frag) (f : Str) (fI : Addr) : Prop := ∃ (qual : Str) (p1 p2 q1 q2 q3 q4 : Pos) (fd : FuncData), FunD K "__init__" qual (iA f p1 p2) (iB f q1 q2 q3 q4) (iS f) [] [] fI fd
theorem kept_but {K : PySem.W.Frag} {h h' : Heap} {x : Addr} (X : K.In h) (hx : K.lookup x = none) (k : ∀ b o, b ≠ x → h.get? b = some o → h'.get? b = some o) : K.In h' := fun a o e =>
  k a o (fun z => by rw [z, hx] at e; cases e) (X a o e)
/-- what it leaves -/
structure Left (h h' : Heap) (x C dx t1 : Addr) (f : Str) (v : Value) : Prop where
  same : ∀ b o, b ≠ x → h.get? b = some o → h'.get? b = some o
  obj : h'.get? x = some { cls := .ref C, dict := some dx, data := .fields #[.ref t1, .none, .none, .none, .bool false, .none] }
  big : h.objs.size ≤ dx
  ne : dx ≠ x
  ns : h'.Ns1 dx (fun y => if y = f then some v else none)
section
variable {prog : Program} {w : World} {A : Around} {E : Value → Shared → Prop} {R : Result → Shared → Prop} {s : Shared} {K : PySem.W.Frag} {C fI : Addr} {f : Str}
theorem x_store {hp : Heap} {g : Array GenState} {d : Drawn} {t : Nat} {os : OsState} {tk : Tok} {v : Value} {x : Addr} {fv : Array Value} (T : XcF K C) (S : XiF K C f fI) (X : K.In hp) (hx : hp.get? x = some { cls := .ref C, data := .fields fv })
    (hq : ∀ h' tk' dx, (∀ b o, b ≠ x → hp.get? b = some o → h'.get? b = some o) → hp.objs.size ≤ dx → dx ≠ x → h'.get? x = some { cls := .ref C, dict := some dx, data := .fields fv } → h'.Ns1 dx (fun y => if y = f then some v else none) → R (.ok (.ret .none)) ⟨h', g, d, tk', os⟩) :
    codeAny (model prog w) A (.call (.builtin "object.__setattr__") ⟨[.ref x, .str f tk, v], []⟩) R ⟨hp, g, d, t, os⟩ := by
  have J : PySem.W.InstAt hp x { cls := .ref C, data := .fields fv } C none := ⟨hx, rfl, rfl, trivial⟩
  have tt : PySem.W.takerIn K C f = some none := by
    unfold PySem.W.takerIn
    rw [S.d1]
    rfl
  refine PySem.W.osa_openX PySem.F.store_Exception X J S.d3 tt fun b => ?_
  obtain ⟨cd, hcd, hh⟩ := PySem.W.any_some T.cb
  have L : PySem.W.Looks (model prog w) hp (classData C) cd := PySem.W.looks_clsIn X hcd
  have apart : x ≠ hp.objs.size := Nat.ne_of_lt (Heap.lt_size hx)
  show wpAny _ _ (Builtin.ObjectAttr.storeInOwnDict (.ref x) (.ref C) (.str f tk) f v b) _ _ _
  obtain ⟨nm, bs, mro, ns, qn, hd, sn, sb, ab, col, del⟩ := cd
  dsimp only at hh
  subst hh
  unfold Builtin.ObjectAttr.storeInOwnDict Builtin.ObjectAttr.ownDictForStores
  repeat (first | with_reducible refine PySem.HandSPX.store_in_new ?_ ?_ | with_reducible refine wpAny_loadPart_at hx ?_ | with_reducible refine L.at ?_ | wp_step)
  · exact ⟨_, #[], _, (Heap.get?_update_ne _ _ _ _ apart.symm).trans (Heap.get?_push_at rfl rfl), rfl, fun e he => absurd he (by simp), fun _ => rfl⟩
  · intro h' tk' hn sm
    have hx1 : (hp.push { cls := .type "dict", data := .dict #[] }).get? x = some { cls := .ref C, data := .fields fv } := Heap.get?_push_of_some _ hx
    exact hq h' tk' hp.objs.size (fun b o hb ho => (sm.2 b (Nat.ne_of_lt (Heap.lt_size ho))).trans ((Heap.get?_update_ne _ _ _ _ hb).trans (Heap.get?_push_of_some _ ho))) (Nat.le_refl _) apart.symm
      ((sm.2 x apart).trans (Heap.get?_update_self _ hx1 rfl)) hn
end
end DL
namespace DL
open PySem PySem.Spec L2 PyProof.Rows
section
variable {prog : Program} {w : World} {A : Around} {E : Value → Shared → Prop} {R : Result → Shared → Prop} {s : Shared} {K : PySem.W.Frag} {C fI : Addr} {f : Str}
theorem ldF {M : Model} {name : Str} {scope : Scope} {L a : Addr} {cd : Value} {m : Str → Option Value} {x : Str} {pos : Pos} {v : Value} {Q : Value → Shared → Prop} (hn : s.heap.Ns L m) (hv : m x = some v) (h : Q v s)
    (hk : scope.kind = .function) (hl : (PyProof.Rows.envOfC name scope L a cd).kindOf x = some .local) (hd : (x == ("__debug__" : Str)) = false) :
    wpAny M A (eval (.Name x pos) (PyProof.Rows.envOfC name scope L a cd)) Q E s := wpAny_Name (wpAny_loadName_local hk hl hn hv h) hd
/-- a field's name -/
structure FOk (f : Str) : Prop where
  ne : (f == ("self" : Str)) = false
  db : (f == ("__debug__" : Str)) = false
  bi : ∀ (qual : Str) (p1 p2 q1 q2 q3 q4 : Pos) (kV doc pm : Value) (an : Option Addr) (cdv ct x v : Value), bindArgs (PySem.W.fnOf "__init__" qual (iA f p1 p2) (iB f q1 q2 q3 q4) (iS f) .none kV doc pm an cdv ct) ⟨[x, v], []⟩ = pure [(("self" : Str), x), (f, v)]
theorem x_init (T : XcF K C) (S : XiF K C f fI) (D : InitD K f fI) (O : FOk f) {x t0 : Addr} {v : Value} (X : K.In s.heap) (hlim : s.heap.NoLimit) (hx : s.heap.get? x = some { cls := .ref C, data := .fields #[.ref t0, .none, .none, .none, .bool false, .none] }) (hnx : K.lookup x = none) (hroom : A.depth < recursionLimit)
    (hq : ∀ h' tk dx, Left s.heap h' x C dx t0 f v → R (.ok (.ret .none)) { s with heap := h', toks := tk }) :
    codeAny (model prog w) A (.call (.ref fI) ⟨[.ref x, v], []⟩) R s := by
  have hf := O.ne
  have hd := O.db
  obtain ⟨qual, p1, p2, q1, q2, q3, q4, fd, F⟩ := D
  obtain ⟨oc, od, dV, kV, doc, pm, an, cdv, ct, osl, rfl, ho, hcd, hD, hK⟩ := F.ex
  have hdV : dV = .none := by
    rcases hD with ⟨_, rfl⟩ | ⟨z, _⟩
    · rfl
    · exact absurd rfl z
  subst hdV
  have hf2 : (("self" : Str) == f) = false := by
    rw [beq_eq_false_iff_ne] at hf ⊢
    exact fun z => hf z.symm
  have lf : (iS f).names.lookup f = some NameKind.local := by
    simp [iS, List.lookup, hf]
  have ls : (iS f).names.lookup ("self" : Str) = some NameKind.local := by
    simp [iS, List.lookup]
  refine Att.call_fn (binds := [("self", .ref x), (f, v)]) X hlim ho hcd hroom (BindsTo.of_eq ?hb) ?hk (fun s₁ IC => ?_) rfl rfl rfl
  case hb => exact O.bi qual p1 p2 q1 q2 q3 q4 kV doc pm an cdv ct (.ref x) v
  case hk => simp [lf, ls]
  obtain ⟨h₁, tk₁, rfl⟩ := IC.toInCall.same
  have k : ∀ b o, s.heap.get? b = some o → h₁.get? b = some o := IC.toInCall.keep
  have hn := IC.toInCall.ns
  have hxL : s.heap.objs.size ≠ x := Nat.ne_of_gt (Heap.lt_size hx)
  have X₁ : K.In h₁ := X.keeps k
  have hx₁ := k _ _ hx
  have kf : (PyProof.Rows.envOfC qual (iS f) s.heap.objs.size fI cdv).kindOf f = some .local := lf
  have ks : (PyProof.Rows.envOfC qual (iS f) s.heap.objs.size fI cdv).kindOf "self" = some .local := ls
  show wpAny _ _ (execs _ _) _ _ _
  refine wpAny_execs_cons (plainObj_wpAny_Assign_Attribute ?_)
  refine ldF (v := v) hn ?hv1 (ldF (v := .ref x) hn ?hv2 ?_ rfl ks (by decide)) rfl kf hd
  case hv1 =>
    simp [bindL, kf, ks]
  case hv2 =>
    have hf3 : ¬ (("self" : Str) = f) := beq_eq_false_iff_ne.mp hf2
    simp [bindL, kf, ks, hf3]
  refine PySem.W.set_plain X₁ (od := none) ⟨hx₁, rfl, rfl, trivial⟩ S.d2 ?_
  refine x_store T S X₁ hx₁ fun h₃ tk₃ dx k₃ dn dne hx₃ hn₃ => ?_
  have z : s.heap.objs.size < h₁.objs.size := hn.lt
  exact wpAny_execs_nil (hq h₃ tk₃ dx ⟨fun b o hb e => k₃ b o hb (k b o e), hx₃, Nat.le_of_lt (Nat.lt_of_lt_of_le z dn), dne, hn₃⟩)
end
end DL
namespace DL
open PySem PySem.Spec L2 PyProof.Rows
/-- a made one -/
structure Made (h h' : Heap) (e C d : Addr) (f : Str) (v : Value) : Prop where
  same : ∀ b o, h.get? b = some o → h'.get? b = some o
  new : h.objs.size ≤ e
  obj : ∃ oe vs, h'.get? e = some oe ∧ oe.cls = .ref C ∧ oe.dict = some d ∧ oe.data = .fields vs ∧ vs[1]? = some .none
  big : h.objs.size ≤ d
  ne : d ≠ e
  ns : h'.Ns1 d (fun y => if y = f then some v else none)
section
variable {prog : Program} {w : World} {A : Around} {E : Value → Shared → Prop} {R : Result → Shared → Prop} {s : Shared} {K : PySem.W.Frag} {C fI : Addr} {f : Str}
theorem x_made (T : XcF K C) (S : XiF K C f fI) (D : InitD K f fI) (O : FOk f) {v : Value} (X : K.In s.heap) (hlim : s.heap.NoLimit) (hroom : A.depth + 1 < recursionLimit)
    (hq : ∀ h' tk e d, Made s.heap h' e C d f v → R (.ok (.ret (.ref e))) { s with heap := h', toks := tk }) : codeAny (model prog w) A (.call (.ref C) ⟨[v], []⟩) R s := by
  obtain ⟨nm, N, qn, bs, bm, hdct, sn, sub, ab, col, dd, k0, k1, k2, k3, k5, hC, hT⟩ := PySem.W.excInit_of X S.d4
  obtain ⟨hp, g, dr, tk, os⟩ := s
  have up : ∀ b o, hp.get? b = some o → ((hp.push (PySem.W.kdv_tup [v])).push (PySem.HandSPX.excO C hp.objs.size)).get? b = some o := fun b o e => Heap.get?_push_of_some _ (Heap.get?_push_of_some _ e)
  have at1 : ((hp.push (PySem.W.kdv_tup [v])).push (PySem.HandSPX.excO C hp.objs.size)).get? (hp.objs.size + 1) = some (PySem.HandSPX.excO C hp.objs.size) := by heap_get
  have out : K.lookup (hp.objs.size + 1) = none := by
    cases e : K.lookup (hp.objs.size + 1) with
    | none => rfl
    | some o =>
      have z : hp.get? (hp.objs.size + 1) = some o := X _ _ e
      exact absurd (Nat.lt_of_succ_lt (Heap.lt_size z)) (Nat.lt_irrefl _)
  refine PySem.HandSPX.call_own PySem.F.excBase_Exception hT hC (PySem.W.looks_findIn X S.d5) (fun self => PySem.W.bind_fn X self S.d6) (by show 1 ≤ sizeLine; rw [sizeLine_eq]; omega) ?_
  refine x_init (s := ⟨(hp.push (PySem.W.kdv_tup [v])).push (PySem.HandSPX.excO C hp.objs.size), g, dr, tk, os⟩) T S D O (X.keeps up) (hlim.keeps up) at1 out (show A.depth + 1 < recursionLimit from hroom) fun h' tk' dx L => ?_
  have old : ∀ b o, hp.get? b = some o → h'.get? b = some o := fun b o e => L.same b o (Nat.ne_of_lt (Nat.lt_succ_of_lt (Heap.lt_size e))) (up b o e)
  have z : hp.objs.size + 1 + 1 ≤ dx := by
    have q := L.big
    rw [Heap.size_push, Heap.size_push] at q
    exact q
  exact ⟨rfl, hq h' tk' (hp.objs.size + 1) dx ⟨old, Nat.le_succ _, ⟨_, _, L.obj, rfl, rfl, rfl, rfl⟩, Nat.le_trans (Nat.le_trans (Nat.le_succ _) (Nat.le_succ _)) z, L.ne, L.ns⟩⟩
end
theorem relO_one {v : V} {v' : Value} (r : RelV v v') (f g : Str) : RelO (List.lookup g [(f, v)]) (if g = f then some v' else none) := by
  by_cases hw : g = f
  · subst hw
    have q : List.lookup g [(g, v)] = some v := by simp [List.lookup]
    rw [if_pos rfl, q]
    exact r
  · have q1 : (g == f) = false := by simpa using hw
    have q2 : List.lookup g [(f, v)] = none := by simp [List.lookup, q1]
    rw [if_neg hw, q2]
    trivial
/-- X(e), of one field -/
def tMk1 (C : Addr) (f : Str) (ta : TA) : L2.St → Hp → XK → Prop := fun σ H Q => ta σ H fun vs H1 => ∃ v, vs = [v] ∧ ∀ d, H1 d = none → Q (.ref C) (some d) (upd H1 d (.xd [(f, v)]))
theorem pmk1 {X : Cx} {C fI : Addr} {f x : Str} {a : Expr} {ta : TA} {p pos : Pos} {k : Nat} (T : XcF X.K C) (S : XiF X.K C f fI) (D : InitD X.K f fI) (O : FOk f) (gC : X.mg x = some (.ref C)) (hr : Room k X.A) (ha : PA X [a] ta) (hg : Gl X x) (hdb : (x == ("__debug__" : Str)) = false := by decide)
    (he : starEach (a :: []) X.env = (false, eval a X.env) :: starEach [] X.env := by rfl) (hpl : (backTo pos (starEach [] X.env)).any (·.1) = false := by rfl) : PMk X (.Call (.Name x p) [a] [] pos) (tMk1 C f ta) := by
  intro pins s σ H Q I h
  refine wpAny_Call_Name_kw (ld_glob I hg gC ?_ hdb)
  refine PySem.W.callWith_K (h₀ := X.base) I.ok.mod.kin T.ca (thn (ha.run pos pins s σ H _ I h) fun us s1 ⟨vs, H1, I1, r1, v, ev, q1⟩ => ⟨I1.kIn, ?_⟩) he hpl
  subst ev
  obtain ⟨v', rfl, rv⟩ := vals1 r1
  have hlim := I1.nolimit
  obtain ⟨hp, g, dr, tk, os⟩ := s1
  refine PySem.wpAny_call (x_made T S D O I1.kIn hlim (by have := hr.dp; omega) fun h' tk' e d M => ?_)
  show MkP X pins σ Q (.ref e) ⟨h', g, dr, tk', os⟩
  obtain ⟨oe, fv, hoe, hc, hd, hdat, h1⟩ := M.obj
  have hns := M.ns
  obtain ⟨G', g1, g2⟩ := restrict h' fun b => decide (b ≠ e)
  have gk : ∀ b, b ≠ e → G'.get? b = h'.get? b := fun b hb => g1 b (decide_eq_true hb)
  have ge : G'.get? e = none := g2 e (by simp)
  have old : ∀ b o, hp.get? b = some o → G'.get? b = some o := fun b o q => (gk b (Nat.ne_of_lt (Nat.lt_of_lt_of_le (Heap.lt_size q) M.new))).trans (M.same b o q)
  have ob : ObjOk X.prog X.w (upd H1 d (.xd [(f, v)])) G' d (.xd [(f, v)]) := ⟨_, hns.at (fun o q => (gk d M.ne).trans q), fun y => relO_one rv f y⟩
  have J : L2.Inv X pins σ (upd H1 d (.xd [(f, v)])) ⟨G', g, dr, tk', os⟩ := I1.laid (t' := tk') old M.big ob
  refine ⟨e, oe, fv, ⟨G', g, dr, tk', os⟩, _, .ref C, some d, rfl, J, fun b o q => ?_, ge, hoe, ⟨hc, hd⟩, hdat, h1, ?_, rfl, I1.bare, T.raises, q1 d (I1.hok.fresh M.big)⟩
  · by_cases hb : b = e
    · have q' : G'.get? b = some o := q
      rw [hb, ge] at q'
      cases q'
    · exact (gk b hb).symm.trans q
  · rw [upd_ne (Ne.symm M.ne)]
    exact I1.hok.fresh M.new
/-! ### raise -/
def dRaise0 (w : DX) (n : Str) : DS := fun _ env => w (n, []) env
def dRaise1 (w : DX) (n f : Str) (g : DE) : DS := fun _ env => g env fun d env1 => w (n, [(f, d)]) env1
section
variable {wx : DX} {WW : WX} {ZZ : Fz} {X : Cx} {C fI : Addr} {f x : Str} {a : Expr} {p pos pos2 : Pos} {k : Nat} {g : DE}
theorem ds_raise0 (hc : X.calm = true) (tk : Takes X WW) (T : XcF X.K C) (q : PySem.W.excIn X.K C eTail "Exception.__new__" = true) (gC : X.mg x = some (.ref C)) (hg : Gl X x) (hdb : (x == ("__debug__" : Str)) = false := by decide) :
    PS X (.Raise (some (.Call (.Name x p) [] [] pos)) none pos2) (liftS (X.kx wx WW ZZ) (dRaise0 wx x)) :=
  (ps_raise hc tk (pmk0 T q gC hg hdb)).w fun E σ H ⟨e, env, oa, F, k, B, R, p, _⟩ => R.lnk _ env oa σ F H k _ none p R.toRel0 (Grow.refl _ _) ⟨gC, rfl⟩
theorem ds_raise1 (hc : X.calm = true) (tk : Takes X WW) (T : XcF X.K C) (S : XiF X.K C f fI) (D : InitD X.K f fI) (O : FOk f) (gC : X.mg x = some (.ref C)) (hr : Room k X.A) (ha : PE X a (lift (X.kx wx WW ZZ) g)) (hg : Gl X x) (hdb : (x == ("__debug__" : Str)) = false := by decide)
    (he : starEach (a :: []) X.env = (false, eval a X.env) :: starEach [] X.env := by rfl) (hpl : (backTo pos (starEach [] X.env)).any (·.1) = false := by rfl) :
    PS X (.Raise (some (.Call (.Name x p) [a] [] pos)) none pos2) (liftS (X.kx wx WW ZZ) (dRaise1 wx x f g)) :=
  (ps_raise hc tk (pmk1 T S D O gC hr (pa_cons ha pa_nil he) hg hdb he hpl)).w fun E σ H ⟨e, env, oa, F, k, B, R, p, _⟩ => ⟨e, env, oa, F, k, _, R, p, fun d env1 v oa1 F1 H1 k1 p1 R1 g1 a1 => ⟨v, rfl, fun t ht => by
    obtain ⟨R2, g2⟩ := R1.laid ht (.xd [(f, v)])
    exact R2.lnk _ env1 oa1 σ _ _ k1 _ (some t) p1 R2.toRel0 (Grow.refl _ _) ⟨gC, t, [v], rfl, upd_same, .cons (At.grow g2 _ _ a1) .nil⟩⟩⟩
end
end DL
namespace DL
open PySem PySem.Spec L2
/-! ### what is never reached -/
def dOut : DS := fun _ _ => False
theorem ds_out {wx : DX} {WW : WX} {ZZ : Fz} {X : Cx} {ss : List Stmt} : PSs X ss (liftS (X.kx wx WW ZZ) dOut) := ⟨fun _ _ _ _ _ _ ⟨_, _, _, _, _, _, _, p, _⟩ => False.elim p⟩
theorem ds_out1 {wx : DX} {WW : WX} {ZZ : Fz} {X : Cx} {st : Stmt} : PS X st (liftS (X.kx wx WW ZZ) dOut) := ⟨fun _ _ _ _ _ _ ⟨_, _, _, _, _, _, _, p, _⟩ => False.elim p⟩
/-! ### calls of defs that may raise -/
def dCallX (w : DX) (S : SD) (fa : DA) : DE := fun env Q => fa env fun ds env' => S ds (fun d => Q d env') fun x => w x env'
def dCallKX (w : DX) (S : SD) (n m : Nat) (ix : List Nat) (fa fk : DA) : DE := fun env Q => fa env fun ds env1 => fk env1 fun zs env2 => (ds.length = n ∧ zs.length = m) ∧ S (pickL ix (ds ++ zs)) (fun d => Q d env2) fun x => w x env2
section
variable {wx : DX} {WW : WX} {ZZ : Fz} {X : Cx} {k : Nat} {f : Addr} {fd : FuncData} {ps ks : List Str} {S : SD} {x : Str} {p pos : Pos} {e : Expr} {es : List Expr} {kws : List Keyword} {fa fk : DA} {n : Nat} {ix : List Nat}
theorem ranDX {pins : List (Addr × Obj)} {σ : L2.St} {H : Hp} {s : Shared} {args : Args} {us : List Value} {vs : List V} {en : Ent} {env : Evn} {oa : Nat → Addr} {F : Hp} {dk : Dk} {ds : List D} {PP : D → Prop} {Q : VK} (FN : FnG X.prog X.w X.K X.mg X.base (L2.CX X.prog X.w) k f fd ps (spD X.K X.mg S))
    (tk : Takes X WW) (gd : X.A.guards = some []) (hr : Room k X.A) (I : L2.Inv X pins σ H s) (hb : BindsTo s fd args (ps.zip us)) (rv : Vals vs us) (R : Rel (X.kx wx WW ZZ) en env oa σ F H dk) (a : Ats X.K F dk ds vs) (h : S ds PP fun x => wx x env)
    (q : ∀ d v F' H' k', PP d → Rel (X.kx wx WW ZZ) en env oa σ F' H' k' → Grow F F' dk k' → At X.K F' k' d v → Q v H') : wpAny (model X.prog X.w) X.A (call (.ref f) args.pos args.kw) (EP X pins σ Q) X.xe s := by
  have hsp : spD X.K X.mg S vs H Q (WE WW σ) := ⟨ds, F, dk, PP, _, R.self, a, h, fun d v H' pd ⟨F', k', W, ad⟩ => by
    obtain ⟨R2, g2⟩ := R.after W
    exact q d v F' H' k' pd R2 g2 ad, fun x cls d H' hx ⟨F', k', W, xa⟩ => by
    obtain ⟨R2, g2⟩ := R.after W
    exact R.lnk x env oa σ F' H' k' cls d hx R2.toRel0 g2 xa⟩
  refine PySem.wpAny_call (codeAny_mono (FN.go gd hr I.env0 hb rv hsp) fun r s' z => ?_)
  rcases r with z' | fl
  · exact passAt tk σ pins H s z' s' I z
  · cases fl
    case ret u => exact I.after z
    all_goals exact False.elim z
theorem dl_callX (FN : FnG X.prog X.w X.K X.mg X.base (L2.CX X.prog X.w) k f fd ps (spD X.K X.mg S)) (tk : Takes X WW) (gd : X.A.guards = some []) (hr : Room k X.A) (hg : Gl X x) (hm : X.mg x = some (.ref f)) (hk : PySem.W.keepIn X.K (.ref f) = true) (hb : Binds X.K fd ps [])
    (ha : PA X (e :: es) (liftA (X.kx wx WW ZZ) fa)) (hdb : (x == ("__debug__" : Str)) = false := by decide) (he : starEach (e :: es) X.env = (false, eval e X.env) :: starEach es X.env := by rfl) (hpl : (backTo pos (starEach es X.env)).any (·.1) = false := by rfl) :
    PE X (.Call (.Name x p) (e :: es) [] pos) (lift (X.kx wx WW ZZ) (dCallX wx S fa)) := by
  constructor
  intro pins s σ H Q I ⟨en, env, oa, F, dk, P, R, pp, q⟩
  refine wpAny_Call_Name_kw (ld_glob I hg hm ?_ hdb)
  refine PySem.W.callWith_K I.ok.mod.kin hk (thn (ha.run pos pins s σ H (fun vs H1 => ∃ ds env1 oa1 F1 k1, _ ∧ Rel (X.kx wx WW ZZ) en env1 oa1 σ F1 H1 k1 ∧ Grow F F1 dk k1 ∧ Ats X.K F1 k1 ds vs) I ⟨en, env, oa, F, dk, _, R, pp, fun ds env1 vs oa1 F1 H1 k1 p1 R1 g1 a1 => ⟨ds, env1, oa1, F1, k1, p1, R1, g1, a1⟩⟩) ?_) he hpl
  rintro us s1 ⟨vs, H1, I1, r1, ds, env1, oa1, F1, k1, p1, R1, g1, a1⟩
  refine ⟨I1.kIn, ?_⟩
  have hl : (us ++ []).length = ps.length := by
    rw [List.append_nil, ← r1.length]
    exact FN.arity (H := H1) (Q := Q) (E := WE WW σ) ⟨ds, F1, k1, fun d => P d env1, fun x => wx x env1, R1.self, a1, p1, fun d v H' pd ⟨F', k', W, ad⟩ => (by
      obtain ⟨R2, g2⟩ := R1.after W
      exact q d env1 v oa1 F' H' k' pd R2 (g1.trans g2) ad), fun x cls d H' hx ⟨F', k', W, xa⟩ => (by
      obtain ⟨R2, g2⟩ := R1.after W
      exact R1.lnk x env1 oa1 σ F' H' k' cls d hx R2.toRel0 g2 xa)⟩
  have b := hb s1 us I1.kIn hl
  rw [List.append_nil] at b
  exact ranDX (args := ⟨us, []⟩) FN tk gd hr I1 b r1 R1 a1 p1 fun d v F' H' k' pd R' g' a' => q d env1 v oa1 F' H' k' pd R' (g1.trans g') a'
theorem dl_callKX (FN : FnG X.prog X.w X.K X.mg X.base (L2.CX X.prog X.w) k f fd ps (spD X.K X.mg S)) (tk : Takes X WW) (gd : X.A.guards = some []) (hr : Room k X.A) (hg : Gl X x) (hm : X.mg x = some (.ref f)) (hk : PySem.W.keepIn X.K (.ref f) = true) (hb : KwB X.K fd ps n ks ix)
    (ha : PA X (e :: es) (liftA (X.kx wx WW ZZ) fa)) (hkw : PK X kws (liftA (X.kx wx WW ZZ) fk)) (hall : (backToKw pos (keywordEach kws X.env)).all (·.1.isSome) = true := by rfl) (hks : (backToKw pos (keywordEach kws X.env)).filterMap (·.1) = ks := by rfl)
    (hdb : (x == ("__debug__" : Str)) = false := by decide) (he : starEach (e :: es) X.env = (false, eval e X.env) :: starEach es X.env := by rfl)
    (hpl : ((backTo pos (starEach (e :: es) X.env)).any (·.1) || (backToKw pos (keywordEach kws X.env)).any (·.1.isNone)) = false := by rfl) :
    PE X (.Call (.Name x p) (e :: es) kws pos) (lift (X.kx wx WW ZZ) (dCallKX wx S n ks.length ix fa fk)) := by
  constructor
  intro pins s σ H Q I ⟨en, env, oa, F, dk, P, R, pp, q⟩
  refine wpAny_Call_Name_kw (ld_glob I hg hm ?_ hdb)
  refine PySem.W.callWith_KW I.ok.mod.kin hk hall (thn (ha.run pos pins s σ H (fun vs H1 => ∃ ds env1 oa1 F1 k1, _ ∧ Rel (X.kx wx WW ZZ) en env1 oa1 σ F1 H1 k1 ∧ Grow F F1 dk k1 ∧ Ats X.K F1 k1 ds vs) I ⟨en, env, oa, F, dk, _, R, pp, fun ds env1 vs oa1 F1 H1 k1 p1 R1 g1 a1 => ⟨ds, env1, oa1, F1, k1, p1, R1, g1, a1⟩⟩) ?_) hpl he
  rintro us s1 ⟨vs, H1, I1, r1, ds, env1, oa1, F1, k1, p1, R1, g1, a1⟩
  refine thn (hkw.run pos pins s1 σ H1 (fun vs H2 => ∃ zs env2 oa2 F2 k2, _ ∧ Rel (X.kx wx WW ZZ) en env2 oa2 σ F2 H2 k2 ∧ Grow F1 F2 k1 k2 ∧ Ats X.K F2 k2 zs vs) I1 ⟨en, env1, oa1, F1, k1, _, R1, p1, fun ds env1 vs oa1 F1 H1 k1 p1 R1 g1 a1 => ⟨ds, env1, oa1, F1, k1, p1, R1, g1, a1⟩⟩) ?_
  rintro ws s2 ⟨zv, H2, I2, r2, zs, env2, oa2, F2, k2, ⟨⟨l1, l2⟩, p2⟩, R2, g2, a2⟩
  refine ⟨I2.kIn, ?_⟩
  rw [hks]
  have l1' : us.length = n := by rw [← r1.length, ← Ats.length a1]; exact l1
  have l2' : ws.length = ks.length := by rw [← r2.length, ← Ats.length a2]; exact l2
  exact ranDX (args := ⟨us, ks.zip ws⟩) FN tk gd hr I2 (hb s2 us ws l1' l2') (vals_pick (r1.append r2) ix) R2 (ats_pick (Ats.append (Ats.grow g2 _ _ a1) a2) ix) p2 fun d v F' H' k' pd R' g' a' => q d env2 v oa2 F' H' k' pd R' (g1.trans (g2.trans g')) a'
theorem dl_callK0X (FN : FnG X.prog X.w X.K X.mg X.base (L2.CX X.prog X.w) k f fd ps (spD X.K X.mg S)) (tk : Takes X WW) (gd : X.A.guards = some []) (hr : Room k X.A) (hg : Gl X x) (hm : X.mg x = some (.ref f)) (hk : PySem.W.keepIn X.K (.ref f) = true) (hb : KwB X.K fd ps 0 ks ix)
    (hkw : PK X kws (liftA (X.kx wx WW ZZ) fk)) (hall : (backToKw pos (keywordEach kws X.env)).all (·.1.isSome) = true := by rfl) (hks : (backToKw pos (keywordEach kws X.env)).filterMap (·.1) = ks := by rfl)
    (hdb : (x == ("__debug__" : Str)) = false := by decide) (hpl : ((backTo pos (starEach [] X.env)).any (·.1) || (backToKw pos (keywordEach kws X.env)).any (·.1.isNone)) = false := by rfl) :
    PE X (.Call (.Name x p) [] kws pos) (lift (X.kx wx WW ZZ) (dCallKX wx S 0 ks.length ix dNil fk)) := by
  constructor
  intro pins s σ H Q I ⟨en, env, oa, F, dk, P, R, pp, q⟩
  refine wpAny_Call_Name_kw (ld_glob I hg hm ?_ hdb)
  refine PySem.W.callWith_KW0 I.kIn hk hall ?_ hpl
  refine thn (hkw.run pos pins s σ H (fun vs H2 => ∃ zs env2 oa2 F2 k2, _ ∧ Rel (X.kx wx WW ZZ) en env2 oa2 σ F2 H2 k2 ∧ Grow F F2 dk k2 ∧ Ats X.K F2 k2 zs vs) I ⟨en, env, oa, F, dk, _, R, pp, fun ds env1 vs oa1 F1 H1 k1 p1 R1 g1 a1 => ⟨ds, env1, oa1, F1, k1, p1, R1, g1, a1⟩⟩) ?_
  rintro ws s2 ⟨zv, H2, I2, r2, zs, env2, oa2, F2, k2, ⟨⟨l1, l2⟩, p2⟩, R2, g2, a2⟩
  refine ⟨I2.kIn, ?_⟩
  rw [hks]
  have l2' : ws.length = ks.length := by rw [← r2.length, ← Ats.length a2]; exact l2
  exact ranDX (args := ⟨[], ks.zip ws⟩) FN tk gd hr I2 (hb s2 [] ws rfl l2') (vals_pick r2 ix) R2 (ats_pick a2 ix) p2 fun d v F' H' k' pd R' g' a' => q d env2 v oa2 F' H' k' pd R' (g2.trans g') a'
end
section
variable {wx : DX} {WW : WX} {ZZ : Fz} {X : Cx} {k n : Nat} {ps ks : List Str} {S : SD} {x : Str} {p pos : Pos} {e : Expr} {es : List Expr} {kws : List Keyword} {fa fk : DA} {ix : List Nat} {kw : List (Nat × List Str × List Nat)}
theorem dcx (C : Cal X.prog X.w X.K X.mg X.base x ps k kw S) (tk : Takes X WW) (gd : X.A.guards = some []) (hr : Room k X.A) (hg : Gl X x)
    (ha : PA X (e :: es) (liftA (X.kx wx WW ZZ) fa)) (hdb : (x == ("__debug__" : Str)) = false := by decide) (he : starEach (e :: es) X.env = (false, eval e X.env) :: starEach es X.env := by rfl) (hpl : (backTo pos (starEach es X.env)).any (·.1) = false := by rfl) :
    PE X (.Call (.Name x p) (e :: es) [] pos) (lift (X.kx wx WW ZZ) (dCallX wx S fa)) := by
  obtain ⟨a, fd, F, hm, hk, hb, _⟩ := C.ex
  exact dl_callX F tk gd hr hg hm hk hb ha hdb he hpl
theorem dckx (C : Cal X.prog X.w X.K X.mg X.base x ps k kw S) (tk : Takes X WW) (gd : X.A.guards = some []) (hr : Room k X.A) (hg : Gl X x) (hw : (n, ks, ix) ∈ kw)
    (ha : PA X (e :: es) (liftA (X.kx wx WW ZZ) fa)) (hkw : PK X kws (liftA (X.kx wx WW ZZ) fk)) (hall : (backToKw pos (keywordEach kws X.env)).all (·.1.isSome) = true := by rfl) (hks : (backToKw pos (keywordEach kws X.env)).filterMap (·.1) = ks := by rfl)
    (hdb : (x == ("__debug__" : Str)) = false := by decide) (he : starEach (e :: es) X.env = (false, eval e X.env) :: starEach es X.env := by rfl)
    (hpl : ((backTo pos (starEach (e :: es) X.env)).any (·.1) || (backToKw pos (keywordEach kws X.env)).any (·.1.isNone)) = false := by rfl) :
    PE X (.Call (.Name x p) (e :: es) kws pos) (lift (X.kx wx WW ZZ) (dCallKX wx S n ks.length ix fa fk)) := by
  obtain ⟨a, fd, F, hm, hk, hb, hq⟩ := C.ex
  exact dl_callKX F tk gd hr hg hm hk (hq _ hw) ha hkw hall hks hdb he hpl
theorem dck0x (C : Cal X.prog X.w X.K X.mg X.base x ps k kw S) (tk : Takes X WW) (gd : X.A.guards = some []) (hr : Room k X.A) (hg : Gl X x) (hw : (0, ks, ix) ∈ kw)
    (hkw : PK X kws (liftA (X.kx wx WW ZZ) fk)) (hall : (backToKw pos (keywordEach kws X.env)).all (·.1.isSome) = true := by rfl) (hks : (backToKw pos (keywordEach kws X.env)).filterMap (·.1) = ks := by rfl)
    (hdb : (x == ("__debug__" : Str)) = false := by decide) (hpl : ((backTo pos (starEach [] X.env)).any (·.1) || (backToKw pos (keywordEach kws X.env)).any (·.1.isNone)) = false := by rfl) :
    PE X (.Call (.Name x p) [] kws pos) (lift (X.kx wx WW ZZ) (dCallKX wx S 0 ks.length ix dNil fk)) := by
  obtain ⟨a, fd, F, hm, hk, hb, hq⟩ := C.ex
  exact dl_callK0X F tk gd hr hg hm hk (hq _ hw) hkw hall hks hdb hpl
end
end DL
namespace DL
open PySem PySem.Spec L2 PyProof.Rows
/-! ### try: several clauses, each with the same name -/
def cutE (D : Ends) (i : Nat) : Ends := { nx := fun τ G => D.nx (τ.set i none) G, rt := D.rt, bk := fun τ G => D.bk (τ.set i none) G, ct := fun τ G => D.ct (τ.set i none) G }
def wNm (K : PySem.W.Frag) (Wo : WX) (D : Ends) (i : Nat) : List (Value × (Addr → Value → Option Addr → TS)) → WX
  | [] => Wo
  | (c, ts) :: r => fun cls d τ G => ∃ b, PySem.W.exmOne K cls c = some b ∧ (b = true → ∀ a, G a = none → ts a cls d (cutE D i) (τ.set i (some (.ref a))) G) ∧ (b = false → wNm K Wo D i r cls d τ G)
inductive HdOk (X : Cx) (n : Str) : List ExceptHandler → List (Value × (Addr → Value → Option Addr → TS)) → Prop
  | nil : HdOk X n [] []
  | cons {x : Str} {c : Value} {ts : Addr → Value → Option Addr → TS} {b0 : Stmt} {su : List Stmt} {np pos' : Pos} {hds : List ExceptHandler} {l : List (Value × (Addr → Value → Option Addr → TS))} (nm : Names X x c)
      (go : ∀ (a : Addr) (oe : Obj) (cls : Value) (d : Option Addr) (pn : List (Addr × Obj)), Zc cls d oe → (∃ vs, oe.data = .fields vs) → PSs (X.suite a ((a, oe) :: pn)) (b0 :: su) (ts a cls d)) (r : HdOk X n hds l) :
      HdOk X n (.ExceptHandler (some (.Name x np)) (some n) (b0 :: su) pos' :: hds) ((c, ts) :: l)
section
variable {X : Cx} {n : Str} {i : Nat} {body : List Stmt} {h0 : ExceptHandler} {hds : List ExceptHandler} {l : List (Value × (Addr → Value → Option Addr → TS))} {pos : Pos} {tb : WX → TS} {Wo : WX}
theorem sp_of {X : Cx} {pins pn' : List (Addr × Obj)} {xe : Value → Shared → Prop} {D : Ends} {f : Flow} {s1 : Shared} (ok : X.Ok) (h : SP (X.tr (X.pn ++ pins) xe) pn' D f s1) : SP X pins D f s1 := by
  cases f with
  | ret u =>
    obtain ⟨v, τ, G, J, r, q⟩ := h
    exact ⟨v, τ, G, J.ofTry ok, r, q⟩
  | next | brk | cont =>
    obtain ⟨τ, G, J, q⟩ := h
    exact ⟨τ, G, J.ofTry ok, q⟩
theorem ps_try_named (st : X.stack = X.env :: X.outer) (fr : X.env.frame = some X.env.locals) (nd : X.N.Nodup) (at_ : X.N[i]? = some n) (lc : X.env.kindOf n = some .local) (tk : Takes X Wo)
    (hb : ∀ (W : WX) (pn : List (Addr × Obj)) (xe : Value → Shared → Prop), Takes (X.tr pn xe) W → PassesOwn (model X.prog X.w) X.A X.env xe → PSs (X.tr pn xe) body (tb W))
    (hh : HdOk X n (h0 :: hds) l) : PS X (.Try body (h0 :: hds) [] [] pos) (fun D σ H => tb (wNm X.K Wo D i l) D σ H) := by
  refine ⟨fun pins s σ H D I h => ?_⟩
  have ok := I.ok
  have fA : X.A.frames = some (X.env :: X.outer) := by rw [ok.frames, st]
  have lo : Loc X.env.scope n := .inl lc
  refine wpAny_Try_except (wpAny_mono ((hb (wNm X.K Wo D i l) (X.pn ++ pins) (fun e s₁ => wpAny (model X.prog X.w) X.A (noteFrame e X.env) (fun _ s₂ => wpAny (model X.prog X.w) X.A (setFlight e none) (fun _ s₃ =>
    wpAny (model X.prog X.w) X.A (handleBy e X.env (h0 :: hds)) (SP X pins D) X.xe s₃) X.xe s₂) X.xe s₁) (fun u s' xx => ?_) PassesOwn.looking).run [] s σ H D (I.toTry _) h) (fun f s1 hsp => ?_) (fun e s1 he => he))
  · obtain ⟨a, B, sI, pins', τ, G, cls, d, rfl, Jt, nb, uu, sk, na, os, ag, w⟩ := xx
    have J : L2.Inv X pins τ G sI := Jt.ofTry ok
    have sk' : Sky B (X.env :: X.outer) a (Zc cls d) X.env.locals s'.heap := by rw [← st]; exact sk
    show wpAny (model X.prog X.w) X.A (noteFrame (.ref a) X.env) _ _ _
    refine Sky.land Zc.steady fA fr sk' fun h3 f3 u3 => ?_
    have J3 : L2.Inv X pins τ G { s' with heap := h3 } := J.landed nb f3.1 (uu.trans u3) os ag
    obtain ⟨oe, vs, he, hz, hd⟩ := f3.there
    have nst : a ∉ frs (X.env :: X.outer) := fun hm => by
      obtain ⟨_, o', e', hnf⟩ := f3.2.2.1.mem hm
      rw [he] at e'
      cases e'
      exact hnf _ hd
    have nL : a ≠ X.env.locals := fun z => nst (List.mem_filterMap.mpr ⟨X.env, List.mem_cons_self, by rw [fr, z]⟩)
    have nF : a ∉ X.fs := fun hm => by
      obtain ⟨y, hy, q⟩ := List.mem_filterMap.mp hm
      exact nst (List.mem_filterMap.mpr ⟨y, List.mem_cons_of_mem _ hy, q⟩)
    have S3 := J3.suite he hd na nL nF
    have run : ∀ {hs' : List ExceptHandler} {l' : List (Value × (Addr → Value → Option Addr → TS))}, HdOk X n hs' l' → wNm X.K Wo D i l' cls d τ G → wpAny (model X.prog X.w) X.A (handleBy (.ref a) X.env hs') (SP X pins D) X.xe { s' with heap := h3 } := by
      intro hs' l' hk
      induction hk with
      | nil =>
        intro w
        refine wpAny_handleBy_nil ?_
        obtain ⟨_, _, _, oe2, vs2, Tb, oT, ts2, he2, hz2, hd2, h12, hr2⟩ := id f3
        unfold PySem.passOn
        refine wpAny_bind (wpAny_field he2 hd2 h12 ?_)
        rw [if_neg (show ¬ ((Value.ref Tb == Value.none) = true) from by simp)]
        have last : wpAny (model X.prog X.w) X.A (setFlight (.ref a) X.env.frame) (fun _ s4 => wpAny (model X.prog X.w) X.A (throw (.ref a) : Sem Flow) (SP X pins D) X.xe s4) X.xe { s' with heap := h3 } := by
          rw [fr]
          exact PySem.HandSPX.setFlight_upZ f3 fun h4 g4 u4 => wpAny_throw (tk _ _ ⟨a, B, sI, pins, τ, G, cls, d, rfl, J, nb, (uu.trans u3).trans u4, .inr (.inr (by rw [st]; exact g4)), na, os, ag, w⟩)
        first | exact wpAny_bind (wpAny_pure (wpAny_bind last)) | exact wpAny_bind last
      | @cons x c ts b0 su np pos' hds2 l2 nm go r ih =>
        intro w
        obtain ⟨b, e1, yes, no⟩ := w
        refine wpAny_handleBy_cons (codeAny_handlers_test ?_) (by intro q; cases q)
        have LT : PySem.W.Looks (model X.prog X.w) h3 (typeOf (.ref a)) cls := fun A Q E s k q => wpAny_typeOf_ref (k _ _ he) (by rw [hz.1]; exact q)
        have LM := PySem.W.exm_one (M := model X.prog X.w) J3.kIn LT e1
        have ask : ∀ {Q : Value → Shared → Prop} {E : Value → Shared → Prop}, Q c { s' with heap := h3 } → wpAny (model X.prog X.w) (X.A.mark (some (.ref a))) (eval (.Name x np) X.env) Q E { s' with heap := h3 } := fun {Q E} q => by
          obtain ⟨g1, g2, g3 | ⟨g3, g4, g5⟩⟩ := nm
          · exact ld_glob (X := X.suite a ((a, oe) :: (X.pn ++ pins))) S3 g1 g3 q g2
          · exact ld_blt (X := X.suite a ((a, oe) :: (X.pn ++ pins))) S3 g1 g3 g4 q g5 g2
        refine ask (LM.here ?_)
        cases b with
        | false => exact ih (no rfl)
        | true =>
          refine codeAny_handlers_suite_as ?_
          refine PySem.HandSPX.lands_againZ f3 fun h4 f4 u4 => ?_
          have J4 : L2.Inv X pins τ G { s' with heap := h4 } := J.landed nb f4.1 ((uu.trans u3).trans u4) os ag
          obtain ⟨oe4, vs4, he4, hz4, hd4⟩ := f4.there
          refine store_ok (X := X.suite a ((a, oe4) :: (X.pn ++ pins))) (v := .ref a) (J4.suite he4 hd4 na nL nF) nd at_ lo rfl (fun s5 S5 => ?_) (.inr lc)
          refine wpAny_mono ((go a oe4 cls d (X.pn ++ pins) hz4 ⟨_, hd4⟩).run [] s5 _ G _ S5 (yes rfl a na)) (fun f s6 hsp => ?_) (fun _ _ z => False.elim z)
          have fin : ∀ {τ6 : L2.St} {G6 : Hp} {Q : Shared → Prop}, L2.Inv (X.suite a ((a, oe4) :: (X.pn ++ pins))) [] τ6 G6 s6 → (∀ s7, L2.Inv X pins (τ6.set i none) G6 s7 → Q s7) →
              wpAny (model X.prog X.w) X.A (do bindName X.env n .none; unbindBehindTheSuite X.env n pos') (fun _ s7 => Q s7) X.xe s6 := fun {τ6 G6 Q} S6 hq => gone_ok (S6.unsuite ok) nd at_ lc hq
          cases f with
          | ret u =>
            obtain ⟨v6, τ6, G6, S6, r6, q6⟩ := hsp
            exact fin S6 fun s7 J7 => ⟨_, _, _, J7, r6, q6⟩
          | next | brk | cont =>
            obtain ⟨τ6, G6, S6, q6⟩ := hsp
            exact fin S6 fun s7 J7 => ⟨_, _, J7, q6⟩
    exact run hh w
  · have hsp' := sp_of ok hsp
    cases f with
    | next =>
      obtain ⟨τ, G, J, q⟩ := hsp'
      exact wpAny_execs_nil ⟨τ, G, J, q⟩
    | brk => exact hsp'
    | cont => exact hsp'
    | ret u => exact hsp'
end
end DL
namespace DL
open PySem PySem.Spec L2
/-! ### what is known of a program's own exceptions: xn their names, fs their fields' names -/
def subX (x c : Str) : Bool := decide (x = c) || decide (c = "RulerError")
structure XcAll (K : PySem.W.Frag) (mg : Str → Option Value) (xn fs : List Str) : Prop where
  at_ : ∀ x ∈ xn, ∃ C, mg x = some (.ref C) ∧ XcF K C ∧ ∀ f ∈ fs, PySem.W.findIn K (.ref C) f = some none
  sub : ∀ x ∈ xn, ∀ c ∈ xn, ∀ C D, mg x = some (.ref C) → mg c = some (.ref D) → PySem.W.exmOne K (.ref C) (.ref D) = some (subX x c) ∧ PySem.W.kitOne K (.ref C) (.ref D) = some (subX x c)
def xpB (K : PySem.W.Frag) (xn fs : List Str) : Bool := (xn.all fun x => xcB K (He.ga K x) && (fs.all fun f => He.eqO (PySem.W.findIn K (.ref (He.ga K x)) f) (some none))) &&
  (xn.all fun x => xn.all fun c => decide (PySem.W.exmOne K (.ref (He.ga K x)) (.ref (He.ga K c)) = some (subX x c)) && decide (PySem.W.kitOne K (.ref (He.ga K x)) (.ref (He.ga K c)) = some (subX x c)))
theorem xpB_ok {K : PySem.W.Frag} {mg : Str → Option Value} {xn fs : List Str} (h : xpB K xn fs = true) (m : ∀ x ∈ xn, mg x = some (.ref (He.ga K x))) : XcAll K mg xn fs := by
  unfold xpB at h
  simp only [Bool.and_eq_true, List.all_eq_true, decide_eq_true_eq] at h
  obtain ⟨h1, h2⟩ := h
  refine ⟨fun x hx => ⟨_, m x hx, xcB_ok (h1 x hx).1, fun f hf => He.eqO_ok ((h1 x hx).2 f hf)⟩, fun x hx c hc C D e1 e2 => ?_⟩
  rw [m x hx] at e1
  rw [m c hc] at e2
  cases e1
  cases e2
  exact h2 x hx c hc
/-! ### try -/
abbrev Hd := Str × (Ex → Addr → DS)
def cutB (B : DEnd) (i : Nat) : DEnd := { nx := fun e => B.nx (e.set i .no), rt := B.rt, bk := fun e => B.bk (e.set i .no), ct := fun e => B.ct (e.set i .no) }
def hnd (xn : List Str) (w : DX) (i : Nat) (B : DEnd) : List Hd → DX
  | [], x, env => w x env
  | (c, u) :: r, x, env => (x.1 ∈ xn ∧ c ∈ xn) ∧ if subX x.1 c = true then ∀ a, u x a (cutB B i) (env.set i (.val (.raw (.ref a)))) else hnd xn w i B r x env
def dTry (xn : List Str) (i : Nat) (w : DX) (u : DX → DS) (hs : List Hd) : DS := fun B env => u (hnd xn w i B hs) B env
abbrev fzX (K : PySem.W.Frag) (mg : Str → Option Value) (x : Ex) (cls : Value) (d : Option Addr) : Fz := ⟨fun F k => XAt K mg F k x cls d, fun g h => h.grow g⟩
abbrev sK (X : Cx) (x : Ex) (cls : Value) (d : Option Addr) : Kx := X.kx (fun _ _ => False) (fun _ _ _ _ => False) (fzX X.K X.mg x cls d)
/-- the clauses, walked -/
inductive DH (X : Cx) (n : Str) : List ExceptHandler → List Hd → Prop
  | nil : DH X n [] []
  | cons {c : Str} {u : Ex → Addr → DS} {b0 : Stmt} {su : List Stmt} {np pos' : Pos} {hds : List ExceptHandler} {l : List Hd} (gl : Gl X c) (db : (c == ("__debug__" : Str)) = false)
      (go : ∀ (x : Ex) (a : Addr) (oe : Obj) (cls : Value) (d : Option Addr) (pn : List (Addr × Obj)), Zc cls d oe → (∃ vs, oe.data = .fields vs) → PSs (X.suite a ((a, oe) :: pn)) (b0 :: su) (liftS (sK X x cls d) (u x a))) (r : DH X n hds l) :
      DH X n (.ExceptHandler (some (.Name c np)) (some n) (b0 :: su) pos' :: hds) ((c, u) :: l)
section
variable {wx : DX} {WW : WX} {ZZ : Fz} {X : Cx} {n : Str} {i : Nat} {body : List Stmt} {h0 : ExceptHandler} {hds : List ExceptHandler} {hs : List Hd} {pos : Pos} {u : DX → DS} {xn fs : List Str}
theorem dh_of (xc : XcAll X.K X.mg xn fs) {hds : List ExceptHandler} {hs : List Hd} (hn : ∀ h ∈ hs, h.1 ∈ xn) (hh : DH X n hds hs) : ∃ l, HdOk X n hds l ∧ ∀ (E : Ends) (e : Ent) (F : Hp) (k : Dk) (B : DEnd), Lnk (X.kx wx WW ZZ) e F k → ZZ.p F k →
    (∀ env' oa' σ' F' H' k', B.nx env' → Rel (X.kx wx WW ZZ) e env' oa' σ' F' H' k' → Grow F F' k k' → E.nx σ' H') → (∀ d v H', B.rt d → Out X.K e d v H' → E.rt v H') →
    (∀ env' oa' σ' F' H' k', B.bk env' → Rel (X.kx wx WW ZZ) e env' oa' σ' F' H' k' → Grow F F' k k' → E.bk σ' H') → (∀ env' oa' σ' F' H' k', B.ct env' → Rel (X.kx wx WW ZZ) e env' oa' σ' F' H' k' → Grow F F' k k' → E.ct σ' H') →
    ∀ (x : Ex) (env' : Evn) (oa' : Nat → Addr) (σ' : L2.St) (F' H' : Hp) (k' : Dk) (cls : Value) (d : Option Addr), hnd xn wx i B hs x env' → Rel0 X.K e env' oa' σ' F' H' k' → Grow F F' k k' → XAt X.K X.mg F' k' x cls d → wNm X.K WW E i l cls d σ' H' := by
  induction hh with
  | nil => exact ⟨[], .nil, fun E e F k B L _ _ _ _ _ x env' oa' σ' F' H' k' cls d hw R g hx => L x env' oa' σ' F' H' k' cls d hw R g hx⟩
  | @cons c u b0 su np pos' hds l gl db go r ih =>
    obtain ⟨C, mC, _⟩ := xc.at_ c (hn _ List.mem_cons_self)
    obtain ⟨l', hl, hq⟩ := ih fun h hm => hn h (List.mem_cons_of_mem _ hm)
    refine ⟨(.ref C, fun a cls d E σ H => ∃ x, liftS (sK X x cls d) (u x a) E σ H) :: l', .cons ⟨gl, db, .inl mC⟩ (fun a oe cls d pn hz hf => ⟨fun pins s σ H E I ⟨x, h⟩ => (go x a oe cls d pn hz hf).run pins s σ H E I h⟩) hl, fun E e F k B L zz nx rt bk ct x env' oa' σ' F' H' k' cls d hw R g hx => ?_⟩
    obtain ⟨⟨m1, m2⟩, hw⟩ := hw
    obtain ⟨D, mD, _⟩ := xc.at_ x.1 m1
    have e1 : cls = .ref D := by
      have := hx.1
      rw [mD] at this
      exact (Option.some.inj this).symm
    subst e1
    refine ⟨subX x.1 c, (xc.sub x.1 m1 c m2 D C mD mC).1, fun hb a ha => ?_, fun hb => ?_⟩
    · rw [if_pos hb] at hw
      have back : ∀ {env2 : Evn} {oa2 : Nat → Addr} {σ2 : L2.St} {F2 H2 : Hp} {k2 : Dk}, Rel (sK X x (.ref D) d) e env2 oa2 σ2 F2 H2 k2 → Grow F' F2 k' k2 → Rel (X.kx wx WW ZZ) e (env2.set i .no) oa2 (σ2.set i none) F2 H2 k2 := fun R2 g2 =>
        ⟨R2.toRel0.clear i, L.grow (g.trans g2), ZZ.mono (g.trans g2) zz⟩
      exact ⟨x, e, env'.set i (.val (.raw (.ref a))), oa', F', k', cutB B i, ⟨R.put (by simp only [At]), fun _ _ _ _ _ _ _ _ _ z => False.elim z, hx⟩, hw a, fun env2 oa2 σ2 F2 H2 k2 p2 R2 g2 => nx _ _ _ _ _ _ p2 (back R2 g2) (g.trans g2), rt,
        fun env2 oa2 σ2 F2 H2 k2 p2 R2 g2 => bk _ _ _ _ _ _ p2 (back R2 g2) (g.trans g2), fun env2 oa2 σ2 F2 H2 k2 p2 R2 g2 => ct _ _ _ _ _ _ p2 (back R2 g2) (g.trans g2)⟩
    · rw [hb, if_neg Bool.false_ne_true] at hw
      exact hq E e F k B L zz nx rt bk ct x env' oa' σ' F' H' k' _ d hw R g hx
theorem ds_try (xc : XcAll X.K X.mg xn fs) (st : X.stack = X.env :: X.outer) (fr : X.env.frame = some X.env.locals) (nd : X.N.Nodup) (at_ : X.N[i]? = some n) (lc : X.env.kindOf n = some .local) (tk : Takes X WW)
    (hb : ∀ (w : DX) (W : WX) (pn : List (Addr × Obj)) (xe : Value → Shared → Prop), Takes (X.tr pn xe) W → PassesOwn (model X.prog X.w) X.A X.env xe → PSs (X.tr pn xe) body (liftS (X.kx w W ZZ) (u w)))
    (hn : ∀ h ∈ hs, h.1 ∈ xn) (hh : DH X n (h0 :: hds) hs) : PS X (.Try body (h0 :: hds) [] [] pos) (liftS (X.kx wx WW ZZ) (dTry xn i wx u hs)) := by
  obtain ⟨l, hl, hq⟩ := dh_of (wx := wx) (WW := WW) (ZZ := ZZ) (i := i) xc hn hh
  refine (ps_try_named (tb := fun W E σ H => ∃ w, liftS (X.kx w W ZZ) (u w) E σ H) st fr nd at_ lc tk (fun W pn xe t po => ⟨fun pins s σ H E I ⟨w, h⟩ => (hb w W pn xe t po).run pins s σ H E I h⟩) hl).w ?_
  intro E σ H ⟨e, env, oa, F, k, B, R, p, nx, rt, bk, ct⟩
  have back : ∀ {env2 : Evn} {oa2 : Nat → Addr} {σ2 : L2.St} {F2 H2 : Hp} {k2 : Dk}, Rel0 X.K e env2 oa2 σ2 F2 H2 k2 → Grow F F2 k k2 → Rel (X.kx wx WW ZZ) e env2 oa2 σ2 F2 H2 k2 := fun R2 g2 => R.up R2 g2
  refine ⟨hnd xn wx i B hs, e, env, oa, F, k, B, ⟨R.toRel0, fun x env' oa' σ' F' H' k' cls d hw R' g hx => hq E e F k B R.lnk R.pz nx rt bk ct x env' oa' σ' F' H' k' cls d hw R' g hx, R.pz⟩, p,
    fun env2 oa2 σ2 F2 H2 k2 p2 R2 g2 => nx _ _ _ _ _ _ p2 (back R2.toRel0 g2) g2, rt, fun env2 oa2 σ2 F2 H2 k2 p2 R2 g2 => bk _ _ _ _ _ _ p2 (back R2.toRel0 g2) g2, fun env2 oa2 σ2 F2 H2 k2 p2 R2 g2 => ct _ _ _ _ _ _ p2 (back R2.toRel0 g2) g2⟩
end
/-! ### the exception held by a suite -/
theorem inst_at {X : Cx} {a C : Addr} {oe : Obj} {pn pins : List (Addr × Obj)} {σ : L2.St} {F H : Hp} {k : Dk} {s : Shared} {x : Ex} {d : Option Addr} (I : L2.Inv (X.suite a ((a, oe) :: pn)) pins σ H s) (hz : Zc (.ref C) d oe) (hf : ∃ vs, oe.data = .fields vs) (sub : ∀ p o, F p = some o → H p = some o) (hx : XAt X.K X.mg F k x (.ref C) d) :
    ∃ od, PySem.W.InstAt s.heap a oe C od := by
  obtain ⟨ha, _⟩ := I.pin (a, oe) (List.mem_append_left _ List.mem_cons_self)
  obtain ⟨vs, hd⟩ := hf
  have no : PySem.W.notCls oe = true := by
    unfold PySem.W.notCls
    rw [hd] <;> rfl
  obtain ⟨n, l⟩ := x
  cases l with
  | nil =>
    have e : d = none := hx.2
    subst e
    exact ⟨none, ha, hz.1, no, by rw [hz.2]; trivial⟩
  | cons q l =>
    obtain ⟨p, us, e, h1, _⟩ := hx.2
    subst e
    obtain ⟨o, ho⟩ := objOk_get (I.hok p _ (sub _ _ h1))
    exact ⟨some o, ha, hz.1, no, by rw [hz.2]; exact ho⟩
/-- isinstance(e, C) -/
def dIsE (xn : List Str) (x : Ex) (a : Addr) (i : Nat) (c : Str) : DE := fun env Q => env[i]? = some (.val (.raw (.ref a))) ∧ (x.1 ∈ xn ∧ c ∈ xn) ∧ Q (.bl (subX x.1 c)) env
theorem dl_isE {X : Cx} {a : Addr} {oe : Obj} {pn : List (Addr × Obj)} {x : Ex} {cls : Value} {d : Option Addr} {i : Nat} {n c : Str} {p p1 p2 pos : Pos} {xn fs : List Str} (xc : XcAll X.K X.mg xn fs) (hz : Zc cls d oe) (hf : ∃ vs, oe.data = .fields vs)
    (pv : PE (X.suite a ((a, oe) :: pn)) (.Name n p1) (tVar i)) (hg : Gl X "isinstance") (hm : X.mg "isinstance" = none) (gc : Gl X c) (db : (c == ("__debug__" : Str)) = false := by decide)
    (s1 : starEach [.Name n p1, .Name c p2] X.env = [(false, eval (.Name n p1) X.env), (false, eval (.Name c p2) X.env)] := by rfl) (s2 : starEach [.Name c p2] X.env = [(false, eval (.Name c p2) X.env)] := by rfl) (s3 : starEach [] X.env = [] := by rfl) (hpl : (backTo pos (starEach [.Name c p2] X.env)).any (·.1) = false := by rfl) :
    PE (X.suite a ((a, oe) :: pn)) (.Call (.Name "isinstance" p) [.Name n p1, .Name c p2] [] pos) (lift (sK X x cls d) (dIsE xn x a i c)) := by
  refine ⟨fun pins s σ H Q I ⟨e, env, oa, F, k, P, R, ⟨h1, ⟨m1, m2⟩, h3⟩, q⟩ => ?_⟩
  obtain ⟨D, mD, TD, _⟩ := xc.at_ x.1 m1
  obtain ⟨C, mC, TC, _⟩ := xc.at_ c m2
  have e1 : cls = .ref D := by
    have := R.pz.1
    rw [mD] at this
    exact (Option.some.inj this).symm
  subst e1
  obtain ⟨v, hv, hA⟩ := R.val i _ h1
  simp only [At] at hA
  subst hA
  have pc : PE (X.suite a ((a, oe) :: pn)) (.Name c p2) (tC (.ref C)) := ⟨fun pins s σ H Q I h => ld_glob I gc mC ⟨.ref C, H, I, rfl, h⟩ db⟩
  refine wpAny_Call_Name_kw (ld_blt I hg hm bt_isinstance ?_ (by decide) (by decide))
  refine PyProof.Rows.callWith_builtin1 (thn ((pa_cons pv (pa_cons pc pa_nil (by rw [s2, s3])) (by rw [s1, s2])).run pos pins s σ H (fun vs H1 => vs = [.ref a, .ref C] ∧ H1 = H) I ⟨_, hv, rfl, rfl⟩) ?_) (by rw [s1, s2]) hpl
  rintro us s4 ⟨vs, H1, I1, r1, rfl, rfl⟩
  cases r1 with
  | cons ra rr =>
    cases rr with
    | cons rb rr =>
      cases rr
      cases ra
      cases rb
      obtain ⟨od, J⟩ := inst_at I1 hz hf R.wd.sub R.pz
      exact PySem.W.kia_one (PySem.W.kitx_exc TD.c1 TD.c2 TD.c3 TD.c4 TD.c5 TD.c6 TD.c7 TD.c8) I1.kIn J (xc.sub x.1 m1 c m2 D C mD mC).2 (fun z => nomatch z) fun tk => ⟨.bl _, _, I1.kept (t' := tk) fun _ _ z => z, rfl, q _ env _ oa F _ k h3 R (Grow.refl _ _) (by simp only [At])⟩
theorem look_zip {K : PySem.W.Frag} {F : Hp} {k : Dk} {f : Str} {v : D} : ∀ {l : List (Str × D)} {vs : List V}, Ats K F k (l.map (·.2)) vs → l.lookup f = some v → ∃ u, (l.zipWith (fun q w => (q.1, w)) vs).lookup f = some u ∧ At K F k v u
  | [], _, _, h => by cases h
  | (g, d) :: l, vs, ha, h => by
    simp only [List.map_cons, Ats] at ha
    obtain ⟨u, r, rfl, a1, a2⟩ := ha
    rw [List.lookup_cons] at h
    rw [List.zipWith_cons_cons, List.lookup_cons]
    cases e : f == g with
    | true =>
      rw [e] at h
      cases h
      exact ⟨u, rfl, a1⟩
    | false =>
      rw [e] at h
      exact look_zip a2 h
/-- e.f -/
def dFld (xn fs : List Str) (x : Ex) (a : Addr) (i : Nat) (f : Str) : DE := fun env Q => env[i]? = some (.val (.raw (.ref a))) ∧ (x.1 ∈ xn ∧ f ∈ fs) ∧ ∃ v, x.2.lookup f = some v ∧ Q v env
theorem dl_fld {X : Cx} {a : Addr} {oe : Obj} {pn : List (Addr × Obj)} {x : Ex} {cls : Value} {d : Option Addr} {i : Nat} {n f : Str} {p1 pos : Pos} {xn fs : List Str} (xc : XcAll X.K X.mg xn fs) (hz : Zc cls d oe) (hf : ∃ vs, oe.data = .fields vs)
    (pv : PE (X.suite a ((a, oe) :: pn)) (.Name n p1) (tVar i)) (hb : attributeBase (.Name n p1) f X.env (eval (.Name n p1) X.env) = eval (.Name n p1) X.env := by rfl) :
    PE (X.suite a ((a, oe) :: pn)) (.Attribute (.Name n p1) f pos) (lift (sK X x cls d) (dFld xn fs x a i f)) := by
  refine ⟨fun pins s σ H Q I ⟨e, env, oa, F, k, P, R, ⟨h1, ⟨m1, m2⟩, w, h2, h3⟩, q⟩ => ?_⟩
  obtain ⟨D, mD, TD, nf⟩ := xc.at_ x.1 m1
  have hx := R.pz
  have e1 : cls = .ref D := by
    have := hx.1
    rw [mD] at this
    exact (Option.some.inj this).symm
  subst e1
  obtain ⟨v, hv, hA⟩ := R.val i _ h1
  simp only [At] at hA
  subst hA
  refine attr_of hb (thn (pv.run pins s σ H (fun v H1 => v = .ref a ∧ H1 = H) I ⟨_, hv, rfl, rfl⟩) ?_)
  rintro uu s1 ⟨vv, H1, I1, rv, rfl, rfl⟩
  cases rv
  obtain ⟨nm, l⟩ := x
  cases l with
  | nil => cases h2
  | cons q0 l0 =>
    obtain ⟨p, us, e2, hF, hAs⟩ := hx.2
    subst e2
    obtain ⟨y, hy, hyA⟩ := look_zip hAs h2
    have ho := I1.hok p _ (R.wd.sub _ _ hF)
    obtain ⟨mA, hns, hr⟩ := ho
    obtain ⟨od, hod, hl⟩ := lookIn_ns hns
    obtain ⟨ha, _⟩ := I1.pin (a, oe) (List.mem_append_left _ List.mem_cons_self)
    obtain ⟨vs, hd⟩ := hf
    have J : PySem.W.InstAt s1.heap a oe D (some od) := ⟨ha, hz.1, by unfold PySem.W.notCls; rw [hd] <;> rfl, by rw [hz.2]; exact hod⟩
    obtain ⟨u, hu, ru⟩ := RelO.some_of (v := y) (o := mA f) (by rw [← hy]; exact hr f)
    exact PySem.HandSPX.exc_get I1.kIn J TD.c2 TD.c3 TD.c4 (PySem.W.findObj_own TD.cb (nf f m2) rfl (by rw [hl, hu])) (handed_of ru) ⟨y, _, I1.tok _, ru, q _ env y oa F _ k h3 R (Grow.refl _ _) hyA⟩
end DL
namespace DL
open PySem PySem.Spec L2
/-! ### a draw of the second family: the mixed number is squared on the side -/
section
variable (K : PySem.W.Frag)
def drawB (a b c : Str) (s : Int) : TS :=
  tSeq (sDPut (tVar 0) (tC (.str c)) (tAd (tKey c) (tI 1)))
  (tSeq (tIfS (tTest (tOp (rNeD K) (tKey a) (tLst tNil)))
    (tSeq (tAsg (tBM0 K "list" rPop (tKey a)) (L2.gName 2))
    (tSeq (tIfS (tTest (tOp (rI0 fun i j => V.bl (decide (j ≤ i))) (tVar 2) (tOp (rI CPow fun i j => V.int (i ^ j.toNat)) (tI 10) (tI 18))))
      (tSeq (tDrop (tBM K "list" rAppend (tKey a) (tCons (tOp (rI CDivW fun i j => V.int (i / j)) (tVar 2)
        (tCB (fun xs H Q => ∃ i j, xs = [V.int i, V.int j] ∧ Q (V.int (if j > i then j else i)) H) (tCons (tI 2) (tCons (tVar 1) tNil)))) tNil)))
      (tRet (tMo (tVar 2) (tVar 1)))) tNext)
    (sDPut (tVar 0) (tC (.str b)) (tMo (tAd (tAd (tKey b) (tMo (tVar 2) (tI 2147483587))) (tI 1)) (tI 2147483587))))) tNext)
  (tSeq (tAsg (tMo (tAd (tAd (tMu (tKey b) (tI 39373)) (tMu (tKey c) (tI 6101))) (tI s)) (tI 2147483629)) (L2.gName 3))
  (tSeq (sDPut (tVar 0) (tC (.str b)) (tMo (tAd (tMu (tVar 3) (tVar 3)) (tKey c)) (tI 2147483587)))
  (tRet (tMo (tOp (rI CDiv fun i j => V.int (i / j)) (tKey b) (tI 89)) (tVar 1))))))
end
section
variable {K : PySem.W.Frag} {a b c : Str} {H0 H : Hp} {p : DkP} {cs : List Int} {m t below s : Int} {D : Ends} {v2 v3 : Option V}
theorem mm1 (i : Int) : 0 ≤ i % 2147483587 ∧ i % 2147483587 < 2147483587 := ⟨Int.emod_nonneg _ (by decide), Int.emod_lt_of_pos _ (by decide)⟩
theorem mm2 (i : Int) : 0 ≤ i % 2147483629 ∧ i % 2147483629 < 2147483629 := ⟨Int.emod_nonneg _ (by decide), Int.emod_lt_of_pos _ (by decide)⟩
theorem drawB_end (n : Ne3 a b c) (d : D3 a b c H0 p H cs m t) (hm : 0 ≤ m ∧ m < 2147483648) (hb : 0 < below) (fin : ∀ (H : Hp) (m t r : Int), D3 a b c H0 p H cs m t → 0 ≤ m → m < 2147483648 → 0 ≤ r → r < below → D.rt (.int r) H) :
    tSeq (tAsg (tMo (tAd (tAd (tMu (tKey b) (tI 39373)) (tMu (tKey c) (tI 6101))) (tI s)) (tI 2147483629)) (L2.gName 3))
      (tSeq (sDPut (tVar 0) (tC (.str b)) (tMo (tAd (tMu (tVar 3) (tVar 3)) (tKey c)) (tI 2147483587)))
      (tRet (tMo (tOp (rI CDiv fun i j => V.int (i / j)) (tKey b) (tI 89)) (tVar 1)))) D [some (.ref p.1), some (.int below), v2, v3] H := by
  have e := mm2 (m * 39373 + t * 6101 + s)
  have e2 := mm1 ((m * 39373 + t * 6101 + s) % 2147483629 * ((m * 39373 + t * 6101 + s) % 2147483629) + t)
  have d' := d.setD (((m * 39373 + t * 6101 + s) % 2147483629 * ((m * 39373 + t * 6101 + s) % 2147483629) + t) % 2147483587) t
  refine ⟨_, rfl, _, _, rfl, d.getM n, _, _, rfl, rfl, .inr (by decide), _, rfl, _, _, rfl, d.getT n, _, _, rfl, rfl, .inr (by decide), _, _, rfl, rfl, _, _, rfl, rfl, _, _, rfl, rfl, show (0 : Int) < 2147483629 by decide, ?_⟩
  refine ⟨_, rfl, _, rfl, _, _, rfl, rfl, .inl ⟨by omega, by omega⟩, _, rfl, _, _, rfl, d.getT n, _, _, rfl, rfl, _, _, rfl, rfl, show (0 : Int) < 2147483587 by decide, _, rfl, _, _, rfl, d.putM n _, ?_⟩
  refine ⟨_, rfl, _, _, rfl, d'.getM n, _, _, rfl, rfl, ⟨by decide, by decide⟩, _, rfl, _, _, rfl, rfl, hb, ?_⟩
  exact fin _ _ _ _ d' e2.1 (by omega) (Int.emod_nonneg _ (by omega)) (Int.emod_lt_of_pos _ hb)
theorem drawB_ok (n : Ne3 a b c) (d : D3 a b c H0 p H cs m t) (hl : cs.length ≤ 63) (hm : 0 ≤ m ∧ m < 2147483648) (hb : 0 < below) (hb2 : below < 2 ^ 8000)
    (fin : ∀ (H : Hp) (cs : List Int) (m t r : Int), D3 a b c H0 p H cs m t → cs.length ≤ 63 → 0 ≤ m → m < 2147483648 → 0 ≤ r → r < below → D.rt (.int r) H) :
    drawB K a b c s D [some (.ref p.1), some (.int below), none, none] H := by
  refine ⟨_, rfl, _, _, rfl, d.getT n, _, _, rfl, rfl, _, rfl, _, _, rfl, d.putT n _, ?_⟩
  have d1 := d.setD m (t + 1)
  refine d1.full rfl fun l hl0 => ?_
  have d2 := d1.laid hl0 (.lst [])
  by_cases hc : cs = []
  · subst hc
    exact drawB_end n d2 hm hb fun H m t r x h1 h2 h3 h4 => fin H [] m t r x hl h1 h2 h3 h4
  · have hcs : (!cs.isEmpty) = true := by cases cs <;> simp at hc ⊢
    rw [if_pos hcs]
    have hlen : 0 < cs.length := List.length_pos_iff.mpr hc
    obtain ⟨x, hx⟩ : ∃ x : Int, cs[cs.length - 1]? = some x := ⟨_, List.getElem?_eq_getElem (by omega)⟩
    have d3 := d2.setL cs.dropLast
    have hdl : (cs.map V.int).dropLast = cs.dropLast.map V.int := by rw [List.dropLast_eq_take, List.dropLast_eq_take, List.map_take, List.length_map]
    refine ⟨_, rfl, _, _, rfl, d2.getC, .inl ⟨rfl, _, SqL.of d2.ls⟩, _, cs.map V.int, .int x, rfl, rfl, d2.ls, by rw [List.length_map, List.getElem?_map, hx]; rfl, ?_⟩
    rw [hdl]
    refine ⟨_, rfl, _, _, rfl, rfl, ⟨by decide, by decide, by decide⟩, _, _, rfl, rfl, _, rfl, ?_⟩
    by_cases hg : (10 : Int) ^ (18 : Int).toNat ≤ x
    · rw [decide_eq_true hg]
      have hmx : CDivW x (if below > 2 then below else 2) := by
        split
        · exact ⟨hb, below_log hb hb2⟩
        · exact ⟨by decide, by decide⟩
      refine ⟨_, rfl, _, _, rfl, d3.getC, .inl ⟨rfl, _, SqL.of d3.ls⟩, _, rfl, _, rfl, _, _, rfl, _, _, rfl, rfl, hmx, _, _, _, rfl, rfl, d3.ls, ?_, ?_⟩
      · rw [List.length_map, List.length_dropLast]
        exact Nat.lt_of_le_of_lt (m := 63) (by omega) (by decide)
      · have d4 := d3.setL (cs.dropLast ++ [x / if below > 2 then below else 2])
        rw [List.map_append] at d4
        refine ⟨_, rfl, _, rfl, _, _, rfl, rfl, hb, ?_⟩
        refine fin _ _ _ _ _ d4 ?_ hm.1 hm.2 (Int.emod_nonneg _ (by omega)) (Int.emod_lt_of_pos _ hb)
        rw [List.length_append, List.length_dropLast, List.length_singleton]
        omega
    · rw [decide_eq_false hg]
      have e := mm1 (m + x % 2147483587 + 1)
      refine ⟨_, rfl, _, _, rfl, d3.getM n, _, rfl, _, _, rfl, rfl, show (0 : Int) < 2147483587 by decide, _, _, rfl, rfl, _, _, rfl, rfl, _, _, rfl, rfl, show (0 : Int) < 2147483587 by decide, _, rfl, _, _, rfl, d3.putM n _, ?_⟩
      refine drawB_end n (d3.setD _ _) ⟨e.1, by omega⟩ hb fun H m t r y h1 h2 h3 h4 => fin H _ m t r y ?_ h1 h2 h3 h4
      rw [List.length_dropLast]
      omega
end
theorem drawB_fn {K : PySem.W.Frag} {mg : Str → Option Value} {vs : List V} {H : Hp} {Q : VK} {E : XK} {N : List Str} {s : Int} (hN : N.length = 4) (h : spD K mg (S_draw 0) vs H Q E) : drawB K "cells" "mixed" "turn" s { nx := fun _ H' => Q .non H', rt := Q } (L2.start N vs) H := by
  obtain ⟨ds, F, k, P, PX, W, a, h, q, _⟩ := h
  unfold S_draw at h
  split at h
  case h_2 => exact h.elim
  rename_i m b
  obtain ⟨rfl, hb, hb1, hr⟩ := h
  have hb2 : b < 2 ^ 8000 := Int.lt_trans hb1 (by decide +kernel)
  simp only [Ats, At] at a
  obtain ⟨v, _, rfl, ⟨p, e0, e1, e2⟩, v2, _, rfl, e3, rfl⟩ := a
  subst e0
  subst e2
  subst e3
  obtain ⟨⟨kvs, cs, h1, h2, h3⟩, f1, f2⟩ := W.dk p rfl
  rw [e1] at h3
  obtain ⟨hl, m, t, rfl, hm⟩ := h3
  have d : D3 "cells" "mixed" "turn" H p H cs m t := ⟨h1, h2, fun _ _ h _ _ => h, by rw [h1]; simp, by rw [h2]; simp⟩
  have st : L2.start N [.ref p.1, .int b] = [some (.ref p.1), some (.int b), none, none] := by
    unfold L2.start
    rw [hN]
    rfl
  rw [st]
  refine drawB_ok (n := ⟨by decide, by decide, by decide⟩) d hl hm hb hb2 fun H' cs' m' t' r d' hl' hm1 hm2 h0 h1 => q (.int r) _ H' (hr r h0 h1) (d'.fin (n := 0) W rfl ?_)
  rw [e1]
  exact ⟨hl', m', t', rfl, hm1, hm2⟩
theorem sp_len {K : PySem.W.Frag} {mg : Str → Option Value} {S : SD} {n : Nat} {vs : List V} {H : Hp} {Q : VK} {E : XK} (ar : ∀ ds P PX, S ds P PX → ds.length = n) (h : spD K mg S vs H Q E) : vs.length = n := by
  obtain ⟨ds, F, k, P, PX, W, a, h, _⟩ := h
  rw [← Ats.length a]
  exact ar _ _ _ h
theorem un1 {k : Nat} {A : Around} (r : Room k A) : A.units + 1 < cLine := by have := r.units; omega
/-! ### rules by bundles -/
structure XR0 (K : PySem.W.Frag) (mg : Str → Option Value) (n : Str) : Prop where
  ex : ∃ C, mg n = some (.ref C) ∧ XcF K C ∧ PySem.W.excIn K C eTail "Exception.__new__" = true
structure XR1 (K : PySem.W.Frag) (mg : Str → Option Value) (n f : Str) : Prop where
  ex : ∃ C fI, mg n = some (.ref C) ∧ XcF K C ∧ XiF K C f fI ∧ InitD K f fI ∧ FOk f
section
variable {wx : DX} {WW : WX} {ZZ : Fz} {X : Cx} {f x : Str} {a : Expr} {p pos pos2 : Pos} {k : Nat} {g : DE}
theorem dr0 (T : XR0 X.K X.mg x) (hc : X.calm = true) (tk : Takes X WW) (hg : Gl X x) (hdb : (x == ("__debug__" : Str)) = false := by decide) : PS X (.Raise (some (.Call (.Name x p) [] [] pos)) none pos2) (liftS (X.kx wx WW ZZ) (dRaise0 wx x)) := by
  obtain ⟨C, h1, h2, h3⟩ := T.ex
  exact ds_raise0 hc tk h2 h3 h1 hg hdb
theorem dr1 (T : XR1 X.K X.mg x f) (hc : X.calm = true) (tk : Takes X WW) (hr : Room k X.A) (hg : Gl X x) (ha : PE X a (lift (X.kx wx WW ZZ) g)) (hdb : (x == ("__debug__" : Str)) = false := by decide)
    (he : starEach (a :: []) X.env = (false, eval a X.env) :: starEach [] X.env := by rfl) (hpl : (backTo pos (starEach [] X.env)).any (·.1) = false := by rfl) : PS X (.Raise (some (.Call (.Name x p) [a] [] pos)) none pos2) (liftS (X.kx wx WW ZZ) (dRaise1 wx x f g)) := by
  obtain ⟨C, fI, h1, h2, h3, h4, h5⟩ := T.ex
  exact ds_raise1 hc tk h2 h3 h4 h5 h1 hr ha hg hdb he hpl
end
/-! ### simp equations -/
section
variable {env : Evn} {Q : D → Evn → Prop} {B : DEnd} {f : DE} {fa fk : DA} {S : SD} {w : DX} {n : Str} {xn fs : List Str}
@[simp] theorem e_CallX : dCallX w S fa env Q = fa env fun ds env' => S ds (fun d => Q d env') fun x => w x env' := rfl
@[simp] theorem e_CallKX {n m : Nat} {ix : List Nat} : dCallKX w S n m ix fa fk env Q = fa env fun ds env1 => fk env1 fun zs env2 => (ds.length = n ∧ zs.length = m) ∧ S (pickL ix (ds ++ zs)) (fun d => Q d env2) fun x => w x env2 := rfl
@[simp] theorem e_Raise0 : dRaise0 w n B env = w (n, []) env := rfl
@[simp] theorem e_Raise1 {g : Str} : dRaise1 w n g f B env = f env fun d env1 => w (n, [(g, d)]) env1 := rfl
@[simp] theorem e_Out : dOut B env = False := rfl
@[simp] theorem e_Try {i : Nat} {u : DX → DS} {hs : List Hd} : dTry xn i w u hs B env = u (hnd xn w i B hs) B env := rfl
@[simp] theorem e_hnd0 {i : Nat} {x : Ex} : hnd xn w i B [] x env = w x env := rfl
@[simp] theorem e_hnd1 {i : Nat} {x : Ex} {c : Str} {u : Ex → Addr → DS} {r : List Hd} : hnd xn w i B ((c, u) :: r) x env = ((x.1 ∈ xn ∧ c ∈ xn) ∧ if subX x.1 c = true then ∀ a, u x a (cutB B i) (env.set i (.val (.raw (.ref a)))) else hnd xn w i B r x env) := rfl
@[simp] theorem e_IsE {x : Ex} {a : Addr} {i : Nat} {c : Str} : dIsE xn x a i c env Q = (env[i]? = some (.val (.raw (.ref a))) ∧ (x.1 ∈ xn ∧ c ∈ xn) ∧ Q (.bl (subX x.1 c)) env) := rfl
@[simp] theorem e_Fld {x : Ex} {a : Addr} {i : Nat} {g : Str} : dFld xn fs x a i g env Q = (env[i]? = some (.val (.raw (.ref a))) ∧ (x.1 ∈ xn ∧ g ∈ fs) ∧ ∃ v, x.2.lookup g = some v ∧ Q v env) := rfl
@[simp] theorem e_cut_nx {i : Nat} : (cutB B i).nx env = B.nx (env.set i .no) := rfl
@[simp] theorem e_cut_rt {i : Nat} : (cutB B i).rt = B.rt := rfl
end
end DL
namespace DL
open PySem PySem.Spec L2 PyProof.Rows
/-! ### chains of comparisons -/
/-- one link: y is what stood behind it -/
def dLink (o : DO) (x : D) (g : DE) (rest : D → DE) : DE := fun env Q => g env fun y env1 => o x y fun d => match d with
  | .bl true => rest y env1 Q
  | .bl false => Q (.bl false) env1
  | _ => False
def dLast (o : DO) (x : D) (g : DE) : DE := fun env Q => g env fun y env1 => o x y fun d => Q d env1
def dCh2 (o o' : DO) (f g h : DE) : DE := fun env Q => f env fun x env1 => dLink o x g (fun y => dLast o' y h) env1 Q
def dCh3 (o o' o'' : DO) (f g h i : DE) : DE := fun env Q => f env fun x env1 => dLink o x g (fun y => dLink o' y h fun z => dLast o'' z i) env1 Q
/-- what a chain's rest does from a value on -/
def tLink (r : R2) (x : V) (g : TE) (rest : V → TE) : TE := fun σ H Q => g σ H fun y H1 => r x y H1 fun z H2 => ∃ k, z = .bl k ∧ (if k = true then rest y σ H2 Q else Q (.bl false) H2)
def tLast (r : R2) (x : V) (g : TE) : TE := fun σ H Q => g σ H fun y H1 => r x y H1 Q
section
variable {wx : DX} {WW : WX} {ZZ : Fz} {X : Cx} {a b c d : Expr} {pos : Pos} {ta tb tc td : TE} {f g h i : DE} {op op' op'' : CmpOp} {r r' r'' : R2} {o o' o'' : DO}
theorem run_last (ho : OpR X (compareOp op) r) (hb : PE X b tb) {pins : List (Addr × Obj)} {σ : L2.St} {H : Hp} {s : Shared} {x : V} {v : Value} {Q : VK} (I : L2.Inv X pins σ H s) (rx : RelV x v) (q : tLast r x tb σ H Q) :
    wpAny (model X.prog X.w) X.A (compareChain pos v [op] [eval b X.env]) (EP X pins σ Q) X.xe s :=
  chain_last (thn (hb.run pins s σ H _ I q) fun u s1 ⟨y, H1, I1, r1, q1⟩ => ho pins s1 σ H1 x y v u Q I1 rx r1 q1)
theorem run_link {rs : List Expr} {ops : List CmpOp} {c : Expr} {rest : V → TE} (ho : OpR X (compareOp op) r) (hb : PE X b tb)
    (hr : ∀ (s : Shared) (H : Hp) (y : V) (u : Value) (pins : List (Addr × Obj)) (σ : L2.St) (Q : VK), L2.Inv X pins σ H s → RelV y u → rest y σ H Q → wpAny (model X.prog X.w) X.A (compareChain pos u (op' :: ops) (eval c X.env :: evalEach rs X.env)) (EP X pins σ Q) X.xe s)
    {pins : List (Addr × Obj)} {σ : L2.St} {H : Hp} {s : Shared} {x : V} {v : Value} {Q : VK} (I : L2.Inv X pins σ H s) (rx : RelV x v) (q : tLink r x tb rest σ H Q) :
    wpAny (model X.prog X.w) X.A (compareChain pos v (op :: op' :: ops) (eval b X.env :: eval c X.env :: evalEach rs X.env)) (EP X pins σ Q) X.xe s :=
  chain_link (thn (hb.run pins s σ H _ I q) fun u s1 ⟨y, H1, I1, r1, q1⟩ => thn (ho pins s1 σ H1 x y v u _ I1 rx r1 q1) fun w s2 ⟨z, H2, I2, r2, k, e, q2⟩ => by
    subst e
    cases r2
    refine wpAny_truthy_bool ?_
    cases k with
    | false => exact ite_ff ⟨.bl false, H2, I2, rfl, q2⟩
    | true => exact ite_tt (hr s2 H2 y u pins σ Q I2 r1 q2))
theorem pe_ch2 (h1 : OpR X (compareOp op) r) (h2 : OpR X (compareOp op') r') (ha : PE X a ta) (hb : PE X b tb) (hc : PE X c tc) (hm : lastMarks [op, op'] [b, c] = false := by with_unfolding_all rfl) :
    PE X (.Compare a [op, op'] [b, c] pos) (fun σ H Q => ta σ H fun x H1 => tLink r x tb (fun y => tLast r' y tc) σ H1 Q) := ⟨fun pins s σ H Q I hh =>
  Compare_chain (thn (ha.run pins s σ H _ I hh) fun v s1 ⟨x, H1, I1, r1, q1⟩ => run_link h1 hb (fun s H y u pins σ Q I r q => run_last h2 hc I r q) I1 r1 q1) hm⟩
theorem pe_ch3 (h1 : OpR X (compareOp op) r) (h2 : OpR X (compareOp op') r') (h3 : OpR X (compareOp op'') r'') (ha : PE X a ta) (hb : PE X b tb) (hc : PE X c tc) (hd : PE X d td) (hm : lastMarks [op, op', op''] [b, c, d] = false := by with_unfolding_all rfl) :
    PE X (.Compare a [op, op', op''] [b, c, d] pos) (fun σ H Q => ta σ H fun x H1 => tLink r x tb (fun y => tLink r' y tc fun z => tLast r'' z td) σ H1 Q) := ⟨fun pins s σ H Q I hh =>
  Compare_chain (thn (ha.run pins s σ H _ I hh) fun v s1 ⟨x, H1, I1, r1, q1⟩ => run_link h1 hb (fun s H y u pins σ Q I r q => run_link h2 hc (fun s H y u pins σ Q I r q => run_last h3 hd I r q) I r q) I1 r1 q1) hm⟩
/-! as tests -/
theorem runT_last (ho : OpR X (compareOp op) r) (hb : PE X b tb) {pins : List (Addr × Obj)} {σ : L2.St} {H : Hp} {s : Shared} {x : V} {v : Value} {Q : Bool → Hp → Prop} (I : L2.Inv X pins σ H s) (rx : RelV x v) (q : tLast r x tb σ H fun z H' => ∃ k, z = .bl k ∧ Q k H') :
    wpAny (model X.prog X.w) X.A (testChain pos v [op] [eval b X.env]) (fun t s' => ∃ H', L2.Inv X pins σ H' s' ∧ Q t H') X.xe s :=
  test_last (thn (hb.run pins s σ H _ I q) fun u s1 ⟨y, H1, I1, r1, q1⟩ => thn (ho pins s1 σ H1 x y v u _ I1 rx r1 q1) fun w s2 ⟨z, H2, I2, r2, k, e, q2⟩ => by
    subst e
    cases r2
    exact wpAny_truthy_bool ⟨H2, I2, q2⟩)
theorem runT_link {rs : List Expr} {ops : List CmpOp} {c : Expr} {rest : V → TE} (ho : OpR X (compareOp op) r) (hb : PE X b tb)
    (hr : ∀ (s : Shared) (H : Hp) (y : V) (u : Value) (pins : List (Addr × Obj)) (σ : L2.St) (Q : Bool → Hp → Prop), L2.Inv X pins σ H s → RelV y u → (rest y σ H fun z H' => ∃ k, z = .bl k ∧ Q k H') → wpAny (model X.prog X.w) X.A (testChain pos u (op' :: ops) (eval c X.env :: evalEach rs X.env)) (fun t s' => ∃ H', L2.Inv X pins σ H' s' ∧ Q t H') X.xe s)
    {pins : List (Addr × Obj)} {σ : L2.St} {H : Hp} {s : Shared} {x : V} {v : Value} {Q : Bool → Hp → Prop} (I : L2.Inv X pins σ H s) (rx : RelV x v) (q : tLink r x tb rest σ H fun z H' => ∃ k, z = .bl k ∧ Q k H') :
    wpAny (model X.prog X.w) X.A (testChain pos v (op :: op' :: ops) (eval b X.env :: eval c X.env :: evalEach rs X.env)) (fun t s' => ∃ H', L2.Inv X pins σ H' s' ∧ Q t H') X.xe s :=
  test_link (thn (hb.run pins s σ H _ I q) fun u s1 ⟨y, H1, I1, r1, q1⟩ => thn (ho pins s1 σ H1 x y v u _ I1 rx r1 q1) fun w s2 ⟨z, H2, I2, r2, k, e, q2⟩ => by
    subst e
    cases r2
    refine wpAny_truthy_bool ?_
    cases k with
    | false =>
      obtain ⟨k', e', q'⟩ := q2
      cases e'
      exact ite_ff ⟨H2, I2, q'⟩
    | true => exact ite_tt (hr s2 H2 y u pins σ Q I2 r1 q2))
theorem pt_ch2 (h1 : OpR X (compareOp op) r) (h2 : OpR X (compareOp op') r') (ha : PE X a ta) (hb : PE X b tb) (hc : PE X c tc) (hm : lastMarks [op, op'] [b, c] = false := by with_unfolding_all rfl) :
    PT X (.Compare a [op, op'] [b, c] pos) (tTest fun σ H Q => ta σ H fun x H1 => tLink r x tb (fun y => tLast r' y tc) σ H1 Q) := ⟨fun pins s σ H Q I hh =>
  isTrue_chain (thn (ha.run pins s σ H _ I hh) fun v s1 ⟨x, H1, I1, r1, q1⟩ => runT_link h1 hb (fun s H y u pins σ Q I r q => runT_last h2 hc I r q) I1 r1 q1) hm⟩
theorem pt_ch3 (h1 : OpR X (compareOp op) r) (h2 : OpR X (compareOp op') r') (h3 : OpR X (compareOp op'') r'') (ha : PE X a ta) (hb : PE X b tb) (hc : PE X c tc) (hd : PE X d td) (hm : lastMarks [op, op', op''] [b, c, d] = false := by with_unfolding_all rfl) :
    PT X (.Compare a [op, op', op''] [b, c, d] pos) (tTest fun σ H Q => ta σ H fun x H1 => tLink r x tb (fun y => tLink r' y tc fun z => tLast r'' z td) σ H1 Q) := ⟨fun pins s σ H Q I hh =>
  isTrue_chain (thn (ha.run pins s σ H _ I hh) fun v s1 ⟨x, H1, I1, r1, q1⟩ => runT_link h1 hb (fun s H y u pins σ Q I r q => runT_link h2 hc (fun s H y u pins σ Q I r q => runT_last h3 hd I r q) I r q) I1 r1 q1) hm⟩
/-! over data -/
theorem lift_last {K : Kx} (L : OpL K.f r o) {x : D} {vx : V} : ∀ {e : Ent} {env : Evn} {oa : Nat → Addr} {σ : L2.St} {F H : Hp} {k : Dk} {P : D → Evn → Prop} {Q : VK}, Rel K e env oa σ F H k → At K F k x vx → dLast o x g env P →
    (∀ d env' v oa' F' H' k', P d env' → Rel K e env' oa' σ F' H' k' → Grow F F' k k' → At K F' k' d v → Q v H') → tLast r vx (lift K g) σ H Q := fun {e env oa σ F H k P Q} R ax p q =>
  ⟨e, env, oa, F, k, _, R, p, fun y env2 vy oa2 F2 H2 k2 p2 R2 g2 a2 => L e env2 oa2 σ F2 H2 k2 vx vy x y Q _ R2.toRel0 (At.grow g2 _ _ ax) a2 p2 fun d v oa3 F3 H3 k3 p3 R3 g3 a3 => q d env2 v oa3 F3 H3 k3 p3 (R2.up R3 g3) (g2.trans g3) a3⟩
theorem lift_link {K : Kx} (L : OpL K.f r o) {rest : D → DE} {trest : V → TE} (hr : ∀ {y : D} {vy : V} {e : Ent} {env : Evn} {oa : Nat → Addr} {σ : L2.St} {F H : Hp} {k : Dk} {P : D → Evn → Prop} {Q : VK}, Rel K e env oa σ F H k → At K F k y vy → rest y env P →
      (∀ d env' v oa' F' H' k', P d env' → Rel K e env' oa' σ F' H' k' → Grow F F' k k' → At K F' k' d v → Q v H') → trest vy σ H Q)
    {x : D} {vx : V} {e : Ent} {env : Evn} {oa : Nat → Addr} {σ : L2.St} {F H : Hp} {k : Dk} {P : D → Evn → Prop} {Q : VK} (R : Rel K e env oa σ F H k) (ax : At K F k x vx) (p : dLink o x g rest env P)
    (q : ∀ d env' v oa' F' H' k', P d env' → Rel K e env' oa' σ F' H' k' → Grow F F' k k' → At K F' k' d v → Q v H') : tLink r vx (lift K g) trest σ H Q :=
  ⟨e, env, oa, F, k, _, R, p, fun y env2 vy oa2 F2 H2 k2 p2 R2 g2 a2 => L e env2 oa2 σ F2 H2 k2 vx vy x y _ _ R2.toRel0 (At.grow g2 _ _ ax) a2 p2 fun d v oa3 F3 H3 k3 p3 R3 g3 a3 => by
    cases d with
    | bl b =>
      refine ⟨b, by simpa only [At] using a3, ?_⟩
      have R3' := R2.up R3 g3
      cases b with
      | false => exact q (.bl false) env2 _ oa3 F3 H3 k3 p3 R3' (g2.trans g3) (by simp only [At])
      | true => exact hr R3' (At.grow g3 _ _ a2) p3 fun d env' v oa' F' H' k' p' R' g' a' => q d env' v oa' F' H' k' p' R' (g2.trans (g3.trans g')) a'
    | _ => exact p3.elim⟩
theorem dl_ch2 (O1 : OpD X (compareOp op) o) (O2 : OpD X (compareOp op') o') (ha : PE X a (lift (X.kx wx WW ZZ) f)) (hb : PE X b (lift (X.kx wx WW ZZ) g)) (hc : PE X c (lift (X.kx wx WW ZZ) h)) (hm : lastMarks [op, op'] [b, c] = false := by with_unfolding_all rfl) :
    PE X (.Compare a [op, op'] [b, c] pos) (lift (X.kx wx WW ZZ) (dCh2 o o' f g h)) := by
  obtain ⟨r1, h1, L1⟩ := O1
  obtain ⟨r2, h2, L2⟩ := O2
  exact (pe_ch2 h1 h2 ha hb hc hm).w fun σ H Q ⟨e, env, oa, F, k, P, R, p, q⟩ => ⟨e, env, oa, F, k, _, R, p, fun x env1 vx oa1 F1 H1 k1 p1 R1 g1 a1 =>
    lift_link (K := X.kx wx WW ZZ) L1 (fun R a p q => lift_last (K := X.kx wx WW ZZ) L2 R a p q) R1 a1 p1 fun d env' v oa' F' H' k' p' R' g' a' => q d env' v oa' F' H' k' p' R' (g1.trans g') a'⟩
theorem dl_ch3 (O1 : OpD X (compareOp op) o) (O2 : OpD X (compareOp op') o') (O3 : OpD X (compareOp op'') o'') (ha : PE X a (lift (X.kx wx WW ZZ) f)) (hb : PE X b (lift (X.kx wx WW ZZ) g)) (hc : PE X c (lift (X.kx wx WW ZZ) h)) (hd : PE X d (lift (X.kx wx WW ZZ) i)) (hm : lastMarks [op, op', op''] [b, c, d] = false := by with_unfolding_all rfl) :
    PE X (.Compare a [op, op', op''] [b, c, d] pos) (lift (X.kx wx WW ZZ) (dCh3 o o' o'' f g h i)) := by
  obtain ⟨r1, h1, L1⟩ := O1
  obtain ⟨r2, h2, L2⟩ := O2
  obtain ⟨r3, h3, L3⟩ := O3
  exact (pe_ch3 h1 h2 h3 ha hb hc hd hm).w fun σ H Q ⟨e, env, oa, F, k, P, R, p, q⟩ => ⟨e, env, oa, F, k, _, R, p, fun x env1 vx oa1 F1 H1 k1 p1 R1 g1 a1 =>
    lift_link (K := X.kx wx WW ZZ) L1 (fun R a p q => lift_link (K := X.kx wx WW ZZ) L2 (fun R a p q => lift_last (K := X.kx wx WW ZZ) L3 R a p q) R a p q) R1 a1 p1 fun d env' v oa' F' H' k' p' R' g' a' => q d env' v oa' F' H' k' p' R' (g1.trans g') a'⟩
theorem dt_ch2 (O1 : OpD X (compareOp op) o) (O2 : OpD X (compareOp op') o') (ha : PE X a (lift (X.kx wx WW ZZ) f)) (hb : PE X b (lift (X.kx wx WW ZZ) g)) (hc : PE X c (lift (X.kx wx WW ZZ) h)) (hm : lastMarks [op, op'] [b, c] = false := by with_unfolding_all rfl) :
    PT X (.Compare a [op, op'] [b, c] pos) (liftT (X.kx wx WW ZZ) (dTest (dCh2 o o' f g h))) := by
  obtain ⟨r1, h1, L1⟩ := O1
  obtain ⟨r2, h2, L2⟩ := O2
  exact (pt_ch2 h1 h2 ha hb hc hm).w fun σ H Q hh => by
    obtain ⟨e, env, oa, F, k, P, R, p, q⟩ := lift_test σ H Q hh
    exact ⟨e, env, oa, F, k, _, R, p, fun x env1 vx oa1 F1 H1 k1 p1 R1 g1 a1 =>
      lift_link (K := X.kx wx WW ZZ) L1 (fun R a p q => lift_last (K := X.kx wx WW ZZ) L2 R a p q) R1 a1 p1 fun d env' v oa' F' H' k' p' R' g' a' => q d env' v oa' F' H' k' p' R' (g1.trans g') a'⟩
theorem dt_ch3 (O1 : OpD X (compareOp op) o) (O2 : OpD X (compareOp op') o') (O3 : OpD X (compareOp op'') o'') (ha : PE X a (lift (X.kx wx WW ZZ) f)) (hb : PE X b (lift (X.kx wx WW ZZ) g)) (hc : PE X c (lift (X.kx wx WW ZZ) h)) (hd : PE X d (lift (X.kx wx WW ZZ) i)) (hm : lastMarks [op, op', op''] [b, c, d] = false := by with_unfolding_all rfl) :
    PT X (.Compare a [op, op', op''] [b, c, d] pos) (liftT (X.kx wx WW ZZ) (dTest (dCh3 o o' o'' f g h i))) := by
  obtain ⟨r1, h1, L1⟩ := O1
  obtain ⟨r2, h2, L2⟩ := O2
  obtain ⟨r3, h3, L3⟩ := O3
  exact (pt_ch3 h1 h2 h3 ha hb hc hd hm).w fun σ H Q hh => by
    obtain ⟨e, env, oa, F, k, P, R, p, q⟩ := lift_test σ H Q hh
    exact ⟨e, env, oa, F, k, _, R, p, fun x env1 vx oa1 F1 H1 k1 p1 R1 g1 a1 =>
      lift_link (K := X.kx wx WW ZZ) L1 (fun R a p q => lift_link (K := X.kx wx WW ZZ) L2 (fun R a p q => lift_last (K := X.kx wx WW ZZ) L3 R a p q) R a p q) R1 a1 p1 fun d env' v oa' F' H' k' p' R' g' a' => q d env' v oa' F' H' k' p' R' (g1.trans g') a'⟩
end
section
variable {env : Evn} {Q : D → Evn → Prop} {f g h i : DE} {o o' o'' : DO} {x : D} {rest : D → DE}
@[simp] theorem e_Link : dLink o x g rest env Q = g env fun y env1 => o x y fun d => match d with | .bl true => rest y env1 Q | .bl false => Q (.bl false) env1 | _ => False := rfl
@[simp] theorem e_Last : dLast o x g env Q = g env fun y env1 => o x y fun d => Q d env1 := rfl
@[simp] theorem e_Ch2 : dCh2 o o' f g h env Q = f env fun x env1 => dLink o x g (fun y => dLast o' y h) env1 Q := rfl
@[simp] theorem e_Ch3 : dCh3 o o' o'' f g h i env Q = f env fun x env1 => dLink o x g (fun y => dLink o' y h fun z => dLast o'' z i) env1 Q := rfl
end
/-! ### in, not in -/
def oIn : DO := fun x y G => match y with
  | .lst l => (eqOk x ∧ eqOk (.lst l)) ∧ G (.bl (l.any fun z => eqv z x))
  | .tup l => (eqOk x ∧ eqOk (.tup l)) ∧ G (.bl (l.any fun z => eqv z x))
  | _ => False
def oNin : DO := fun x y G => match y with
  | .lst l => (eqOk x ∧ eqOk (.lst l)) ∧ G (.bl (!l.any fun z => eqv z x))
  | .tup l => (eqOk x ∧ eqOk (.tup l)) ∧ G (.bl (!l.any fun z => eqv z x))
  | _ => False
theorem any_py (x : D) : ∀ l : List D, ((pys l).any fun z => PyData.eqv z (py x)) = l.any fun z => eqv z x
  | [] => rfl
  | d :: l => by simp only [pys, List.any_cons, any_py x l]; rfl
def rInT (K : PySem.W.Frag) (neg : Bool) : R2 := fun x y H Q => ∃ d ds, Dp K H x d ∧ Dp K H y (.tuple ds) ∧ SeqAt.shaped d = true ∧ SeqAt.shaped (.tuple ds) = true ∧ Q (.bl (if neg = true then !ds.any fun z => PyData.eqv z d else ds.any fun z => PyData.eqv z d)) H
theorem room_inT {n : Nat} {d : PyData} {ds : List PyData} (h : SeqAt.shaped d = true) (h1 : n + 65 < cLine) : n + 1 + min (PyData.depthAll ds) d.depth < cLine := by
  have e : d.canLay0 = true ∧ decide (d.depth ≤ 64) = true := Bool.and_eq_true_iff.mp (show (d.canLay0 && decide (d.depth ≤ 64)) = true from h)
  have := of_decide_eq_true e.2
  omega
section
variable {X : Cx}
theorem op_inT (hu : X.A.units + 65 < cLine) : OpR X (compareOp .In) (rInT X.K false) := fun pins s σ H x y v u Q I rx ry ⟨d, ds, hd, he, sd, se, q⟩ => by
  obtain ⟨as, r1⟩ := Dp.reads I d x v hd rx
  obtain ⟨bs, r2⟩ := Dp.reads I (.tuple ds) y u he ry
  exact SeqAt.in_tuple_reads r2 r1 (SeqAt.canLay_of_shaped se) (SeqAt.canLay_of_shaped sd) (room_inT sd hu) ⟨.bl _, H, I, rfl, q⟩
theorem op_ninT (hu : X.A.units + 65 < cLine) : OpR X (compareOp .NotIn) (rInT X.K true) := fun pins s σ H x y v u Q I rx ry ⟨d, ds, hd, he, sd, se, q⟩ => by
  obtain ⟨as, r1⟩ := Dp.reads I d x v hd rx
  obtain ⟨bs, r2⟩ := Dp.reads I (.tuple ds) y u he ry
  exact SeqAt.notIn_tuple_reads r2 r1 (SeqAt.canLay_of_shaped se) (SeqAt.canLay_of_shaped sd) (room_inT sd hu) ⟨.bl _, H, I, rfl, q⟩
theorem opd_in (hu : X.A.units + 65 < cLine) : OpD X (compareOp .In) oIn := ⟨_, op_or (op_inD hu) (op_inT hu), fun e env oa σ F H k x y dx dy Q G R a1 a2 p q => by
  unfold oIn at p
  split at p
  · rename_i l
    refine .inl ⟨_, pys l, dp_of R.wd dx x p.1.1.1 a1, ?_, p.1.1.sh, ?_, ?_⟩
    · have := dp_of R.wd (.lst l) y p.1.2.1 a2
      simpa only [py] using this
    · have := p.1.2.sh
      simpa only [py] using this
    · rw [any_py]
      exact q _ _ oa F H k p.2 R (Grow.refl _ _) (by simp only [At])
  · rename_i l
    refine .inr ⟨_, pys l, dp_of R.wd dx x p.1.1.1 a1, ?_, p.1.1.sh, ?_, ?_⟩
    · have := dp_of R.wd (.tup l) y p.1.2.1 a2
      simpa only [py] using this
    · have := p.1.2.sh
      simpa only [py] using this
    · rw [if_neg Bool.false_ne_true, any_py]
      exact q _ _ oa F H k p.2 R (Grow.refl _ _) (by simp only [At])
  · exact p.elim⟩
theorem opd_nin (hu : X.A.units + 65 < cLine) : OpD X (compareOp .NotIn) oNin := ⟨_, op_or (op_notInD hu) (op_ninT hu), fun e env oa σ F H k x y dx dy Q G R a1 a2 p q => by
  unfold oNin at p
  split at p
  · rename_i l
    refine .inl ⟨_, pys l, dp_of R.wd dx x p.1.1.1 a1, ?_, p.1.1.sh, ?_, ?_⟩
    · have := dp_of R.wd (.lst l) y p.1.2.1 a2
      simpa only [py] using this
    · have := p.1.2.sh
      simpa only [py] using this
    · rw [any_py]
      exact q _ _ oa F H k p.2 R (Grow.refl _ _) (by simp only [At])
  · rename_i l
    refine .inr ⟨_, pys l, dp_of R.wd dx x p.1.1.1 a1, ?_, p.1.1.sh, ?_, ?_⟩
    · have := dp_of R.wd (.tup l) y p.1.2.1 a2
      simpa only [py] using this
    · have := p.1.2.sh
      simpa only [py] using this
    · rw [if_pos rfl, any_py]
      exact q _ _ oa F H k p.2 R (Grow.refl _ _) (by simp only [At])
  · exact p.elim⟩
theorem un65 {k : Nat} {A : Around} (r : Room k A) : A.units + 65 < cLine := by have := r.un; omega
end
section
variable {G : D → Prop} {x : D} {l : List D}
@[simp] theorem o_in_l : oIn x (.lst l) G = ((eqOk x ∧ eqOk (.lst l)) ∧ G (.bl (l.any fun z => eqv z x))) := rfl
@[simp] theorem o_in_t : oIn x (.tup l) G = ((eqOk x ∧ eqOk (.tup l)) ∧ G (.bl (l.any fun z => eqv z x))) := rfl
@[simp] theorem o_nin_l : oNin x (.lst l) G = ((eqOk x ∧ eqOk (.lst l)) ∧ G (.bl (!l.any fun z => eqv z x))) := rfl
@[simp] theorem o_nin_t : oNin x (.tup l) G = ((eqOk x ∧ eqOk (.tup l)) ∧ G (.bl (!l.any fun z => eqv z x))) := rfl
end
end DL
namespace DL
open PySem PySem.Spec L2
/-! ### constants of the module -/
mutual
def conB (K : PySem.W.Frag) : D → Value → Bool
  | .non, .none => true
  | .bl b, .bool c => b == c
  | .int i, .int j _ => decide (i = j)
  | .str x, .str y _ => decide (x = y)
  | .tup l, .ref a => (match K.lookup a with
    | some ⟨.type c, _, .seq its _, _⟩ => decide (c = "tuple") && (decide (its.size ≤ sizeLine) && conBs K l its.toList)
    | _ => false)
  | _, _ => false
def conBs (K : PySem.W.Frag) : List D → List Value → Bool
  | [], [] => true
  | d :: l, u :: us => conB K d u && conBs K l us
  | _, _ => false
end
mutual
theorem conB_ok {K : PySem.W.Frag} : ∀ (d : D) (u : Value), conB K d u = true → ∃ v, RelV v u ∧ ∀ F k, At K F k d v
  | .non, .none, _ => ⟨.non, rfl, fun _ _ => by simp only [At]⟩
  | .bl b, .bool c, h => ⟨.bl b, by have e : b = c := eq_of_beq (by simpa only [conB] using h); subst e; rfl, fun _ _ => by simp only [At]⟩
  | .int i, .int j t, h => ⟨.int i, by have e : i = j := of_decide_eq_true (by simpa only [conB] using h); subst e; exact ⟨t, rfl⟩, fun _ _ => by simp only [At]⟩
  | .str x, .str y t, h => ⟨.str x, by have e : x = y := of_decide_eq_true (by simpa only [conB] using h); subst e; exact ⟨t, rfl⟩, fun _ _ => by simp only [At]⟩
  | .tup l, .ref a, h => by
    simp only [conB] at h
    split at h
    · rename_i c od its n sl ho
      obtain ⟨h1, h2⟩ := He.ba h
      obtain ⟨h3, h4⟩ := He.ba h2
      have e : c = "tuple" := of_decide_eq_true h1
      subst e
      obtain ⟨vs, rv, hA⟩ := conBs_ok l its.toList h4
      exact ⟨.ref a, rfl, fun F k => by simp only [At]; exact ⟨a, vs, rfl, .inr ⟨_, its, n, ho, rfl, rfl, of_decide_eq_true h3, rv⟩, hA F k⟩⟩
    · cases h
  | .non, .ellipsis, h | .non, .notImplemented, h | .non, .bool _, h | .non, .int _ _, h | .non, .float _ _, h | .non, .str _ _, h | .non, .bytes _ _, h | .non, .type _, h | .non, .builtin _, h | .non, .ref _, h => by simp [conB] at h
  | .bl _, .none, h | .bl _, .ellipsis, h | .bl _, .notImplemented, h | .bl _, .int _ _, h | .bl _, .float _ _, h | .bl _, .str _ _, h | .bl _, .bytes _ _, h | .bl _, .type _, h | .bl _, .builtin _, h | .bl _, .ref _, h => by simp [conB] at h
  | .int _, .none, h | .int _, .ellipsis, h | .int _, .notImplemented, h | .int _, .bool _, h | .int _, .float _ _, h | .int _, .str _ _, h | .int _, .bytes _ _, h | .int _, .type _, h | .int _, .builtin _, h | .int _, .ref _, h => by simp [conB] at h
  | .str _, .none, h | .str _, .ellipsis, h | .str _, .notImplemented, h | .str _, .bool _, h | .str _, .int _ _, h | .str _, .float _ _, h | .str _, .bytes _ _, h | .str _, .type _, h | .str _, .builtin _, h | .str _, .ref _, h => by simp [conB] at h
  | .tup _, .none, h | .tup _, .ellipsis, h | .tup _, .notImplemented, h | .tup _, .bool _, h | .tup _, .int _ _, h | .tup _, .float _ _, h | .tup _, .str _ _, h | .tup _, .bytes _ _, h | .tup _, .type _, h | .tup _, .builtin _, h => by simp [conB] at h
  | .lst _, _, h | .dic _, _, h | .raw _, _, h | .deck _, _, h | .scr _, _, h => by simp [conB] at h
theorem conBs_ok {K : PySem.W.Frag} : ∀ (l : List D) (us : List Value), conBs K l us = true → ∃ vs, Vals vs us ∧ ∀ F k, Ats K F k l vs
  | [], [], _ => ⟨[], .nil, fun _ _ => .nil⟩
  | d :: l, u :: us, h => by
    simp only [conBs] at h
    obtain ⟨h1, h2⟩ := He.ba h
    obtain ⟨v, r, a⟩ := conB_ok d u h1
    obtain ⟨vs, rs, as⟩ := conBs_ok l us h2
    exact ⟨v :: vs, .cons r rs, fun F k => .cons (a F k) (as F k)⟩
  | [], _ :: _, h => by simp [conBs] at h
  | _ :: _, [], h => by simp [conBs] at h
end
def cgB (K : PySem.W.Frag) (x : Str) (d : D) : Bool := match PySem.W.nsIn K mainGlobals x with
  | some (some u) => conB K d u
  | _ => false
structure CoK (K : PySem.W.Frag) (mg : Str → Option Value) (x : Str) (d : D) : Prop where
  ex : ∃ u v, mg x = some u ∧ RelV v u ∧ ∀ F k, At K F k d v
theorem cgB_ok {K : PySem.W.Frag} {h : Heap} {mg : Str → Option Value} {x : Str} {d : D} (X : K.In h) (G : h.Ns mainGlobals mg) (e : cgB K x d = true) : CoK K mg x d := by
  unfold cgB at e
  split at e
  · rename_i u hu
    obtain ⟨v, r, a⟩ := conB_ok d u e
    exact ⟨u, v, PySem.W.mg_of X G hu, r, a⟩
  · cases e
theorem dl_con {wx : DX} {WW : WX} {ZZ : Fz} {X : Cx} {x : Str} {d : D} {p : Pos} (c : CoK X.K X.mg x d) (hg : Gl X x) (db : (x == ("__debug__" : Str)) = false := by decide) : PE X (.Name x p) (lift (X.kx wx WW ZZ) (dC d)) := by
  obtain ⟨u, v, hm, r, a⟩ := c.ex
  exact dl_C (v := v) ⟨fun pins s σ H Q I h => ld_glob I hg hm ⟨v, H, I, r, h⟩ db⟩ a
/-! ### an own list and another value at once -/
section
variable {K : PySem.W.Frag} {e : Ent} {env : Evn} {oa : Nat → Addr} {σ : L2.St} {F H : Hp} {k : Dk} {p : Addr} {o : HO}
/-- what stands under guard is left out -/
theorem Rel0.less (G : Gd e p) (R : Rel0 K (gd e p o) env oa σ F H k) : Rel0 K e env oa σ F (fun a => if a = p then none else H a) k := by
  obtain ⟨hH, hF, hD, hO⟩ := R.guarded G
  have W := R.wd
  have nt : ∀ {a : Addr}, a ≠ p → (fun a => if a = p then none else H a) a = H a := fun h => if_neg h
  refine ⟨⟨fun a v q => ?_, W.ini, fun a v q => ?_, fun a v q z => ?_, W.kk1, fun z q hq => ?_, fun q hq => ?_⟩, R.len, R.val, fun i ds hi => ?_, R.inj⟩
  · have ha : a ≠ p := fun z => by rw [z, hF] at q; cases q
    rw [if_neg ha]
    exact W.sub a v q
  · have ha : a ≠ p := fun z => by rw [z, hF] at q; cases q
    rcases W.new a v q with z | z
    · exact .inl z
    · exact .inr ((upd_ne ha).symm.trans z)
  · have ha : a ≠ p := fun y => by rw [y, G.h0] at q; cases q
    rw [if_neg ha]
    exact W.fr a v ((upd_ne ha).trans q) z
  · obtain ⟨m1, m2⟩ := hD q hq
    obtain ⟨n1, n2⟩ := W.kk2 z q hq
    exact ⟨(upd_ne (Ne.symm m1)).symm.trans n1, (upd_ne (Ne.symm m2)).symm.trans n2⟩
  · obtain ⟨m1, m2⟩ := hD q hq
    obtain ⟨⟨kv, cs, h1, h2, h3⟩, h4, h5⟩ := W.dk q hq
    exact ⟨⟨kv, cs, (nt (Ne.symm m1)).trans h1, (nt (Ne.symm m2)).trans h2, h3⟩, h4, h5⟩
  · obtain ⟨h1, ⟨vs, h2, h3⟩, h4, h5, h6⟩ := R.own i ds hi
    have hne := hO i ds hi
    exact ⟨h1, ⟨vs, (nt hne).trans h2, h3⟩, h4, (upd_ne hne).symm.trans h5, h6⟩
theorem Rel0.takeOwn {ds : List D} {vs : List V} (G : Gd e p) (R : Rel0 K (gd e p (.lst vs)) env oa σ F H k) (hA : Ats K F k ds vs) (i : Nat) : Rel0 K e (env.set i (.own ds)) (fun j => if j = i then p else oa j) (σ.set i (some (.ref p))) F H k := by
  obtain ⟨hH, _⟩ := R.guarded G
  have h := (Rel0.less G R).putOwn (p := p) (if_pos rfl) hA i
  have e : upd (fun a => if a = p then none else H a) p (.lst vs) = H := by
    funext a
    by_cases ha : a = p
    · subst ha
      rw [upd_same, hH]
    · rw [upd_ne ha, if_neg ha]
  rw [e] at h
  exact h
end
def dParN (i j : Nat) (fa : DA) (f : DE) : DS := fun B env => fa env fun ds env1 => ds.length ≤ 10000000 ∧ f env1 fun d env2 => B.nx ((env2.set i (.own ds)).set j (.val d))
theorem lift_parN {K : Kx} {i j : Nat} {fa : DA} {f : DE} : ∀ E σ H, liftS K (dParN i j fa f) E σ H → tPar i j (tCons (tLst (liftA K fa)) (tCons (lift K f) tNil)) E σ H := fun E σ H ⟨e, env, oa, F, k, B, R, p, n, r, b, c⟩ =>
  ⟨e, env, oa, F, k, _, R, p, fun ds env1 vs oa1 F1 H1 k1 ⟨z, p1⟩ R1 g1 a1 => ⟨by rw [← Ats.length a1]; exact size10 z, fun t ht => by
    obtain ⟨G, R2⟩ := R1.guard (o := .lst vs) ht
    refine ⟨_, env1, oa1, F1, k1, _, R2, p1, fun d env2 v oa2 F2 H2 k2 p2 R3 g3 a3 => ?_⟩
    have R4 := R1.up (Rel0.takeOwn G R3.toRel0 (Ats.grow g3 _ _ a1) i) g3
    exact ⟨.ref t, v, rfl, n _ _ _ F2 H2 k2 p2 (R4.put a3) (g1.trans g3)⟩⟩⟩
@[simp] theorem e_ParN {i j : Nat} {fa : DA} {f : DE} {B : DEnd} {env : Evn} : dParN i j fa f B env = fa env fun ds env1 => ds.length ≤ 10000000 ∧ f env1 fun d env2 => B.nx ((env2.set i (.own ds)).set j (.val d)) := rfl
theorem ds_parN {wx : DX} {WW : WX} {ZZ : Fz} {X : Cx} {i j : Nat} {x y : Str} {es : List Expr} {b : Expr} {fa : DA} {f : DE} {px py pt lp : Pos} {kt k2 : Nat} {pt2 pos : Pos} (hc : X.calm = true) (hN : X.N.Nodup) (hi : X.N[i]? = some x) (hj : X.N[j]? = some y) (hij : i ≠ j)
    (hx : X.env.scope.names.lookup x = some .local) (hy : X.env.scope.names.lookup y = some .local) (ha : PA X es (liftA (X.kx wx WW ZZ) fa)) (hb : PE X b (lift (X.kx wx WW ZZ) f))
    (hw : swappedStores [.Tuple [.Name x px, .Name y py] kt pt] (.Tuple [.List es lp, b] k2 pt2) X.env = pure (some [x, y])) (hs : swapsWithSole [.Tuple [.Name x px, .Name y py] kt pt] (.Tuple [.List es lp, b] k2 pt2) pos.line X.env = pure false := by rfl)
    (h1 : starEach [.List es lp, b] X.env = (false, eval (.List es lp) X.env) :: starEach [b] X.env := by rfl) (h2 : starEach [b] X.env = (false, eval b X.env) :: starEach [] X.env := by rfl) :
    PS X (.Assign [.Tuple [.Name x px, .Name y py] kt pt] (.Tuple [.List es lp, b] k2 pt2) pos) (liftS (X.kx wx WW ZZ) (dParN i j fa f)) := (ps_par (i := i) (j := j) hc hN hi hj hij hx hy (pa_cons (pe_lst ha) (pa_cons hb pa_nil h2) h1) hw hs).w lift_parN
end DL
set_option maxHeartbeats 1000000
/-! ### enumerate and zip of data -/
namespace DL
open PySem PySem.Spec PyProof.Rows L2
open PySem.Sem (wp)
/-- what begins to be walked, made an enumerate -/
theorem enum_newB {v : Value} {o : Obj} {H : Heap → Prop} (B : Begins v o H) :
    Meets (Builtin.«enumerate.__new__» ⟨[.type "enumerate", v], []⟩) (fun _ R s => H s.heap ∧ R (.ok (.ret (.ref (s.heap.push o).objs.size)))
      { s with heap := (s.heap.push o).push { cls := .type "enumerate", data := .fields #[.none, .bool false, .ref s.heap.objs.size, rawInt 0, .none, .none] } }) :=
  .of_wp fun prog w A R s h => by
    obtain ⟨hp, g, d, tk, os⟩ := s
    obtain ⟨h1, h⟩ := h
    have hsub := sub_enumerate
    have start : ∀ {A' : Around} {E : Value → Shared → Prop} {Q : Value → Shared → Prop}, Q (.ref hp.objs.size) ⟨hp.push o, g, d, tk, os⟩ → wpAny (model prog w) A' (pyIter v) Q E ⟨hp, g, d, tk, os⟩ := fun q => B.iter prog w _ _ ⟨hp, g, d, tk, os⟩ _ h1 q
    wp_walk using start
    refine wpAny_stack_any fun st => wpAny_pure ?_
    split
    · rename_i c _ _ _ _ _
      cases (c == Value.type "enumerate") <;> (wp_walk using start; exact ⟨_, rfl, h⟩)
    · wp_walk using start
      exact ⟨_, rfl, h⟩
theorem enum_callB {prog : Program} {w : World} {A : Around} {E : Value → Shared → Prop} {s : Shared} {v : Value} {o : Obj} {H : Heap → Prop} {Q : Value → Shared → Prop} (B : Begins v o H) (h1 : H s.heap)
    (h : ∀ h', IsEnum h' (s.heap.objs.size + 1) s.heap.objs.size 0 .none → h'.get? s.heap.objs.size = some o → (∀ b u, s.heap.get? b = some u → h'.get? b = some u) → Q (.ref (s.heap.objs.size + 1)) { s with heap := h' }) :
    wpAny (model prog w) A (call (.type "enumerate") [v]) Q E s := by
  refine callType_new F.called_enumerate (by decide) (F.typeCall_enumerate_1 _) (F.newCall_enumerate_1 _) (fun obj => F.args_object_init_2 obj _) F.entry_enumerate_new (enum_newB B) ⟨h1, ?_⟩
  have sz : (s.heap.push o).objs.size = s.heap.objs.size + 1 := Heap.size_push ..
  have made : IsEnum ((s.heap.push o).push { cls := .type "enumerate", data := .fields #[.none, .bool false, .ref s.heap.objs.size, rawInt 0, .none, .none] }) (s.heap.objs.size + 1) s.heap.objs.size 0 .none := by
    have e := Heap.get?_push_size (s.heap.push o) (o := { cls := .type "enumerate", data := .fields #[.none, .bool false, .ref s.heap.objs.size, rawInt 0, .none, .none] }) rfl
    rw [sz] at e
    exact e
  rw [sz]
  exact ⟨⟨_, made, rfl⟩, h _ made (Heap.get?_push_of_some _ (Heap.get?_push_size _ B.free)) fun b u x => Heap.get?_push_of_some _ (Heap.get?_push_of_some _ x)⟩
/-- the tuple at a, numbered -/
def IteT (K : PySem.W.Frag) (a : Addr) : It :=
  ⟨fun i H => ∃ (xs : List V) (x : V), SqT K H a xs ∧ xs[i]? = some x, fun i H v H' => ∃ T x, v = .ref T ∧ H T = none ∧ H' = upd H T (.tup [.int (i : Nat), x]) ∧ ∀ xs, SqT K H a xs → xs[i]? = some x, fun i H => ∃ xs : List V, SqT K H a xs ∧ xs.length ≤ i⟩
theorem turn_enT {P : Program} {w : World} {K : PySem.W.Frag} {elts : List Expr} {kk : Nat} {tpos : Pos} (a e it : Addr) :
    Turn P w K (.Tuple elts kk tpos) (IteT K a) [e, it] e (fun i h => (∃ old, IsEnum h e it ((i : Nat) : Int) old) ∧ h.IsTupleIter it a i ∧ e ≠ it) where
  mem := by simp
  obj := fun i h st b hb => by
    obtain ⟨⟨old, he⟩, ⟨o, ho, hc, hd⟩, _⟩ := st
    simp only [List.mem_cons, List.not_mem_nil, or_false] at hb
    rcases hb with rfl | rfl
    · exact ⟨_, he, fun v q => nomatch q⟩
    · exact ⟨o, ho, fun v q => by rw [hd] at q; cases q⟩
  keep := fun i h h' st k => by
    obtain ⟨⟨old, he⟩, hi, hne⟩ := st
    exact ⟨⟨old, k e (by simp) _ he⟩, hi.at fun o q => k it (by simp) o q, hne⟩
  item := by
    intro X hP hw hK hc i pins s σ H E I hf st hg
    subst hP hw hK
    obtain ⟨⟨old, he⟩, hit, hne⟩ := st
    obtain ⟨xs, x, hq, hx⟩ := hg
    obtain ⟨its, rv, p, hz⟩ := I.tuple hq
    obtain ⟨u, hu, ru⟩ := rv.get hx
    have p' : s.heap.IsTuple a its.toArray := p
    have hel : e < s.heap.objs.size := Heap.lt_size he
    have hil : it < s.heap.objs.size := by
      obtain ⟨_, q, _⟩ := hit
      exact Heap.lt_size q
    have ia : a ≠ it := by
      rintro rfl
      obtain ⟨o1, q1, c1, _⟩ := hit
      obtain ⟨o2, q2, c2, _⟩ := p'
      rw [q1] at q2
      cases q2
      rw [c1] at c2
      simp at c2
    have ea : e ≠ a := by
      rintro rfl
      obtain ⟨o2, q2, c2, _⟩ := p'
      have q1 : s.heap.get? e = some _ := he
      rw [q1] at q2
      cases q2
      simp at c2
    have D := Draws.tuple (prog := X.prog) (w := X.w) (A := X.A.in1) (I.ok.hd hc) it a ia its.toArray
    refine wpAny_pyNext_enum_itemD (n := its.toArray.size) D he ⟨hit, p'⟩ (by have := (Array.getElem?_eq_some_iff.mp (show its.toArray[i]? = some u by simpa using hu)).1; exact this) hne (by simp; exact ⟨hne, ea⟩) fun y h' tk hy ho hst hT hsz hk => ?_
    have ey : y = u := by
      have e2 : its.toArray[i]? = some u := by simpa using hu
      rw [e2] at hy
      exact (Option.some.inj hy).symm
    subst ey
    refine ⟨_, rfl, wpAny_letOwnedTupleGo_enum (s := { s with heap := h', toks := tk + 1 }) ho fun h'' he' sb => ?_⟩
    have hT2 : h''.get? s.heap.objs.size = some { cls := .type "tuple", data := .seq #[.int i tk, y] } := (sb.2 _ (Nat.ne_of_gt hel)).trans hT
    have new : ObjOk X.prog X.w (upd H s.heap.objs.size (.tup [.int (i : Nat), x])) h'' s.heap.objs.size (.tup [.int (i : Nat), x]) :=
      ⟨by show 2 ≤ sizeLine; decide, [.int i tk, y], .cons ⟨_, rfl⟩ (.cons ru .nil), ⟨_, hT2, rfl, _, rfl⟩⟩
    have I1 : Inv X pins σ (upd H s.heap.objs.size (.tup [.int (i : Nat), x])) { s with heap := h'', toks := tk + 1 } := I.turnedNew (ch := [e, it]) (fun b ob hb q => by
      simp only [List.mem_cons, List.not_mem_nil, or_false, not_or] at hb
      exact (sb.2 b hb.1).trans (hk b ob hb.1 hb.2 q)) hf (Nat.le_refl _) new
    refine ⟨.ref s.heap.objs.size, _, I1, rfl, ⟨_, x, rfl, I.hok.fresh (Nat.le_refl _), rfl, fun ys hy => by rw [I.tuple_inj hy hq]; exact hx⟩, ⟨⟨y, ?_⟩, hst.1.at fun o q => (sb.2 it (Ne.symm hne)).trans q, hne⟩, fun b hb => ?_⟩
    · rw [show ((i + 1 : Nat) : Int) = (i : Int) + 1 by omega]
      exact he'
    · have hb' : b < s.heap.objs.size := by
        have hb2 := hb
        simp only [List.mem_cons, List.not_mem_nil, or_false] at hb2
        rcases hb2 with rfl | rfl <;> assumption
      rw [upd_ne (Nat.ne_of_lt hb')]
      exact (hf b hb).1
  done := by
    intro X hP hw hK hc i pins s σ H E I hf st hg
    subst hP hw hK
    obtain ⟨⟨old, he⟩, hit, hne⟩ := st
    obtain ⟨xs, hq, hx⟩ := hg
    obtain ⟨its, rv, p, hz⟩ := I.tuple hq
    have p' : s.heap.IsTuple a its.toArray := p
    have ia : a ≠ it := by
      rintro rfl
      obtain ⟨o1, q1, c1, _⟩ := hit
      obtain ⟨o2, q2, c2, _⟩ := p'
      rw [q1] at q2
      cases q2
      rw [c1] at c2
      simp at c2
    obtain ⟨f0, f1, f2, f3, f4, f5⟩ := hf it (by simp)
    have hl := rv.length
    have hT : s.TypeIs (.ref e) "enumerate" := ⟨_, he, rfl⟩
    have none : its.toArray[i]? = Option.none := by simp; omega
    unfold pyNext
    refine wpAny_bind (wpAny_attempt (wpAny_callSpecial?_slot (name := Str.ofString "__next__") hT F.slot_enumerate_next (wpAny_call_entry F.slot_enumerate_next hT F.entry_enumerate_next ?_ (F.args_enumerate_next_1 _))))
    show wpAny _ _ (field (.ref e) 2 >>= _) _ _ _
    refine wpAny_bind (wpAny_field he rfl (x := .ref it) rfl (wpAny_bind (wpAny_nextOf_tuple_end (show X.A.in1.handled = Option.none from I.ok.hd hc) hit p' none fun h' x hex hx' => ?_)))
    obtain ⟨o, ho, hc'⟩ := hx'
    refine wpAny_bind (wpAny_isInstance (T := "StopIteration") (b := true) ⟨o, ho, hc'⟩ isSubtype_stop (wpAny_pure ?_))
    exact ⟨rfl, I.turned (t' := s.toks) (fun b o hb q => hex b o hb q) f0 f1 f3 f4 f5⟩
  self := fun A i s Q E st h => wpAny_pyIter_enum st.1.choose_spec h
/-- the numbered items -/
def enumD : Nat → List D → List D
  | _, [] => []
  | n, d :: l => .tup [.int n, d] :: enumD (n + 1) l
theorem enumD_get : ∀ (l : List D) (n i : Nat), (enumD n l)[i]? = (l[i]?).map fun d => D.tup [.int ((n + i : Nat) : Int), d]
  | [], n, i => by simp [enumD]
  | d :: l, n, 0 => by simp [enumD]
  | d :: l, n, i + 1 => by
    simp only [enumD, List.getElem?_cons_succ]
    rw [enumD_get l (n + 1) i]
    have e : n + 1 + i = n + (i + 1) := by omega
    rw [e]
theorem enumD_len : ∀ (l : List D) (n : Nat), (enumD n l).length = l.length
  | [], _ => rfl
  | d :: l, n => by simp only [enumD, List.length_cons, enumD_len l (n + 1)]
def zipD : List D → List D → List D
  | a :: l, b :: m => .tup [a, b] :: zipD l m
  | _, _ => []
theorem zipD_get : ∀ (l m : List D) (i : Nat) (d : D), (zipD l m)[i]? = some d → ∃ a b, l[i]? = some a ∧ m[i]? = some b ∧ d = .tup [a, b]
  | a :: l, b :: m, 0, d, h => ⟨a, b, rfl, rfl, by simp [zipD] at h; exact h.symm⟩
  | a :: l, b :: m, i + 1, d, h => by
    simp only [zipD, List.getElem?_cons_succ] at h ⊢
    exact zipD_get l m i d h
  | [], _, i, d, h => by simp [zipD] at h
  | _ :: _, [], i, d, h => by simp [zipD] at h
theorem zipD_len : ∀ (l m : List D), (zipD l m).length = min l.length m.length
  | a :: l, b :: m => by
    simp only [zipD, List.length_cons, zipD_len l m]
    omega
  | [], _ => by simp [zipD]
  | _ :: _, [] => by simp [zipD]
section
variable {K : PySem.W.Frag} {F H : Hp} {k : Dk}
theorem at_pair {T : Addr} {a b : D} {x y : V} (hT : F T = none) (h1 : At K F k a x) (h2 : At K F k b y) : At K (upd F T (.tup [x, y])) k (.tup [a, b]) (.ref T) := by
  have g : Grow F (upd F T (.tup [x, y])) k k := ⟨fun c o q => by rw [upd_ne (ne_of_none q hT)]; exact q, fun _ q => q⟩
  simp only [At]
  exact ⟨T, [x, y], rfl, SqT.of upd_same, by
    simp only [Ats]
    exact ⟨_, _, rfl, At.grow g _ _ h1, _, _, rfl, At.grow g _ _ h2, rfl⟩⟩
theorem runs_enL {x : Addr} {vs : List V} {l : List D} (h : F x = some (.lst vs)) (hA : Ats K F k l vs) : Runs K (Ite K x) (enumD 0 l) F k := fun e env oa σ F' H k' i R g' => by
  have h' : H x = some (.lst vs) := R.wd.sub _ _ (g'.1 _ _ h)
  refine ⟨fun hl => ⟨vs, SqL.of h', by rw [← Ats.length hA]; rwa [enumD_len] at hl⟩, fun d hd => ?_⟩
  rw [enumD_get] at hd
  obtain ⟨c, hc, rfl⟩ := Option.map_eq_some_iff.mp hd
  obtain ⟨v, h1, h2⟩ := Ats.get hA i c hc
  refine ⟨⟨vs, v, SqL.of h', h1⟩, fun y H' hy => ?_⟩
  obtain ⟨T, z, rfl, hT, rfl, hz⟩ := hy
  have e2 := hz vs (SqL.of h')
  rw [h1] at e2
  cases e2
  obtain ⟨R2, g2⟩ := R.laid hT (.tup [.int (i : Nat), v])
  refine ⟨_, R2, g2, at_pair (R.wd.noF hT) (by simp [At]) (At.grow g' _ _ h2)⟩
theorem runs_enT {x : Addr} {vs : List V} {l : List D} (h : SqT K F x vs) (hA : Ats K F k l vs) : Runs K (IteT K x) (enumD 0 l) F k := fun e env oa σ F' H k' i R g' => by
  have h' : SqT K H x vs := sqT_grow R.wd.sub (sqT_grow g'.1 h)
  refine ⟨fun hl => ⟨vs, h', by rw [← Ats.length hA]; rwa [enumD_len] at hl⟩, fun d hd => ?_⟩
  rw [enumD_get] at hd
  obtain ⟨c, hc, rfl⟩ := Option.map_eq_some_iff.mp hd
  obtain ⟨v, h1, h2⟩ := Ats.get hA i c hc
  refine ⟨⟨vs, v, h', h1⟩, fun y H' hy => ?_⟩
  obtain ⟨T, z, rfl, hT, rfl, hz⟩ := hy
  have e2 := hz vs h'
  rw [h1] at e2
  cases e2
  obtain ⟨R2, g2⟩ := R.laid hT (.tup [.int (i : Nat), v])
  refine ⟨_, R2, g2, at_pair (R.wd.noF hT) (by simp [At]) (At.grow g' _ _ h2)⟩
end
def dEnum (f : DE) : DA := fun env Q => f env fun d env1 => match d with
  | .tup l => Q (enumD 0 l) env1
  | .lst l => Q (enumD 0 l) env1
  | _ => False
section
variable {wx : DX} {WW : WX} {ZZ : Fz} {X : Cx} {a b : Expr} {pos : Pos} {f g : DE}
theorem di_enum {elts : List Expr} {kk : Nat} {tpos p : Pos} (hg : Gl X "enumerate") (hm : X.mg "enumerate" = none) (h : PE X a (lift (X.kx wx WW ZZ) f)) (hs : starEach [a] X.env = [(false, eval a X.env)] := by rfl) :
    PI X (.Tuple elts kk tpos) (.Call (.Name "enumerate" p) [a] [] pos) (liftI (X.kx wx WW ZZ) (dEnum f)) := by
  refine ⟨fun pins s σ H Rr I ⟨e, env, oa, F, k, P, R, p, q⟩ => ?_⟩
  refine Call_ (ld_blt I hg hm boot_enumerate (PyProof.Rows.callWith_type1 (thn ((pa_cons h pa_nil hs).run pos pins s σ H (fun vs H1 => ∃ env1 oa1 F1 k1 d v, vs = [v] ∧ dEnum (fun _ Q => Q d env1) env1 P ∧ Rel (X.kx wx WW ZZ) e env1 oa1 σ F1 H1 k1 ∧ Grow F F1 k k1 ∧ At X.K F1 k1 d v) I ⟨e, env, oa, F, k, _, R, p, fun d env1 v oa1 F1 H1 k1 p1 R1 g1 a1 => ⟨env1, oa1, F1, k1, d, v, rfl, p1, R1, g1, a1⟩⟩) fun us s1 ⟨vs, H1, I1, r1, q1⟩ => ?_) hs rfl))
  obtain ⟨env1, oa1, F1, k1, d, v, rfl, p1, R1, g1, a1⟩ := q1
  cases r1 with
  | cons r rr =>
    cases rr
    have two : ∀ c, c ∈ [s1.heap.objs.size + 1, s1.heap.objs.size] → FpOk X pins H1 c := fun c hc => by
      simp only [List.mem_cons, List.not_mem_nil, or_false] at hc
      have le : s1.heap.objs.size ≤ c := by omega
      exact I1.fpOk le (I1.hok.fresh le)
    cases d with
    | lst l =>
      simp only [At] at a1
      obtain ⟨ad, vs, rfl, h1, h2⟩ := a1
      cases r
      obtain ⟨its, rv, pl, hz⟩ := I1.list (SqL.of (R1.wd.sub _ _ h1))
      refine enum_callB (begins_list ad its.toArray) pl.isList fun h' he ho hk => wpAny_pyIter_enum he ?_
      exact ⟨s1.heap.objs.size + 1, _, _, _, H1, rfl, I1.kept (t' := s1.toks) hk, turn_enum ad (s1.heap.objs.size + 1) s1.heap.objs.size, ⟨⟨.none, he⟩, ⟨_, ho, rfl, rfl⟩, Nat.succ_ne_self _⟩, two, q _ env1 oa1 F1 H1 k1 _ p1 R1 g1 (runs_enL h1 h2)⟩
    | tup l =>
      simp only [At] at a1
      obtain ⟨ad, vs, rfl, h1, h2⟩ := a1
      cases r
      obtain ⟨its, rv, pl, hz⟩ := I1.tuple (sqT_grow R1.wd.sub h1)
      refine enum_callB (begins_tuple ad its.toArray) (show s1.heap.IsTuple ad its.toArray from pl) fun h' he ho hk => wpAny_pyIter_enum he ?_
      exact ⟨s1.heap.objs.size + 1, _, _, _, H1, rfl, I1.kept (t' := s1.toks) hk, turn_enT ad (s1.heap.objs.size + 1) s1.heap.objs.size, ⟨⟨.none, he⟩, ⟨_, ho, rfl, rfl⟩, Nat.succ_ne_self _⟩, two, q _ env1 oa1 F1 H1 k1 _ p1 R1 g1 (runs_enT h1 h2)⟩
    | _ => exact p1.elim
def dZip (f g : DE) : DA := fun env Q => f env fun d env1 => g env1 fun d' env2 => match d, d' with
  | .tup l, .tup m => Q (zipD l m) env2
  | .lst l, .lst m => Q (zipD l m) env2
  | _, _ => False
theorem runs_zip {K : PySem.W.Frag} {F : Hp} {k : Dk} {x y : Addr} {vs us : List V} {l m : List D} (h : F x = some (.lst vs)) (hA : Ats K F k l vs) (h2 : F y = some (.lst us)) (hB : Ats K F k m us) : Runs K (Itz K x y) (zipD l m) F k := fun e env oa σ F' H k' i R g' => by
  have q1 : H x = some (.lst vs) := R.wd.sub _ _ (g'.1 _ _ h)
  have q2 : H y = some (.lst us) := R.wd.sub _ _ (g'.1 _ _ h2)
  refine ⟨fun hl => ⟨vs, us, SqL.of q1, SqL.of q2, by
    rw [zipD_len, Ats.length hA, Ats.length hB] at hl
    omega⟩, fun d hd => ?_⟩
  obtain ⟨a, b, ha, hb, rfl⟩ := zipD_get _ _ _ _ hd
  obtain ⟨v, v1, v2⟩ := Ats.get hA i a ha
  obtain ⟨u, u1, u2⟩ := Ats.get hB i b hb
  refine ⟨⟨vs, us, v, u, SqL.of q1, SqL.of q2, v1, u1⟩, fun z H' hy => ?_⟩
  obtain ⟨T, c, c2, rfl, hT, rfl, f1, f2⟩ := hy
  have e1 := f1 vs (SqL.of q1)
  have e2 := f2 us (SqL.of q2)
  rw [v1] at e1
  rw [u1] at e2
  cases e1
  cases e2
  obtain ⟨R2, g2⟩ := R.laid hT (.tup [v, u])
  exact ⟨_, R2, g2, at_pair (R.wd.noF hT) (At.grow g' _ _ v2) (At.grow g' _ _ u2)⟩
theorem runs_zipT {K : PySem.W.Frag} {F : Hp} {k : Dk} {x y : Addr} {vs us : List V} {l m : List D} (h : SqT K F x vs) (hA : Ats K F k l vs) (h2 : SqT K F y us) (hB : Ats K F k m us) : Runs K (RZ.ItzT K x y) (zipD l m) F k := fun e env oa σ F' H k' i R g' => by
  have q1 : SqT K H x vs := sqT_grow R.wd.sub (sqT_grow g'.1 h)
  have q2 : SqT K H y us := sqT_grow R.wd.sub (sqT_grow g'.1 h2)
  refine ⟨fun hl => ⟨vs, us, q1, q2, by
    rw [zipD_len, Ats.length hA, Ats.length hB] at hl
    omega⟩, fun d hd => ?_⟩
  obtain ⟨a, b, ha, hb, rfl⟩ := zipD_get _ _ _ _ hd
  obtain ⟨v, v1, v2⟩ := Ats.get hA i a ha
  obtain ⟨u, u1, u2⟩ := Ats.get hB i b hb
  refine ⟨⟨vs, us, v, u, q1, q2, v1, u1⟩, fun z H' hy => ?_⟩
  obtain ⟨T, c, c2, rfl, hT, rfl, f1, f2⟩ := hy
  have e1 := f1 vs q1
  have e2 := f2 us q2
  rw [v1] at e1
  rw [u1] at e2
  cases e1
  cases e2
  obtain ⟨R2, g2⟩ := R.laid hT (.tup [v, u])
  exact ⟨_, R2, g2, at_pair (R.wd.noF hT) (At.grow g' _ _ v2) (At.grow g' _ _ u2)⟩
theorem di_zip {elts : List Expr} {kk : Nat} {tpos p : Pos} (hg : Gl X "zip") (hm : X.mg "zip" = none) (h : PE X a (lift (X.kx wx WW ZZ) f)) (h2 : PE X b (lift (X.kx wx WW ZZ) g))
    (hs : starEach [a, b] X.env = [(false, eval a X.env), (false, eval b X.env)] := by rfl) (hs2 : starEach [b] X.env = [(false, eval b X.env)] := by rfl) :
    PI X (.Tuple elts kk tpos) (.Call (.Name "zip" p) [a, b] [] pos) (liftI (X.kx wx WW ZZ) (dZip f g)) :=
  (RZ.pi_zipA hg hm (pa_cons h (pa_cons h2 pa_nil hs2) (by rw [hs, hs2])) (by rw [hs, hs2]) (by rw [hs2]; rfl)).w fun σ H Rr ⟨e, env, oa, F, k, P, R, p, q⟩ =>
    ⟨e, env, oa, F, k, _, R, p, fun d env1 v oa1 F1 H1 k1 p1 R1 g1 a1 => ⟨e, env1, oa1, F1, k1, _, R1, p1, fun d' env2 v' oa2 F2 H2 k2 p2 R2 g2 a2 => by
      cases d with
      | lst l =>
        cases d' with
        | lst m =>
          simp only [At] at a1 a2
          obtain ⟨x, vs, rfl, x1, x2⟩ := a1
          obtain ⟨y, us, rfl, y1, y2⟩ := a2
          have x1' := g2.1 _ _ x1
          exact ⟨x, y, vs, us, rfl, .inl ⟨SqL.of (R2.wd.sub _ _ x1'), SqL.of (R2.wd.sub _ _ y1), q _ env2 oa2 F2 H2 k2 _ p2 R2 (g1.trans g2) (runs_zip x1' (Ats.grow g2 _ _ x2) y1 y2)⟩⟩
        | _ => exact p2.elim
      | tup l =>
        cases d' with
        | tup m =>
          simp only [At] at a1 a2
          obtain ⟨x, vs, rfl, x1, x2⟩ := a1
          obtain ⟨y, us, rfl, y1, y2⟩ := a2
          have x1' := sqT_grow g2.1 x1
          exact ⟨x, y, vs, us, rfl, .inr ⟨sqT_grow R2.wd.sub x1', sqT_grow R2.wd.sub y1, q _ env2 oa2 F2 H2 k2 _ p2 R2 (g1.trans g2) (runs_zipT x1' (Ats.grow g2 _ _ x2) y1 y2)⟩⟩
        | _ => exact p2.elim
      | _ => exact p2.elim⟩⟩
end
section
variable {env : Evn} {QA : List D → Evn → Prop} {f g : DE}
@[simp] theorem e_Enum : dEnum f env QA = f env fun d env1 => match d with | .tup l => QA (enumD 0 l) env1 | .lst l => QA (enumD 0 l) env1 | _ => False := rfl
@[simp] theorem e_Zip : dZip f g env QA = f env fun d env1 => g env1 fun d' env2 => match d, d' with | .tup l, .tup m => QA (zipD l m) env2 | .lst l, .lst m => QA (zipD l m) env2 | _, _ => False := rfl
@[simp] theorem enumD_nil {n : Nat} : enumD n [] = [] := rfl
@[simp] theorem enumD_cons {n : Nat} {d : D} {l : List D} : enumD n (d :: l) = .tup [.int n, d] :: enumD (n + 1) l := rfl
@[simp] theorem zipD_cons {a b : D} {l m : List D} : zipD (a :: l) (b :: m) = .tup [a, b] :: zipD l m := rfl
@[simp] theorem zipD_nl {m : List D} : zipD [] m = [] := by cases m <;> rfl
@[simp] theorem zipD_nr {l : List D} : zipD l [] = [] := by cases l <;> rfl
end
end DL
/-! ### lists unpacked; a dict with one number for a key -/
namespace DL
open PySem PySem.Spec L2
def gTL (n : Nat) (r : DGs) : DG := fun d env Q => match d with
  | .tup l => l.length = n ∧ r l env Q
  | .lst l => l.length = n ∧ r l env Q
  | _ => False
section
variable {wx : DX} {WW : WX} {ZZ : Fz} {X : Cx} {L : List Nat} {a : Expr} {es : List Expr} {pos : Pos} {f : DE} {tr : DGs}
theorem dg_tl {kk : Nat} {n : Nat} (hc : X.calm = true) (h : PGs X es (liftGs (X.kx wx WW ZZ) L tr)) (hn : (assignEach es X.env).length = n := by rfl) (hst : (assignEach es X.env).findIdx? (·.1) = none := by rfl) : PG X (.Tuple es kk pos) (liftG (X.kx wx WW ZZ) L (gTL n tr)) := by
  refine ⟨fun pins s σ H v u Q I r hw => ?_⟩
  obtain ⟨e, env, oa, F, k, d, P, R, hA, p, q⟩ := hw
  cases d with
  | tup l => exact (dg_tup hc h hn hst).run pins s σ H v u Q I r ⟨e, env, oa, F, k, .tup l, P, R, hA, p, q⟩
  | lst l =>
    obtain ⟨p1, p2⟩ := p
    simp only [At] at hA
    obtain ⟨x, vs, rfl, h1, h2⟩ := hA
    exact (pg_lst hc h hn hst).run pins s σ H _ u Q I r ⟨x, vs, rfl, SqL.of (R.wd.sub _ _ h1), by rw [← Ats.length h2]; exact p1, e, env, oa, F, k, l, P, R, h2, p2, q⟩
  | _ => exact p.elim
def dDicI (i : Int) (f : DE) : DE := fun env Q => f env fun d env1 => Q (.dic [(.inl i, d)]) env1
theorem dl_dicI {i : Int} {j : Nat} {kp : Pos} (h : PE X a (lift (X.kx wx WW ZZ) f)) : PE X (.Dict [some (.Constant (.int i) j kp)] [a] pos) (lift (X.kx wx WW ZZ) (dDicI i f)) :=
  (pe_disp (pps_cons pe_int h pps_nil) rfl rfl (by simp) (by show 1 ≤ 15; decide)).w fun σ H Q ⟨e, env, oa, F, k, P, R, p, q⟩ t ht => by
    obtain ⟨G, R1⟩ := R.guard (o := .dK []) ht
    refine ⟨_, env, oa, F, k, _, R1, p, fun d env2 v oa2 F2 H2 k2 p2 R2 g2 a2 => ?_⟩
    refine ⟨(R2.guarded G).1, [(.inl i, v)], rfl, (by show 1 ≤ 15; decide), ?_⟩
    obtain ⟨R3, g3⟩ := (R2.gset (R.lnk.grow g2) G (.dK [(.inl i, v)])).give (R.lnk.grow g2) G
    refine q _ env2 _ oa2 _ _ k2 p2 R3 (g2.trans g3) ?_
    simp only [At]
    refine ⟨t, [(.inl i, v)], rfl, upd_same, ?_⟩
    simp only [Atk]
    exact ⟨v, [], rfl, At.grow g3 _ _ a2, rfl⟩
end
section
variable {env : Evn} {Q : D → Evn → Prop} {R : Evn → Prop} {n : Nat} {tr : DGs} {l : List D} {i : Int} {f : DE}
@[simp] theorem e_TLt : gTL n tr (.tup l) env R = (l.length = n ∧ tr l env R) := rfl
@[simp] theorem e_TLl : gTL n tr (.lst l) env R = (l.length = n ∧ tr l env R) := rfl
@[simp] theorem e_DicI : dDicI i f env Q = f env fun d env1 => Q (.dic [(.inl i, d)]) env1 := rfl
end
end DL
/-! ### lists that are still grown, looked at -/
namespace DL
open PySem PySem.Spec L2
def plainR : D → Bool
  | .non | .bl _ | .int _ | .str _ => true
  | _ => false
theorem plainR.at {K : PySem.W.Frag} {F F' : Hp} {k k' : Dk} {d : D} {v : V} (h : plainR d = true) (a : At K F k d v) : At K F' k' d v := by
  cases d <;> simp only [At] at a ⊢ <;> first | exact a | (simp [plainR] at h)
section
variable {K : PySem.W.Frag} {e : Ent} {env : Evn} {oa : Nat → Addr} {σ : St} {F H : Hp} {k : Dk}
theorem Rel0.peeked (R : Rel0 K e env oa σ F H k) {i : Nat} {ds : List D} (hi : env[i]? = some (.own ds)) :
    ∃ F', Rel0 K ⟨H, F', k⟩ [] oa [] F' H k ∧ At K F' k (.lst ds) (.ref (oa i)) ∧ Grow F F' k k ∧ σ[i]? = some (some (.ref (oa i))) ∧
      ∀ oa3 F3 H3 k3, Rel0 K ⟨H, F', k⟩ [] oa3 [] F3 H3 k3 → ∃ F4, Rel0 K e env oa σ F4 H3 k3 ∧ Grow F F4 k k3 := by
  have W := R.wd
  obtain ⟨h1, ⟨vs, h2, h3⟩, h4, h5, h6⟩ := R.own i ds hi
  have g : Grow F (upd F (oa i) (.lst vs)) k k := ⟨fun a u q => by rw [upd_ne (ne_of_none q h4)]; exact q, fun _ q => q⟩
  have sub' : ∀ a o, upd F (oa i) (.lst vs) a = some o → H a = some o := fun a o q => by
    by_cases z : a = oa i
    · subst z
      rw [upd_same] at q
      cases q
      exact h2
    · rw [upd_ne z] at q
      exact W.sub a o q
  have W0 : Wd ⟨H, upd F (oa i) (.lst vs), k⟩ (upd F (oa i) (.lst vs)) H k := ⟨sub', fun _ _ q => q, fun _ _ q => .inl q, fun _ _ q _ => q, fun _ q => q, fun z p q => (by have z' : k = none := z; rw [z'] at q; cases q), fun p hp => by
    obtain ⟨d1, d2, d3⟩ := W.dk p hp
    obtain ⟨n1, n2⟩ := h6 p hp
    exact ⟨d1, by rw [upd_ne (Ne.symm n1)]; exact d2, by rw [upd_ne (Ne.symm n2)]; exact d3⟩⟩
  refine ⟨upd F (oa i) (.lst vs), ⟨W0, rfl, fun j d hj => by simp at hj, fun j d hj => by simp at hj, fun j l d d' hj => by simp at hj⟩, ?_, g, h1, fun oa3 F3 H3 k3 R3 => ?_⟩
  · simp only [At]
    exact ⟨_, vs, rfl, upd_same, Ats.grow g _ _ h3⟩
  · have V := R3.wd
    have ne : ∀ a o, F a = some o → a ≠ oa i := fun a o q => ne_of_none q h4
    have V4 : Wd ⟨H, F, k⟩ (fun a => if a = oa i then none else F3 a) H3 k3 := by
      refine ⟨fun a o q => ?_, fun a o q => ?_, fun a o q => ?_, V.fr, V.kk1, V.kk2, fun p hp => ?_⟩
      · by_cases z : a = oa i
        · rw [if_pos z] at q; cases q
        · rw [if_neg z] at q; exact V.sub a o q
      · show (if a = oa i then none else F3 a) = some o
        rw [if_neg (ne a o q)]
        exact V.ini a o (g.1 a o q)
      · by_cases z : a = oa i
        · rw [if_pos z] at q; cases q
        · rw [if_neg z] at q
          rcases V.new a o q with r | r
          · refine .inl ?_
            have r' : upd F (oa i) (.lst vs) a = some o := r
            rwa [upd_ne z] at r'
          · exact .inr r
      · obtain ⟨d1, d2, d3⟩ := V.dk p hp
        refine ⟨d1, ?_, ?_⟩
        · show (if p.1 = oa i then none else F3 p.1) = none
          split
          · rfl
          · exact d2
        · show (if p.2 = oa i then none else F3 p.2) = none
          split
          · rfl
          · exact d3
    exact ⟨_, (R.after V4).1, (R.after V4).2⟩
end
/-- an operation over a list that is grown behind it -/
def dBinO (o : DO) (f : DE) (i : Nat) : DE := fun env Q => f env fun x env1 => match env1[i]? with
  | some (.val d) => o x d fun z => Q z env1
  | some (.own ds) => o x (.lst ds) fun z => plainR z = true ∧ Q z env1
  | _ => False
def dOwnB (o : DO) (i : Nat) (g : DE) : DE := fun env Q => match env[i]? with
  | some (.val d) => g env fun y env1 => o d y fun z => Q z env1
  | some (.own _) => g env fun y env1 => match env1[i]? with
    | some (.own ds) => o (.lst ds) y fun z => plainR z = true ∧ Q z env1
    | _ => False
  | _ => False
def dBltO (o : DC) (i : Nat) : DE := fun env Q => match env[i]? with
  | some (.val d) => o [d] fun z => Q z env
  | some (.own ds) => o [.lst ds] fun z => plainR z = true ∧ Q z env
  | _ => False
section
variable {wx : DX} {WW : WX} {ZZ : Fz} {X : Cx} {a b : Expr} {pos : Pos} {f g : DE} {i : Nat}
theorem lift_binO {K : Kx} {r : R2} {o : DO} (L : OpL K.f r o) : ∀ σ H Q, lift K (dBinO o f i) σ H Q → tOp r (lift K f) (tVar i) σ H Q := fun σ H Q ⟨e, env, oa, F, k, P, R, p, q⟩ =>
  ⟨e, env, oa, F, k, _, R, p, fun x env1 vx oa1 F1 H1 k1 p1 R1 g1 a1 => by
    split at p1
    · rename_i d hd
      obtain ⟨v, h1, h2⟩ := R1.val i d hd
      exact ⟨v, h1, L e env1 oa1 σ F1 H1 k1 vx v x d Q _ R1.toRel0 a1 h2 p1 fun z u oa3 F3 H3 k3 p3 R3 g3 a3 => q z env1 u oa3 F3 H3 k3 p3 (R1.up R3 g3) (g1.trans g3) a3⟩
    · rename_i ds hd
      obtain ⟨F', R', hl, g', hs, back⟩ := R1.toRel0.peeked hd
      refine ⟨_, hs, L _ [] oa1 [] F' H1 k1 vx _ x (.lst ds) Q _ R' (At.grow g' _ _ a1) hl p1 fun z u oa3 F3 H3 k3 ⟨pz, p3⟩ R3 g3 a3 => ?_⟩
      obtain ⟨F4, R4, g4⟩ := back oa3 F3 H3 k3 R3
      exact q z env1 u oa1 F4 H3 k3 p3 (R1.up R4 g4) (g1.trans g4) (plainR.at pz a3)
    · exact p1.elim⟩
theorem lift_ownB {K : Kx} {r : R2} {o : DO} (L : OpL K.f r o) : ∀ σ H Q, lift K (dOwnB o i g) σ H Q → tOp r (tVar i) (lift K g) σ H Q := fun σ H Q ⟨e, env, oa, F, k, P, R, p, q⟩ => by
  unfold dOwnB at p
  split at p
  · rename_i d hd
    obtain ⟨v, h1, h2⟩ := R.val i d hd
    exact ⟨v, h1, e, env, oa, F, k, _, R, p, fun y env1 vy oa1 F1 H1 k1 p1 R1 g1 a1 => L e env1 oa1 σ F1 H1 k1 v vy d y Q _ R1.toRel0 (At.grow g1 _ _ h2) a1 p1 fun z u oa3 F3 H3 k3 p3 R3 g3 a3 => q z env1 u oa3 F3 H3 k3 p3 (R1.up R3 g3) (g1.trans g3) a3⟩
  · rename_i ds hd
    obtain ⟨h1, _⟩ := R.own i ds hd
    refine ⟨_, h1, e, env, oa, F, k, _, R, p, fun y env1 vy oa1 F1 H1 k1 p1 R1 g1 a1 => ?_⟩
    split at p1
    · rename_i es he
      obtain ⟨F', R', hl, g', hs, back⟩ := R1.toRel0.peeked he
      rw [h1] at hs
      have hs' : oa i = oa1 i := by
        simp only [Option.some.injEq, V.ref.injEq] at hs
        exact hs
      rw [hs']
      refine L _ [] oa1 [] F' H1 k1 _ vy (.lst es) y Q _ R' hl (At.grow g' _ _ a1) p1 fun z u oa3 F3 H3 k3 ⟨pz, p3⟩ R3 g3 a3 => ?_
      obtain ⟨F4, R4, g4⟩ := back oa3 F3 H3 k3 R3
      exact q z env1 u oa1 F4 H3 k3 p3 (R1.up R4 g4) (g1.trans g4) (plainR.at pz a3)
    · exact p1.elim
  · exact p.elim
theorem dl_binO {op : Operator} {o : DO} (O : OpD X (binaryOp op) o) (ha : PE X a (lift (X.kx wx WW ZZ) f)) (hb : PE X b (tVar i)) : PE X (.BinOp a op b pos) (lift (X.kx wx WW ZZ) (dBinO o f i)) := by
  obtain ⟨r, ho, L⟩ := O
  exact (pe_op ho ha hb).w (lift_binO (K := X.kx wx WW ZZ) L)
theorem dl_cmO {op : CmpOp} {o : DO} (O : OpD X (compareOp op) o) (ha : PE X a (lift (X.kx wx WW ZZ) f)) (hb : PE X b (tVar i)) (hm : behindInMarks op b = false) : PE X (.Compare a [op] [b] pos) (lift (X.kx wx WW ZZ) (dBinO o f i)) := by
  obtain ⟨r, ho, L⟩ := O
  exact (pe_cmpR ho ha hb hm).w (lift_binO (K := X.kx wx WW ZZ) L)
theorem dt_cmO {op : CmpOp} {o : DO} (O : OpD X (compareOp op) o) (ha : PE X a (lift (X.kx wx WW ZZ) f)) (hb : PE X b (tVar i)) (hm : behindInMarks op b = false) : PT X (.Compare a [op] [b] pos) (liftT (X.kx wx WW ZZ) (dTest (dBinO o f i))) := by
  obtain ⟨r, ho, L⟩ := O
  exact (pt_cmpR ho ha hb hm).w fun σ H Q h => by
    obtain ⟨e, env, oa, F, k, P, R, p, q⟩ := lift_test σ H Q h
    exact lift_binO (K := X.kx wx WW ZZ) L σ H _ ⟨e, env, oa, F, k, P, R, p, q⟩
theorem dl_ownB {op : Operator} {o : DO} (O : OpD X (binaryOp op) o) (ha : PE X a (tVar i)) (hb : PE X b (lift (X.kx wx WW ZZ) g)) : PE X (.BinOp a op b pos) (lift (X.kx wx WW ZZ) (dOwnB o i g)) := by
  obtain ⟨r, ho, L⟩ := O
  exact (pe_op ho ha hb).w (lift_ownB (K := X.kx wx WW ZZ) L)
theorem dl_ownC {op : CmpOp} {o : DO} (O : OpD X (compareOp op) o) (ha : PE X a (tVar i)) (hb : PE X b (lift (X.kx wx WW ZZ) g)) (hm : behindInMarks op b = false) : PE X (.Compare a [op] [b] pos) (lift (X.kx wx WW ZZ) (dOwnB o i g)) := by
  obtain ⟨r, ho, L⟩ := O
  exact (pe_cmpR ho ha hb hm).w (lift_ownB (K := X.kx wx WW ZZ) L)
theorem dt_ownC {op : CmpOp} {o : DO} (O : OpD X (compareOp op) o) (ha : PE X a (tVar i)) (hb : PE X b (lift (X.kx wx WW ZZ) g)) (hm : behindInMarks op b = false) : PT X (.Compare a [op] [b] pos) (liftT (X.kx wx WW ZZ) (dTest (dOwnB o i g))) := by
  obtain ⟨r, ho, L⟩ := O
  exact (pt_cmpR ho ha hb hm).w fun σ H Q h => by
    obtain ⟨e, env, oa, F, k, P, R, p, q⟩ := lift_test σ H Q h
    exact lift_ownB (K := X.kx wx WW ZZ) L σ H _ ⟨e, env, oa, F, k, P, R, p, q⟩
theorem ats1 {K : PySem.W.Frag} {F : Hp} {k : Dk} {d : D} {v : V} (h : At K F k d v) : Ats K F k [d] [v] := by
  simp only [Ats]
  exact ⟨v, [], rfl, h, rfl⟩
theorem lift_bltO {K : Kx} {r : List V → Hp → VK → Prop} {o : DC} (L : CallL K.f r o) : ∀ σ H Q, lift K (dBltO o i) σ H Q → tCB r (tCons (tVar i) tNil) σ H Q := fun σ H Q ⟨e, env, oa, F, k, P, R, p, q⟩ => by
  unfold dBltO at p
  split at p
  · rename_i d hd
    obtain ⟨v, h1, h2⟩ := R.val i d hd
    exact ⟨v, h1, L e env oa σ F H k [v] [d] Q _ R.toRel0 (ats1 h2) p fun z u oa3 F3 H3 k3 p3 R3 g3 a3 => q z env u oa3 F3 H3 k3 p3 (R.up R3 g3) g3 a3⟩
  · rename_i ds hd
    obtain ⟨F', R', hl, g', hs, back⟩ := R.toRel0.peeked hd
    refine ⟨_, hs, L _ [] oa [] F' H k [_] [.lst ds] Q _ R' (ats1 hl) p fun z u oa3 F3 H3 k3 ⟨pz, p3⟩ R3 g3 a3 => ?_⟩
    obtain ⟨F4, R4, g4⟩ := back oa3 F3 H3 k3 R3
    exact q z env u oa F4 H3 k3 p3 (R.up R4 g4) g4 (plainR.at pz a3)
  · exact p.elim
theorem dl_callBO {id : String} {e : Expr} {x : Str} {p : Pos} {o : DC} (C : CallD X (.builtin id) o) (hg : Gl X x) (hm : X.mg x = none) (hv : bootBuiltins x = some (.builtin id)) (ha : PE X e (tVar i)) (hn : x ≠ "__name__" := by decide) (hdb : (x == ("__debug__" : Str)) = false := by decide)
    (he : starEach [e] X.env = (false, eval e X.env) :: starEach [] X.env := by rfl) (hpl : (backTo pos (starEach [] X.env)).any (·.1) = false := by rfl) : PE X (.Call (.Name x p) [e] [] pos) (lift (X.kx wx WW ZZ) (dBltO o i)) := by
  obtain ⟨r, hc, L⟩ := C
  exact (pe_callB hc hg hm hv (pa_cons ha pa_nil he) hn hdb he hpl).w (lift_bltO (K := X.kx wx WW ZZ) L)
end
section
variable {env : Evn} {Q : D → Evn → Prop} {f g : DE} {i : Nat} {o : DO} {c : DC} {d : D} {ds : List D}
@[simp] theorem e_BinO : dBinO o f i env Q = f env fun x env1 => match env1[i]? with
  | some (.val d) => o x d fun z => Q z env1
  | some (.own ds) => o x (.lst ds) fun z => plainR z = true ∧ Q z env1
  | _ => False := rfl
@[simp] theorem e_OwnBv (h : env[i]? = some (.val d)) : dOwnB o i g env Q = g env fun y env1 => o d y fun z => Q z env1 := by unfold dOwnB; rw [h]
@[simp] theorem e_OwnBo (h : env[i]? = some (.own ds)) : dOwnB o i g env Q = g env fun y env1 => match env1[i]? with | some (.own ds) => o (.lst ds) y fun z => plainR z = true ∧ Q z env1 | _ => False := by unfold dOwnB; rw [h]
@[simp] theorem e_BltOv (h : env[i]? = some (.val d)) : dBltO c i env Q = c [d] fun z => Q z env := by unfold dBltO; rw [h]
@[simp] theorem e_BltOo (h : env[i]? = some (.own ds)) : dBltO c i env Q = c [.lst ds] fun z => plainR z = true ∧ Q z env := by unfold dBltO; rw [h]
@[simp] theorem plainR_bl {b : Bool} : plainR (.bl b) = true := rfl
@[simp] theorem plainR_int {b : Int} : plainR (.int b) = true := rfl
@[simp] theorem plainR_non : plainR .non = true := rfl
end
/-! ### a tuple some times -/
def oMulT : DO := fun x y G => match x, y with
  | .tup l, .int k => (l ≠ [] ∧ 2 ≤ k ∧ k ≤ 1000 ∧ l.length ≤ 1000) ∧ G (.tup (List.replicate k.toNat l).flatten)
  | _, _ => False
theorem opd_mulT {X : Cx} : OpD X (binaryOp .Mult) oMulT := by
  refine ⟨_, op_repT, fun e env oa σ F H k x y dx dy Q G R a1 a2 p q => ?_⟩
  unfold oMulT at p
  split at p
  · simp only [At] at a1 a2
    obtain ⟨ad1, v1, rfl, h1, r1⟩ := a1
    subst a2
    have hl := Ats.length r1
    refine ⟨ad1, _, v1, rfl, rfl, sqT_grow R.wd.sub h1, fun z => p.1.1 (by rw [z] at hl; exact List.eq_nil_of_length_eq_zero hl), p.1.2.1, p.1.2.2.1, by rw [← hl]; exact p.1.2.2.2, fun t ht => ?_⟩
    obtain ⟨R2, g2⟩ := R.laid ht (.tup (List.replicate _ v1).flatten)
    exact q _ _ oa _ _ k p.2 R2 g2 (by simp only [At]; exact ⟨t, _, rfl, SqT.of upd_same, (Ats.grow g2 _ _ r1).rep _⟩)
  · exact p.elim
section
variable {G : D → Prop} {l : List D} {k : Int}
@[simp] theorem o_mulT : oMulT (.tup l) (.int k) G = ((l ≠ [] ∧ 2 ≤ k ∧ k ≤ 1000 ∧ l.length ≤ 1000) ∧ G (.tup (List.replicate k.toNat l).flatten)) := rfl
end
/-- a comprehension without tests: as many members -/
theorem comp_each {g : DG} {t : DT} {f : DE} {vs : List Nat} {env : Evn} {QL : List D → Evn → Prop} (A : D → Prop) : ∀ (ds acc : List D), (∀ d ∈ ds, ∀ Q : Option D → Evn → Prop, (∀ y, A y → Q (some y) env) → turn g t f vs env d Q) → acc.length + ds.length ≤ 10000000 →
    (∀ ys, ys.length = ds.length → (∀ y ∈ ys, A y) → QL (acc ++ ys) env) → compL g t f vs ds acc env QL
  | [], acc, _, _, h => by
    have := h [] rfl (by simp)
    rw [List.append_nil] at this
    exact this
  | d :: ds, acc, ht, hl, h => by
    simp only [List.length_cons] at hl
    refine ht d (List.mem_cons_self ..) (fun o env' => match o with | some y => acc.length < 10000000 ∧ compL g t f vs ds (acc ++ [y]) env' QL | none => compL g t f vs ds acc env' QL) fun y hy => ⟨by omega, ?_⟩
    refine comp_each A ds (acc ++ [y]) (fun d' hd' => ht d' (List.mem_cons_of_mem _ hd')) (by rw [List.length_append, List.length_singleton]; omega) fun ys hl ha => ?_
    rw [List.append_assoc]
    refine h (y :: ys) (by rw [List.length_cons, hl, List.length_cons]) fun z hz => ?_
    rcases List.mem_cons.mp hz with rfl | hz
    · exact hy
    · exact ha z hz
section
variable {G : D → Prop} {a b : Bool}
@[simp] theorem o_ne_bl : oNe (.bl a) (.bl b) G = G (.bl (!(a == b))) := by
  have e1 : eqOk (.bl a) := .of rfl (by simp [lvl])
  have e2 : eqOk (.bl b) := .of rfl (by simp [lvl])
  have e3 : eqv (.bl a) (.bl b) = (a == b) := by cases a <;> cases b <;> simp [eqv, py, PyData.eqv]
  unfold oNe
  simp [e1, e2, e3]
@[simp] theorem o_eq_bl : oEq (.bl a) (.bl b) G = G (.bl (a == b)) := by
  have e1 : eqOk (.bl a) := .of rfl (by simp [lvl])
  have e2 : eqOk (.bl b) := .of rfl (by simp [lvl])
  have e3 : eqv (.bl a) (.bl b) = (a == b) := by cases a <;> cases b <;> simp [eqv, py, PyData.eqv]
  unfold oEq
  simp [e1, e2, e3]
end
/-! ### floor division by a great number of either sign -/
theorem op_fdivX {X : Cx} : OpR X (binaryOp .FloorDiv) (rI (fun _ j => j ≠ 0 ∧ j.natAbs.log2 < 9000) fun i j => .int (i.fdiv j)) := opI fun i j t u s Q E hc q => PyProof.Rows.floordiv_int hc.1 q (.inl (PyProof.noPylong_of_log2 hc.2))
def oDivX : DO := fun x y G => match x, y with
  | .int i, .int j => if 0 < j then j.natAbs.log2 < 9000 ∧ G (.int (i / j)) else (j < 0 ∧ j.natAbs.log2 < 9000) ∧ G (.int (i.fdiv j))
  | _, _ => False
theorem opd_divX {X : Cx} : OpD X (binaryOp .FloorDiv) oDivX := by
  refine ⟨_, op_fdivX, fun e env oa σ F H k x y dx dy Q G R a1 a2 p q => ?_⟩
  unfold oDivX at p
  split at p
  · rename_i i j
    simp only [At] at a1 a2
    subst a1 a2
    split at p
    · rename_i hj
      refine ⟨i, j, rfl, rfl, ⟨by omega, p.1⟩, ?_⟩
      show Q (.int (i.fdiv j)) H
      rw [Int.fdiv_eq_ediv_of_nonneg i (by omega)]
      exact q _ _ oa F H k p.2 R (Grow.refl _ _) (by simp only [At])
    · exact ⟨i, j, rfl, rfl, ⟨by omega, p.1.2⟩, q _ _ oa F H k p.2 R (Grow.refl _ _) (by simp only [At])⟩
  · exact p.elim
section
variable {G : D → Prop} {i j : Int}
@[simp] theorem o_divX : oDivX (.int i) (.int j) G = if 0 < j then j.natAbs.log2 < 9000 ∧ G (.int (i / j)) else (j < 0 ∧ j.natAbs.log2 < 9000) ∧ G (.int (i.fdiv j)) := rfl
end
end DL
namespace K03
open PySem PySem.Spec L2 DL
/-! ### the text -/
def top (i : Nat) : Stmt := PySem.Challenge.pw_rulertrees_k03_changes_move_places.main.body.getD i (.Pass ⟨0, 0, 0, 0⟩)
abbrev s_is_integer : Stmt := top 6
abbrev N_is_integer : List Str := ["thing"]
abbrev P_is_integer : List Str := ["thing"]
theorem sc_is_integer : FnScope N_is_integer P_is_integer (defScope s_is_integer) := ⟨rfl, rfl, rfl, by decide +kernel, rfl, by decide +kernel, by decide +kernel⟩
abbrev kw_is_integer : List (Nat × List Str × List Nat) := []
/-- lvl -/
abbrev lv_is_integer : Nat := 1
abbrev s_are_integers : Stmt := top 7
abbrev N_are_integers : List Str := ["thing", "many", "part"]
abbrev P_are_integers : List Str := ["thing", "many"]
theorem sc_are_integers : FnScope N_are_integers P_are_integers (defScope s_are_integers) := ⟨rfl, rfl, rfl, by decide +kernel, rfl, by decide +kernel, by decide +kernel⟩
abbrev kw_are_integers : List (Nat × List Str × List Nat) := []
/-- lvl -/
abbrev lv_are_integers : Nat := 2
abbrev s_common_divisor : Stmt := top 8
abbrev N_common_divisor : List Str := ["one", "other"]
abbrev P_common_divisor : List Str := ["one", "other"]
theorem sc_common_divisor : FnScope N_common_divisor P_common_divisor (defScope s_common_divisor) := ⟨rfl, rfl, rfl, by decide +kernel, rfl, by decide +kernel, by decide +kernel⟩
abbrev kw_common_divisor : List (Nat × List Str × List Nat) := []
/-- lvl -/
abbrev lv_common_divisor : Nat := 1
abbrev s_is_place : Stmt := top 10
abbrev N_is_place : List Str := ["thing"]
abbrev P_is_place : List Str := ["thing"]
theorem sc_is_place : FnScope N_is_place P_is_place (defScope s_is_place) := ⟨rfl, rfl, rfl, by decide +kernel, rfl, by decide +kernel, by decide +kernel⟩
abbrev kw_is_place : List (Nat × List Str × List Nat) := []
/-- lvl -/
abbrev lv_is_place : Nat := 3
abbrev s_place_of : Stmt := top 11
abbrev N_place_of : List Str := ["a", "b", "divisor"]
abbrev P_place_of : List Str := ["a", "b"]
theorem sc_place_of : FnScope N_place_of P_place_of (defScope s_place_of) := ⟨rfl, rfl, rfl, by decide +kernel, rfl, by decide +kernel, by decide +kernel⟩
abbrev kw_place_of : List (Nat × List Str × List Nat) := []
/-- lvl -/
abbrev lv_place_of : Nat := 2
abbrev s_is_change : Stmt := top 12
abbrev N_is_change : List Str := ["thing"]
abbrev P_is_change : List Str := ["thing"]
theorem sc_is_change : FnScope N_is_change P_is_change (defScope s_is_change) := ⟨rfl, rfl, rfl, by decide +kernel, rfl, by decide +kernel, by decide +kernel⟩
abbrev kw_is_change : List (Nat × List Str × List Nat) := []
/-- lvl -/
abbrev lv_is_change : Nat := 3
abbrev s_check_change : Stmt := top 13
abbrev N_check_change : List Str := ["thing"]
abbrev P_check_change : List Str := ["thing"]
theorem sc_check_change : FnScope N_check_change P_check_change (defScope s_check_change) := ⟨rfl, rfl, rfl, by decide +kernel, rfl, by decide +kernel, by decide +kernel⟩
abbrev kw_check_change : List (Nat × List Str × List Nat) := []
/-- lvl -/
abbrev lv_check_change : Nat := 4
abbrev s_move : Stmt := top 14
abbrev N_move : List Str := ["change", "place", "p", "q", "r", "s", "a", "b"]
abbrev P_move : List Str := ["change", "place"]
theorem sc_move : FnScope N_move P_move (defScope s_move) := ⟨rfl, rfl, rfl, by decide +kernel, rfl, by decide +kernel, by decide +kernel⟩
abbrev kw_move : List (Nat × List Str × List Nat) := []
/-- lvl -/
abbrev lv_move : Nat := 3
abbrev s_moved : Stmt := top 15
abbrev N_moved : List Str := ["change", "place"]
abbrev P_moved : List Str := ["change", "place"]
theorem sc_moved : FnScope N_moved P_moved (defScope s_moved) := ⟨rfl, rfl, rfl, by decide +kernel, rfl, by decide +kernel, by decide +kernel⟩
abbrev kw_moved : List (Nat × List Str × List Nat) := [(0, ["place", "change"], [1, 0])]
/-- lvl -/
abbrev lv_moved : Nat := 5
abbrev s_product : Stmt := top 16
abbrev N_product : List Str := ["one", "other", "p", "q", "r", "s", "t", "u", "v", "w"]
abbrev P_product : List Str := ["one", "other"]
theorem sc_product : FnScope N_product P_product (defScope s_product) := ⟨rfl, rfl, rfl, by decide +kernel, rfl, by decide +kernel, by decide +kernel⟩
abbrev kw_product : List (Nat × List Str × List Nat) := []
/-- lvl -/
abbrev lv_product : Nat := 1
abbrev s_change_product : Stmt := top 17
abbrev N_change_product : List Str := ["one", "other"]
abbrev P_change_product : List Str := ["one", "other"]
theorem sc_change_product : FnScope N_change_product P_change_product (defScope s_change_product) := ⟨rfl, rfl, rfl, by decide +kernel, rfl, by decide +kernel, by decide +kernel⟩
abbrev kw_change_product : List (Nat × List Str × List Nat) := [(0, ["other", "one"], [1, 0])]
/-- lvl -/
abbrev lv_change_product : Nat := 5
abbrev s_change_inverse : Stmt := top 18
abbrev N_change_inverse : List Str := ["change", "p", "q", "r", "s"]
abbrev P_change_inverse : List Str := ["change"]
theorem sc_change_inverse : FnScope N_change_inverse P_change_inverse (defScope s_change_inverse) := ⟨rfl, rfl, rfl, by decide +kernel, rfl, by decide +kernel, by decide +kernel⟩
abbrev kw_change_inverse : List (Nat × List Str × List Nat) := [(0, ["change"], [0])]
/-- lvl -/
abbrev lv_change_inverse : Nat := 5
abbrev s__law_deck : Stmt := top 20
abbrev N__law_deck : List Str := ["script", "cells", "mixed", "cell"]
abbrev P__law_deck : List Str := ["script"]
theorem sc__law_deck : FnScope N__law_deck P__law_deck (defScope s__law_deck) := ⟨rfl, rfl, rfl, by decide +kernel, rfl, by decide +kernel, by decide +kernel⟩
abbrev kw__law_deck : List (Nat × List Str × List Nat) := []
/-- lvl -/
abbrev lv__law_deck : Nat := 1
abbrev s__law_draw : Stmt := top 21
abbrev N__law_draw : List Str := ["deck", "limit", "cell", "mixed"]
abbrev P__law_draw : List Str := ["deck", "limit"]
theorem sc__law_draw : FnScope N__law_draw P__law_draw (defScope s__law_draw) := ⟨rfl, rfl, rfl, by decide +kernel, rfl, by decide +kernel, by decide +kernel⟩
abbrev kw__law_draw : List (Nat × List Str × List Nat) := []
/-- lvl -/
abbrev lv__law_draw : Nat := 1
abbrev s__law_pick : Stmt := top 22
abbrev N__law_pick : List Str := ["deck", "some"]
abbrev P__law_pick : List Str := ["deck", "some"]
theorem sc__law_pick : FnScope N__law_pick P__law_pick (defScope s__law_pick) := ⟨rfl, rfl, rfl, by decide +kernel, rfl, by decide +kernel, by decide +kernel⟩
abbrev kw__law_pick : List (Nat × List Str × List Nat) := []
/-- lvl -/
abbrev lv__law_pick : Nat := 2
abbrev s__law_divisor : Stmt := top 23
abbrev N__law_divisor : List Str := ["one", "other"]
abbrev P__law_divisor : List Str := ["one", "other"]
theorem sc__law_divisor : FnScope N__law_divisor P__law_divisor (defScope s__law_divisor) := ⟨rfl, rfl, rfl, by decide +kernel, rfl, by decide +kernel, by decide +kernel⟩
abbrev kw__law_divisor : List (Nat × List Str × List Nat) := []
/-- lvl -/
abbrev lv__law_divisor : Nat := 1
abbrev s__law_place : Stmt := top 24
abbrev N__law_place : List Str := ["one", "other", "divisor"]
abbrev P__law_place : List Str := ["one", "other"]
theorem sc__law_place : FnScope N__law_place P__law_place (defScope s__law_place) := ⟨rfl, rfl, rfl, by decide +kernel, rfl, by decide +kernel, by decide +kernel⟩
abbrev kw__law_place : List (Nat × List Str × List Nat) := []
/-- lvl -/
abbrev lv__law_place : Nat := 2
abbrev s__law_signed : Stmt := top 25
abbrev N__law_signed : List Str := ["deck", "limit", "found"]
abbrev P__law_signed : List Str := ["deck", "limit"]
theorem sc__law_signed : FnScope N__law_signed P__law_signed (defScope s__law_signed) := ⟨rfl, rfl, rfl, by decide +kernel, rfl, by decide +kernel, by decide +kernel⟩
abbrev kw__law_signed : List (Nat × List Str × List Nat) := []
/-- lvl -/
abbrev lv__law_signed : Nat := 2
abbrev s__law_drawn_place : Stmt := top 26
abbrev N__law_drawn_place : List Str := ["deck", "one", "other"]
abbrev P__law_drawn_place : List Str := ["deck"]
theorem sc__law_drawn_place : FnScope N__law_drawn_place P__law_drawn_place (defScope s__law_drawn_place) := ⟨rfl, rfl, rfl, by decide +kernel, rfl, by decide +kernel, by decide +kernel⟩
abbrev kw__law_drawn_place : List (Nat × List Str × List Nat) := []
/-- lvl -/
abbrev lv__law_drawn_place : Nat := 3
abbrev s__law_change : Stmt := top 27
abbrev N__law_change : List Str := ["deck", "limit", "p", "q", "r", "s", "turn"]
abbrev P__law_change : List Str := ["deck"]
theorem sc__law_change : FnScope N__law_change P__law_change (defScope s__law_change) := ⟨rfl, rfl, rfl, by decide +kernel, rfl, by decide +kernel, by decide +kernel⟩
abbrev kw__law_change : List (Nat × List Str × List Nat) := []
/-- lvl -/
abbrev lv__law_change : Nat := 3
abbrev s__law_moved : Stmt := top 28
abbrev N__law_moved : List Str := ["change", "place", "p", "q", "r", "s"]
abbrev P__law_moved : List Str := ["change", "place"]
theorem sc__law_moved : FnScope N__law_moved P__law_moved (defScope s__law_moved) := ⟨rfl, rfl, rfl, by decide +kernel, rfl, by decide +kernel, by decide +kernel⟩
abbrev kw__law_moved : List (Nat × List Str × List Nat) := []
/-- lvl -/
abbrev lv__law_moved : Nat := 3
abbrev s__law_product : Stmt := top 29
abbrev N__law_product : List Str := ["one", "other", "p", "q", "r", "s", "t", "u", "v", "w"]
abbrev P__law_product : List Str := ["one", "other"]
theorem sc__law_product : FnScope N__law_product P__law_product (defScope s__law_product) := ⟨rfl, rfl, rfl, by decide +kernel, rfl, by decide +kernel, by decide +kernel⟩
abbrev kw__law_product : List (Nat × List Str × List Nat) := []
/-- lvl -/
abbrev lv__law_product : Nat := 1
abbrev s__law_told : Stmt := top 30
abbrev N__law_told : List Str := ["way", "one", "other", "e"]
abbrev P__law_told : List Str := ["way", "one", "other"]
theorem sc__law_told : FnScope N__law_told P__law_told (defScope s__law_told) := ⟨rfl, rfl, rfl, by decide +kernel, rfl, by decide +kernel, by decide +kernel⟩
abbrev kw__law_told : List (Nat × List Str × List Nat) := []
/-- lvl -/
abbrev lv__law_told : Nat := 6
abbrev s__law_are_told : Stmt := top 31
abbrev N__law_are_told : List Str := ["ways", "one", "other", "due", "way"]
abbrev P__law_are_told : List Str := ["ways", "one", "other", "due"]
theorem sc__law_are_told : FnScope N__law_are_told P__law_are_told (defScope s__law_are_told) := ⟨rfl, rfl, rfl, by decide +kernel, rfl, by decide +kernel, by decide +kernel⟩
abbrev kw__law_are_told : List (Nat × List Str × List Nat) := []
/-- lvl -/
abbrev lv__law_are_told : Nat := 7
abbrev s__law_no_change : Stmt := top 32
abbrev N__law_no_change : List Str := ["deck", "change", "p", "q", "r", "s", "some"]
abbrev P__law_no_change : List Str := ["deck", "change"]
theorem sc__law_no_change : FnScope N__law_no_change P__law_no_change (defScope s__law_no_change) := ⟨rfl, rfl, rfl, by decide +kernel, rfl, by decide +kernel, by decide +kernel⟩
abbrev kw__law_no_change : List (Nat × List Str × List Nat) := []
/-- lvl -/
abbrev lv__law_no_change : Nat := 3
abbrev s__law_no_place : Stmt := top 33
abbrev N__law_no_place : List Str := ["deck", "place", "one", "other", "some"]
abbrev P__law_no_place : List Str := ["deck", "place"]
theorem sc__law_no_place : FnScope N__law_no_place P__law_no_place (defScope s__law_no_place) := ⟨rfl, rfl, rfl, by decide +kernel, rfl, by decide +kernel, by decide +kernel⟩
abbrev kw__law_no_place : List (Nat × List Str × List Nat) := []
/-- lvl -/
abbrev lv__law_no_place : Nat := 3
abbrev s__law_are_refused : Stmt := top 34
abbrev N__law_are_refused : List Str := ["deck", "change", "place", "bad", "other", "spot", "due"]
abbrev P__law_are_refused : List Str := ["deck", "change", "place"]
theorem sc__law_are_refused : FnScope N__law_are_refused P__law_are_refused (defScope s__law_are_refused) := ⟨rfl, rfl, rfl, by decide +kernel, rfl, by decide +kernel, by decide +kernel⟩
abbrev kw__law_are_refused : List (Nat × List Str × List Nat) := []
/-- lvl -/
abbrev lv__law_are_refused : Nat := 8
abbrev s_law : Stmt := top 35
abbrev N_law : List Str := ["script", "deck", "one", "other", "third", "places", "both", "back", "goals", "place", "goal", "at", "great", "steep", "far", "few", "turn", "it", "spot", "change"]
abbrev P_law : List Str := ["script"]
theorem sc_law : FnScope N_law P_law (defScope s_law) := ⟨rfl, rfl, rfl, by decide +kernel, rfl, by decide +kernel, by decide +kernel⟩
abbrev kw_law : List (Nat × List Str × List Nat) := []
abbrev XN : List Str := ["RulerError", "AllZero", "BadPlace", "BadChange"]
abbrev FS : List Str := ["thing"]
abbrev i_BadChange : Stmt := inClass (top 4) 0
abbrev i_BadPlace : Stmt := inClass (top 3) 0
structure Zs (mg : Str → Option Value) : Prop where
  z_abs : mg "abs" = none
  z_all : mg "all" = none
  z_bool : mg "bool" = none
  z_enumerate : mg "enumerate" = none
  z_int : mg "int" = none
  z_isinstance : mg "isinstance" = none
  z_len : mg "len" = none
  z_max : mg "max" = none
  z_range : mg "range" = none
  z_repr : mg "repr" = none
  z_tuple : mg "tuple" = none
  z_zip : mg "zip" = none
/-! ### what each def promises -/
structure Ok (d : D) : Prop where
  lf : leaf d = true
  sz : nds d ≤ 100000
def plD : D → Bool
  | .tup [.int a, .int b] => (decide (0 < b) && Nat.gcd a.natAbs b.natAbs == 1) || (a == 1 && b == 0)
  | _ => false
def chD : D → Bool
  | .tup [.int a, .int b, .int c, .int e] => !(a * e == b * c)
  | _ => false
def plV (a b : Int) : D := if b = 0 then .tup [.int 1, .int 0] else if 0 < b then .tup [.int (a / Nat.gcd a.natAbs b.natAbs), .int (b / Nat.gcd a.natAbs b.natAbs)] else .tup [.int (-(a / Nat.gcd a.natAbs b.natAbs)), .int (-(b / Nat.gcd a.natAbs b.natAbs))]
def mvD : D → D → D
  | .tup [.int p, .int q, .int r, .int s], .tup [.int x, .int y] => plV (p * x + q * y) (r * x + s * y)
  | _, _ => .non
def Fit (_ _ : D) : Prop := True
def prD : D → D → D
  | .tup [.int p, .int q, .int r, .int s], .tup [.int t, .int u, .int v, .int w] => .tup [.int (p * t + q * v), .int (p * u + q * w), .int (r * t + s * v), .int (r * u + s * w)]
  | _, _ => .non
def invD : D → D
  | .tup [.int p, .int q, .int r, .int s] => .tup [.int s, .int (-q), .int (-r), .int p]
  | _ => .non
def tellD (w : Int) (a b : D) : D :=
  if chD a = false then .tup [.str "change", a, .bl true]
  else if w = 0 ∨ w = 1 then (if plD b = false then .tup [.str "place", b, .bl true] else .tup [.str "told", mvD a b])
  else if w = 2 ∨ w = 3 then (if chD b = false then .tup [.str "change", b, .bl true] else .tup [.str "told", prD a b])
  else .tup [.str "told", invD a]
abbrev S_is_integer : SD := S_isint
abbrev S_are_integers : SD := S_areints
abbrev S_common_divisor : SD := S_gcd
abbrev S__law_divisor : SD := S_gcd
abbrev S__law_deck : SD := S_deck 0
abbrev S__law_draw : SD := S_draw 0
def S_is_place : SD := fun ds P _ => match ds with
  | [d] => Ok d ∧ P (.bl (plD d))
  | _ => False
def S_is_change : SD := fun ds P _ => match ds with
  | [d] => Ok d ∧ P (.bl (chD d))
  | _ => False
def S_place_of : SD := fun ds P _ => match ds with
  | [.int a, .int b] => (Lt 900 a ∧ Lt 900 b) ∧ ¬ (a = 0 ∧ b = 0) ∧ P (plV a b)
  | _ => False
def S_check_change : SD := fun ds P PX => match ds with
  | [d] => Ok d ∧ (chD d = false → PX ("BadChange", [("thing", d)])) ∧ (chD d = true → P .non)
  | _ => False
def S_move : SD := fun ds P _ => match ds with
  | [.tup [.int p, .int q, .int r, .int s], .tup [.int x, .int y]] => (Lt 400 p ∧ Lt 400 q ∧ Lt 400 r ∧ Lt 400 s) ∧ (Lt 400 x ∧ Lt 400 y) ∧ ¬ (p * x + q * y = 0 ∧ r * x + s * y = 0) ∧ P (plV (p * x + q * y) (r * x + s * y))
  | _ => False
def S_moved : SD := fun ds P PX => match ds with
  | [a, b] => (Ok a ∧ Ok b) ∧ (chD a = false → PX ("BadChange", [("thing", a)])) ∧ (chD a = true → plD b = false → PX ("BadPlace", [("thing", b)])) ∧ (chD a = true → plD b = true → Fit a b ∧ P (mvD a b))
  | _ => False
def S_product : SD := fun ds P _ => match ds with
  | [.tup [.int p, .int q, .int r, .int s], .tup [.int t, .int u, .int v, .int w]] => (Lt 400 p ∧ Lt 400 q ∧ Lt 400 r ∧ Lt 400 s) ∧ (Lt 400 t ∧ Lt 400 u ∧ Lt 400 v ∧ Lt 400 w) ∧ P (.tup [.int (p * t + q * v), .int (p * u + q * w), .int (r * t + s * v), .int (r * u + s * w)])
  | _ => False
def S_change_product : SD := fun ds P PX => match ds with
  | [a, b] => (Ok a ∧ Ok b) ∧ (chD a = false → PX ("BadChange", [("thing", a)])) ∧ (chD a = true → chD b = false → PX ("BadChange", [("thing", b)])) ∧ (chD a = true → chD b = true → P (prD a b))
  | _ => False
def S_change_inverse : SD := fun ds P PX => match ds with
  | [a] => Ok a ∧ (chD a = false → PX ("BadChange", [("thing", a)])) ∧ (chD a = true → P (invD a))
  | _ => False
def S__law_pick : SD := fun ds P _ => match ds with
  | [.deck m, .lst l] => m = 0 ∧ l ≠ [] ∧ l.length ≤ 1000000 ∧ ∀ d ∈ l, P d
  | _ => False
def S__law_place : SD := fun ds P _ => match ds with
  | [.int a, .int b] => (Lt 400 a ∧ Lt 400 b) ∧ P (plV a b)
  | _ => False
def S__law_signed : SD := fun ds P _ => match ds with
  | [.deck m, .int k] => m = 0 ∧ 0 < k ∧ k ≤ 10000 ∧ ∀ i : Int, Lt 14 i → P (.int i)
  | _ => False
def S__law_drawn_place : SD := fun ds P _ => match ds with
  | [.deck m] => m = 0 ∧ ∀ x y : Int, plD (.tup [.int x, .int y]) = true → Lt 15 x → Lt 15 y → P (.tup [.int x, .int y])
  | _ => False
def S__law_change : SD := fun ds P _ => match ds with
  | [.deck m] => m = 0 ∧ ∀ p q r s : Int, p * s ≠ q * r → Lt 15 p → Lt 15 q → Lt 15 r → Lt 15 s → P (.tup [.int p, .int q, .int r, .int s])
  | _ => False
def S__law_moved : SD := fun ds P _ => match ds with
  | [.tup [.int p, .int q, .int r, .int s], .tup [.int x, .int y]] => (Lt 150 p ∧ Lt 150 q ∧ Lt 150 r ∧ Lt 150 s) ∧ (Lt 150 x ∧ Lt 150 y) ∧ P (plV (p * x + q * y) (r * x + s * y))
  | _ => False
def S__law_product : SD := fun ds P _ => match ds with
  | [.tup [.int p, .int q, .int r, .int s], .tup [.int t, .int u, .int v, .int w]] => (Lt 400 p ∧ Lt 400 q ∧ Lt 400 r ∧ Lt 400 s) ∧ (Lt 400 t ∧ Lt 400 u ∧ Lt 400 v ∧ Lt 400 w) ∧ P (.tup [.int (p * t + q * v), .int (p * u + q * w), .int (r * t + s * v), .int (r * u + s * w)])
  | _ => False
def S__law_told : SD := fun ds P _ => match ds with
  | [.int w, a, b] => (Ok a ∧ Ok b) ∧ (w = 0 ∨ w = 1 → chD a = true → plD b = true → Fit a b) ∧ P (tellD w a b)
  | _ => False
def S__law_are_told : SD := fun ds P _ => match ds with
  | [.lst ws, a, b, d] => (Ok a ∧ Ok b) ∧ ws.length ≤ 10 ∧ ShowOk d ∧ (∀ e ∈ ws, ∃ w : Int, e = .int w ∧ (w = 0 ∨ w = 1 → chD a = true → plD b = true → Fit a b) ∧ tellD w a b = d) ∧ P (.bl true)
  | _ => False
def S__law_no_change : SD := fun ds P _ => match ds with
  | [.deck n, .tup [.int p, .int q, .int r, .int s]] => n = 0 ∧ (Lt 15 p ∧ Lt 15 q ∧ Lt 15 r ∧ Lt 15 s) ∧ ∀ d, Ok d → chD d = false → ShowOk (.tup [.str "change", d, .bl true]) → P d
  | _ => False
def S__law_no_place : SD := fun ds P _ => match ds with
  | [.deck n, .tup [.int x, .int y]] => n = 0 ∧ (Lt 15 x ∧ Lt 15 y) ∧ ∀ d, Ok d → plD d = false → ShowOk (.tup [.str "place", d, .bl true]) → P d
  | _ => False
def S__law_are_refused : SD := fun ds P _ => match ds with
  | [.deck n, .tup [.int p, .int q, .int r, .int s], .tup [.int x, .int y]] => n = 0 ∧ (Lt 15 p ∧ Lt 15 q ∧ Lt 15 r ∧ Lt 15 s) ∧ p * s ≠ q * r ∧ (Lt 15 x ∧ Lt 15 y) ∧ P (.bl true)
  | _ => False
section
variable {P : Program} {w : World} {K : PySem.W.Frag} {mg : Str → Option Value} {base : Heap} {a : Addr}
def g_is_integer : DS := (dRet (dAndV (dBlt cIsi (dCons (dVar 0) (dCons (dC (.raw (.ty "int"))) dNil))) (dNotV (dBlt cIsi (dCons (dVar 0) (dCons (dC (.raw (.ty "bool"))) dNil))))))
theorem w_is_integer (z : Zs mg)  : ∀ (cdv : Value) (A : Around) (outer : List PySem.Env) (s : Shared) (H : Hp) (E : XK), A.guards = some [] → Room 0 (A.deeper (PyProof.Rows.envOfC "is_integer" (defScope s_is_integer) s.heap.objs.size a cdv)) →
    PSs (cxOf (L2.CX P w) P w K mg base N_is_integer "is_integer" (defScope s_is_integer) a cdv A outer s H E).nox (defBody s_is_integer) (liftS (k0 K mg) g_is_integer) := by
  intro cdv A outer s H E gd hr
  exact (ds_one (ds_ret (dl_and (dl_callB cd_isi (by rfl) z.z_isinstance bt_isinstance (da_cons (dl_var (pv 0)) (da_cons (dl_raw (pe_bltn (by rfl) z.z_int bt_int (by exact rfl))) da_nil))) (dl_one (dl_not (dl_callB cd_isi (by rfl) z.z_isinstance bt_isinstance (da_cons (dl_var (pv 0)) (da_cons (dl_raw (pe_bltn (by rfl) z.z_bool bt_bool (by exact rfl))) da_nil))))))))
def g_are_integers : DS := (dRet (dAndV (dBlt cIsi (dCons (dVar 0) (dCons (dC (.raw (.ty "tuple"))) dNil))) (dAndV (dBin oEq (dBlt cLen (dCons (dVar 0) dNil)) (dVar 1)) (dBlt cAll (dCons (dLc (dItems (dVar 0)) (gName 2) dYes (dCall S_is_integer (dCons (dVar 2) dNil)) [2]) dNil)))))
theorem w_are_integers (z : Zs mg) (C_is_integer : Cal P w K mg base "is_integer" P_is_integer lv_is_integer kw_is_integer S_is_integer) : ∀ (cdv : Value) (A : Around) (outer : List PySem.Env) (s : Shared) (H : Hp) (E : XK), A.guards = some [] → Room 1 (A.deeper (PyProof.Rows.envOfC "are_integers" (defScope s_are_integers) s.heap.objs.size a cdv)) →
    PSs (cxOf (L2.CX P w) P w K mg base N_are_integers "are_integers" (defScope s_are_integers) a cdv A outer s H E).nox (defBody s_are_integers) (liftS (k0 K mg) g_are_integers) := by
  intro cdv A outer s H E gd hr
  exact (ds_one (ds_ret (dl_and (dl_callB cd_isi (by rfl) z.z_isinstance bt_isinstance (da_cons (dl_var (pv 0)) (da_cons (dl_raw (pe_bltn (by rfl) z.z_tuple bt_tuple (by exact rfl))) da_nil))) (dl_and (dl_cm (opd_eq hr.units) (dl_callB cd_len (by rfl) z.z_len bt_len (da_cons (dl_var (pv 0)) da_nil)) (dl_var (pv 1)) (nomark _)) (dl_one (dl_callB (cd_all rfl) (by rfl) z.z_all bt_all (da_cons (dl_lc (own := [("part", 2)]) rfl sc_are_integers.nd (di_items (dl_var (pv 0))) (blkOk_by (N := N_are_integers) (sc := defScope s_are_integers) (by decide +kernel)) (fun _ _ _ _ _ => (dg_name (pg_name (i := 2) sc_are_integers.nd rfl (by first | exact Or.inl rfl | exact Or.inr rfl)))) (fun _ _ _ _ _ => dts_nil) (fun _ _ _ _ _ => (dc C_is_integer gd (hr.mono (by decide)) (by rfl) (da_cons (dl_var (pv 2)) da_nil))) (by decide)) da_nil)))))))
def g_common_divisor : DS := (dSeq (dPar 0 1 (dCons (dBlt cAbs (dCons (dVar 0) dNil)) (dCons (dBlt cAbs (dCons (dVar 1) dNil)) dNil)))
  (dSeq (dWhile (dTest (dBin oNe (dVar 1) (dC (.int 0)))) (dPar 0 1 (dCons (dVar 1) (dCons (dBin oMod (dVar 0) (dVar 1)) dNil))))
  (dRet (dVar 0))))
theorem w_common_divisor (z : Zs mg)  : ∀ (cdv : Value) (A : Around) (outer : List PySem.Env) (s : Shared) (H : Hp) (E : XK), A.guards = some [] → Room 0 (A.deeper (PyProof.Rows.envOfC "common_divisor" (defScope s_common_divisor) s.heap.objs.size a cdv)) →
    PSs (cxOf (L2.CX P w) P w K mg base N_common_divisor "common_divisor" (defScope s_common_divisor) a cdv A outer s H E).nox (defBody s_common_divisor) (liftS (k0 K mg) g_common_divisor) := by
  intro cdv A outer s H E gd hr
  exact (ds_cons ((ps_par (i := 0) (j := 1) (by rfl) sc_common_divisor.nd rfl rfl (by decide) rfl rfl (da_cons (dl_callB cd_abs (by rfl) z.z_abs bt_abs (da_cons (dl_var (pv 0)) da_nil)) (da_cons (dl_callB cd_abs (by rfl) z.z_abs bt_abs (da_cons (dl_var (pv 1)) da_nil)) da_nil)) (by rfl)).w lift_par)
  (ds_cons (ds_while PassesOwn.never (dt_cm (opd_ne hr.units) (dl_var (pv 1)) dl_int (nomark _)) (ds_one ((ps_par (i := 0) (j := 1) (by rfl) sc_common_divisor.nd rfl rfl (by decide) rfl rfl (da_cons (dl_var (pv 1)) (da_cons (dl_bin opd_mod (dl_var (pv 0)) (dl_var (pv 1))) da_nil)) (by rfl)).w lift_par)))
  (ds_one (ds_ret (dl_var (pv 0))))))
def g_is_place : DS := (dSeq (dIf (dNot (dTest (dCall S_are_integers (dCons (dVar 0) (dCons (dC (.int 2)) dNil))))) (dRet (dC (.bl false))) dNext)
  (dRet (dOrV (dBin oEq (dVar 0) (dTup (dCons (dC (.int 1)) (dCons (dC (.int 0)) dNil)))) (dAndV (dBin oGt (dBin oIx (dVar 0) (dC (.int 1))) (dC (.int 0))) (dBin oEq (dCall S_common_divisor (dCons (dBin oIx (dVar 0) (dC (.int 0))) (dCons (dBin oIx (dVar 0) (dC (.int 1))) dNil))) (dC (.int 1)))))))
theorem w_is_place (z : Zs mg) (C_are_integers : Cal P w K mg base "are_integers" P_are_integers lv_are_integers kw_are_integers S_are_integers) (C_common_divisor : Cal P w K mg base "common_divisor" P_common_divisor lv_common_divisor kw_common_divisor S_common_divisor) : ∀ (cdv : Value) (A : Around) (outer : List PySem.Env) (s : Shared) (H : Hp) (E : XK), A.guards = some [] → Room 2 (A.deeper (PyProof.Rows.envOfC "is_place" (defScope s_is_place) s.heap.objs.size a cdv)) →
    PSs (cxOf (L2.CX P w) P w K mg base N_is_place "is_place" (defScope s_is_place) a cdv A outer s H E).nox (defBody s_is_place) (liftS (k0 K mg) g_is_place) := by
  intro cdv A outer s H E gd hr
  exact (ds_cons (ds_if (dt_not (dt_val (dc C_are_integers gd (hr.mono (by decide)) (by rfl) (da_cons (dl_var (pv 0)) (da_cons dl_int da_nil))))) (ds_one (ds_ret dl_bl)) ds_nil)
  (ds_one (ds_ret (dl_or (dl_cm (opd_eq hr.units) (dl_var (pv 0)) (dl_tup (da_cons dl_int (da_cons dl_int da_nil))) (nomark _)) (dl_one (dl_and (dl_cm opd_gt (dl_ix (dl_var (pv 0)) dl_int) dl_int (nomark _)) (dl_one (dl_cm (opd_eq hr.units) (dc C_common_divisor gd (hr.mono (by decide)) (by rfl) (da_cons (dl_ix (dl_var (pv 0)) dl_int) (da_cons (dl_ix (dl_var (pv 0)) dl_int) da_nil))) dl_int (nomark _)))))))))
def g_place_of : DS := (dSeq (dIf (dAnd (dTest (dBin oEq (dVar 0) (dC (.int 0)))) (dTest (dBin oEq (dVar 1) (dC (.int 0))))) dOut dNext)
  (dSeq (dAsg (dCall S_common_divisor (dCons (dVar 0) (dCons (dVar 1) dNil))) (gName 2))
  (dSeq (dIf (dOr (dTest (dBin oLt (dVar 1) (dC (.int 0)))) (dAnd (dTest (dBin oEq (dVar 1) (dC (.int 0)))) (dTest (dBin oLt (dVar 0) (dC (.int 0)))))) (dAsg (dNeg (dVar 2)) (gName 2)) dNext)
  (dRet (dTup (dCons (dBin oDivX (dVar 0) (dVar 2)) (dCons (dBin oDivX (dVar 1) (dVar 2)) dNil)))))))
theorem w_place_of (z : Zs mg) (C_common_divisor : Cal P w K mg base "common_divisor" P_common_divisor lv_common_divisor kw_common_divisor S_common_divisor) : ∀ (cdv : Value) (A : Around) (outer : List PySem.Env) (s : Shared) (H : Hp) (E : XK), A.guards = some [] → Room 1 (A.deeper (PyProof.Rows.envOfC "place_of" (defScope s_place_of) s.heap.objs.size a cdv)) →
    PSs (cxOf (L2.CX P w) P w K mg base N_place_of "place_of" (defScope s_place_of) a cdv A outer s H E).nox (defBody s_place_of) (liftS (k0 K mg) g_place_of) := by
  intro cdv A outer s H E gd hr
  exact (ds_cons (ds_if (dw_and (dt_cm (opd_eq hr.units) (dl_var (pv 0)) dl_int (nomark _)) (dw_and1 (dt_cm (opd_eq hr.units) (dl_var (pv 1)) dl_int (nomark _)))).pt (ds_one ds_out1) ds_nil)
  (ds_cons (ds_set (i := 2) sc_place_of.nd rfl (Or.inl rfl) (dc C_common_divisor gd (hr.mono (by decide)) (by rfl) (da_cons (dl_var (pv 0)) (da_cons (dl_var (pv 1)) da_nil))))
  (ds_cons (ds_if (dw_or (dt_cm opd_lt (dl_var (pv 1)) dl_int (nomark _)) (dw_or1 (dw_and (dt_cm (opd_eq hr.units) (dl_var (pv 1)) dl_int (nomark _)) (dw_and1 (dt_cm opd_lt (dl_var (pv 0)) dl_int (nomark _)))).pt)).pt (ds_one (ds_set (i := 2) sc_place_of.nd rfl (Or.inl rfl) (dl_neg (dl_var (pv 2))))) ds_nil)
  (ds_one (ds_ret (dl_tup (da_cons (dl_bin opd_divX (dl_var (pv 0)) (dl_var (pv 2))) (da_cons (dl_bin opd_divX (dl_var (pv 1)) (dl_var (pv 2))) da_nil))))))))
def g_is_change : DS := (dRet (dAndV (dCall S_are_integers (dCons (dVar 0) (dCons (dC (.int 4)) dNil))) (dBin oNe (dBin oSub (dBin oMul (dBin oIx (dVar 0) (dC (.int 0))) (dBin oIx (dVar 0) (dC (.int 3)))) (dBin oMul (dBin oIx (dVar 0) (dC (.int 1))) (dBin oIx (dVar 0) (dC (.int 2))))) (dC (.int 0)))))
theorem w_is_change (z : Zs mg) (C_are_integers : Cal P w K mg base "are_integers" P_are_integers lv_are_integers kw_are_integers S_are_integers) : ∀ (cdv : Value) (A : Around) (outer : List PySem.Env) (s : Shared) (H : Hp) (E : XK), A.guards = some [] → Room 2 (A.deeper (PyProof.Rows.envOfC "is_change" (defScope s_is_change) s.heap.objs.size a cdv)) →
    PSs (cxOf (L2.CX P w) P w K mg base N_is_change "is_change" (defScope s_is_change) a cdv A outer s H E).nox (defBody s_is_change) (liftS (k0 K mg) g_is_change) := by
  intro cdv A outer s H E gd hr
  exact (ds_one (ds_ret (dl_and (dc C_are_integers gd (hr.mono (by decide)) (by rfl) (da_cons (dl_var (pv 0)) (da_cons dl_int da_nil))) (dl_one (dl_cm (opd_ne hr.units) (dl_bin opd_sub (dl_bin opd_mul (dl_ix (dl_var (pv 0)) dl_int) (dl_ix (dl_var (pv 0)) dl_int)) (dl_bin opd_mul (dl_ix (dl_var (pv 0)) dl_int) (dl_ix (dl_var (pv 0)) dl_int))) dl_int (nomark _))))))
def g_check_change (wx : DX) : DS := (dIf (dNot (dTest (dCall S_is_change (dCons (dVar 0) dNil)))) (dRaise1 wx "BadChange" "thing" (dVar 0)) dNext)
theorem w_check_change (z : Zs mg) (r_BadChange : XR1 K mg "BadChange" "thing") (C_is_change : Cal P w K mg base "is_change" P_is_change lv_is_change kw_is_change S_is_change) : ∀ (cdv : Value) (A : Around) (outer : List PySem.Env) (s : Shared) (H : Hp) (E : XK) (wx : DX), A.guards = some [] → Room 3 (A.deeper (PyProof.Rows.envOfC "check_change" (defScope s_check_change) s.heap.objs.size a cdv)) →
    PSs (cxOf (L2.CX P w) P w K mg base N_check_change "check_change" (defScope s_check_change) a cdv A outer s H E) (defBody s_check_change) (liftS ⟨K, mg, wx, fun cls d _ H' => E cls d H', Fz.tt⟩ (g_check_change wx)) := by
  intro cdv A outer s H E wx gd hr
  have tk : Takes (cxOf (L2.CX P w) P w K mg base N_check_change "check_change" (defScope s_check_change) a cdv A outer s H E) (fun cls d _ H' => E cls d H') := takes_of rfl rfl rfl rfl
  have po : PassesOwn (model P w) (cxOf (L2.CX P w) P w K mg base N_check_change "check_change" (defScope s_check_change) a cdv A outer s H E).A (cxOf (L2.CX P w) P w K mg base N_check_change "check_change" (defScope s_check_change) a cdv A outer s H E).env (cxOf (L2.CX P w) P w K mg base N_check_change "check_change" (defScope s_check_change) a cdv A outer s H E).xe := PassesOwn.leaving
  exact (ds_one (ds_if (dt_not (dt_val (dc C_is_change gd (hr.mono (by decide)) (by rfl) (da_cons (dl_var (pv 0)) da_nil)))) (ds_one (dr1 r_BadChange rfl tk hr (by rfl) (dl_var (pv 0)))) ds_nil))
def g_move : DS := (dSeq (dAsg (dVar 0) (gTup 4 (gCons (gName 2) (gCons (gName 3) (gCons (gName 4) (gCons (gName 5) gNil))))))
  (dSeq (dAsg (dVar 1) (gTup 2 (gCons (gName 6) (gCons (gName 7) gNil))))
  (dRet (dCall S_place_of (dCons (dBin oAdd (dBin oMul (dVar 2) (dVar 6)) (dBin oMul (dVar 3) (dVar 7))) (dCons (dBin oAdd (dBin oMul (dVar 4) (dVar 6)) (dBin oMul (dVar 5) (dVar 7))) dNil))))))
theorem w_move (z : Zs mg) (C_place_of : Cal P w K mg base "place_of" P_place_of lv_place_of kw_place_of S_place_of) : ∀ (cdv : Value) (A : Around) (outer : List PySem.Env) (s : Shared) (H : Hp) (E : XK), A.guards = some [] → Room 2 (A.deeper (PyProof.Rows.envOfC "move" (defScope s_move) s.heap.objs.size a cdv)) →
    PSs (cxOf (L2.CX P w) P w K mg base N_move "move" (defScope s_move) a cdv A outer s H E).nox (defBody s_move) (liftS (k0 K mg) g_move) := by
  intro cdv A outer s H E gd hr
  exact (ds_cons (ds_asg (dl_var (pv 0)) (dg_tup rfl (dg_cons (dg_name (pg_name (i := 2) sc_move.nd rfl (Or.inl rfl))) (dg_cons (dg_name (pg_name (i := 3) sc_move.nd rfl (Or.inl rfl))) (dg_cons (dg_name (pg_name (i := 4) sc_move.nd rfl (Or.inl rfl))) (dg_cons (dg_name (pg_name (i := 5) sc_move.nd rfl (Or.inl rfl))) dg_nil))))))
  (ds_cons (ds_asg (dl_var (pv 1)) (dg_tup rfl (dg_cons (dg_name (pg_name (i := 6) sc_move.nd rfl (Or.inl rfl))) (dg_cons (dg_name (pg_name (i := 7) sc_move.nd rfl (Or.inl rfl))) dg_nil))))
  (ds_one (ds_ret (dc C_place_of gd (hr.mono (by decide)) (by rfl) (da_cons (dl_bin opd_add (dl_bin opd_mul (dl_var (pv 2)) (dl_var (pv 6))) (dl_bin opd_mul (dl_var (pv 3)) (dl_var (pv 7)))) (da_cons (dl_bin opd_add (dl_bin opd_mul (dl_var (pv 4)) (dl_var (pv 6))) (dl_bin opd_mul (dl_var (pv 5)) (dl_var (pv 7)))) da_nil)))))))
def g_moved (wx : DX) : DS := (dSeq (dDrop (dCallX wx S_check_change (dCons (dVar 0) dNil)))
  (dSeq (dIf (dNot (dTest (dCall S_is_place (dCons (dVar 1) dNil)))) (dRaise1 wx "BadPlace" "thing" (dVar 1)) dNext)
  (dRet (dCall S_move (dCons (dVar 0) (dCons (dVar 1) dNil))))))
theorem w_moved (z : Zs mg) (r_BadPlace : XR1 K mg "BadPlace" "thing") (C_check_change : Cal P w K mg base "check_change" P_check_change lv_check_change kw_check_change S_check_change) (C_is_place : Cal P w K mg base "is_place" P_is_place lv_is_place kw_is_place S_is_place) (C_move : Cal P w K mg base "move" P_move lv_move kw_move S_move) : ∀ (cdv : Value) (A : Around) (outer : List PySem.Env) (s : Shared) (H : Hp) (E : XK) (wx : DX), A.guards = some [] → Room 4 (A.deeper (PyProof.Rows.envOfC "moved" (defScope s_moved) s.heap.objs.size a cdv)) →
    PSs (cxOf (L2.CX P w) P w K mg base N_moved "moved" (defScope s_moved) a cdv A outer s H E) (defBody s_moved) (liftS ⟨K, mg, wx, fun cls d _ H' => E cls d H', Fz.tt⟩ (g_moved wx)) := by
  intro cdv A outer s H E wx gd hr
  have tk : Takes (cxOf (L2.CX P w) P w K mg base N_moved "moved" (defScope s_moved) a cdv A outer s H E) (fun cls d _ H' => E cls d H') := takes_of rfl rfl rfl rfl
  have po : PassesOwn (model P w) (cxOf (L2.CX P w) P w K mg base N_moved "moved" (defScope s_moved) a cdv A outer s H E).A (cxOf (L2.CX P w) P w K mg base N_moved "moved" (defScope s_moved) a cdv A outer s H E).env (cxOf (L2.CX P w) P w K mg base N_moved "moved" (defScope s_moved) a cdv A outer s H E).xe := PassesOwn.leaving
  exact (ds_cons (ds_expr (dcx C_check_change tk gd (hr.mono (by decide)) (by rfl) (da_cons (dl_var (pv 0)) da_nil)))
  (ds_cons (ds_if (dt_not (dt_val (dc C_is_place gd (hr.mono (by decide)) (by rfl) (da_cons (dl_var (pv 1)) da_nil)))) (ds_one (dr1 r_BadPlace rfl tk hr (by rfl) (dl_var (pv 1)))) ds_nil)
  (ds_one (ds_ret (dc C_move gd (hr.mono (by decide)) (by rfl) (da_cons (dl_var (pv 0)) (da_cons (dl_var (pv 1)) da_nil)))))))
def g_product : DS := (dSeq (dAsg (dVar 0) (gTup 4 (gCons (gName 2) (gCons (gName 3) (gCons (gName 4) (gCons (gName 5) gNil))))))
  (dSeq (dAsg (dVar 1) (gTup 4 (gCons (gName 6) (gCons (gName 7) (gCons (gName 8) (gCons (gName 9) gNil))))))
  (dRet (dTup (dCons (dBin oAdd (dBin oMul (dVar 2) (dVar 6)) (dBin oMul (dVar 3) (dVar 8))) (dCons (dBin oAdd (dBin oMul (dVar 2) (dVar 7)) (dBin oMul (dVar 3) (dVar 9))) (dCons (dBin oAdd (dBin oMul (dVar 4) (dVar 6)) (dBin oMul (dVar 5) (dVar 8))) (dCons (dBin oAdd (dBin oMul (dVar 4) (dVar 7)) (dBin oMul (dVar 5) (dVar 9))) dNil))))))))
theorem w_product (z : Zs mg)  : ∀ (cdv : Value) (A : Around) (outer : List PySem.Env) (s : Shared) (H : Hp) (E : XK), A.guards = some [] → Room 0 (A.deeper (PyProof.Rows.envOfC "product" (defScope s_product) s.heap.objs.size a cdv)) →
    PSs (cxOf (L2.CX P w) P w K mg base N_product "product" (defScope s_product) a cdv A outer s H E).nox (defBody s_product) (liftS (k0 K mg) g_product) := by
  intro cdv A outer s H E gd hr
  exact (ds_cons (ds_asg (dl_var (pv 0)) (dg_tup rfl (dg_cons (dg_name (pg_name (i := 2) sc_product.nd rfl (Or.inl rfl))) (dg_cons (dg_name (pg_name (i := 3) sc_product.nd rfl (Or.inl rfl))) (dg_cons (dg_name (pg_name (i := 4) sc_product.nd rfl (Or.inl rfl))) (dg_cons (dg_name (pg_name (i := 5) sc_product.nd rfl (Or.inl rfl))) dg_nil))))))
  (ds_cons (ds_asg (dl_var (pv 1)) (dg_tup rfl (dg_cons (dg_name (pg_name (i := 6) sc_product.nd rfl (Or.inl rfl))) (dg_cons (dg_name (pg_name (i := 7) sc_product.nd rfl (Or.inl rfl))) (dg_cons (dg_name (pg_name (i := 8) sc_product.nd rfl (Or.inl rfl))) (dg_cons (dg_name (pg_name (i := 9) sc_product.nd rfl (Or.inl rfl))) dg_nil))))))
  (ds_one (ds_ret (dl_tup (da_cons (dl_bin opd_add (dl_bin opd_mul (dl_var (pv 2)) (dl_var (pv 6))) (dl_bin opd_mul (dl_var (pv 3)) (dl_var (pv 8)))) (da_cons (dl_bin opd_add (dl_bin opd_mul (dl_var (pv 2)) (dl_var (pv 7))) (dl_bin opd_mul (dl_var (pv 3)) (dl_var (pv 9)))) (da_cons (dl_bin opd_add (dl_bin opd_mul (dl_var (pv 4)) (dl_var (pv 6))) (dl_bin opd_mul (dl_var (pv 5)) (dl_var (pv 8)))) (da_cons (dl_bin opd_add (dl_bin opd_mul (dl_var (pv 4)) (dl_var (pv 7))) (dl_bin opd_mul (dl_var (pv 5)) (dl_var (pv 9)))) da_nil)))))))))
def g_change_product (wx : DX) : DS := (dSeq (dDrop (dCallX wx S_check_change (dCons (dVar 0) dNil)))
  (dSeq (dDrop (dCallX wx S_check_change (dCons (dVar 1) dNil)))
  (dRet (dCall S_product (dCons (dVar 0) (dCons (dVar 1) dNil))))))
theorem w_change_product (z : Zs mg) (C_check_change : Cal P w K mg base "check_change" P_check_change lv_check_change kw_check_change S_check_change) (C_product : Cal P w K mg base "product" P_product lv_product kw_product S_product) : ∀ (cdv : Value) (A : Around) (outer : List PySem.Env) (s : Shared) (H : Hp) (E : XK) (wx : DX), A.guards = some [] → Room 4 (A.deeper (PyProof.Rows.envOfC "change_product" (defScope s_change_product) s.heap.objs.size a cdv)) →
    PSs (cxOf (L2.CX P w) P w K mg base N_change_product "change_product" (defScope s_change_product) a cdv A outer s H E) (defBody s_change_product) (liftS ⟨K, mg, wx, fun cls d _ H' => E cls d H', Fz.tt⟩ (g_change_product wx)) := by
  intro cdv A outer s H E wx gd hr
  have tk : Takes (cxOf (L2.CX P w) P w K mg base N_change_product "change_product" (defScope s_change_product) a cdv A outer s H E) (fun cls d _ H' => E cls d H') := takes_of rfl rfl rfl rfl
  have po : PassesOwn (model P w) (cxOf (L2.CX P w) P w K mg base N_change_product "change_product" (defScope s_change_product) a cdv A outer s H E).A (cxOf (L2.CX P w) P w K mg base N_change_product "change_product" (defScope s_change_product) a cdv A outer s H E).env (cxOf (L2.CX P w) P w K mg base N_change_product "change_product" (defScope s_change_product) a cdv A outer s H E).xe := PassesOwn.leaving
  exact (ds_cons (ds_expr (dcx C_check_change tk gd (hr.mono (by decide)) (by rfl) (da_cons (dl_var (pv 0)) da_nil)))
  (ds_cons (ds_expr (dcx C_check_change tk gd (hr.mono (by decide)) (by rfl) (da_cons (dl_var (pv 1)) da_nil)))
  (ds_one (ds_ret (dc C_product gd (hr.mono (by decide)) (by rfl) (da_cons (dl_var (pv 0)) (da_cons (dl_var (pv 1)) da_nil)))))))
def g_change_inverse (wx : DX) : DS := (dSeq (dDrop (dCallX wx S_check_change (dCons (dVar 0) dNil)))
  (dSeq (dAsg (dVar 0) (gTup 4 (gCons (gName 1) (gCons (gName 2) (gCons (gName 3) (gCons (gName 4) gNil))))))
  (dRet (dTup (dCons (dVar 4) (dCons (dNeg (dVar 2)) (dCons (dNeg (dVar 3)) (dCons (dVar 1) dNil))))))))
theorem w_change_inverse (z : Zs mg) (C_check_change : Cal P w K mg base "check_change" P_check_change lv_check_change kw_check_change S_check_change) : ∀ (cdv : Value) (A : Around) (outer : List PySem.Env) (s : Shared) (H : Hp) (E : XK) (wx : DX), A.guards = some [] → Room 4 (A.deeper (PyProof.Rows.envOfC "change_inverse" (defScope s_change_inverse) s.heap.objs.size a cdv)) →
    PSs (cxOf (L2.CX P w) P w K mg base N_change_inverse "change_inverse" (defScope s_change_inverse) a cdv A outer s H E) (defBody s_change_inverse) (liftS ⟨K, mg, wx, fun cls d _ H' => E cls d H', Fz.tt⟩ (g_change_inverse wx)) := by
  intro cdv A outer s H E wx gd hr
  have tk : Takes (cxOf (L2.CX P w) P w K mg base N_change_inverse "change_inverse" (defScope s_change_inverse) a cdv A outer s H E) (fun cls d _ H' => E cls d H') := takes_of rfl rfl rfl rfl
  have po : PassesOwn (model P w) (cxOf (L2.CX P w) P w K mg base N_change_inverse "change_inverse" (defScope s_change_inverse) a cdv A outer s H E).A (cxOf (L2.CX P w) P w K mg base N_change_inverse "change_inverse" (defScope s_change_inverse) a cdv A outer s H E).env (cxOf (L2.CX P w) P w K mg base N_change_inverse "change_inverse" (defScope s_change_inverse) a cdv A outer s H E).xe := PassesOwn.leaving
  exact (ds_cons (ds_expr (dcx C_check_change tk gd (hr.mono (by decide)) (by rfl) (da_cons (dl_var (pv 0)) da_nil)))
  (ds_cons (ds_asg (dl_var (pv 0)) (dg_tup rfl (dg_cons (dg_name (pg_name (i := 1) sc_change_inverse.nd rfl (Or.inl rfl))) (dg_cons (dg_name (pg_name (i := 2) sc_change_inverse.nd rfl (Or.inl rfl))) (dg_cons (dg_name (pg_name (i := 3) sc_change_inverse.nd rfl (Or.inl rfl))) (dg_cons (dg_name (pg_name (i := 4) sc_change_inverse.nd rfl (Or.inl rfl))) dg_nil))))))
  (ds_one (ds_ret (dl_tup (da_cons (dl_var (pv 4)) (da_cons (dl_neg (dl_var (pv 2))) (da_cons (dl_neg (dl_var (pv 3))) (da_cons (dl_var (pv 1)) da_nil)))))))))
def g__law_deck : DS := (dSeq (dPar 1 2 (dCons (dLc (dItems (dSlice (dVar 0) dNoP (dSomeP (dC (.int 63))))) (gName 3) dYes (dBlt cInt (dCons (dVar 3) dNil)) [3]) (dCons (dC (.int 1087703)) dNil)))
  (dSeq (dFor (dItems (dVar 1)) (gName 3) (dAsg (dBin oMod (dBin oAdd (dBin oAdd (dBin oMul (dVar 2) (dC (.int 16807))) (dBin oMod (dVar 3) (dC (.int 2147483549)))) (dC (.int 20))) (dC (.int 2147483587))) (gName 2)))
  (dRet (dDisp ["cells", "mixed", "turn"] [(dRev (dVar 1)), (dVar 2), (dC (.int 0))]))))
theorem w__law_deck (z : Zs mg)  : ∀ (cdv : Value) (A : Around) (outer : List PySem.Env) (s : Shared) (H : Hp) (E : XK), A.guards = some [] → Room 0 (A.deeper (PyProof.Rows.envOfC "_law_deck" (defScope s__law_deck) s.heap.objs.size a cdv)) →
    PSs (cxOf (L2.CX P w) P w K mg base N__law_deck "_law_deck" (defScope s__law_deck) a cdv A outer s H E).nox (defBody s__law_deck) (liftS (k0 K mg) g__law_deck) := by
  intro cdv A outer s H E gd hr
  exact (ds_cons ((ps_par (i := 1) (j := 2) (by rfl) sc__law_deck.nd rfl rfl (by decide) rfl rfl (da_cons (dl_lc (own := [("cell", 3)]) rfl sc__law_deck.nd (di_items (dl_slice (dl_var (pv 0)) dp_none (dp_some dl_int))) (blkOk_by (N := N__law_deck) (sc := defScope s__law_deck) (by decide +kernel)) (fun _ _ _ _ _ => (dg_name (pg_name (i := 3) sc__law_deck.nd rfl (by first | exact Or.inl rfl | exact Or.inr rfl)))) (fun _ _ _ _ _ => dts_nil) (fun _ _ _ _ _ => (dl_callT cd_int (by rfl) z.z_int bt_int (da_cons (dl_var (pv 3)) da_nil))) (by decide)) (da_cons dl_int da_nil)) (by rfl)).w lift_par)
  (ds_cons (ds_for PassesOwn.never rfl (di_items (dl_var (pv 1))) (dg_name (pg_name (i := 3) sc__law_deck.nd rfl (Or.inl rfl))) (ds_one (ds_set (i := 2) sc__law_deck.nd rfl (Or.inl rfl) (dl_bin opd_mod (dl_bin opd_add (dl_bin opd_add (dl_bin opd_mul (dl_var (pv 2)) dl_int) (dl_bin opd_mod (dl_var (pv 3)) dl_int)) dl_int) dl_int))))
  (ds_one (ds_ret (dl_disp (ks := ["cells", "mixed", "turn"]) (fs := [(dRev (dVar 1)), (dVar 2), (dC (.int 0))]) (pps_cons pe_str (dl_rev (dl_var (pv 1))) (pps_cons pe_str (dl_var (pv 2)) (pps_cons pe_str dl_int pps_nil))) rfl rfl (by simp) (by show 3 ≤ 15; decide) rfl (by show 3 ≤ 15; decide) (by decide +kernel))))))
def g__law_pick : DS := (dRet (dBin oIx (dVar 1) (dCall S__law_draw (dCons (dVar 0) (dCons (dBlt cLen (dCons (dVar 1) dNil)) dNil)))))
theorem w__law_pick (z : Zs mg) (C__law_draw : Cal P w K mg base "_law_draw" P__law_draw lv__law_draw kw__law_draw S__law_draw) : ∀ (cdv : Value) (A : Around) (outer : List PySem.Env) (s : Shared) (H : Hp) (E : XK), A.guards = some [] → Room 1 (A.deeper (PyProof.Rows.envOfC "_law_pick" (defScope s__law_pick) s.heap.objs.size a cdv)) →
    PSs (cxOf (L2.CX P w) P w K mg base N__law_pick "_law_pick" (defScope s__law_pick) a cdv A outer s H E).nox (defBody s__law_pick) (liftS (k0 K mg) g__law_pick) := by
  intro cdv A outer s H E gd hr
  exact (ds_one (ds_ret (dl_ix (dl_var (pv 1)) (dc C__law_draw gd (hr.mono (by decide)) (by rfl) (da_cons (dl_var (pv 0)) (da_cons (dl_callB cd_len (by rfl) z.z_len bt_len (da_cons (dl_var (pv 1)) da_nil)) da_nil))))))
def g__law_divisor : DS := (dSeq (dPar 0 1 (dCons (dBlt cAbs (dCons (dVar 0) dNil)) (dCons (dBlt cAbs (dCons (dVar 1) dNil)) dNil)))
  (dSeq (dWhile (dTest (dBin oGt (dVar 1) (dC (.int 0)))) (dPar 0 1 (dCons (dVar 1) (dCons (dBin oMod (dVar 0) (dVar 1)) dNil))))
  (dRet (dVar 0))))
theorem w__law_divisor (z : Zs mg)  : ∀ (cdv : Value) (A : Around) (outer : List PySem.Env) (s : Shared) (H : Hp) (E : XK), A.guards = some [] → Room 0 (A.deeper (PyProof.Rows.envOfC "_law_divisor" (defScope s__law_divisor) s.heap.objs.size a cdv)) →
    PSs (cxOf (L2.CX P w) P w K mg base N__law_divisor "_law_divisor" (defScope s__law_divisor) a cdv A outer s H E).nox (defBody s__law_divisor) (liftS (k0 K mg) g__law_divisor) := by
  intro cdv A outer s H E gd hr
  exact (ds_cons ((ps_par (i := 0) (j := 1) (by rfl) sc__law_divisor.nd rfl rfl (by decide) rfl rfl (da_cons (dl_callB cd_abs (by rfl) z.z_abs bt_abs (da_cons (dl_var (pv 0)) da_nil)) (da_cons (dl_callB cd_abs (by rfl) z.z_abs bt_abs (da_cons (dl_var (pv 1)) da_nil)) da_nil)) (by rfl)).w lift_par)
  (ds_cons (ds_while PassesOwn.never (dt_cm opd_gt (dl_var (pv 1)) dl_int (nomark _)) (ds_one ((ps_par (i := 0) (j := 1) (by rfl) sc__law_divisor.nd rfl rfl (by decide) rfl rfl (da_cons (dl_var (pv 1)) (da_cons (dl_bin opd_mod (dl_var (pv 0)) (dl_var (pv 1))) da_nil)) (by rfl)).w lift_par)))
  (ds_one (ds_ret (dl_var (pv 0))))))
def g__law_place : DS := (dSeq (dAsg (dCall S__law_divisor (dCons (dVar 0) (dCons (dVar 1) dNil))) (gName 2))
  (dSeq (dIf (dTest (dBin oEq (dVar 1) (dC (.int 0)))) (dRet (dTup (dCons (dC (.int 1)) (dCons (dC (.int 0)) dNil)))) dNext)
  (dRet (dIfE (dTest (dBin oGt (dVar 1) (dC (.int 0)))) (dTup (dCons (dBin oDiv (dVar 0) (dVar 2)) (dCons (dBin oDiv (dVar 1) (dVar 2)) dNil))) (dTup (dCons (dBin oSub (dC (.int 0)) (dBin oDiv (dVar 0) (dVar 2))) (dCons (dBin oSub (dC (.int 0)) (dBin oDiv (dVar 1) (dVar 2))) dNil)))))))
theorem w__law_place (z : Zs mg) (C__law_divisor : Cal P w K mg base "_law_divisor" P__law_divisor lv__law_divisor kw__law_divisor S__law_divisor) : ∀ (cdv : Value) (A : Around) (outer : List PySem.Env) (s : Shared) (H : Hp) (E : XK), A.guards = some [] → Room 1 (A.deeper (PyProof.Rows.envOfC "_law_place" (defScope s__law_place) s.heap.objs.size a cdv)) →
    PSs (cxOf (L2.CX P w) P w K mg base N__law_place "_law_place" (defScope s__law_place) a cdv A outer s H E).nox (defBody s__law_place) (liftS (k0 K mg) g__law_place) := by
  intro cdv A outer s H E gd hr
  exact (ds_cons (ds_set (i := 2) sc__law_place.nd rfl (Or.inl rfl) (dc C__law_divisor gd (hr.mono (by decide)) (by rfl) (da_cons (dl_var (pv 0)) (da_cons (dl_var (pv 1)) da_nil))))
  (ds_cons (ds_if (dt_cm (opd_eq hr.units) (dl_var (pv 1)) dl_int (nomark _)) (ds_one (ds_ret (dl_tup (da_cons dl_int (da_cons dl_int da_nil))))) ds_nil)
  (ds_one (ds_ret (dl_ife (dt_cm opd_gt (dl_var (pv 1)) dl_int (nomark _)) (dl_tup (da_cons (dl_bin opd_div (dl_var (pv 0)) (dl_var (pv 2))) (da_cons (dl_bin opd_div (dl_var (pv 1)) (dl_var (pv 2))) da_nil))) (dl_tup (da_cons (dl_bin opd_sub dl_int (dl_bin opd_div (dl_var (pv 0)) (dl_var (pv 2)))) (da_cons (dl_bin opd_sub dl_int (dl_bin opd_div (dl_var (pv 1)) (dl_var (pv 2)))) da_nil))))))))
def g__law_signed : DS := (dSeq (dAsg (dCall S__law_draw (dCons (dVar 0) (dCons (dVar 1) dNil))) (gName 2))
  (dRet (dIfE (dTest (dBin oEq (dCall S__law_draw (dCons (dVar 0) (dCons (dC (.int 2)) dNil))) (dC (.int 0)))) (dBin oSub (dC (.int 0)) (dVar 2)) (dVar 2))))
theorem w__law_signed (z : Zs mg) (C__law_draw : Cal P w K mg base "_law_draw" P__law_draw lv__law_draw kw__law_draw S__law_draw) : ∀ (cdv : Value) (A : Around) (outer : List PySem.Env) (s : Shared) (H : Hp) (E : XK), A.guards = some [] → Room 1 (A.deeper (PyProof.Rows.envOfC "_law_signed" (defScope s__law_signed) s.heap.objs.size a cdv)) →
    PSs (cxOf (L2.CX P w) P w K mg base N__law_signed "_law_signed" (defScope s__law_signed) a cdv A outer s H E).nox (defBody s__law_signed) (liftS (k0 K mg) g__law_signed) := by
  intro cdv A outer s H E gd hr
  exact (ds_cons (ds_set (i := 2) sc__law_signed.nd rfl (Or.inl rfl) (dc C__law_draw gd (hr.mono (by decide)) (by rfl) (da_cons (dl_var (pv 0)) (da_cons (dl_var (pv 1)) da_nil))))
  (ds_one (ds_ret (dl_ife (dt_cm (opd_eq hr.units) (dc C__law_draw gd (hr.mono (by decide)) (by rfl) (da_cons (dl_var (pv 0)) (da_cons dl_int da_nil))) dl_int (nomark _)) (dl_bin opd_sub dl_int (dl_var (pv 2))) (dl_var (pv 2))))))
def b__law_drawn_place_1 : DS := (dPar 1 2 (dCons (dCall S__law_signed (dCons (dVar 0) (dCons (dCall S__law_pick (dCons (dVar 0) (dCons (dLst (dCons (dC (.int 2)) (dCons (dC (.int 5)) (dCons (dC (.int 10000)) dNil)))) dNil))) dNil))) (dCons (dCall S__law_draw (dCons (dVar 0) (dCons (dCall S__law_pick (dCons (dVar 0) (dCons (dLst (dCons (dC (.int 2)) (dCons (dC (.int 5)) (dCons (dC (.int 10000)) dNil)))) dNil))) dNil))) dNil)))
def b__law_drawn_place_2 : DS := (dRet (dIfE (dTest (dBin oNe (dTup (dCons (dVar 1) (dCons (dVar 2) dNil))) (dTup (dCons (dC (.int 0)) (dCons (dC (.int 0)) dNil))))) (dCall S__law_place (dCons (dVar 1) (dCons (dVar 2) dNil))) (dTup (dCons (dC (.int 1)) (dCons (dC (.int 0)) dNil)))))
def g__law_drawn_place : DS := (dSeq b__law_drawn_place_1
  b__law_drawn_place_2)
theorem w__law_drawn_place (z : Zs mg) (C__law_signed : Cal P w K mg base "_law_signed" P__law_signed lv__law_signed kw__law_signed S__law_signed) (C__law_pick : Cal P w K mg base "_law_pick" P__law_pick lv__law_pick kw__law_pick S__law_pick) (C__law_draw : Cal P w K mg base "_law_draw" P__law_draw lv__law_draw kw__law_draw S__law_draw) (C__law_place : Cal P w K mg base "_law_place" P__law_place lv__law_place kw__law_place S__law_place) : ∀ (cdv : Value) (A : Around) (outer : List PySem.Env) (s : Shared) (H : Hp) (E : XK), A.guards = some [] → Room 2 (A.deeper (PyProof.Rows.envOfC "_law_drawn_place" (defScope s__law_drawn_place) s.heap.objs.size a cdv)) →
    PSs (cxOf (L2.CX P w) P w K mg base N__law_drawn_place "_law_drawn_place" (defScope s__law_drawn_place) a cdv A outer s H E).nox (defBody s__law_drawn_place) (liftS (k0 K mg) g__law_drawn_place) := by
  intro cdv A outer s H E gd hr
  exact (ds_cons ((ps_par (i := 1) (j := 2) (by rfl) sc__law_drawn_place.nd rfl rfl (by decide) rfl rfl (da_cons (dc C__law_signed gd (hr.mono (by decide)) (by rfl) (da_cons (dl_var (pv 0)) (da_cons (dc C__law_pick gd (hr.mono (by decide)) (by rfl) (da_cons (dl_var (pv 0)) (da_cons (dl_lst (da_cons dl_int (da_cons dl_int (da_cons dl_int da_nil)))) da_nil))) da_nil))) (da_cons (dc C__law_draw gd (hr.mono (by decide)) (by rfl) (da_cons (dl_var (pv 0)) (da_cons (dc C__law_pick gd (hr.mono (by decide)) (by rfl) (da_cons (dl_var (pv 0)) (da_cons (dl_lst (da_cons dl_int (da_cons dl_int (da_cons dl_int da_nil)))) da_nil))) da_nil))) da_nil)) (by rfl)).w lift_par)
  (ds_one (ds_ret (dl_ife (dt_cm (opd_ne hr.units) (dl_tup (da_cons (dl_var (pv 1)) (da_cons (dl_var (pv 2)) da_nil))) (dl_tup (da_cons dl_int (da_cons dl_int da_nil))) (nomark _)) (dc C__law_place gd (hr.mono (by decide)) (by rfl) (da_cons (dl_var (pv 1)) (da_cons (dl_var (pv 2)) da_nil))) (dl_tup (da_cons dl_int (da_cons dl_int da_nil)))))))
def b__law_change_1 : DS := (dAsg (dCall S__law_pick (dCons (dVar 0) (dCons (dLst (dCons (dC (.int 2)) (dCons (dC (.int 4)) (dCons (dC (.int 100)) (dCons (dC (.int 9999)) dNil))))) dNil))) (gName 1))
def b__law_change_2 : DS := (dAsg (dLc (dRange1 (dC (.int 4))) (gName 6) dYes (dCall S__law_signed (dCons (dVar 0) (dCons (dVar 1) dNil))) [6]) (gTL 4 (gCons (gName 2) (gCons (gName 3) (gCons (gName 4) (gCons (gName 5) gNil))))))
def b__law_change_3 : DS := (dIf (dTest (dBin oEq (dBin oMul (dVar 2) (dVar 5)) (dBin oMul (dVar 3) (dVar 4)))) (dAsg (dBin oAdd (dVar 5) (dC (.int 1))) (gName 5)) dNext)
def b__law_change_4 : DS := (dIf (dTest (dBin oEq (dBin oMul (dVar 2) (dVar 5)) (dBin oMul (dVar 3) (dVar 4)))) (dAsg (dTup (dCons (dC (.int 1)) (dCons (dVar 3) (dCons (dC (.int 0)) (dCons (dC (.int 1)) dNil))))) (gTup 4 (gCons (gName 2) (gCons (gName 3) (gCons (gName 4) (gCons (gName 5) gNil)))))) dNext)
def b__law_change_5 : DS := (dRet (dTup (dCons (dVar 2) (dCons (dVar 3) (dCons (dVar 4) (dCons (dVar 5) dNil))))))
def g__law_change : DS := (dSeq b__law_change_1
  (dSeq b__law_change_2
  (dSeq b__law_change_3
  (dSeq b__law_change_4
  b__law_change_5))))
theorem w__law_change (z : Zs mg) (C__law_pick : Cal P w K mg base "_law_pick" P__law_pick lv__law_pick kw__law_pick S__law_pick) (C__law_signed : Cal P w K mg base "_law_signed" P__law_signed lv__law_signed kw__law_signed S__law_signed) : ∀ (cdv : Value) (A : Around) (outer : List PySem.Env) (s : Shared) (H : Hp) (E : XK), A.guards = some [] → Room 2 (A.deeper (PyProof.Rows.envOfC "_law_change" (defScope s__law_change) s.heap.objs.size a cdv)) →
    PSs (cxOf (L2.CX P w) P w K mg base N__law_change "_law_change" (defScope s__law_change) a cdv A outer s H E).nox (defBody s__law_change) (liftS (k0 K mg) g__law_change) := by
  intro cdv A outer s H E gd hr
  exact (ds_cons (ds_set (i := 1) sc__law_change.nd rfl (Or.inr rfl) (dc C__law_pick gd (hr.mono (by decide)) (by rfl) (da_cons (dl_var (pv 0)) (da_cons (dl_lst (da_cons dl_int (da_cons dl_int (da_cons dl_int (da_cons dl_int da_nil))))) da_nil))))
  (ds_cons (ds_asg (dl_lc (own := [("turn", 6)]) rfl sc__law_change.nd (di_range1 (by rfl) z.z_range dl_int) (blkOk_by (N := N__law_change) (sc := defScope s__law_change) (by decide +kernel)) (fun _ _ _ _ _ => (dg_name (pg_name (i := 6) sc__law_change.nd rfl (by first | exact Or.inl rfl | exact Or.inr rfl)))) (fun _ _ _ _ _ => dts_nil) (fun _ _ _ _ _ => (dc C__law_signed gd (hr.mono (by decide)) (by rfl) (da_cons (dl_var (pv 0)) (da_cons (dl_var (pv 1)) da_nil)))) (by decide)) (dg_tl rfl (dg_cons (dg_name (pg_name (i := 2) sc__law_change.nd rfl (Or.inl rfl))) (dg_cons (dg_name (pg_name (i := 3) sc__law_change.nd rfl (Or.inl rfl))) (dg_cons (dg_name (pg_name (i := 4) sc__law_change.nd rfl (Or.inl rfl))) (dg_cons (dg_name (pg_name (i := 5) sc__law_change.nd rfl (Or.inl rfl))) dg_nil))))))
  (ds_cons (ds_if (dt_cm (opd_eq hr.units) (dl_bin opd_mul (dl_var (pv 2)) (dl_var (pv 5))) (dl_bin opd_mul (dl_var (pv 3)) (dl_var (pv 4))) (nomark _)) (ds_one (ds_set (i := 5) sc__law_change.nd rfl (Or.inl rfl) (dl_bin opd_add (dl_var (pv 5)) dl_int))) ds_nil)
  (ds_cons (ds_if (dt_cm (opd_eq hr.units) (dl_bin opd_mul (dl_var (pv 2)) (dl_var (pv 5))) (dl_bin opd_mul (dl_var (pv 3)) (dl_var (pv 4))) (nomark _)) (ds_one (ds_asg (dl_tup (da_cons dl_int (da_cons (dl_var (pv 3)) (da_cons dl_int (da_cons dl_int da_nil))))) (dg_tup rfl (dg_cons (dg_name (pg_name (i := 2) sc__law_change.nd rfl (Or.inl rfl))) (dg_cons (dg_name (pg_name (i := 3) sc__law_change.nd rfl (Or.inl rfl))) (dg_cons (dg_name (pg_name (i := 4) sc__law_change.nd rfl (Or.inl rfl))) (dg_cons (dg_name (pg_name (i := 5) sc__law_change.nd rfl (Or.inl rfl))) dg_nil))))))) ds_nil)
  (ds_one (ds_ret (dl_tup (da_cons (dl_var (pv 2)) (da_cons (dl_var (pv 3)) (da_cons (dl_var (pv 4)) (da_cons (dl_var (pv 5)) da_nil)))))))))))
def g__law_moved : DS := (dSeq (dAsg (dVar 0) (gTup 4 (gCons (gName 2) (gCons (gName 3) (gCons (gName 4) (gCons (gName 5) gNil))))))
  (dRet (dCall S__law_place (dCons (dBin oAdd (dBin oMul (dVar 2) (dBin oIx (dVar 1) (dC (.int 0)))) (dBin oMul (dVar 3) (dBin oIx (dVar 1) (dC (.int 1))))) (dCons (dBin oAdd (dBin oMul (dVar 4) (dBin oIx (dVar 1) (dC (.int 0)))) (dBin oMul (dVar 5) (dBin oIx (dVar 1) (dC (.int 1))))) dNil)))))
theorem w__law_moved (z : Zs mg) (C__law_place : Cal P w K mg base "_law_place" P__law_place lv__law_place kw__law_place S__law_place) : ∀ (cdv : Value) (A : Around) (outer : List PySem.Env) (s : Shared) (H : Hp) (E : XK), A.guards = some [] → Room 2 (A.deeper (PyProof.Rows.envOfC "_law_moved" (defScope s__law_moved) s.heap.objs.size a cdv)) →
    PSs (cxOf (L2.CX P w) P w K mg base N__law_moved "_law_moved" (defScope s__law_moved) a cdv A outer s H E).nox (defBody s__law_moved) (liftS (k0 K mg) g__law_moved) := by
  intro cdv A outer s H E gd hr
  exact (ds_cons (ds_asg (dl_var (pv 0)) (dg_tup rfl (dg_cons (dg_name (pg_name (i := 2) sc__law_moved.nd rfl (Or.inl rfl))) (dg_cons (dg_name (pg_name (i := 3) sc__law_moved.nd rfl (Or.inl rfl))) (dg_cons (dg_name (pg_name (i := 4) sc__law_moved.nd rfl (Or.inl rfl))) (dg_cons (dg_name (pg_name (i := 5) sc__law_moved.nd rfl (Or.inl rfl))) dg_nil))))))
  (ds_one (ds_ret (dc C__law_place gd (hr.mono (by decide)) (by rfl) (da_cons (dl_bin opd_add (dl_bin opd_mul (dl_var (pv 2)) (dl_ix (dl_var (pv 1)) dl_int)) (dl_bin opd_mul (dl_var (pv 3)) (dl_ix (dl_var (pv 1)) dl_int))) (da_cons (dl_bin opd_add (dl_bin opd_mul (dl_var (pv 4)) (dl_ix (dl_var (pv 1)) dl_int)) (dl_bin opd_mul (dl_var (pv 5)) (dl_ix (dl_var (pv 1)) dl_int))) da_nil))))))
def g__law_product : DS := (dSeq (dAsg (dTup (dCons (dVar 0) (dCons (dVar 1) dNil))) (gTup 2 (gCons (gTup 4 (gCons (gName 2) (gCons (gName 3) (gCons (gName 4) (gCons (gName 5) gNil))))) (gCons (gTup 4 (gCons (gName 6) (gCons (gName 7) (gCons (gName 8) (gCons (gName 9) gNil))))) gNil))))
  (dRet (dTup (dCons (dBin oAdd (dBin oMul (dVar 2) (dVar 6)) (dBin oMul (dVar 3) (dVar 8))) (dCons (dBin oAdd (dBin oMul (dVar 2) (dVar 7)) (dBin oMul (dVar 3) (dVar 9))) (dCons (dBin oAdd (dBin oMul (dVar 4) (dVar 6)) (dBin oMul (dVar 5) (dVar 8))) (dCons (dBin oAdd (dBin oMul (dVar 4) (dVar 7)) (dBin oMul (dVar 5) (dVar 9))) dNil)))))))
theorem w__law_product (z : Zs mg)  : ∀ (cdv : Value) (A : Around) (outer : List PySem.Env) (s : Shared) (H : Hp) (E : XK), A.guards = some [] → Room 0 (A.deeper (PyProof.Rows.envOfC "_law_product" (defScope s__law_product) s.heap.objs.size a cdv)) →
    PSs (cxOf (L2.CX P w) P w K mg base N__law_product "_law_product" (defScope s__law_product) a cdv A outer s H E).nox (defBody s__law_product) (liftS (k0 K mg) g__law_product) := by
  intro cdv A outer s H E gd hr
  exact (ds_cons (ds_asg (dl_tup (da_cons (dl_var (pv 0)) (da_cons (dl_var (pv 1)) da_nil))) (dg_tup rfl (dg_cons (dg_tup rfl (dg_cons (dg_name (pg_name (i := 2) sc__law_product.nd rfl (Or.inl rfl))) (dg_cons (dg_name (pg_name (i := 3) sc__law_product.nd rfl (Or.inl rfl))) (dg_cons (dg_name (pg_name (i := 4) sc__law_product.nd rfl (Or.inl rfl))) (dg_cons (dg_name (pg_name (i := 5) sc__law_product.nd rfl (Or.inl rfl))) dg_nil))))) (dg_cons (dg_tup rfl (dg_cons (dg_name (pg_name (i := 6) sc__law_product.nd rfl (Or.inl rfl))) (dg_cons (dg_name (pg_name (i := 7) sc__law_product.nd rfl (Or.inl rfl))) (dg_cons (dg_name (pg_name (i := 8) sc__law_product.nd rfl (Or.inl rfl))) (dg_cons (dg_name (pg_name (i := 9) sc__law_product.nd rfl (Or.inl rfl))) dg_nil))))) dg_nil))))
  (ds_one (ds_ret (dl_tup (da_cons (dl_bin opd_add (dl_bin opd_mul (dl_var (pv 2)) (dl_var (pv 6))) (dl_bin opd_mul (dl_var (pv 3)) (dl_var (pv 8)))) (da_cons (dl_bin opd_add (dl_bin opd_mul (dl_var (pv 2)) (dl_var (pv 7))) (dl_bin opd_mul (dl_var (pv 3)) (dl_var (pv 9)))) (da_cons (dl_bin opd_add (dl_bin opd_mul (dl_var (pv 4)) (dl_var (pv 6))) (dl_bin opd_mul (dl_var (pv 5)) (dl_var (pv 8)))) (da_cons (dl_bin opd_add (dl_bin opd_mul (dl_var (pv 4)) (dl_var (pv 7))) (dl_bin opd_mul (dl_var (pv 5)) (dl_var (pv 9)))) da_nil))))))))
def g__law_told : DS := (dTry XN 3 (fun _ _ => False) (fun wx => (dSeq (dIf (dTest (dBin oEq (dVar 0) (dC (.int 0)))) (dRet (dTup (dCons (dC (.str "told")) (dCons (dCallX wx S_moved (dCons (dVar 1) (dCons (dVar 2) dNil))) dNil)))) dNext)
  (dSeq (dIf (dTest (dBin oEq (dVar 0) (dC (.int 1)))) (dRet (dTup (dCons (dC (.str "told")) (dCons (dCallKX wx S_moved 0 2 [1, 0] dNil (dCons (dVar 2) (dCons (dVar 1) dNil))) dNil)))) dNext)
  (dSeq (dIf (dTest (dBin oEq (dVar 0) (dC (.int 2)))) (dRet (dTup (dCons (dC (.str "told")) (dCons (dCallX wx S_change_product (dCons (dVar 1) (dCons (dVar 2) dNil))) dNil)))) dNext)
  (dSeq (dIf (dTest (dBin oEq (dVar 0) (dC (.int 3)))) (dRet (dTup (dCons (dC (.str "told")) (dCons (dCallKX wx S_change_product 0 2 [1, 0] dNil (dCons (dVar 2) (dCons (dVar 1) dNil))) dNil)))) dNext)
  (dSeq (dIf (dTest (dBin oEq (dVar 0) (dC (.int 4)))) (dRet (dTup (dCons (dC (.str "told")) (dCons (dCallX wx S_change_inverse (dCons (dVar 1) dNil)) dNil)))) dNext)
  (dRet (dTup (dCons (dC (.str "told")) (dCons (dCallKX wx S_change_inverse 0 1 [0] dNil (dCons (dVar 1) dNil)) dNil)))))))))) [("BadChange", fun x a => (dRet (dTup (dCons (dC (.str "change")) (dCons (dFld XN FS x a 3 "thing") (dCons (dIsE XN x a 3 "RulerError") dNil)))))), ("BadPlace", fun x a => (dRet (dTup (dCons (dC (.str "place")) (dCons (dFld XN FS x a 3 "thing") (dCons (dIsE XN x a 3 "RulerError") dNil))))))])
theorem w__law_told (z : Zs mg) (xc : XcAll K mg XN FS) (C_moved : Cal P w K mg base "moved" P_moved lv_moved kw_moved S_moved) (C_change_product : Cal P w K mg base "change_product" P_change_product lv_change_product kw_change_product S_change_product) (C_change_inverse : Cal P w K mg base "change_inverse" P_change_inverse lv_change_inverse kw_change_inverse S_change_inverse) : ∀ (cdv : Value) (A : Around) (outer : List PySem.Env) (s : Shared) (H : Hp) (E : XK), A.guards = some [] → Room 5 (A.deeper (PyProof.Rows.envOfC "_law_told" (defScope s__law_told) s.heap.objs.size a cdv)) →
    PSs (cxOf (L2.CX P w) P w K mg base N__law_told "_law_told" (defScope s__law_told) a cdv A outer s H E).nox (defBody s__law_told) (liftS (k0 K mg) g__law_told) := by
  intro cdv A outer s H E gd hr
  exact (ds_one (ds_try (xn := XN) (fs := FS) (i := 3) (hs := [("BadChange", fun x a => (dRet (dTup (dCons (dC (.str "change")) (dCons (dFld XN FS x a 3 "thing") (dCons (dIsE XN x a 3 "RulerError") dNil)))))), ("BadPlace", fun x a => (dRet (dTup (dCons (dC (.str "place")) (dCons (dFld XN FS x a 3 "thing") (dCons (dIsE XN x a 3 "RulerError") dNil))))))]) xc rfl rfl sc__law_told.nd rfl rfl takes0 (fun wx _ pn xe tk po => (ds_cons (ds_if (dt_cm (opd_eq hr.units) (dl_var (pv 0)) dl_int (nomark _)) (ds_one (ds_ret (dl_tup (da_cons dl_str (da_cons (dcx C_moved tk gd (hr.mono (by decide)) (by rfl) (da_cons (dl_var (pv 1)) (da_cons (dl_var (pv 2)) da_nil))) da_nil))))) ds_nil)
  (ds_cons (ds_if (dt_cm (opd_eq hr.units) (dl_var (pv 0)) dl_int (nomark _)) (ds_one (ds_ret (dl_tup (da_cons dl_str (da_cons (dck0x (ks := ["place", "change"]) (ix := [1, 0]) C_moved tk gd (hr.mono (by decide)) (by rfl) (by first | exact List.mem_cons_self | (simp [kw_moved]; done)) (dk_cons (dl_var (pv 2)) (dk_cons (dl_var (pv 1)) dk_nil))) da_nil))))) ds_nil)
  (ds_cons (ds_if (dt_cm (opd_eq hr.units) (dl_var (pv 0)) dl_int (nomark _)) (ds_one (ds_ret (dl_tup (da_cons dl_str (da_cons (dcx C_change_product tk gd (hr.mono (by decide)) (by rfl) (da_cons (dl_var (pv 1)) (da_cons (dl_var (pv 2)) da_nil))) da_nil))))) ds_nil)
  (ds_cons (ds_if (dt_cm (opd_eq hr.units) (dl_var (pv 0)) dl_int (nomark _)) (ds_one (ds_ret (dl_tup (da_cons dl_str (da_cons (dck0x (ks := ["other", "one"]) (ix := [1, 0]) C_change_product tk gd (hr.mono (by decide)) (by rfl) (by first | exact List.mem_cons_self | (simp [kw_change_product]; done)) (dk_cons (dl_var (pv 2)) (dk_cons (dl_var (pv 1)) dk_nil))) da_nil))))) ds_nil)
  (ds_cons (ds_if (dt_cm (opd_eq hr.units) (dl_var (pv 0)) dl_int (nomark _)) (ds_one (ds_ret (dl_tup (da_cons dl_str (da_cons (dcx C_change_inverse tk gd (hr.mono (by decide)) (by rfl) (da_cons (dl_var (pv 1)) da_nil)) da_nil))))) ds_nil)
  (ds_one (ds_ret (dl_tup (da_cons dl_str (da_cons (dck0x (ks := ["change"]) (ix := [0]) C_change_inverse tk gd (hr.mono (by decide)) (by rfl) (by first | exact List.mem_cons_self | (simp [kw_change_inverse]; done)) (dk_cons (dl_var (pv 1)) dk_nil)) da_nil)))))))))))
  (by intro h hm; simp only [List.mem_cons, List.not_mem_nil, or_false] at hm; rcases hm with rfl | rfl <;> decide) (DH.cons (by rfl) (by decide) (fun x a oe cls d pn hz hf => (ds_one (ds_ret (dl_tup (da_cons dl_str (da_cons (dl_fld xc hz hf (pv 3)) (da_cons (dl_isE xc hz hf (pv 3) (by rfl) z.z_isinstance (by rfl)) da_nil)))))))
  (DH.cons (by rfl) (by decide) (fun x a oe cls d pn hz hf => (ds_one (ds_ret (dl_tup (da_cons dl_str (da_cons (dl_fld xc hz hf (pv 3)) (da_cons (dl_isE xc hz hf (pv 3) (by rfl) z.z_isinstance (by rfl)) da_nil)))))))
  DH.nil))))
def g__law_are_told : DS := (dRet (dBin oEq (dLc (dItems (dVar 0)) (gName 4) (dTest (dBin oNe (dBlt cRepr (dCons (dCall S__law_told (dCons (dVar 4) (dCons (dVar 1) (dCons (dVar 2) dNil)))) dNil)) (dBlt cRepr (dCons (dVar 3) dNil)))) (dVar 4) [4]) (dLst dNil)))
theorem w__law_are_told (z : Zs mg) (C__law_told : Cal P w K mg base "_law_told" P__law_told lv__law_told kw__law_told S__law_told) : ∀ (cdv : Value) (A : Around) (outer : List PySem.Env) (s : Shared) (H : Hp) (E : XK), A.guards = some [] → Room 6 (A.deeper (PyProof.Rows.envOfC "_law_are_told" (defScope s__law_are_told) s.heap.objs.size a cdv)) →
    PSs (cxOf (L2.CX P w) P w K mg base N__law_are_told "_law_are_told" (defScope s__law_are_told) a cdv A outer s H E).nox (defBody s__law_are_told) (liftS (k0 K mg) g__law_are_told) := by
  intro cdv A outer s H E gd hr
  exact (ds_one (ds_ret (dl_cm (opd_eq hr.units) (dl_lc (own := [("way", 4)]) rfl sc__law_are_told.nd (di_items (dl_var (pv 0))) (blkOk_by (N := N__law_are_told) (sc := defScope s__law_are_told) (by decide +kernel)) (fun _ _ _ _ _ => (dg_name (pg_name (i := 4) sc__law_are_told.nd rfl (by first | exact Or.inl rfl | exact Or.inr rfl)))) (fun _ _ _ _ _ => (ptsD (dt_cm (opd_ne hr.units) (dl_callB (cd_repr gd hr.units) (by rfl) z.z_repr bt_repr (da_cons (dc C__law_told gd (hr.mono (by decide)) (by rfl) (da_cons (dl_var (pv 4)) (da_cons (dl_var (pv 1)) (da_cons (dl_var (pv 2)) da_nil)))) da_nil)) (dl_callB (cd_repr gd hr.units) (by rfl) z.z_repr bt_repr (da_cons (dl_var (pv 3)) da_nil)) (nomark _)))) (fun _ _ _ _ _ => (dl_var (pv 4))) (by decide)) (dl_lst da_nil) (nomark _))))
def x__law_no_change_1 : DE := (dLst (dCons (dC .non) (dCons (dTup dNil) (dCons (dC (.int 0)) (dCons (dC (.str "")) (dCons (dLst (dCons (dVar 2) (dCons (dVar 3) (dCons (dVar 4) (dCons (dVar 5) dNil))))) (dCons (dTup (dCons (dVar 2) (dCons (dVar 3) (dCons (dVar 4) dNil)))) (dCons (dTup (dCons (dVar 2) (dCons (dVar 3) (dCons (dVar 4) (dCons (dVar 5) (dCons (dC (.int 1)) dNil)))))) (dCons (dTup (dCons (dVar 2) (dCons (dVar 3) (dCons (dVar 2) (dCons (dVar 3) dNil))))) (dCons (dTup (dCons (dC (.int 0)) (dCons (dC (.int 0)) (dCons (dC (.int 0)) (dCons (dC (.int 0)) dNil))))) (dCons (dTup (dCons (dC (.bl true)) (dCons (dC (.int 0)) (dCons (dC (.int 0)) (dCons (dC (.int 1)) dNil))))) (dCons dDic0 (dCons (dC (.bl true)) dNil)))))))))))))
def x__law_no_change_2 : DE := (dLst (dCons (dTup (dCons (dC (.int 1)) (dCons (dC (.bl false)) (dCons (dC (.int 0)) (dCons (dC (.int 1)) dNil))))) (dCons (dTup (dCons (dVar 2) (dCons (dVar 3) (dCons (dVar 4) (dCons (dC .non) dNil))))) (dCons (dTup (dCons (dC (.str "1")) (dCons (dC (.int 0)) (dCons (dC (.int 0)) (dCons (dC (.int 1)) dNil))))) (dCons (dTup (dCons (dTup (dCons (dVar 2) (dCons (dVar 3) dNil))) (dCons (dTup (dCons (dVar 4) (dCons (dVar 5) dNil))) dNil))) (dCons (dTup (dCons (dVar 2) (dCons (dVar 3) (dCons (dBin oMul (dC (.int 2)) (dVar 2)) (dCons (dBin oMul (dC (.int 2)) (dVar 3)) dNil))))) (dCons (dTup (dCons (dC (.int 0)) (dCons (dVar 3) (dCons (dC (.int 0)) (dCons (dVar 5) dNil))))) dNil)))))))
def x__law_no_change_3 : DE := (dLst (dCons (dC (.str "(1, 0, 0, 1)")) (dCons (dTup (dCons (dC (.int 1)) (dCons (dC (.int 0)) (dCons (dC (.int 0)) (dCons (dTup (dCons (dC (.int 1)) dNil)) dNil))))) (dCons (dLst dNil) (dCons (dDicI 1 (dC (.int 2))) (dCons (dTup (dCons (dC (.int 0)) (dCons (dC (.int 0)) (dCons (dVar 4) (dCons (dVar 5) dNil))))) dNil))))))
def b__law_no_change_1 : DS := (dAsg (dVar 1) (gTup 4 (gCons (gName 2) (gCons (gName 3) (gCons (gName 4) (gCons (gName 5) gNil))))))
def b__law_no_change_2 : DS := (dRet (dCall S__law_pick (dCons (dVar 0) (dCons (dBin oAdd (dVar 6) x__law_no_change_3) dNil))))
def g__law_no_change : DS := (dSeq b__law_no_change_1
  (dSeq (dAsg x__law_no_change_1 (gName 6))
  (dSeq (dAsg (dBin oAdd (dVar 6) x__law_no_change_2) (gName 6))
  b__law_no_change_2)))
theorem w__law_no_change (z : Zs mg) (C__law_pick : Cal P w K mg base "_law_pick" P__law_pick lv__law_pick kw__law_pick S__law_pick) : ∀ (cdv : Value) (A : Around) (outer : List PySem.Env) (s : Shared) (H : Hp) (E : XK), A.guards = some [] → Room 2 (A.deeper (PyProof.Rows.envOfC "_law_no_change" (defScope s__law_no_change) s.heap.objs.size a cdv)) →
    PSs (cxOf (L2.CX P w) P w K mg base N__law_no_change "_law_no_change" (defScope s__law_no_change) a cdv A outer s H E).nox (defBody s__law_no_change) (liftS (k0 K mg) g__law_no_change) := by
  intro cdv A outer s H E gd hr
  exact (ds_cons (ds_asg (dl_var (pv 1)) (dg_tup rfl (dg_cons (dg_name (pg_name (i := 2) sc__law_no_change.nd rfl (Or.inl rfl))) (dg_cons (dg_name (pg_name (i := 3) sc__law_no_change.nd rfl (Or.inl rfl))) (dg_cons (dg_name (pg_name (i := 4) sc__law_no_change.nd rfl (Or.inl rfl))) (dg_cons (dg_name (pg_name (i := 5) sc__law_no_change.nd rfl (Or.inl rfl))) dg_nil))))))
  (ds_cons (ds_set (i := 6) sc__law_no_change.nd rfl (Or.inl rfl) (dl_lst (da_cons dl_non (da_cons (dl_tup da_nil) (da_cons dl_int (da_cons dl_str (da_cons (dl_lst (da_cons (dl_var (pv 2)) (da_cons (dl_var (pv 3)) (da_cons (dl_var (pv 4)) (da_cons (dl_var (pv 5)) da_nil))))) (da_cons (dl_tup (da_cons (dl_var (pv 2)) (da_cons (dl_var (pv 3)) (da_cons (dl_var (pv 4)) da_nil)))) (da_cons (dl_tup (da_cons (dl_var (pv 2)) (da_cons (dl_var (pv 3)) (da_cons (dl_var (pv 4)) (da_cons (dl_var (pv 5)) (da_cons dl_int da_nil)))))) (da_cons (dl_tup (da_cons (dl_var (pv 2)) (da_cons (dl_var (pv 3)) (da_cons (dl_var (pv 2)) (da_cons (dl_var (pv 3)) da_nil))))) (da_cons (dl_tup (da_cons dl_int (da_cons dl_int (da_cons dl_int (da_cons dl_int da_nil))))) (da_cons (dl_tup (da_cons dl_bl (da_cons dl_int (da_cons dl_int (da_cons dl_int da_nil))))) (da_cons dl_dic0 (da_cons dl_bl da_nil))))))))))))))
  (ds_cons (ds_set (i := 6) sc__law_no_change.nd rfl (Or.inl rfl) (dl_bin opd_add (dl_var (pv 6)) (dl_lst (da_cons (dl_tup (da_cons dl_int (da_cons dl_bl (da_cons dl_int (da_cons dl_int da_nil))))) (da_cons (dl_tup (da_cons (dl_var (pv 2)) (da_cons (dl_var (pv 3)) (da_cons (dl_var (pv 4)) (da_cons dl_non da_nil))))) (da_cons (dl_tup (da_cons dl_str (da_cons dl_int (da_cons dl_int (da_cons dl_int da_nil))))) (da_cons (dl_tup (da_cons (dl_tup (da_cons (dl_var (pv 2)) (da_cons (dl_var (pv 3)) da_nil))) (da_cons (dl_tup (da_cons (dl_var (pv 4)) (da_cons (dl_var (pv 5)) da_nil))) da_nil))) (da_cons (dl_tup (da_cons (dl_var (pv 2)) (da_cons (dl_var (pv 3)) (da_cons (dl_bin opd_mul dl_int (dl_var (pv 2))) (da_cons (dl_bin opd_mul dl_int (dl_var (pv 3))) da_nil))))) (da_cons (dl_tup (da_cons dl_int (da_cons (dl_var (pv 3)) (da_cons dl_int (da_cons (dl_var (pv 5)) da_nil))))) da_nil)))))))))
  (ds_one (ds_ret (dc C__law_pick gd (hr.mono (by decide)) (by rfl) (da_cons (dl_var (pv 0)) (da_cons (dl_bin opd_add (dl_var (pv 6)) (dl_lst (da_cons dl_str (da_cons (dl_tup (da_cons dl_int (da_cons dl_int (da_cons dl_int (da_cons (dl_tup (da_cons dl_int da_nil)) da_nil))))) (da_cons (dl_lst da_nil) (da_cons (dl_dicI dl_int) (da_cons (dl_tup (da_cons dl_int (da_cons dl_int (da_cons (dl_var (pv 4)) (da_cons (dl_var (pv 5)) da_nil))))) da_nil))))))) da_nil))))))))
def x__law_no_place_1 : DE := (dLst (dCons (dC .non) (dCons (dTup dNil) (dCons (dC (.int 0)) (dCons (dC (.str "")) (dCons (dLst (dCons (dVar 2) (dCons (dVar 3) dNil))) (dCons (dTup (dCons (dVar 2) dNil)) (dCons (dTup (dCons (dVar 2) (dCons (dVar 3) (dCons (dC (.int 1)) dNil)))) (dCons (dTup (dCons (dC (.int 0)) (dCons (dC (.int 0)) dNil))) (dCons (dTup (dCons (dC (.int 2)) (dCons (dC (.int 0)) dNil))) (dCons (dTup (dCons (dNeg (dC (.int 1))) (dCons (dC (.int 0)) dNil))) (dCons (dTup (dCons (dC (.int 0)) (dCons (dNeg (dC (.int 1))) dNil))) (dCons (dTup (dCons (dC (.int 0)) (dCons (dC (.int 2)) dNil))) (dCons (dTup (dCons (dC (.bl true)) (dCons (dC (.int 1)) dNil))) (dCons dDic0 dNil)))))))))))))))
def x__law_no_place_2 : DE := (dLst (dCons (dTup (dCons (dC (.int 1)) (dCons (dC (.bl false)) dNil))) (dCons (dTup (dCons (dC .non) (dCons (dC (.int 1)) dNil))) (dCons (dTup (dCons (dC (.str "0")) (dCons (dC (.int 1)) dNil))) (dCons (dTup (dCons (dTup (dCons (dVar 2) (dCons (dVar 3) dNil))) dNil)) (dCons (dTup (dCons (dBin oAdd (dBin oMul (dC (.int 2)) (dVar 2)) (dC (.int 2))) (dCons (dC (.int 2)) dNil))) (dCons (dTup (dCons (dC (.int 3)) (dCons (dNeg (dC (.int 1))) dNil))) (dCons (dTup (dCons (dC (.int 1)) (dCons (dC (.bl true)) dNil))) (dCons (dLst dNil) (dCons (dC (.bl true)) (dCons (dNeg (dC (.int 1))) dNil)))))))))))
def b__law_no_place_1 : DS := (dAsg (dVar 1) (gTup 2 (gCons (gName 2) (gCons (gName 3) gNil))))
def b__law_no_place_2 : DS := (dRet (dCall S__law_pick (dCons (dVar 0) (dCons (dVar 4) dNil))))
def g__law_no_place : DS := (dSeq b__law_no_place_1
  (dSeq (dAsg x__law_no_place_1 (gName 4))
  (dSeq (dAsg (dBin oAdd (dVar 4) x__law_no_place_2) (gName 4))
  b__law_no_place_2)))
theorem w__law_no_place (z : Zs mg) (C__law_pick : Cal P w K mg base "_law_pick" P__law_pick lv__law_pick kw__law_pick S__law_pick) : ∀ (cdv : Value) (A : Around) (outer : List PySem.Env) (s : Shared) (H : Hp) (E : XK), A.guards = some [] → Room 2 (A.deeper (PyProof.Rows.envOfC "_law_no_place" (defScope s__law_no_place) s.heap.objs.size a cdv)) →
    PSs (cxOf (L2.CX P w) P w K mg base N__law_no_place "_law_no_place" (defScope s__law_no_place) a cdv A outer s H E).nox (defBody s__law_no_place) (liftS (k0 K mg) g__law_no_place) := by
  intro cdv A outer s H E gd hr
  exact (ds_cons (ds_asg (dl_var (pv 1)) (dg_tup rfl (dg_cons (dg_name (pg_name (i := 2) sc__law_no_place.nd rfl (Or.inl rfl))) (dg_cons (dg_name (pg_name (i := 3) sc__law_no_place.nd rfl (Or.inl rfl))) dg_nil))))
  (ds_cons (ds_set (i := 4) sc__law_no_place.nd rfl (Or.inl rfl) (dl_lst (da_cons dl_non (da_cons (dl_tup da_nil) (da_cons dl_int (da_cons dl_str (da_cons (dl_lst (da_cons (dl_var (pv 2)) (da_cons (dl_var (pv 3)) da_nil))) (da_cons (dl_tup (da_cons (dl_var (pv 2)) da_nil)) (da_cons (dl_tup (da_cons (dl_var (pv 2)) (da_cons (dl_var (pv 3)) (da_cons dl_int da_nil)))) (da_cons (dl_tup (da_cons dl_int (da_cons dl_int da_nil))) (da_cons (dl_tup (da_cons dl_int (da_cons dl_int da_nil))) (da_cons (dl_tup (da_cons (dl_neg dl_int) (da_cons dl_int da_nil))) (da_cons (dl_tup (da_cons dl_int (da_cons (dl_neg dl_int) da_nil))) (da_cons (dl_tup (da_cons dl_int (da_cons dl_int da_nil))) (da_cons (dl_tup (da_cons dl_bl (da_cons dl_int da_nil))) (da_cons dl_dic0 da_nil))))))))))))))))
  (ds_cons (ds_set (i := 4) sc__law_no_place.nd rfl (Or.inl rfl) (dl_bin opd_add (dl_var (pv 4)) (dl_lst (da_cons (dl_tup (da_cons dl_int (da_cons dl_bl da_nil))) (da_cons (dl_tup (da_cons dl_non (da_cons dl_int da_nil))) (da_cons (dl_tup (da_cons dl_str (da_cons dl_int da_nil))) (da_cons (dl_tup (da_cons (dl_tup (da_cons (dl_var (pv 2)) (da_cons (dl_var (pv 3)) da_nil))) da_nil)) (da_cons (dl_tup (da_cons (dl_bin opd_add (dl_bin opd_mul dl_int (dl_var (pv 2))) dl_int) (da_cons dl_int da_nil))) (da_cons (dl_tup (da_cons dl_int (da_cons (dl_neg dl_int) da_nil))) (da_cons (dl_tup (da_cons dl_int (da_cons dl_bl da_nil))) (da_cons (dl_lst da_nil) (da_cons dl_bl (da_cons (dl_neg dl_int) da_nil)))))))))))))
  (ds_one (ds_ret (dc C__law_pick gd (hr.mono (by decide)) (by rfl) (da_cons (dl_var (pv 0)) (da_cons (dl_var (pv 4)) da_nil))))))))
def b__law_are_refused_1 : DS := (dPar3 3 4 5 (dCons (dCall S__law_no_change (dCons (dVar 0) (dCons (dVar 1) dNil))) (dCons (dCall S__law_no_change (dCons (dVar 0) (dCons (dVar 1) dNil))) (dCons (dCall S__law_no_place (dCons (dVar 0) (dCons (dVar 2) dNil))) dNil))))
def b__law_are_refused_2 : DS := (dAsg (dTup (dCons (dC (.str "change")) (dCons (dVar 3) (dCons (dC (.bl true)) dNil)))) (gName 6))
def b__law_are_refused_3 : DS := (dIf (dOr (dNot (dTest (dCall S__law_are_told (dCons (dLst (dCons (dC (.int 0)) (dCons (dC (.int 1)) (dCons (dC (.int 4)) (dCons (dC (.int 5)) dNil))))) (dCons (dVar 3) (dCons (dVar 2) (dCons (dVar 6) dNil))))))) (dNot (dTest (dCall S__law_are_told (dCons (dLst (dCons (dC (.int 0)) (dCons (dC (.int 1)) (dCons (dC (.int 4)) (dCons (dC (.int 5)) dNil))))) (dCons (dVar 3) (dCons (dVar 5) (dCons (dVar 6) dNil)))))))) (dRet (dC (.bl false))) dNext)
def b__law_are_refused_4 : DS := (dIf (dOr (dNot (dTest (dCall S__law_are_told (dCons (dLst (dCons (dC (.int 2)) (dCons (dC (.int 3)) dNil))) (dCons (dVar 3) (dCons (dVar 1) (dCons (dVar 6) dNil))))))) (dNot (dTest (dCall S__law_are_told (dCons (dLst (dCons (dC (.int 2)) (dCons (dC (.int 3)) dNil))) (dCons (dVar 3) (dCons (dVar 4) (dCons (dVar 6) dNil)))))))) (dRet (dC (.bl false))) dNext)
def b__law_are_refused_5 : DS := (dIf (dNot (dTest (dCall S__law_are_told (dCons (dLst (dCons (dC (.int 2)) (dCons (dC (.int 3)) dNil))) (dCons (dVar 1) (dCons (dVar 3) (dCons (dVar 6) dNil))))))) (dRet (dC (.bl false))) dNext)
def b__law_are_refused_6 : DS := (dRet (dCall S__law_are_told (dCons (dLst (dCons (dC (.int 0)) (dCons (dC (.int 1)) dNil))) (dCons (dVar 1) (dCons (dVar 5) (dCons (dTup (dCons (dC (.str "place")) (dCons (dVar 5) (dCons (dC (.bl true)) dNil)))) dNil))))))
def g__law_are_refused : DS := (dSeq b__law_are_refused_1
  (dSeq b__law_are_refused_2
  (dSeq b__law_are_refused_3
  (dSeq b__law_are_refused_4
  (dSeq b__law_are_refused_5
  b__law_are_refused_6)))))
theorem w__law_are_refused (z : Zs mg) (C__law_no_change : Cal P w K mg base "_law_no_change" P__law_no_change lv__law_no_change kw__law_no_change S__law_no_change) (C__law_no_place : Cal P w K mg base "_law_no_place" P__law_no_place lv__law_no_place kw__law_no_place S__law_no_place) (C__law_are_told : Cal P w K mg base "_law_are_told" P__law_are_told lv__law_are_told kw__law_are_told S__law_are_told) : ∀ (cdv : Value) (A : Around) (outer : List PySem.Env) (s : Shared) (H : Hp) (E : XK), A.guards = some [] → Room 7 (A.deeper (PyProof.Rows.envOfC "_law_are_refused" (defScope s__law_are_refused) s.heap.objs.size a cdv)) →
    PSs (cxOf (L2.CX P w) P w K mg base N__law_are_refused "_law_are_refused" (defScope s__law_are_refused) a cdv A outer s H E).nox (defBody s__law_are_refused) (liftS (k0 K mg) g__law_are_refused) := by
  intro cdv A outer s H E gd hr
  exact (ds_cons ((ps_par3 (i := 3) (j := 4) (l := 5) (by rfl) sc__law_are_refused.nd rfl rfl rfl (by decide) (by decide) (by decide) rfl rfl rfl (da_cons (dc C__law_no_change gd (hr.mono (by decide)) (by rfl) (da_cons (dl_var (pv 0)) (da_cons (dl_var (pv 1)) da_nil))) (da_cons (dc C__law_no_change gd (hr.mono (by decide)) (by rfl) (da_cons (dl_var (pv 0)) (da_cons (dl_var (pv 1)) da_nil))) (da_cons (dc C__law_no_place gd (hr.mono (by decide)) (by rfl) (da_cons (dl_var (pv 0)) (da_cons (dl_var (pv 2)) da_nil))) da_nil))) (by rfl)).w lift_par3)
  (ds_cons (ds_set (i := 6) sc__law_are_refused.nd rfl (Or.inl rfl) (dl_tup (da_cons dl_str (da_cons (dl_var (pv 3)) (da_cons dl_bl da_nil)))))
  (ds_cons (ds_if (dw_or (dt_not (dt_val (dc C__law_are_told gd (hr.mono (by decide)) (by rfl) (da_cons (dl_lst (da_cons dl_int (da_cons dl_int (da_cons dl_int (da_cons dl_int da_nil))))) (da_cons (dl_var (pv 3)) (da_cons (dl_var (pv 2)) (da_cons (dl_var (pv 6)) da_nil))))))) (dw_or1 (dt_not (dt_val (dc C__law_are_told gd (hr.mono (by decide)) (by rfl) (da_cons (dl_lst (da_cons dl_int (da_cons dl_int (da_cons dl_int (da_cons dl_int da_nil))))) (da_cons (dl_var (pv 3)) (da_cons (dl_var (pv 5)) (da_cons (dl_var (pv 6)) da_nil))))))))).pt (ds_one (ds_ret dl_bl)) ds_nil)
  (ds_cons (ds_if (dw_or (dt_not (dt_val (dc C__law_are_told gd (hr.mono (by decide)) (by rfl) (da_cons (dl_lst (da_cons dl_int (da_cons dl_int da_nil))) (da_cons (dl_var (pv 3)) (da_cons (dl_var (pv 1)) (da_cons (dl_var (pv 6)) da_nil))))))) (dw_or1 (dt_not (dt_val (dc C__law_are_told gd (hr.mono (by decide)) (by rfl) (da_cons (dl_lst (da_cons dl_int (da_cons dl_int da_nil))) (da_cons (dl_var (pv 3)) (da_cons (dl_var (pv 4)) (da_cons (dl_var (pv 6)) da_nil))))))))).pt (ds_one (ds_ret dl_bl)) ds_nil)
  (ds_cons (ds_if (dt_not (dt_val (dc C__law_are_told gd (hr.mono (by decide)) (by rfl) (da_cons (dl_lst (da_cons dl_int (da_cons dl_int da_nil))) (da_cons (dl_var (pv 1)) (da_cons (dl_var (pv 3)) (da_cons (dl_var (pv 6)) da_nil))))))) (ds_one (ds_ret dl_bl)) ds_nil)
  (ds_one (ds_ret (dc C__law_are_told gd (hr.mono (by decide)) (by rfl) (da_cons (dl_lst (da_cons dl_int (da_cons dl_int da_nil))) (da_cons (dl_var (pv 1)) (da_cons (dl_var (pv 5)) (da_cons (dl_tup (da_cons dl_str (da_cons (dl_var (pv 5)) (da_cons dl_bl da_nil)))) da_nil))))))))))))
def b_law_1 : DS := (dAsg (dCall S__law_moved (dCons (dVar 2) (dCons (dVar 9) dNil))) (gName 10))
def b_law_2 : DS := (dAppend 8 (dCall S_moved (dCons (dVar 2) (dCons (dVar 9) dNil))))
def b_law_3 : DS := (dIf (dOr (dNot (dTest (dCall S__law_are_told (dCons (dLst (dCons (dC (.int 0)) (dCons (dC (.int 1)) dNil))) (dCons (dVar 2) (dCons (dVar 9) (dCons (dTup (dCons (dC (.str "told")) (dCons (dVar 10) dNil))) dNil))))))) (dTest (dBin oNe (dCall S_moved (dCons (dVar 7) (dCons (dVar 10) dNil))) (dVar 9)))) (dRet (dC (.bl false))) dNext)
def b_law_4 : DS := (dIf (dOr (dTest (dBin oNe (dCall S_moved (dCons (dVar 2) (dCons (dCall S_moved (dCons (dCall S_change_inverse (dCons (dVar 2) dNil)) (dCons (dVar 9) dNil))) dNil))) (dVar 9))) (dTest (dBin oNe (dCall S_moved (dCons (dBlt cTup (dCons (dLc (dItems (dVar 2)) (gName 17) dYes (dBin oMul (dC (.int 3)) (dVar 17)) [17]) dNil)) (dCons (dVar 9) dNil))) (dVar 10)))) (dRet (dC (.bl false))) dNext)
def b_law_5 : DS := (dIf (dTest (dBin oNe (dCall S_moved (dCons (dVar 6) (dCons (dVar 9) dNil))) (dCall S_moved (dCons (dVar 2) (dCons (dCall S_moved (dCons (dVar 3) (dCons (dVar 9) dNil))) dNil))))) (dRet (dC (.bl false))) dNext)
def b_law_6 : DS := (dPar3 2 3 4 (dCons (dCall S__law_change (dCons (dVar 1) dNil)) (dCons (dCall S__law_change (dCons (dVar 1) dNil)) (dCons (dCall S__law_change (dCons (dVar 1) dNil)) dNil))))
def b_law_7 : DS := (dAsg (dBin oAdd (dLc (dRange1 (dC (.int 3))) (gName 16) dYes (dCall S__law_drawn_place (dCons (dVar 1) dNil)) [16]) (dLst (dCons (dTup (dCons (dC (.int 1)) (dCons (dC (.int 0)) dNil))) (dCons (dTup (dCons (dC (.int 0)) (dCons (dC (.int 1)) dNil))) dNil)))) (gName 5))
def b_law_8 : DS := (dPar 6 7 (dCons (dCall S__law_product (dCons (dVar 2) (dCons (dVar 3) dNil))) (dCons (dTup (dCons (dBin oIx (dVar 2) (dC (.int 3))) (dCons (dBin oSub (dC (.int 0)) (dBin oIx (dVar 2) (dC (.int 1)))) (dCons (dBin oSub (dC (.int 0)) (dBin oIx (dVar 2) (dC (.int 2)))) (dCons (dBin oIx (dVar 2) (dC (.int 0))) dNil))))) dNil)))
def b_law_9 : DS := (dIf (dOr (dNot (dTest (dCall S__law_are_told (dCons (dLst (dCons (dC (.int 2)) (dCons (dC (.int 3)) dNil))) (dCons (dVar 2) (dCons (dVar 3) (dCons (dTup (dCons (dC (.str "told")) (dCons (dVar 6) dNil))) dNil))))))) (dNot (dTest (dCall S__law_are_told (dCons (dLst (dCons (dC (.int 4)) (dCons (dC (.int 5)) dNil))) (dCons (dVar 2) (dCons (dC .non) (dCons (dTup (dCons (dC (.str "told")) (dCons (dVar 7) dNil))) dNil)))))))) (dRet (dC (.bl false))) dNext)
def b_law_10 : DS := (dFor (dItems (dVar 5)) (gName 9) (dSeq b_law_1
  (dSeq b_law_2
  (dSeq b_law_3
  (dSeq b_law_4
  b_law_5)))))
def b_law_11 : DS := (dFor (dEnum (dVar 5)) (gTup 2 (gCons (gName 11) (gCons (gName 9) gNil))) (dIf (dTest (dBin oNe (dLc (dZip (dVar 5) (dVar 8)) (gTup 2 (gCons (gName 18) (gCons (gName 10) gNil))) (dTest (dBin oNe (dBin oEq (dVar 18) (dVar 9)) (dBin oEq (dVar 10) (dBin oIx (dVar 8) (dVar 11))))) (dVar 18) [18, 10]) (dLst dNil))) (dRet (dC (.bl false))) dNext))
def b_law_12 : DS := (dAsg (dBin oSub (dBin oSub (dBin oPow (dC (.int 10)) (dC (.int 9))) (dC (.int 1))) (dCall S__law_draw (dCons (dVar 1) (dCons (dC (.int 100000)) dNil)))) (gName 12))
def b_law_13 : DS := (dPar 13 14 (dCons (dTup (dCons (dVar 12) (dCons (dBin oSub (dVar 12) (dC (.int 1))) (dCons (dBin oSub (dBin oSub (dC (.int 0)) (dVar 12)) (dC (.int 1))) (dCons (dBin oSub (dC (.int 0)) (dVar 12)) dNil))))) (dCons (dCall S__law_place (dCons (dBin oSub (dBin oPow (dC (.int 10)) (dC (.int 9))) (dCall S__law_draw (dCons (dVar 1) (dCons (dC (.int 99999)) dNil)))) (dCons (dVar 12) dNil))) dNil)))
def b_law_14 : DS := (dIf (dOr (dNot (dTest (dCall S__law_are_told (dCons (dLst (dCons (dC (.int 0)) (dCons (dC (.int 1)) dNil))) (dCons (dVar 13) (dCons (dVar 14) (dCons (dTup (dCons (dC (.str "told")) (dCons (dCall S__law_moved (dCons (dVar 13) (dCons (dVar 14) dNil))) dNil))) dNil))))))) (dTest (dBin oNe (dBin oIx (dCall S_change_inverse (dCons (dVar 13) dNil)) (dC (.int 1))) (dBin oSub (dC (.int 1)) (dVar 12))))) (dRet (dC (.bl false))) dNext)
def b_law_15 : DS := (dIf (dOr (dTest (dBin oNe (dCall S_change_inverse (dCons (dVar 7) dNil)) (dVar 2))) (dTest (dBin oNe (dSlice (dCall S_change_product (dCons (dVar 2) (dCons (dVar 7) dNil))) (dSomeP (dC (.int 1))) (dSomeP (dC (.int 3)))) (dTup (dCons (dC (.int 0)) (dCons (dC (.int 0)) dNil)))))) (dRet (dC (.bl false))) dNext)
def b_law_16 : DS := (dAsg (dLc (dItems (dTup (dCons (dVar 2) (dCons (dVar 3) (dCons (dVar 4) dNil))))) (gName 19) dYes (dBlt cTup (dCons (dLc (dItems (dVar 19)) (gName 17) dYes (dBin oSub (dBin oMod (dVar 17) (dC (.int 40))) (dC (.int 20))) [17]) dNil)) [19]) (gName 15))
def b_law_17 : DS := (dIf (dTest (dBin oEq (dLc (dItems (dVar 15)) (gName 19) (dTest (dBin oEq (dBin oMul (dBin oIx (dVar 19) (dC (.int 0))) (dBin oIx (dVar 19) (dC (.int 3)))) (dBin oMul (dBin oIx (dVar 19) (dC (.int 1))) (dBin oIx (dVar 19) (dC (.int 2)))))) (dVar 19) [19]) (dLst dNil))) (dIf (dTest (dBin oNe (dCall S_change_product (dCons (dCall S_change_product (dCons (dBin oIx (dVar 15) (dC (.int 0))) (dCons (dBin oIx (dVar 15) (dC (.int 1))) dNil))) (dCons (dBin oIx (dVar 15) (dC (.int 2))) dNil))) (dCall S_change_product (dCons (dBin oIx (dVar 15) (dC (.int 0))) (dCons (dCall S_change_product (dCons (dBin oIx (dVar 15) (dC (.int 1))) (dCons (dBin oIx (dVar 15) (dC (.int 2))) dNil))) dNil))))) (dRet (dC (.bl false))) dNext) dNext)
def b_law_18 : DS := (dRet (dCall S__law_are_refused (dCons (dVar 1) (dCons (dVar 2) (dCons (dBin oIx (dVar 5) (dC (.int 0))) dNil)))))
def g_law : DS := (dSeq b_law_6
  (dSeq b_law_7
  (dSeq b_law_8
  (dSeq b_law_9
  (dSeq (dNew 8 dNil)
  (dSeq b_law_10
  (dSeq b_law_11
  (dSeq b_law_12
  (dSeq b_law_13
  (dSeq b_law_14
  (dSeq b_law_15
  (dSeq b_law_16
  (dSeq b_law_17
  b_law_18)))))))))))))
theorem w_law (z : Zs mg) (C__law_deck : Cal P w K mg base "_law_deck" P__law_deck lv__law_deck kw__law_deck (S_deck 0)) (C__law_change : Cal P w K mg base "_law_change" P__law_change lv__law_change kw__law_change S__law_change) (C__law_drawn_place : Cal P w K mg base "_law_drawn_place" P__law_drawn_place lv__law_drawn_place kw__law_drawn_place S__law_drawn_place) (C__law_product : Cal P w K mg base "_law_product" P__law_product lv__law_product kw__law_product S__law_product) (C__law_are_told : Cal P w K mg base "_law_are_told" P__law_are_told lv__law_are_told kw__law_are_told S__law_are_told) (C__law_moved : Cal P w K mg base "_law_moved" P__law_moved lv__law_moved kw__law_moved S__law_moved) (C_moved : Cal P w K mg base "moved" P_moved lv_moved kw_moved S_moved) (C_change_inverse : Cal P w K mg base "change_inverse" P_change_inverse lv_change_inverse kw_change_inverse S_change_inverse) (C__law_draw : Cal P w K mg base "_law_draw" P__law_draw lv__law_draw kw__law_draw S__law_draw) (C__law_place : Cal P w K mg base "_law_place" P__law_place lv__law_place kw__law_place S__law_place) (C_change_product : Cal P w K mg base "change_product" P_change_product lv_change_product kw_change_product S_change_product) (C__law_are_refused : Cal P w K mg base "_law_are_refused" P__law_are_refused lv__law_are_refused kw__law_are_refused S__law_are_refused) : ∀ (cdv : Value) (A : Around) (outer : List PySem.Env) (s : Shared) (H : Hp) (E : XK), A.guards = some [] → Room 8 (A.deeper (PyProof.Rows.envOfC "law" (defScope s_law) s.heap.objs.size a cdv)) →
    PSs (cxOf (L2.CX P w) P w K mg base N_law "law" (defScope s_law) a cdv A outer s H E).nox (defBody s_law) (tSeq (tAsg (tCall (spD K mg (S_deck 0)) [] E0 (tCons (tVar 0) tNil)) (L2.gName 1)) (liftS (k0 K mg) g_law)) := by
  intro cdv A outer s H E gd hr
  obtain ⟨ad, fd, FG, hm, hk, hb, _⟩ := C__law_deck.ex
  exact pss_cons (ps_set (i := 1) sc_law.nd rfl (Or.inr rfl) (callG FG gd (hr.mono (by decide)) (by rfl) hm hk hb .nil passL (pa_cons (pv 0) pa_nil)))
    ((ds_cons ((ps_par3 (i := 2) (j := 3) (l := 4) (by rfl) sc_law.nd rfl rfl rfl (by decide) (by decide) (by decide) rfl rfl rfl (da_cons (dc C__law_change gd (hr.mono (by decide)) (by rfl) (da_cons (dl_var (pv 1)) da_nil)) (da_cons (dc C__law_change gd (hr.mono (by decide)) (by rfl) (da_cons (dl_var (pv 1)) da_nil)) (da_cons (dc C__law_change gd (hr.mono (by decide)) (by rfl) (da_cons (dl_var (pv 1)) da_nil)) da_nil))) (by rfl)).w lift_par3)
  (ds_cons (ds_set (i := 5) sc_law.nd rfl (Or.inl rfl) (dl_bin opd_add (dl_lc (own := [("turn", 16)]) rfl sc_law.nd (di_range1 (by rfl) z.z_range dl_int) (blkOk_by (N := N_law) (sc := defScope s_law) (by decide +kernel)) (fun _ _ _ _ _ => (dg_name (pg_name (i := 16) sc_law.nd rfl (by first | exact Or.inl rfl | exact Or.inr rfl)))) (fun _ _ _ _ _ => dts_nil) (fun _ _ _ _ _ => (dc C__law_drawn_place gd (hr.mono (by decide)) (by rfl) (da_cons (dl_var (pv 1)) da_nil))) (by decide)) (dl_lst (da_cons (dl_tup (da_cons dl_int (da_cons dl_int da_nil))) (da_cons (dl_tup (da_cons dl_int (da_cons dl_int da_nil))) da_nil)))))
  (ds_cons ((ps_par (i := 6) (j := 7) (by rfl) sc_law.nd rfl rfl (by decide) rfl rfl (da_cons (dc C__law_product gd (hr.mono (by decide)) (by rfl) (da_cons (dl_var (pv 2)) (da_cons (dl_var (pv 3)) da_nil))) (da_cons (dl_tup (da_cons (dl_ix (dl_var (pv 2)) dl_int) (da_cons (dl_bin opd_sub dl_int (dl_ix (dl_var (pv 2)) dl_int)) (da_cons (dl_bin opd_sub dl_int (dl_ix (dl_var (pv 2)) dl_int)) (da_cons (dl_ix (dl_var (pv 2)) dl_int) da_nil))))) da_nil)) (by rfl)).w lift_par)
  (ds_cons (ds_if (dw_or (dt_not (dt_val (dc C__law_are_told gd (hr.mono (by decide)) (by rfl) (da_cons (dl_lst (da_cons dl_int (da_cons dl_int da_nil))) (da_cons (dl_var (pv 2)) (da_cons (dl_var (pv 3)) (da_cons (dl_tup (da_cons dl_str (da_cons (dl_var (pv 6)) da_nil))) da_nil))))))) (dw_or1 (dt_not (dt_val (dc C__law_are_told gd (hr.mono (by decide)) (by rfl) (da_cons (dl_lst (da_cons dl_int (da_cons dl_int da_nil))) (da_cons (dl_var (pv 2)) (da_cons dl_non (da_cons (dl_tup (da_cons dl_str (da_cons (dl_var (pv 7)) da_nil))) da_nil))))))))).pt (ds_one (ds_ret dl_bl)) ds_nil)
  (ds_cons (ds_new (i := 8) sc_law.nd rfl (Or.inr rfl) da_nil)
  (ds_cons (ds_for PassesOwn.never rfl (di_items (dl_var (pv 5))) (dg_name (pg_name (i := 9) sc_law.nd rfl (Or.inr rfl))) (ds_cons (ds_set (i := 10) sc_law.nd rfl (Or.inl rfl) (dc C__law_moved gd (hr.mono (by decide)) (by rfl) (da_cons (dl_var (pv 2)) (da_cons (dl_var (pv 9)) da_nil))))
  (ds_cons (ds_append (pv 8) (dc C_moved gd (hr.mono (by decide)) (by rfl) (da_cons (dl_var (pv 2)) (da_cons (dl_var (pv 9)) da_nil))))
  (ds_cons (ds_if (dw_or (dt_not (dt_val (dc C__law_are_told gd (hr.mono (by decide)) (by rfl) (da_cons (dl_lst (da_cons dl_int (da_cons dl_int da_nil))) (da_cons (dl_var (pv 2)) (da_cons (dl_var (pv 9)) (da_cons (dl_tup (da_cons dl_str (da_cons (dl_var (pv 10)) da_nil))) da_nil))))))) (dw_or1 (dt_cm (opd_ne hr.units) (dc C_moved gd (hr.mono (by decide)) (by rfl) (da_cons (dl_var (pv 7)) (da_cons (dl_var (pv 10)) da_nil))) (dl_var (pv 9)) (nomark _)))).pt (ds_one (ds_ret dl_bl)) ds_nil)
  (ds_cons (ds_if (dw_or (dt_cm (opd_ne hr.units) (dc C_moved gd (hr.mono (by decide)) (by rfl) (da_cons (dl_var (pv 2)) (da_cons (dc C_moved gd (hr.mono (by decide)) (by rfl) (da_cons (dc C_change_inverse gd (hr.mono (by decide)) (by rfl) (da_cons (dl_var (pv 2)) da_nil)) (da_cons (dl_var (pv 9)) da_nil))) da_nil))) (dl_var (pv 9)) (nomark _)) (dw_or1 (dt_cm (opd_ne hr.units) (dc C_moved gd (hr.mono (by decide)) (by rfl) (da_cons (dl_callT cd_tup (by rfl) z.z_tuple bt_tuple (da_cons (dl_lc (own := [("it", 17)]) rfl sc_law.nd (di_items (dl_var (pv 2))) (blkOk_by (N := N_law) (sc := defScope s_law) (by decide +kernel)) (fun _ _ _ _ _ => (dg_name (pg_name (i := 17) sc_law.nd rfl (by first | exact Or.inl rfl | exact Or.inr rfl)))) (fun _ _ _ _ _ => dts_nil) (fun _ _ _ _ _ => (dl_bin opd_mul dl_int (dl_var (pv 17)))) (by decide)) da_nil)) (da_cons (dl_var (pv 9)) da_nil))) (dl_var (pv 10)) (nomark _)))).pt (ds_one (ds_ret dl_bl)) ds_nil)
  (ds_one (ds_if (dt_cm (opd_ne hr.units) (dc C_moved gd (hr.mono (by decide)) (by rfl) (da_cons (dl_var (pv 6)) (da_cons (dl_var (pv 9)) da_nil))) (dc C_moved gd (hr.mono (by decide)) (by rfl) (da_cons (dl_var (pv 2)) (da_cons (dc C_moved gd (hr.mono (by decide)) (by rfl) (da_cons (dl_var (pv 3)) (da_cons (dl_var (pv 9)) da_nil))) da_nil))) (nomark _)) (ds_one (ds_ret dl_bl)) ds_nil)))))))
  (ds_cons (ds_for PassesOwn.never rfl (di_enum (by rfl) z.z_enumerate (dl_var (pv 5))) (dg_tup rfl (dg_cons (dg_name (pg_name (i := 11) sc_law.nd rfl (Or.inr rfl))) (dg_cons (dg_name (pg_name (i := 9) sc_law.nd rfl (Or.inr rfl))) dg_nil))) (ds_one (ds_if (dt_cm (opd_ne hr.units) (dl_lc (own := [("spot", 18), ("goal", 10)]) rfl sc_law.nd (di_zip (by rfl) z.z_zip (dl_var (pv 5)) (dl_var (pv 8))) (blkOk_by (N := N_law) (sc := defScope s_law) (by decide +kernel)) (fun _ _ _ _ _ => (dg_tup rfl (dg_cons (dg_name (pg_name (i := 18) sc_law.nd rfl (by first | exact Or.inl rfl | exact Or.inr rfl))) (dg_cons (dg_name (pg_name (i := 10) sc_law.nd rfl (by first | exact Or.inl rfl | exact Or.inr rfl))) dg_nil)))) (fun _ _ _ _ _ => (ptsD (dt_cm (opd_ne hr.units) (dl_cm (opd_eq hr.units) (dl_var (pv 18)) (dl_var (pv 9)) (nomark _)) (dl_cm (opd_eq hr.units) (dl_var (pv 10)) (dl_ix (dl_var (pv 8)) (dl_var (pv 11))) (nomark _)) (nomark _)))) (fun _ _ _ _ _ => (dl_var (pv 18))) (by decide)) (dl_lst da_nil) (nomark _)) (ds_one (ds_ret dl_bl)) ds_nil)))
  (ds_cons (ds_set (i := 12) sc_law.nd rfl (Or.inl rfl) (dl_bin opd_sub (dl_bin opd_sub (dl_bin opd_pow dl_int dl_int) dl_int) (dc C__law_draw gd (hr.mono (by decide)) (by rfl) (da_cons (dl_var (pv 1)) (da_cons dl_int da_nil)))))
  (ds_cons ((ps_par (i := 13) (j := 14) (by rfl) sc_law.nd rfl rfl (by decide) rfl rfl (da_cons (dl_tup (da_cons (dl_var (pv 12)) (da_cons (dl_bin opd_sub (dl_var (pv 12)) dl_int) (da_cons (dl_bin opd_sub (dl_bin opd_sub dl_int (dl_var (pv 12))) dl_int) (da_cons (dl_bin opd_sub dl_int (dl_var (pv 12))) da_nil))))) (da_cons (dc C__law_place gd (hr.mono (by decide)) (by rfl) (da_cons (dl_bin opd_sub (dl_bin opd_pow dl_int dl_int) (dc C__law_draw gd (hr.mono (by decide)) (by rfl) (da_cons (dl_var (pv 1)) (da_cons dl_int da_nil)))) (da_cons (dl_var (pv 12)) da_nil))) da_nil)) (by rfl)).w lift_par)
  (ds_cons (ds_if (dw_or (dt_not (dt_val (dc C__law_are_told gd (hr.mono (by decide)) (by rfl) (da_cons (dl_lst (da_cons dl_int (da_cons dl_int da_nil))) (da_cons (dl_var (pv 13)) (da_cons (dl_var (pv 14)) (da_cons (dl_tup (da_cons dl_str (da_cons (dc C__law_moved gd (hr.mono (by decide)) (by rfl) (da_cons (dl_var (pv 13)) (da_cons (dl_var (pv 14)) da_nil))) da_nil))) da_nil))))))) (dw_or1 (dt_cm (opd_ne hr.units) (dl_ix (dc C_change_inverse gd (hr.mono (by decide)) (by rfl) (da_cons (dl_var (pv 13)) da_nil)) dl_int) (dl_bin opd_sub dl_int (dl_var (pv 12))) (nomark _)))).pt (ds_one (ds_ret dl_bl)) ds_nil)
  (ds_cons (ds_if (dw_or (dt_cm (opd_ne hr.units) (dc C_change_inverse gd (hr.mono (by decide)) (by rfl) (da_cons (dl_var (pv 7)) da_nil)) (dl_var (pv 2)) (nomark _)) (dw_or1 (dt_cm (opd_ne hr.units) (dl_slice (dc C_change_product gd (hr.mono (by decide)) (by rfl) (da_cons (dl_var (pv 2)) (da_cons (dl_var (pv 7)) da_nil))) (dp_some dl_int) (dp_some dl_int)) (dl_tup (da_cons dl_int (da_cons dl_int da_nil))) (nomark _)))).pt (ds_one (ds_ret dl_bl)) ds_nil)
  (ds_cons (DL.ds_setLc (i := 15) (own := [("change", 19)]) rfl sc_law.nd rfl rfl (sw_true rfl rfl rfl (by decide +kernel)) (di_items (dl_tup (da_cons (dl_var (pv 2)) (da_cons (dl_var (pv 3)) (da_cons (dl_var (pv 4)) da_nil))))) (blkOk_by (N := N_law) (sc := defScope s_law) (by decide +kernel)) (fun _ _ _ _ _ => (dg_name (pg_name (i := 19) sc_law.nd rfl (by first | exact Or.inl rfl | exact Or.inr rfl)))) (fun _ _ _ _ _ => dts_nil) (fun _ _ _ _ _ => (dl_callT cd_tup (by rfl) z.z_tuple bt_tuple (da_cons (dl_lc (own := [("it", 17)]) rfl sc_law.nd (di_items (dl_var (pv 19))) (blkOk_by (by kernel_rfl)) (fun _ _ _ _ _ => (dg_name (pg_name (i := 17) sc_law.nd rfl (by first | exact Or.inl rfl | exact Or.inr rfl)))) (fun _ _ _ _ _ => dts_nil) (fun _ _ _ _ _ => (dl_bin opd_sub (dl_bin opd_mod (dl_var (pv 17)) dl_int) dl_int)) (by decide)) da_nil))) (by decide))
  (ds_cons (ds_if (dt_cm (opd_eq hr.units) (dl_lc (own := [("change", 19)]) rfl sc_law.nd (di_items (dl_var (pv 15))) (blkOk_by (N := N_law) (sc := defScope s_law) (by decide +kernel)) (fun _ _ _ _ _ => (dg_name (pg_name (i := 19) sc_law.nd rfl (by first | exact Or.inl rfl | exact Or.inr rfl)))) (fun _ _ _ _ _ => (ptsD (dt_cm (opd_eq hr.units) (dl_bin opd_mul (dl_ix (dl_var (pv 19)) dl_int) (dl_ix (dl_var (pv 19)) dl_int)) (dl_bin opd_mul (dl_ix (dl_var (pv 19)) dl_int) (dl_ix (dl_var (pv 19)) dl_int)) (nomark _)))) (fun _ _ _ _ _ => (dl_var (pv 19))) (by decide)) (dl_lst da_nil) (nomark _)) (ds_one (ds_if (dt_cm (opd_ne hr.units) (dc C_change_product gd (hr.mono (by decide)) (by rfl) (da_cons (dc C_change_product gd (hr.mono (by decide)) (by rfl) (da_cons (dl_ix (dl_var (pv 15)) dl_int) (da_cons (dl_ix (dl_var (pv 15)) dl_int) da_nil))) (da_cons (dl_ix (dl_var (pv 15)) dl_int) da_nil))) (dc C_change_product gd (hr.mono (by decide)) (by rfl) (da_cons (dl_ix (dl_var (pv 15)) dl_int) (da_cons (dc C_change_product gd (hr.mono (by decide)) (by rfl) (da_cons (dl_ix (dl_var (pv 15)) dl_int) (da_cons (dl_ix (dl_var (pv 15)) dl_int) da_nil))) da_nil))) (nomark _)) (ds_one (ds_ret dl_bl)) ds_nil)) ds_nil)
  (ds_one (ds_ret (dc C__law_are_refused gd (hr.mono (by decide)) (by rfl) (da_cons (dl_var (pv 1)) (da_cons (dl_var (pv 2)) (da_cons (dl_ix (dl_var (pv 5)) dl_int) da_nil))))))))))))))))))))
end
end K03
namespace K03
open PySem PySem.Spec L2 DL
/-! ### the readings -/
section
variable {Q : D → Prop} {PX : Ex → Prop}
abbrev E0' (Q : D → Prop) : DEnd := { nx := fun _ => Q .non, rt := Q }
@[simp] theorem ix0 {a : D} {l : List D} : ixD (a :: l) 0 = some a := rfl
@[simp] theorem ix1 {a b : D} {l : List D} : ixD (a :: b :: l) 1 = some b := rfl
@[simp] theorem ix2 {a b c : D} {l : List D} : ixD (a :: b :: c :: l) 2 = some c := rfl
@[simp] theorem ix3 {a b c e : D} {l : List D} : ixD (a :: b :: c :: e :: l) 3 = some e := rfl
theorem r_is_integer {ds : List D} (h : S_isint ds Q PX) : g_is_integer (E0' Q) (slots 1 ds) := by
  unfold S_isint at h
  split at h
  case h_2 => exact h.elim
  rename_i d
  obtain ⟨hp, q⟩ := h
  have ht := plain_ty hp
  unfold g_is_integer
  cases d <;> simp [slots, isiS, tyS, intD] at ht q ⊢ <;> exact q
theorem r_are_integers {ds : List D} (h : S_areints ds Q PX) : g_are_integers (E0' Q) (slots 3 ds) := by
  unfold S_areints at h
  split at h
  case h_2 => exact h.elim
  rename_i d n
  obtain ⟨hp, hn, q⟩ := h
  have ht := plain_ty hp
  unfold g_are_integers
  cases d with
  | tup l =>
    simp only [plainD] at hp
    simp only [nds] at hn
    have hl := len_nds l
    simp [slots, isiS, areD] at q ⊢
    by_cases hnl : (l.length : Int) = n
    · simp [hnl] at q ⊢
      refine comp_map (fun d => some (.bl (intD d))) l [] (fun d hd Q' hQ' => ?_) (by simp; omega) ?_
      · simp [turn, wipeD, S_isint]
        exact ⟨plain_mem hp d hd, hQ'⟩
      · refine ⟨l.map intD, ?_, ?_⟩
        · simp [List.filterMap_eq_map']
        · simpa [List.all_map] using q
    · simp [hnl] at q ⊢
      exact q
  | _ => simp [slots, isiS, tyS, areD] at ht q ⊢ <;> exact q
theorem r_common_divisor {ds : List D} (h : S_gcd ds Q PX) : g_common_divisor (E0' Q) (slots 2 ds) := by
  unfold S_gcd at h
  split at h
  case h_2 => exact h.elim
  rename_i a b
  have q := h
  unfold g_common_divisor
  simp [slots]
  refine while_inv (fun env => ∃ x y : Nat, env = [.val (.int x), .val (.int y)] ∧ Nat.gcd x y = Nat.gcd a.natAbs b.natAbs) (fun env => match env with | [_, .val (.int y)] => y.toNat | _ => 0) ?_ ⟨a.natAbs, b.natAbs, rfl, rfl⟩
  rintro env N ⟨x, y, rfl, hg⟩ hN
  by_cases hy : y = 0
  · subst hy
    simp at hg ⊢
    rw [hg]
    exact q
  · have hy' : ¬ (y : Int) = 0 := by omega
    simp [hy, hy']
    refine ⟨by omega, hN _ ⟨y, x % y, ?_, ?_⟩ ?_⟩
    · simp
    · rw [← hg, Nat.gcd_comm x y, Nat.gcd_rec y x, Nat.gcd_comm]
    · have := Nat.mod_lt x (Nat.pos_of_ne_zero hy)
      simp
      omega
theorem r__law_divisor {ds : List D} (h : S_gcd ds Q PX) : g__law_divisor (E0' Q) (slots 2 ds) := by
  unfold S_gcd at h
  split at h
  case h_2 => exact h.elim
  rename_i a b
  have q := h
  unfold g__law_divisor
  simp [slots]
  refine while_inv (fun env => ∃ x y : Nat, env = [.val (.int x), .val (.int y)] ∧ Nat.gcd x y = Nat.gcd a.natAbs b.natAbs) (fun env => match env with | [_, .val (.int y)] => y.toNat | _ => 0) ?_ ⟨a.natAbs, b.natAbs, rfl, rfl⟩
  rintro env N ⟨x, y, rfl, hg⟩ hN
  by_cases hy : y = 0
  · subst hy
    simp at hg ⊢
    rw [hg]
    exact q
  · have hy' : 0 < y := Nat.pos_of_ne_zero hy
    simp [hy']
    refine hN _ ⟨y, x % y, ?_, ?_⟩ ?_
    · simp
    · rw [← hg, Nat.gcd_comm x y, Nat.gcd_rec y x, Nat.gcd_comm]
    · have := Nat.mod_lt x hy'
      simp
      omega
theorem leaf_lt {i : Int} (h : i.natAbs < 10 ^ 100) : Lt 400 i := ⟨Nat.lt_of_lt_of_le h (by decide +kernel)⟩
theorem leaf4 {a b c e : Int} (h : leaf (.tup [.int a, .int b, .int c, .int e]) = true) : Lt 400 a ∧ Lt 400 b ∧ Lt 400 c ∧ Lt 400 e := by
  simp only [leaf, leafs, Bool.and_eq_true, decide_eq_true_eq, Bool.and_true] at h
  exact ⟨leaf_lt h.1, leaf_lt h.2.1, leaf_lt h.2.2.1, leaf_lt h.2.2.2⟩
theorem pl_no {d : D} (h : areD d 2 = false) : plD d = false := by
  unfold plD
  split
  · simp [areD, intD] at h
  · rfl
theorem ch_no {d : D} (h : areD d 4 = false) : chD d = false := by
  unfold chD
  split
  · simp [areD, intD] at h
  · rfl
@[simp] theorem flat_two {a b : Int} : eqOk (.tup [.int a, .int b]) := .of (by simp [flatD, flatDs]) (by simp [lvl, lvls])
theorem r_is_place {ds : List D} (h : S_is_place ds Q PX) : g_is_place (E0' Q) (slots 1 ds) := by
  unfold S_is_place at h
  split at h
  case h_2 => exact h.elim
  rename_i d
  obtain ⟨ok, q⟩ := h
  have hp := plain_leaf d ok.lf
  have hn := ok.sz
  unfold g_is_place
  cases e : areD d 2 with
  | false =>
    rw [pl_no e] at q
    simp [slots, S_areints, hp, e]
    exact ⟨by omega, q⟩
  | true =>
    obtain ⟨a, b, rfl⟩ := are2 e
    simp [slots, S_areints, hp, e, plD, S_gcd] at q ⊢
    refine ⟨by omega, ?_⟩
    by_cases h1 : a = 1 ∧ b = 0
    · obtain ⟨rfl, rfl⟩ := h1
      simp at q ⊢
      exact q
    · have e1 : (a == 1 && b == 0) = false := by simpa using h1
      simp [e1] at q ⊢
      by_cases h2 : 0 < b
      · simp [h2] at q ⊢
        rw [if_neg h1]
        exact q
      · simp [h2] at q ⊢
        rw [if_neg h1]
        exact q
theorem r_is_change {ds : List D} (h : S_is_change ds Q PX) : g_is_change (E0' Q) (slots 1 ds) := by
  unfold S_is_change at h
  split at h
  case h_2 => exact h.elim
  rename_i d
  obtain ⟨ok, q⟩ := h
  have hp := plain_leaf d ok.lf
  have hn := ok.sz
  unfold g_is_change
  cases e : areD d 4 with
  | false =>
    rw [ch_no e] at q
    simp [slots, S_areints, hp, e]
    exact ⟨by omega, q⟩
  | true =>
    obtain ⟨a, b, c, s, rfl⟩ := are4 e
    obtain ⟨ha, hb, hc, hs⟩ := leaf4 ok.lf
    simp [slots, S_areints, hp, e, chD] at q ⊢
    refine ⟨by omega, Lt.cm (by decide), Lt.cm (by decide), ?_⟩
    have z : (a * s - b * c == 0) = (a * s == b * c) := by
      rw [Bool.eq_iff_iff]; simp; omega
    simpa [z] using q
theorem r_product {ds : List D} (h : S_product ds Q PX) : g_product (E0' Q) (slots 10 ds) := by
  unfold S_product at h
  split at h
  case h_2 => exact h.elim
  rename_i p q r s t u v w
  obtain ⟨⟨hp, hq, hr, hs⟩, ⟨ht, hu, hv, hw⟩, z⟩ := h
  have cm : ∀ {i j : Int}, Lt 400 i → Lt 400 j → CMulW i j := fun h1 h2 => cmulW h1.h h2.h (by omega)
  unfold g_product
  simp -implicitDefEqProofs [slots]
  exact ⟨cm hp ht, cm hq hv, cm hp hu, cm hq hw, cm hr ht, cm hs hv, cm hr hu, cm hs hw, z⟩
theorem r__law_product {ds : List D} (h : S__law_product ds Q PX) : g__law_product (E0' Q) (slots 10 ds) := by
  unfold S__law_product at h
  split at h
  case h_2 => exact h.elim
  rename_i p q r s t u v w
  obtain ⟨⟨hp, hq, hr, hs⟩, ⟨ht, hu, hv, hw⟩, z⟩ := h
  have cm : ∀ {i j : Int}, Lt 400 i → Lt 400 j → CMulW i j := fun h1 h2 => cmulW h1.h h2.h (by omega)
  unfold g__law_product
  simp -implicitDefEqProofs [slots]
  exact ⟨cm hp ht, cm hq hv, cm hp hu, cm hq hw, cm hr ht, cm hs hv, cm hr hu, cm hs hw, z⟩
theorem ch_four {d : D} (h : chD d = true) : ∃ p q r s : Int, d = .tup [.int p, .int q, .int r, .int s] ∧ p * s ≠ q * r := by
  unfold chD at h
  split at h
  · rename_i a b c e
    exact ⟨a, b, c, e, rfl, by simpa using h⟩
  · cases h
theorem leaf2 {a b : Int} (h : leaf (.tup [.int a, .int b]) = true) : Lt 400 a ∧ Lt 400 b := by
  simp only [leaf, leafs, Bool.and_eq_true, decide_eq_true_eq, Bool.and_true] at h
  exact ⟨leaf_lt h.1, leaf_lt h.2⟩
theorem r_check_change {ds : List D} (h : S_check_change ds Q PX) : g_check_change (fun x _ => PX x) (E0' Q) (slots 1 ds) := by
  unfold S_check_change at h
  split at h
  case h_2 => exact h.elim
  rename_i d
  obtain ⟨ok, h1, h2⟩ := h
  unfold g_check_change
  cases e : chD d with
  | false =>
    simp -implicitDefEqProofs [slots, S_is_change, ok, e]
    exact h1 e
  | true =>
    simp -implicitDefEqProofs [slots, S_is_change, ok, e]
    exact h2 e
theorem r_change_product {ds : List D} (h : S_change_product ds Q PX) : g_change_product (fun x _ => PX x) (E0' Q) (slots 2 ds) := by
  unfold S_change_product at h
  split at h
  case h_2 => exact h.elim
  rename_i a b
  obtain ⟨⟨oa, ob⟩, h1, h2, h3⟩ := h
  unfold g_change_product
  simp -implicitDefEqProofs [slots, S_check_change, oa, ob]
  refine ⟨h1, fun ca => ⟨h2 ca, fun cb => ?_⟩⟩
  have q := h3 ca cb
  obtain ⟨p, q', r, s, rfl, _⟩ := ch_four ca
  obtain ⟨t, u, v, w, rfl, _⟩ := ch_four cb
  obtain ⟨a1, a2, a3, a4⟩ := leaf4 oa.lf
  obtain ⟨b1, b2, b3, b4⟩ := leaf4 ob.lf
  exact ⟨⟨a1, a2, a3, a4⟩, ⟨b1, b2, b3, b4⟩, q⟩
theorem r_change_inverse {ds : List D} (h : S_change_inverse ds Q PX) : g_change_inverse (fun x _ => PX x) (E0' Q) (slots 5 ds) := by
  unfold S_change_inverse at h
  split at h
  case h_2 => exact h.elim
  rename_i a
  obtain ⟨oa, h1, h2⟩ := h
  unfold g_change_inverse
  simp -implicitDefEqProofs [slots, S_check_change, oa]
  refine ⟨h1, fun ca => ?_⟩
  have q := h2 ca
  obtain ⟨p, q', r, s, rfl, _⟩ := ch_four ca
  simp -implicitDefEqProofs
  exact q
end
end K03
namespace K03
open PySem PySem.Spec L2 DL
/-! ### places of pairs -/
theorem gcd_pos {a b : Int} (h : ¬ (a = 0 ∧ b = 0)) : 0 < Nat.gcd a.natAbs b.natAbs := by
  rcases Nat.eq_zero_or_pos (Nat.gcd a.natAbs b.natAbs) with e | e
  · rw [Nat.gcd_eq_zero_iff] at e
    exact absurd ⟨by omega, by omega⟩ h
  · exact e
theorem gcd_le {a b : Int} (h : ¬ (a = 0 ∧ b = 0)) : Nat.gcd a.natAbs b.natAbs ≤ max a.natAbs b.natAbs := by
  by_cases ha : a = 0
  · subst ha
    simp
  · have := Nat.gcd_le_left b.natAbs (by omega : 0 < a.natAbs)
    omega
theorem dvd_a (a b : Int) : ((Nat.gcd a.natAbs b.natAbs : Nat) : Int) ∣ a := Int.ofNat_dvd_left.mpr (Nat.gcd_dvd_left _ _)
theorem dvd_b (a b : Int) : ((Nat.gcd a.natAbs b.natAbs : Nat) : Int) ∣ b := Int.ofNat_dvd_left.mpr (Nat.gcd_dvd_right _ _)
theorem fdiv_n {a g : Int} (h : g ∣ a) (hg : 0 < g) : a.fdiv (-g) = -(a / g) := by
  obtain ⟨q, rfl⟩ := h
  rw [Int.mul_ediv_cancel_left q (by omega), show g * q = (-g) * (-q) from by rw [Int.neg_mul_neg], Int.mul_fdiv_cancel_left _ (by omega)]
def IsP (x y : Int) : Prop := (0 < y ∧ Nat.gcd x.natAbs y.natAbs = 1) ∨ (x = 1 ∧ y = 0)
theorem plV_mul {x y k : Int} (h : IsP x y) (hk : k ≠ 0) : plV (k * x) (k * y) = .tup [.int x, .int y] := by
  unfold plV
  rcases h with ⟨hy, hg⟩ | ⟨rfl, rfl⟩
  · have e : Nat.gcd (k * x).natAbs (k * y).natAbs = k.natAbs := by
      rw [Int.natAbs_mul, Int.natAbs_mul, Nat.gcd_mul_left, hg, Nat.mul_one]
    have hky : k * y ≠ 0 := Int.mul_ne_zero hk (by omega)
    rw [if_neg hky, e]
    by_cases kp : 0 < k
    · have : ((k.natAbs : Nat) : Int) = k := by omega
      rw [if_pos (Int.mul_pos kp hy), this, Int.mul_ediv_cancel_left _ hk, Int.mul_ediv_cancel_left _ hk]
    · have : ((k.natAbs : Nat) : Int) = -k := by omega
      have n : ¬ 0 < k * y := by
        have := Int.mul_pos (show 0 < -k by omega) hy
        rw [Int.neg_mul] at this
        omega
      rw [if_neg n, this, Int.ediv_neg, Int.ediv_neg, Int.mul_ediv_cancel_left _ hk, Int.mul_ediv_cancel_left _ hk, Int.neg_neg, Int.neg_neg]
  · simp
theorem plV_is {a b : Int} (h : ¬ (a = 0 ∧ b = 0)) : ∃ x y k : Int, IsP x y ∧ k ≠ 0 ∧ k.natAbs = Nat.gcd a.natAbs b.natAbs ∧ a = k * x ∧ b = k * y ∧ plV a b = .tup [.int x, .int y] := by
  have hg := gcd_pos h
  obtain ⟨x, hx⟩ := dvd_a a b
  obtain ⟨y, hy⟩ := dvd_b a b
  have hg' : ((Nat.gcd a.natAbs b.natAbs : Nat) : Int) ≠ 0 := by omega
  have hc : Nat.gcd x.natAbs y.natAbs = 1 := by
    have e : Nat.gcd a.natAbs b.natAbs = Nat.gcd a.natAbs b.natAbs * Nat.gcd x.natAbs y.natAbs := by
      have e1 : a.natAbs = Nat.gcd a.natAbs b.natAbs * x.natAbs := by
        have := congrArg Int.natAbs hx
        rw [Int.natAbs_mul, Int.natAbs_natCast] at this
        exact this
      have e2 : b.natAbs = Nat.gcd a.natAbs b.natAbs * y.natAbs := by
        have := congrArg Int.natAbs hy
        rw [Int.natAbs_mul, Int.natAbs_natCast] at this
        exact this
      have e3 := Nat.gcd_mul_left (Nat.gcd a.natAbs b.natAbs) x.natAbs y.natAbs
      rw [← e1, ← e2] at e3
      exact e3
    have := Nat.eq_of_mul_eq_mul_left hg (show Nat.gcd a.natAbs b.natAbs * Nat.gcd x.natAbs y.natAbs = Nat.gcd a.natAbs b.natAbs * 1 by omega)
    exact this
  have key : ∀ s t k : Int, IsP s t → k ≠ 0 → k.natAbs = Nat.gcd a.natAbs b.natAbs → a = k * s → b = k * t → ∃ x y k : Int, IsP x y ∧ k ≠ 0 ∧ k.natAbs = Nat.gcd a.natAbs b.natAbs ∧ a = k * x ∧ b = k * y ∧ plV a b = .tup [.int x, .int y] := by
    intro s t k h1 h2 h3 h4 h5
    refine ⟨s, t, k, h1, h2, h3, h4, h5, ?_⟩
    have := plV_mul h1 h2
    rw [← h4, ← h5] at this
    exact this
  by_cases y0 : 0 < y
  · exact key x y _ (.inl ⟨y0, hc⟩) hg' (by simp) hx hy
  · by_cases y1 : y = 0
    · subst y1
      have hx1 : x.natAbs = 1 := by simpa using hc
      rcases Int.natAbs_eq x with e | e
      · rw [hx1] at e
        exact key x 0 _ (.inr ⟨e, rfl⟩) hg' (by simp) hx hy
      · rw [hx1] at e
        refine key 1 0 (-(Nat.gcd a.natAbs b.natAbs : Nat)) (.inr ⟨rfl, rfl⟩) (by omega) (by simp) ?_ (by simpa using hy)
        rw [e] at hx
        omega
    · refine key (-x) (-y) (-(Nat.gcd a.natAbs b.natAbs : Nat)) (.inl ⟨by omega, by simpa using hc⟩) (by omega) (by simp) ?_ ?_
      · rw [Int.neg_mul_neg]; exact hx
      · rw [Int.neg_mul_neg]; exact hy
theorem isP_nz {x y : Int} (h : IsP x y) : ¬ (x = 0 ∧ y = 0) := by
  rintro ⟨rfl, rfl⟩
  rcases h with ⟨h, _⟩ | ⟨h, _⟩
  · omega
  · exact absurd h (by decide)
theorem pl_two {d : D} (h : plD d = true) : ∃ x y : Int, d = .tup [.int x, .int y] ∧ IsP x y := by
  unfold plD at h
  split at h
  · rename_i a b
    refine ⟨a, b, rfl, ?_⟩
    simp only [Bool.or_eq_true, Bool.and_eq_true, decide_eq_true_eq, beq_iff_eq] at h
    exact h
  · cases h
section
variable {Q : D → Prop} {PX : Ex → Prop}
theorem r__law_pick {ds : List D} (h : S__law_pick ds Q PX) : g__law_pick (E0' Q) (slots 2 ds) := by
  unfold S__law_pick at h
  split at h
  case h_2 => exact h.elim
  rename_i m l
  obtain ⟨rfl, hn, hl, q⟩ := h
  have h0 : 0 < l.length := List.length_pos_iff.mpr hn
  unfold g__law_pick
  simp [slots, S_draw]
  refine ⟨h0, ?_, fun r h1 h2 => ?_⟩
  · exact Int.lt_of_le_of_lt (b := 1000000) (by omega) (by decide +kernel)
  · obtain ⟨d, hd, e⟩ := ix_mem (l := l) h1 h2
    exact ⟨d, e, q d hd⟩
theorem r__law_place {ds : List D} (h : S__law_place ds Q PX) : g__law_place (E0' Q) (slots 3 ds) := by
  unfold S__law_place at h
  split at h
  case h_2 => exact h.elim
  rename_i a b
  obtain ⟨⟨ha, hb⟩, q⟩ := h
  unfold g__law_place
  have eg : ∀ P PX, S_gcd [.int a, .int b] P PX = P (.int ((Nat.gcd a.natAbs b.natAbs : Nat) : Int)) := fun _ _ => rfl
  unfold plV at q
  simp -implicitDefEqProofs [slots, eg]
  by_cases b1 : b = 0
  · simp [b1] at q ⊢
    exact q
  · have hg := gcd_pos (a := a) (b := b) (fun h => b1 h.2)
    have hl : Nat.gcd a.natAbs b.natAbs ≤ b.natAbs := Nat.gcd_le_right _ (by omega)
    have lg : (Nat.gcd a.natAbs b.natAbs).log2 < 9000 := Nat.lt_of_lt_of_le ((Nat.log2_lt (by omega)).mpr (Nat.lt_of_le_of_lt hl hb.h)) (by decide)
    generalize Nat.gcd a.natAbs b.natAbs = g at *
    have gp' : ¬ g = 0 := by omega
    by_cases b2 : 0 < b
    · simp -implicitDefEqProofs [b1, b2, hg, lg] at q ⊢
      exact q
    · simp -implicitDefEqProofs [b1, b2, hg, lg] at q ⊢
      exact q
theorem r_place_of {ds : List D} (h : S_place_of ds Q PX) : g_place_of (E0' Q) (slots 3 ds) := by
  unfold S_place_of at h
  split at h
  case h_2 => exact h.elim
  rename_i a b
  obtain ⟨⟨ha, hb⟩, h0, q⟩ := h
  unfold g_place_of
  simp [slots]
  · have hg := gcd_pos h0
    have hl := gcd_le h0
    have d1 := dvd_a a b
    have d2 := dvd_b a b
    unfold plV at q
    have eg : ∀ P PX, S_gcd [.int a, .int b] P PX = P (.int ((Nat.gcd a.natAbs b.natAbs : Nat) : Int)) := fun _ _ => rfl
    generalize hG : Nat.gcd a.natAbs b.natAbs = g at *
    have lg : g.log2 < 9000 := by
      have h1 := ha.h
      have h2 := hb.h
      exact Nat.lt_of_lt_of_le ((Nat.log2_lt (n := g) (k := 900) (by omega)).mpr (by omega)) (by decide)
    have gp : (0 : Int) < (g : Int) := by omega
    have gn : ¬ ((g : Int) < 0) := by omega
    have f1 := fdiv_n d1 gp
    have f2 := fdiv_n d2 gp
    have body : ∀ {d : Prop}, d → (if a = 0 then ¬ b = 0 ∧ d else d) := by
      intro d hd
      split
      · exact ⟨by omega, hd⟩
      · exact hd
    simp [eg]
    refine body ?_
    by_cases b0 : b < 0
    · have b1 : ¬ b = 0 := by omega
      have b2 : ¬ 0 < b := by omega
      simp [b0, b1, b2, gn, hg, lg, f1, f2] at q ⊢
      exact q
    · by_cases b1 : b = 0
      · subst b1
        simp at q
        by_cases a0 : a < 0
        · have e : a = (g : Int) * (-1) := by simp at hG; omega
          have e2 : a / (g : Int) = -1 := by rw [e, Int.mul_ediv_cancel_left _ (by omega)]
          simp [a0, gn, hg, lg, f1, f2, e2]
          exact q
        · have e : a = (g : Int) * 1 := by simp at hG; omega
          have e2 : a / (g : Int) = 1 := by rw [e, Int.mul_ediv_cancel_left _ (by omega)]
          simp [a0, hg, lg, e2]
          exact q
      · have b2 : 0 < b := by omega
        simp [b0, b1, b2, gp, hg, lg] at q ⊢
        exact q
theorem move_nz {p q r s x y : Int} (h : p * s ≠ q * r) (hp : IsP x y) : ¬ (p * x + q * y = 0 ∧ r * x + s * y = 0) := by
  rintro ⟨h1, h2⟩
  have e1 : (p * s - q * r) * x = 0 := by
    have : (p * s - q * r) * x = s * (p * x + q * y) - q * (r * x + s * y) := by grind
    rw [this, h1, h2]; omega
  have e2 : (p * s - q * r) * y = 0 := by
    have : (p * s - q * r) * y = p * (r * x + s * y) - r * (p * x + q * y) := by grind
    rw [this, h1, h2]; omega
  have hd : p * s - q * r ≠ 0 := by omega
  exact isP_nz hp ⟨(Int.mul_eq_zero.mp e1).resolve_left hd, (Int.mul_eq_zero.mp e2).resolve_left hd⟩
theorem r_move {ds : List D} (h : S_move ds Q PX) : g_move (E0' Q) (slots 8 ds) := by
  unfold S_move at h
  split at h
  case h_2 => exact h.elim
  rename_i p q' r s x y
  obtain ⟨⟨hp, hq, hr, hs⟩, ⟨hx, hy⟩, nz, q⟩ := h
  unfold g_move
  simp -implicitDefEqProofs [slots]
  exact ⟨Lt.cm (by decide), Lt.cm (by decide), Lt.cm (by decide), Lt.cm (by decide), ⟨Lt.to (by decide), Lt.to (by decide)⟩, nz, q⟩
theorem r_moved {ds : List D} (h : S_moved ds Q PX) : g_moved (fun x _ => PX x) (E0' Q) (slots 2 ds) := by
  unfold S_moved at h
  split at h
  case h_2 => exact h.elim
  rename_i a b
  obtain ⟨⟨oa, ob⟩, h1, h2, h3⟩ := h
  unfold g_moved
  simp -implicitDefEqProofs [slots, S_check_change, oa]
  refine ⟨h1, fun ca => ?_⟩
  cases pb : plD b with
  | false =>
    simp -implicitDefEqProofs [S_is_place, ob, pb]
    exact h2 ca pb
  | true =>
    obtain ⟨fit, q⟩ := h3 ca pb
    obtain ⟨p, q', r, s, rfl, nd⟩ := ch_four ca
    obtain ⟨x, y, rfl, ip⟩ := pl_two pb
    obtain ⟨a1, a2, a3, a4⟩ := leaf4 oa.lf
    obtain ⟨b1, b2⟩ := leaf2 ob.lf
    simp -implicitDefEqProofs [S_is_place, ob, pb]
    exact ⟨⟨a1, a2, a3, a4⟩, ⟨b1, b2⟩, move_nz nd ip, q⟩
theorem r__law_moved {ds : List D} (h : S__law_moved ds Q PX) : g__law_moved (E0' Q) (slots 6 ds) := by
  unfold S__law_moved at h
  split at h
  case h_2 => exact h.elim
  rename_i p q' r s x y
  obtain ⟨⟨hp, hq, hr, hs⟩, ⟨hx, hy⟩, q⟩ := h
  unfold g__law_moved
  simp -implicitDefEqProofs [slots]
  exact ⟨Lt.cm (by decide), Lt.cm (by decide), Lt.cm (by decide), Lt.cm (by decide), ⟨Lt.to (by decide), Lt.to (by decide)⟩, q⟩
theorem r__law_signed {ds : List D} (h : S__law_signed ds Q PX) : g__law_signed (E0' Q) (slots 3 ds) := by
  unfold S__law_signed at h
  split at h
  case h_2 => exact h.elim
  rename_i m k
  obtain ⟨rfl, h0, h1, q⟩ := h
  have kk : k < 10 ^ 200 := Int.lt_of_le_of_lt h1 (by decide +kernel)
  unfold g__law_signed
  simp -implicitDefEqProofs [slots, S_draw, h0]
  refine ⟨Int.lt_of_le_of_lt h1 (by decide +kernel), fun r r0 r1 r2 _ _ => ?_⟩
  split
  · exact q _ (.of (by omega))
  · exact q _ (.of (by omega))
end
end K03
namespace K03
open PySem PySem.Spec L2 DL
section
variable {Q : D → Prop} {PX : Ex → Prop}
theorem r__law_deck {ds : List D} (h : S_deck 0 ds Q PX) : g__law_deck (E0' Q) (slots 4 ds) := by
  obtain ⟨ns, rfl, hl, q⟩ := h
  unfold g__law_deck
  simp [slots]
  obtain ⟨ms, e, hms⟩ := cut_ints ns none (some 63)
  rw [e]
  refine comp_map (fun d => some d) _ [] (fun d hd Q' hQ' => ?_) (by simp; omega) ?_
  · obtain ⟨i, _, rfl⟩ := List.mem_map.mp hd
    simp [turn, wipeD, restD, keepS] at hQ' ⊢
    exact hQ'
  · simp
    refine for_ints (fun _ env => ∃ (m : Int) (s : Slot), env = [.val (.scr ns), .val (.lst (ms.map D.int)), .val (.int m), s] ∧ 0 ≤ m ∧ m < 2147483648) ?_ ?_ ⟨_, _, rfl, by decide, by decide⟩
    · rintro i l env N ⟨m, s, rfl, h0, h1⟩ hN
      simp
      have hm : Lt 31 m := .of (by omega)
      refine ⟨Lt.cm (by decide +kernel), hN _ ⟨_, _, rfl, ?_, ?_⟩⟩
      · exact Int.emod_nonneg _ (by decide)
      · exact Int.lt_trans (Int.emod_lt_of_pos _ (by decide)) (by decide)
    · rintro env ⟨m, s, rfl, h0, h1⟩
      simp [dDisp]
      refine q _ ⟨ms.reverse, m, 0, by rw [List.length_reverse]; omega, ?_, h0, h1⟩
      simp
end
theorem w__law_draw {P : Program} {w : World} {K : PySem.W.Frag} {mg : Str → Option Value} {base : Heap} {f : Addr} {fd : FuncData} {x : Str} {params : Arguments} (z : Zs mg) (F : FunD K x "_law_draw" params (defBody s__law_draw) (defScope s__law_draw) [] [] f fd) :
    FnG P w K mg base (L2.CX P w) 1 f fd ["deck", "limit"] (spD K mg (S_draw 0)) := by
  refine fnG F sc__law_draw (fun vs H Q E hsp => sp_len (n := 2) (fun ds P PX h => by unfold S_draw at h; split at h; · rfl
                                                                                      · exact h.elim) hsp) fun cdv A outer s H vs Q E gd hr hsp => ?go
  case go =>
    have wk : PSs (cxOf (L2.CX P w) P w K mg base N__law_draw "_law_draw" (defScope s__law_draw) f cdv A outer s H E).nox (defBody s__law_draw) _ := (pss_cons (ps_dput (un1 hr) (pv 0) pe_str (pe_op op_add (pe_dget (un1 hr) (pv 0) pe_str (fun _ _ => rfl)) pe_int) (by rfl))
    (pss_cons (ps_if (pt_cmpR (op_neD hr.units) (pe_dget (un1 hr) (pv 0) pe_str (fun _ _ => rfl)) (pe_lst pa_nil) (nomark _))
      (pss_cons (ps_set (i := 2) sc__law_draw.nd rfl (Or.inl rfl) (pe_bm0 PySem.F.plainAttrs_list PySem.F.slot_list_pop PySem.F.type_list_pop mt_pop (pe_dget (un1 hr) (pv 0) pe_str (fun _ _ => rfl))))
      (pss_cons (ps_if (pt_cmpR op_ge (pv 2) (pe_op op_pow pe_int pe_int) (nomark _))
        (pss_cons (ps_expr (pe_bm PySem.F.plainAttrs_list PySem.F.slot_list_append PySem.F.type_list_append mt_append (pe_dget (un1 hr) (pv 0) pe_str (fun _ _ => rfl)) (pa_cons (pe_op op_fdivW (pv 2) (pe_callB (call_max2 rfl) (by rfl) z.z_max bt_max (pa_cons pe_int (pa_cons (pv 1) pa_nil)))) pa_nil)))
        (pss_one (ps_ret (pe_op op_mod (pv 2) (pv 1))))) pss_nil)
      (pss_one (ps_dput (un1 hr) (pv 0) pe_str (pe_op op_mod (pe_op op_add (pe_op op_add (pe_dget (un1 hr) (pv 0) pe_str (fun _ _ => rfl)) (pe_op op_mod (pv 2) pe_int)) pe_int) pe_int) (by rfl))))) pss_nil)
    (pss_cons (ps_set (i := 3) sc__law_draw.nd rfl (Or.inl rfl) (pe_op op_mod (pe_op op_add (pe_op op_add (pe_op op_mul (pe_dget (un1 hr) (pv 0) pe_str (fun _ _ => rfl)) pe_int) (pe_op op_mul (pe_dget (un1 hr) (pv 0) pe_str (fun _ _ => rfl)) pe_int)) pe_int) pe_int))
    (pss_cons (ps_dput (un1 hr) (pv 0) pe_str (pe_op op_mod (pe_op op_add (pe_op op_mul (pv 3) (pv 3)) (pe_dget (un1 hr) (pv 0) pe_str (fun _ _ => rfl))) pe_int) (by rfl))
    (pss_one (ps_ret (pe_op op_mod (pe_op op_fdiv (pe_dget (un1 hr) (pv 0) pe_str (fun _ _ => rfl)) pe_int) (pv 1))))))))
    refine ⟨_, wk.nox, ?_⟩
    exact drawB_fn rfl hsp
end K03
namespace K03
open PySem PySem.Spec L2 DL
section
variable {Q : D → Prop} {PX : Ex → Prop}
set_option maxHeartbeats 2000000 in
theorem r__law_told {ds : List D} (h : S__law_told ds Q PX) : g__law_told (E0' Q) (slots 4 ds) := by
  unfold S__law_told at h
  split at h
  case h_2 => exact h.elim
  rename_i w a b
  obtain ⟨⟨oa, ob⟩, fit, q⟩ := h
  unfold g__law_told
  have s1 : subX "BadChange" "BadChange" = true := by decide
  have s2 : subX "BadChange" "RulerError" = true := by decide
  have s3 : subX "BadPlace" "BadPlace" = true := by decide
  have s4 : subX "BadPlace" "RulerError" = true := by decide
  have s5 : subX "BadPlace" "BadChange" = false := by decide
  unfold tellD at q
  have mv : w = 0 ∨ w = 1 → (chD a = false → Q (.tup [.str "change", a, .bl true])) ∧ (chD a = true → plD b = false → Q (.tup [.str "place", b, .bl true])) ∧ (chD a = true → plD b = true → Fit a b ∧ Q (.tup [.str "told", mvD a b])) := by
    intro hw
    refine ⟨fun h1 => ?_, fun h1 h2 => ?_, fun h1 h2 => ⟨fit hw h1 h2, ?_⟩⟩
    · rw [if_pos h1] at q; exact q
    · rw [if_neg (by rw [h1]; decide), if_pos hw, if_pos h2] at q; exact q
    · rw [if_neg (by rw [h1]; decide), if_pos hw, if_neg (by rw [h2]; decide)] at q; exact q
  have pr : w = 2 ∨ w = 3 → (chD a = false → Q (.tup [.str "change", a, .bl true])) ∧ (chD a = true → chD b = false → Q (.tup [.str "change", b, .bl true])) ∧ (chD a = true → chD b = true → Q (.tup [.str "told", prD a b])) := by
    intro hw
    have hw' : ¬ (w = 0 ∨ w = 1) := by omega
    refine ⟨fun h1 => ?_, fun h1 h2 => ?_, fun h1 h2 => ?_⟩
    · rw [if_pos h1] at q; exact q
    · rw [if_neg (by rw [h1]; decide), if_neg hw', if_pos hw, if_pos h2] at q; exact q
    · rw [if_neg (by rw [h1]; decide), if_neg hw', if_pos hw, if_neg (by rw [h2]; decide)] at q; exact q
  have iv : ¬ (w = 0 ∨ w = 1) → ¬ (w = 2 ∨ w = 3) → (chD a = false → Q (.tup [.str "change", a, .bl true])) ∧ (chD a = true → Q (.tup [.str "told", invD a])) := by
    intro h1 h2
    refine ⟨fun h3 => ?_, fun h3 => ?_⟩
    · rw [if_pos h3] at q; exact q
    · rw [if_neg (by rw [h3]; decide), if_neg h1, if_neg h2] at q; exact q
  by_cases w0 : w = 0
  · subst w0
    simp -implicitDefEqProofs [slots, S_moved, truD, pickL, s1, s2, s3, s4, s5, oa, ob]
    exact mv (.inl rfl)
  by_cases w1 : w = 1
  · subst w1
    simp -implicitDefEqProofs [slots, S_moved, truD, pickL, s1, s2, s3, s4, s5, oa, ob]
    exact mv (.inr rfl)
  by_cases w2 : w = 2
  · subst w2
    simp -implicitDefEqProofs [slots, S_change_product, truD, pickL, s1, s2, s3, s4, s5, oa, ob]
    exact pr (.inl rfl)
  by_cases w3 : w = 3
  · subst w3
    simp -implicitDefEqProofs [slots, S_change_product, truD, pickL, s1, s2, s3, s4, s5, oa, ob]
    exact pr (.inr rfl)
  by_cases w4 : w = 4
  · subst w4
    simp -implicitDefEqProofs [slots, S_change_inverse, truD, pickL, s1, s2, s3, s4, s5, oa, ob]
    exact iv (by decide) (by decide)
  simp -implicitDefEqProofs [slots, S_change_inverse, truD, pickL, s1, s2, s3, s4, s5, oa, ob, w0, w1, w2, w3, w4]
  exact iv (by omega) (by omega)
theorem r__law_are_told {ds : List D} (h : S__law_are_told ds Q PX) : g__law_are_told (E0' Q) (slots 5 ds) := by
  unfold S__law_are_told at h
  split at h
  case h_2 => exact h.elim
  rename_i ws a b d
  obtain ⟨⟨oa, ob⟩, hl, sh, hw, q⟩ := h
  unfold g__law_are_told
  simp -implicitDefEqProofs [slots]
  refine comp_map (fun _ => none) ws [] (fun e he Q' hQ' => ?_) (by simp; omega) ?_
  · obtain ⟨w, rfl, fit, ht⟩ := hw e he
    simp -implicitDefEqProofs [turn, wipeD, restD, keepS, S__law_told, oa, ob, ht, sh]
    exact ⟨fit, hQ'⟩
  · have e0 : ws.filterMap (fun _ => (none : Option D)) = [] := List.filterMap_eq_nil_iff.mpr fun _ _ => rfl
    rw [List.nil_append, e0]
    simp -implicitDefEqProofs
    exact q
theorem plV_bd {a b : Int} (n : Nat) (ha : Lt n a) (hb : Lt n b) : ∃ x y : Int, plV a b = .tup [.int x, .int y] ∧ Lt (n + 1) x ∧ Lt (n + 1) y := by
  have up : ∀ {m : Int} (g : Nat), Lt n m → Lt (n + 1) (m / g) := fun g h => ⟨Nat.lt_of_le_of_lt (Int.natAbs_ediv_le_natAbs _ _) (show Lt (n + 1) _ from h.mono (by omega)).h⟩
  have neg : ∀ {m : Int}, Lt (n + 1) m → Lt (n + 1) (-m) := fun h => ⟨by rw [Int.natAbs_neg]; exact h.h⟩
  have one : Lt (n + 1) 1 := ⟨by rw [Nat.pow_succ]; have := Nat.two_pow_pos n; show 1 < _; omega⟩
  have zero : Lt (n + 1) 0 := ⟨Nat.two_pow_pos _⟩
  unfold plV
  split
  · exact ⟨_, _, rfl, one, zero⟩
  · split
    · exact ⟨_, _, rfl, up _ ha, up _ hb⟩
    · exact ⟨_, _, rfl, neg (up _ ha), neg (up _ hb)⟩
theorem plV_pl {a b : Int} (h : ¬ (a = 0 ∧ b = 0)) : plD (plV a b) = true := by
  obtain ⟨x, y, k, hp, _, _, _, _, e⟩ := plV_is h
  rw [e]
  rcases hp with ⟨h1, h2⟩ | ⟨rfl, rfl⟩
  · simp [plD, h1, h2]
  · simp [plD]
theorem r__law_drawn_place {ds : List D} (h : S__law_drawn_place ds Q PX) : g__law_drawn_place (E0' Q) (slots 3 ds) := by
  unfold S__law_drawn_place at h
  split at h
  case h_2 => exact h.elim
  rename_i m
  obtain ⟨rfl, q⟩ := h
  unfold g__law_drawn_place
  rw [e_Seq]
  unfold b__law_drawn_place_1
  have fin : ∀ a b : Int, Lt 14 a → Lt 14 b → b__law_drawn_place_2 (E0' Q) [.val (.deck 0), .val (.int a), .val (.int b)] := by
    intro a b ha hb
    unfold b__law_drawn_place_2
    have a4 : Lt 400 a := ha.mono (by decide)
    have b4 : Lt 400 b := hb.mono (by decide)
    simp -implicitDefEqProofs [S__law_place, a4, b4]
    obtain ⟨x, y, e, hx, hy⟩ := plV_bd 14 ha hb
    split
    · exact q 1 0 (by decide) (.of (by decide)) (.of (by decide))
    · rename_i h
      have pp := plV_pl (a := a) (b := b) h
      rw [e] at pp ⊢
      exact q x y pp hx hy
  have key : ∀ k : Int, 0 < k → k ≤ 10000 → k < 10 ^ 200 ∧ ∀ r : Int, 0 ≤ r → r < k → Lt 14 r := fun k h0 h1 => ⟨Int.lt_of_le_of_lt h1 (by decide +kernel), fun r h2 h3 => .of (by omega)⟩
  simp -implicitDefEqProofs [slots, S__law_pick, S__law_signed, S_draw]
  exact fun a ha => ⟨fun r h0 h1 => fin a r ha (.of (by omega)), fun r h0 h1 => fin a r ha (.of (by omega)), fun r h0 h1 => fin a r ha (.of (by omega))⟩
end
end K03
namespace K03
open PySem PySem.Spec L2 DL
section
variable {Q : D → Prop} {PX : Ex → Prop}
theorem four_len : ∀ {l : List D}, l.length = 4 → ∃ a b c d, l = [a, b, c, d]
  | [a, b, c, d], _ => ⟨a, b, c, d, rfl⟩
theorem change_end {k p q r s : Int} {s6 : Slot} (hp : Lt 14 p) (hq : Lt 14 q) (hr : Lt 14 r) (hs : Lt 14 s) (qq : ∀ p q r s : Int, p * s ≠ q * r → Lt 15 p → Lt 15 q → Lt 15 r → Lt 15 s → Q (.tup [.int p, .int q, .int r, .int s])) :
    dSeq b__law_change_3 (dSeq b__law_change_4 b__law_change_5) (E0' Q) [.val (.deck 0), .val (.int k), .val (.int p), .val (.int q), .val (.int r), .val (.int s), s6] := by
  have e5 : ∀ p q r s : Int, p * s ≠ q * r → Lt 15 p → Lt 15 q → Lt 15 r → Lt 15 s → b__law_change_5 (E0' Q) [.val (.deck 0), .val (.int k), .val (.int p), .val (.int q), .val (.int r), .val (.int s), s6] := by
    intro p q r s h a b c d
    unfold b__law_change_5
    simp -implicitDefEqProofs
    exact qq _ _ _ _ h a b c d
  have e4 : ∀ p q r s : Int, Lt 15 p → Lt 15 q → Lt 15 r → Lt 15 s → dSeq b__law_change_4 b__law_change_5 (E0' Q) [.val (.deck 0), .val (.int k), .val (.int p), .val (.int q), .val (.int r), .val (.int s), s6] := by
    intro p q r s a b c d
    rw [e_Seq]
    unfold b__law_change_4
    simp -implicitDefEqProofs
    refine ⟨Lt.cm (by decide), Lt.cm (by decide), ?_⟩
    split
    · exact e5 _ _ _ _ (by omega) (.of (by decide)) b (.of (by decide)) (.of (by decide))
    · rename_i h
      exact e5 _ _ _ _ h a b c d
  rw [e_Seq]
  unfold b__law_change_3
  simp -implicitDefEqProofs
  refine ⟨Lt.cm (by decide), Lt.cm (by decide), ?_⟩
  have up : ∀ {n : Int}, Lt 14 n → Lt 15 n := fun h => h.mono (by decide)
  split
  · refine e4 _ _ _ _ (up hp) (up hq) (up hr) ?_
    have h := hs.h
    exact ⟨by omega⟩
  · exact e4 _ _ _ _ (up hp) (up hq) (up hr) (up hs)
theorem r__law_change {ds : List D} (h : S__law_change ds Q PX) : g__law_change (E0' Q) (slots 7 ds) := by
  unfold S__law_change at h
  split at h
  case h_2 => exact h.elim
  rename_i m
  obtain ⟨rfl, q⟩ := h
  unfold g__law_change
  have step : ∀ k : Int, 0 < k → k ≤ 10000 → dSeq b__law_change_2 (dSeq b__law_change_3 (dSeq b__law_change_4 b__law_change_5)) (E0' Q) [.val (.deck 0), .val (.int k), .no, .no, .no, .no, .no] := by
    intro k k0 k1
    rw [e_Seq]
    unfold b__law_change_2
    simp -implicitDefEqProofs [-e_Seq]
    refine comp_each (fun d => ∃ i : Int, d = .int i ∧ Lt 14 i) _ [] (fun d hd Q' hy => ?_) (by simp [rngD]) fun ys hl ha => ?_
    · obtain ⟨i, rfl⟩ : ∃ i : Int, d = .int i := by
        unfold rngD at hd
        obtain ⟨j, _, rfl⟩ := List.mem_map.mp hd
        exact ⟨_, rfl⟩
      simp -implicitDefEqProofs [turn, wipeD, restD, keepS, S__law_signed]
      exact ⟨k0, k1, fun i hi => hy _ ⟨i, rfl, hi⟩⟩
    · obtain ⟨a, b, c, d, rfl⟩ := four_len (l := ys) (by rw [hl]; rfl)
      obtain ⟨p, rfl, hp⟩ := ha a (by simp)
      obtain ⟨q', rfl, hq⟩ := ha b (by simp)
      obtain ⟨r, rfl, hr⟩ := ha c (by simp)
      obtain ⟨s, rfl, hs⟩ := ha d (by simp)
      simp -implicitDefEqProofs [-e_Seq]
      exact change_end hp hq hr hs q
  rw [e_Seq]
  unfold b__law_change_1
  simp -implicitDefEqProofs [slots, S__law_pick, -e_Seq]
  exact ⟨step 2 (by decide) (by decide), step 4 (by decide) (by decide), step 100 (by decide) (by decide), step 9999 (by decide) (by decide)⟩
end
end K03
namespace K03
open PySem PySem.Spec L2 DL
structure Nc (t : Str) (f : D → Bool) (d : D) : Prop where
  ok : Ok d
  no : f d = false
  sh : ShowOk (.tup [.str t, d, .bl true])
theorem Nc.fd {s : String} {f : D → Bool} {k m : Nat} {d : D} (hs : (Str.ofString s).length ≤ 10) (h : FD k m d) (hk : k ≤ 50) (hm : m ≤ 1000) (no : f d = false) : Nc s f d := by
  refine ⟨⟨h.lf, by have := h.sz; omega⟩, no, (FD.fine (FD.tup (k := 50) (m := 1000) (n := 3) (l := [.str s, d, .bl true]) (fun e he => ?_) (by simp)) (by decide) (by decide)).ok⟩
  simp only [List.mem_cons, List.not_mem_nil, or_false] at he
  rcases he with rfl | rfl | rfl
  · exact (FD.text hs).mono (by decide) (by decide)
  · exact h.mono hk hm
  · exact FD.bl.mono (by decide) (by decide)
theorem fd_dec {d : D} (h : (leaf d && noDic d && decide (dep d ≤ 5) && decide (nds d ≤ 100)) = true) : FD 5 100 d := by
  simp only [Bool.and_eq_true, decide_eq_true_eq] at h
  exact ⟨h.1.1.1, h.1.1.2, h.1.2, h.2⟩
def Nl (t : Str) (f : D → Bool) (l : List D) : Prop := l ≠ [] ∧ l.length ≤ 20 ∧ ∀ d ∈ l, Nc t f d
theorem len_c : (Str.ofString "change").length ≤ 10 := by decide
theorem len_p : (Str.ofString "place").length ≤ 10 := by decide
section
variable {G : D → Evn → Prop} {s0 s1 s6 : Slot} {p q r s : Int}
theorem c1_ok (hp : Lt 15 p) (hq : Lt 15 q) (hr : Lt 15 r) (hs : Lt 15 s) (h : ∀ l : List D, Nl "change" chD l → G (.lst l) [s0, s1, .val (.int p), .val (.int q), .val (.int r), .val (.int s), s6]) : x__law_no_change_1 [s0, s1, .val (.int p), .val (.int q), .val (.int r), .val (.int s), s6] G := by
  unfold x__law_no_change_1
  simp -implicitDefEqProofs
  refine h _ ⟨by simp, by simp, fun d hd => ?_⟩
  have fp : FD 0 1 (.int p) := FD.int' (n := 15) (by decide)
  have fq : FD 0 1 (.int q) := FD.int' (n := 15) (by decide)
  have fr : FD 0 1 (.int r) := FD.int' (n := 15) (by decide)
  have fs : FD 0 1 (.int s) := FD.int' (n := 15) (by decide)
  have f1 : FD 0 1 (.int 1) := FD.int' (n := 2) (h := .of (by decide)) (by decide)
  simp only [List.mem_cons, List.not_mem_nil, or_false] at hd
  rcases hd with rfl | rfl | rfl | rfl | rfl | rfl | rfl | rfl | rfl | rfl | rfl | rfl
  case inr.inr.inr.inr.inl => exact Nc.fd len_c (FD.lst (k := 0) (m := 1) (n := 4) (by simp; exact ⟨fp, fq, fr, fs⟩) (by simp)) (by decide) (by decide) rfl
  case inr.inr.inr.inr.inr.inl => exact Nc.fd len_c (FD.tup (k := 0) (m := 1) (n := 3) (by simp; exact ⟨fp, fq, fr⟩) (by simp)) (by decide) (by decide) rfl
  case inr.inr.inr.inr.inr.inr.inl => exact Nc.fd len_c (FD.tup (k := 0) (m := 1) (n := 5) (by simp; exact ⟨fp, fq, fr, fs, f1⟩) (by simp)) (by decide) (by decide) rfl
  case inr.inr.inr.inr.inr.inr.inr.inl => exact Nc.fd len_c (FD.tup (k := 0) (m := 1) (n := 4) (by simp; exact ⟨fp, fq, fp, fq⟩) (by simp)) (by decide) (by decide) (by simp [chD, Int.mul_comm])
  case inr.inr.inr.inr.inr.inr.inr.inr.inr.inr.inl => exact ⟨⟨by decide +kernel, by decide +kernel⟩, rfl, Fine.ok ⟨by decide +kernel, .inl (by decide +kernel), by decide +kernel, by decide +kernel⟩⟩
  all_goals exact Nc.fd len_c (fd_dec (by decide +kernel)) (by decide) (by decide) (by decide)
theorem c2_ok (hp : Lt 15 p) (hq : Lt 15 q) (hr : Lt 15 r) (hs : Lt 15 s) (h : ∀ l : List D, Nl "change" chD l → G (.lst l) [s0, s1, .val (.int p), .val (.int q), .val (.int r), .val (.int s), s6]) : x__law_no_change_2 [s0, s1, .val (.int p), .val (.int q), .val (.int r), .val (.int s), s6] G := by
  unfold x__law_no_change_2
  simp -implicitDefEqProofs
  refine ⟨Lt.cm (by decide), Lt.cm (by decide), h _ ⟨by simp, by simp, fun d hd => ?_⟩⟩
  have fp : FD 0 1 (.int p) := FD.int' (n := 15) (by decide)
  have fq : FD 0 1 (.int q) := FD.int' (n := 15) (by decide)
  have fr : FD 0 1 (.int r) := FD.int' (n := 15) (by decide)
  have fs : FD 0 1 (.int s) := FD.int' (n := 15) (by decide)
  have p2 : FD 0 1 (.int (2 * p)) := FD.int' (n := 20) (h := Lt.to (by decide)) (by decide)
  have q2 : FD 0 1 (.int (2 * q)) := FD.int' (n := 20) (h := Lt.to (by decide)) (by decide)
  have f0 : FD 0 1 (.int 0) := FD.int' (n := 2) (h := .of (by decide)) (by decide)
  simp only [List.mem_cons, List.not_mem_nil, or_false] at hd
  rcases hd with rfl | rfl | rfl | rfl | rfl | rfl
  case inr.inl => exact Nc.fd len_c (FD.tup (k := 0) (m := 1) (n := 4) (by simp; exact ⟨fp, fq, fr, FD.non⟩) (by simp)) (by decide) (by decide) rfl
  case inr.inr.inr.inl => exact Nc.fd len_c (FD.tup (k := 1) (m := 3) (n := 2) (by simp; exact ⟨FD.tup (k := 0) (m := 1) (n := 2) (by simp; exact ⟨fp, fq⟩) (by simp), FD.tup (k := 0) (m := 1) (n := 2) (by simp; exact ⟨fr, fs⟩) (by simp)⟩) (by simp)) (by decide) (by decide) rfl
  case inr.inr.inr.inr.inl => exact Nc.fd len_c (FD.tup (k := 0) (m := 1) (n := 4) (by simp; exact ⟨fp, fq, p2, q2⟩) (by simp)) (by decide) (by decide) (by
    have : p * (2 * q) = q * (2 * p) := by grind
    simp [chD, this])
  case inr.inr.inr.inr.inr => exact Nc.fd len_c (FD.tup (k := 0) (m := 1) (n := 4) (by simp; exact ⟨f0, fq, f0, fs⟩) (by simp)) (by decide) (by decide) (by simp [chD])
  all_goals exact Nc.fd len_c (fd_dec (by decide +kernel)) (by decide) (by decide) (by decide)
theorem c3_ok (hp : Lt 15 p) (hq : Lt 15 q) (hr : Lt 15 r) (hs : Lt 15 s) (h : ∀ l : List D, Nl "change" chD l → G (.lst l) [s0, s1, .val (.int p), .val (.int q), .val (.int r), .val (.int s), s6]) : x__law_no_change_3 [s0, s1, .val (.int p), .val (.int q), .val (.int r), .val (.int s), s6] G := by
  unfold x__law_no_change_3
  simp -implicitDefEqProofs
  refine h _ ⟨by simp, by simp, fun d hd => ?_⟩
  have fr : FD 0 1 (.int r) := FD.int' (n := 15) (by decide)
  have fs : FD 0 1 (.int s) := FD.int' (n := 15) (by decide)
  have f0 : FD 0 1 (.int 0) := FD.int' (n := 2) (h := .of (by decide)) (by decide)
  simp only [List.mem_cons, List.not_mem_nil, or_false] at hd
  rcases hd with rfl | rfl | rfl | rfl | rfl
  case inr.inr.inr.inl => exact ⟨⟨by decide +kernel, by decide +kernel⟩, rfl, Fine.ok ⟨by decide +kernel, .inl (by decide +kernel), by decide +kernel, by decide +kernel⟩⟩
  case inr.inr.inr.inr => exact Nc.fd len_c (FD.tup (k := 0) (m := 1) (n := 4) (by simp; exact ⟨f0, fr, fs⟩) (by simp)) (by decide) (by decide) (by simp [chD])
  all_goals exact Nc.fd len_c (fd_dec (by decide +kernel)) (by decide) (by decide) (by decide)
end
section
variable {G : D → Evn → Prop} {s0 s1 s4 : Slot} {x y : Int}
theorem p1_ok (hx : Lt 15 x) (hy : Lt 15 y) (h : ∀ l : List D, Nl "place" plD l → G (.lst l) [s0, s1, .val (.int x), .val (.int y), s4]) : x__law_no_place_1 [s0, s1, .val (.int x), .val (.int y), s4] G := by
  unfold x__law_no_place_1
  simp -implicitDefEqProofs
  refine h _ ⟨by simp, by simp, fun d hd => ?_⟩
  have fx : FD 0 1 (.int x) := FD.int' (n := 15) (by decide)
  have fy : FD 0 1 (.int y) := FD.int' (n := 15) (by decide)
  have f1 : FD 0 1 (.int 1) := FD.int' (n := 2) (h := .of (by decide)) (by decide)
  simp only [List.mem_cons, List.not_mem_nil, or_false] at hd
  rcases hd with rfl | rfl | rfl | rfl | rfl | rfl | rfl | rfl | rfl | rfl | rfl | rfl | rfl | rfl
  case inr.inr.inr.inr.inl => exact Nc.fd len_p (FD.lst (k := 0) (m := 1) (n := 2) (by simp; exact ⟨fx, fy⟩) (by simp)) (by decide) (by decide) rfl
  case inr.inr.inr.inr.inr.inl => exact Nc.fd len_p (FD.tup (k := 0) (m := 1) (n := 1) (by simp; exact fx) (by simp)) (by decide) (by decide) rfl
  case inr.inr.inr.inr.inr.inr.inl => exact Nc.fd len_p (FD.tup (k := 0) (m := 1) (n := 3) (by simp; exact ⟨fx, fy, f1⟩) (by simp)) (by decide) (by decide) rfl
  case inr.inr.inr.inr.inr.inr.inr.inr.inr.inr.inr.inr.inr => exact ⟨⟨by decide +kernel, by decide +kernel⟩, rfl, Fine.ok ⟨by decide +kernel, .inl (by decide +kernel), by decide +kernel, by decide +kernel⟩⟩
  all_goals exact Nc.fd len_p (fd_dec (by decide +kernel)) (by decide) (by decide) (by decide)
theorem p2_ok (hx : Lt 15 x) (hy : Lt 15 y) (h : ∀ l : List D, Nl "place" plD l → G (.lst l) [s0, s1, .val (.int x), .val (.int y), s4]) : x__law_no_place_2 [s0, s1, .val (.int x), .val (.int y), s4] G := by
  unfold x__law_no_place_2
  simp -implicitDefEqProofs
  refine ⟨Lt.cm (by decide), h _ ⟨by simp, by simp, fun d hd => ?_⟩⟩
  have fx : FD 0 1 (.int x) := FD.int' (n := 15) (by decide)
  have fy : FD 0 1 (.int y) := FD.int' (n := 15) (by decide)
  have f2 : FD 0 1 (.int 2) := FD.int' (n := 2) (h := .of (by decide)) (by decide)
  have x2 : FD 0 1 (.int (2 * x + 2)) := FD.int' (n := 22) (h := Lt.to (by decide)) (by decide)
  simp only [List.mem_cons, List.not_mem_nil, or_false] at hd
  rcases hd with rfl | rfl | rfl | rfl | rfl | rfl | rfl | rfl | rfl | rfl
  case inr.inr.inr.inl => exact Nc.fd len_p (FD.tup (k := 1) (m := 3) (n := 1) (by simp; exact FD.tup (k := 0) (m := 1) (n := 2) (by simp; exact ⟨fx, fy⟩) (by simp)) (by simp)) (by decide) (by decide) rfl
  case inr.inr.inr.inr.inl => exact Nc.fd len_p (FD.tup (k := 0) (m := 1) (n := 2) (by simp; exact ⟨x2, f2⟩) (by simp)) (by decide) (by decide) (by
    have e : Nat.gcd (2 * x + 2).natAbs 2 = 2 := Nat.gcd_eq_right (by omega)
    have e2 : (2 : Int).natAbs = 2 := rfl
    simp [plD, e, e2])
  all_goals exact Nc.fd len_p (fd_dec (by decide +kernel)) (by decide) (by decide) (by decide)
end
section
variable {Q : D → Prop} {PX : Ex → Prop}
theorem r__law_no_change {ds : List D} (h : S__law_no_change ds Q PX) : g__law_no_change (E0' Q) (slots 7 ds) := by
  unfold S__law_no_change at h
  split at h
  case h_2 => exact h.elim
  rename_i n p q' r s
  obtain ⟨rfl, ⟨hp, hq, hr, hs⟩, q⟩ := h
  unfold g__law_no_change
  rw [e_Seq]
  unfold b__law_no_change_1
  simp -implicitDefEqProofs [slots, -e_Seq]
  rw [e_Seq, e_Asg]
  refine c1_ok hp hq hr hs fun l1 h1 => ?_
  simp -implicitDefEqProofs [-e_Seq]
  rw [e_Seq]
  simp -implicitDefEqProofs
  refine c2_ok hp hq hr hs fun l2 h2 => ?_
  have n1 := h1.2.1
  have n2 := h2.2.1
  have e1 : l1.length + l2.length ≤ 10000000 := by omega
  simp -implicitDefEqProofs [e1]
  unfold b__law_no_change_2
  simp -implicitDefEqProofs
  refine c3_ok hp hq hr hs fun l3 h3 => ?_
  have n3 := h3.2.1
  simp -implicitDefEqProofs [S__law_pick]
  refine ⟨by omega, fun h => absurd h h1.1, by omega, fun d hd => ?_⟩
  have nc : Nc "change" chD d := by
    rcases hd with hd | hd | hd
    · exact h1.2.2 d hd
    · exact h2.2.2 d hd
    · exact h3.2.2 d hd
  exact q d nc.ok nc.no nc.sh
theorem r__law_no_place {ds : List D} (h : S__law_no_place ds Q PX) : g__law_no_place (E0' Q) (slots 5 ds) := by
  unfold S__law_no_place at h
  split at h
  case h_2 => exact h.elim
  rename_i n x y
  obtain ⟨rfl, ⟨hx, hy⟩, q⟩ := h
  unfold g__law_no_place
  rw [e_Seq]
  unfold b__law_no_place_1
  simp -implicitDefEqProofs [slots, -e_Seq]
  rw [e_Seq, e_Asg]
  refine p1_ok hx hy fun l1 h1 => ?_
  simp -implicitDefEqProofs [-e_Seq]
  rw [e_Seq]
  simp -implicitDefEqProofs
  refine p2_ok hx hy fun l2 h2 => ?_
  have n1 := h1.2.1
  have n2 := h2.2.1
  have e1 : l1.length + l2.length ≤ 10000000 := by omega
  simp -implicitDefEqProofs [e1]
  unfold b__law_no_place_2
  simp -implicitDefEqProofs [S__law_pick]
  refine ⟨fun h => absurd h h1.1, by omega, fun d hd => ?_⟩
  have nc : Nc "place" plD d := by
    rcases hd with hd | hd
    · exact h1.2.2 d hd
    · exact h2.2.2 d hd
  exact q d nc.ok nc.no nc.sh
end
end K03
namespace K03
open PySem PySem.Spec L2 DL
theorem at_ok {ws : List Int} {a b d : D} {P : D → Prop} {PX : Ex → Prop} (oa : Ok a) (ob : Ok b) (hl : ws.length ≤ 10) (sh : ShowOk d) (h : ∀ w ∈ ws, tellD w a b = d) (q : P (.bl true)) : S__law_are_told [.lst (ws.map D.int), a, b, d] P PX := by
  refine ⟨⟨oa, ob⟩, by rw [List.length_map]; exact hl, sh, fun e he => ?_, q⟩
  obtain ⟨w, hw, rfl⟩ := List.mem_map.mp he
  exact ⟨w, rfl, fun _ _ _ => trivial, h w hw⟩
theorem fd4 {n : Nat} (hn : n ≤ 330) {p q r s : Int} (hp : Lt n p) (hq : Lt n q) (hr : Lt n r) (hs : Lt n s) : FD 1 5 (.tup [.int p, .int q, .int r, .int s]) := FD.tup (k := 0) (m := 1) (n := 4) (by simp; exact ⟨FD.int' (n := n) hn, FD.int' (n := n) hn, FD.int' (n := n) hn, FD.int' (n := n) hn⟩) (by simp)
theorem fd2 {n : Nat} (hn : n ≤ 330) {x y : Int} (hx : Lt n x) (hy : Lt n y) : FD 1 3 (.tup [.int x, .int y]) := FD.tup (k := 0) (m := 1) (n := 2) (by simp; exact ⟨FD.int' (n := n) hn, FD.int' (n := n) hn⟩) (by simp)
theorem ok_fd {k m : Nat} {d : D} (h : FD k m d) (h2 : m ≤ 100000) : Ok d := ⟨h.lf, Nat.le_trans h.sz h2⟩
theorem sh_told {d : D} (h : FD 1 5 d) : ShowOk (.tup [.str "told", d]) := (FD.fine (FD.tup (k := 1) (m := 20) (n := 2) (by simp; exact ⟨(FD.text (m := 10) (by decide)).mono (by decide) (by decide), h.mono (by decide) (by decide)⟩) (by simp)) (by decide) (by decide)).ok
section
variable {Q : D → Prop} {PX : Ex → Prop}
theorem r__law_are_refused {ds : List D} (h : S__law_are_refused ds Q PX) : g__law_are_refused (E0' Q) (slots 7 ds) := by
  unfold S__law_are_refused at h
  split at h
  case h_2 => exact h.elim
  rename_i n p q' r s x y
  obtain ⟨rfl, ⟨hp, hq, hr, hs⟩, nd, ⟨hx, hy⟩, q⟩ := h
  have okc := ok_fd (fd4 (by decide) hp hq hr hs) (by decide)
  have okp := ok_fd (fd2 (by decide) hx hy) (by decide)
  have chc : chD (.tup [.int p, .int q', .int r, .int s]) = true := by
    simp only [chD]
    simpa using nd
  unfold g__law_are_refused
  rw [e_Seq]
  unfold b__law_are_refused_1
  simp -implicitDefEqProofs [slots, S__law_no_change, S__law_no_place, hp, hq, hr, hs, hx, hy, -e_Seq]
  intro bad ob cb sb other oo co so spot os ps ss
  have tb : ∀ (w : Int) (d : D), tellD w bad d = .tup [.str "change", bad, .bl true] := fun w d => by
    unfold tellD
    rw [if_pos cb]
  rw [e_Seq]
  unfold b__law_are_refused_2
  simp -implicitDefEqProofs [-e_Seq]
  rw [e_Seq]
  unfold b__law_are_refused_3
  simp -implicitDefEqProofs [-e_Seq]
  refine at_ok (ws := [0, 1, 4, 5]) ob okp (by decide) sb (fun w _ => tb w _) ?_
  simp -implicitDefEqProofs [-e_Seq]
  refine at_ok (ws := [0, 1, 4, 5]) ob os (by decide) sb (fun w _ => tb w _) ?_
  simp -implicitDefEqProofs [-e_Seq]
  rw [e_Seq]
  unfold b__law_are_refused_4
  simp -implicitDefEqProofs [-e_Seq]
  refine at_ok (ws := [2, 3]) ob okc (by decide) sb (fun w _ => tb w _) ?_
  simp -implicitDefEqProofs [-e_Seq]
  refine at_ok (ws := [2, 3]) ob oo (by decide) sb (fun w _ => tb w _) ?_
  simp -implicitDefEqProofs [-e_Seq]
  rw [e_Seq]
  unfold b__law_are_refused_5
  simp -implicitDefEqProofs [-e_Seq]
  refine at_ok (ws := [2, 3]) okc ob (by decide) sb (fun w hw => ?_) ?_
  · have h1 : ¬ (w = 0 ∨ w = 1) := by simp at hw; omega
    have h2 : w = 2 ∨ w = 3 := by simpa using hw
    unfold tellD
    rw [if_neg (by rw [chc]; decide), if_neg h1, if_pos h2, if_pos cb]
  simp -implicitDefEqProofs
  unfold b__law_are_refused_6
  simp -implicitDefEqProofs
  refine at_ok (ws := [0, 1]) okc os (by decide) ss (fun w hw => ?_) q
  have h2 : w = 0 ∨ w = 1 := by simpa using hw
  unfold tellD
  rw [if_neg (by rw [chc]; decide), if_pos h2, if_pos ps]
end
end K03
namespace K03
open PySem PySem.Spec L2 DL
mutual
theorem eqv_self : ∀ d : D, PyData.eqv (py d) (py d) = true ∨ flatD d = false
  | .non | .bl _ | .int _ | .str _ => .inl (by simp [py, PyData.eqv])
  | .tup l => by
    rcases eqvs_self l with h | h
    · exact .inl (by simpa [py, PyData.eqv] using h)
    · exact .inr (by simpa [flatD] using h)
  | .lst l => by
    rcases eqvs_self l with h | h
    · exact .inl (by simpa [py, PyData.eqv] using h)
    · exact .inr (by simpa [flatD] using h)
  | .dic _ | .raw _ | .deck _ | .scr _ => .inr (by simp [flatD])
theorem eqvs_self : ∀ l : List D, PyData.eqvAll (pys l) (pys l) = true ∨ flatDs l = false
  | [] => .inl (by simp [pys, PyData.eqvAll])
  | d :: l => by
    rcases eqv_self d with h | h
    · rcases eqvs_self l with h2 | h2
      · exact .inl (by simp [pys, PyData.eqvAll, h, h2])
      · exact .inr (by simp [flatDs, h2])
    · exact .inr (by simp [flatDs, h])
end
theorem eqv_id {d : D} (h : flatD d = true) : eqv d d = true := by
  rcases eqv_self d with e | e
  · exact e
  · rw [h] at e; cases e
/-! ### what changes do -/
theorem plV_scale {a b c : Int} (hc : c ≠ 0) (h : ¬ (a = 0 ∧ b = 0)) : plV (c * a) (c * b) = plV a b := by
  obtain ⟨x, y, k, hp, hk, _, e1, e2, e3⟩ := plV_is h
  rw [e3, e1, e2, ← Int.mul_assoc, ← Int.mul_assoc]
  exact plV_mul hp (Int.mul_ne_zero hc hk)
theorem lead1 {a b c d u v : Int} (hp : IsP u v) (hc : c ≠ 0) (hd : d ≠ 0) (e1 : c * a = d * u) (e2 : c * b = d * v) : plV a b = .tup [.int u, .int v] := by
  have nz := isP_nz hp
  have h : ¬ (a = 0 ∧ b = 0) := by
    rintro ⟨rfl, rfl⟩
    rw [Int.mul_zero] at e1 e2
    exact nz ⟨(Int.mul_eq_zero.mp e1.symm).resolve_left hd, (Int.mul_eq_zero.mp e2.symm).resolve_left hd⟩
  rw [← plV_scale hc h, e1, e2]
  exact plV_mul hp hd
theorem pl_of {x y : Int} (h : IsP x y) : plD (.tup [.int x, .int y]) = true := by
  rcases h with ⟨h1, h2⟩ | ⟨rfl, rfl⟩
  · simp [plD, h1, h2]
  · simp [plD]
theorem ch_of {p q r s : Int} (h : p * s ≠ q * r) : chD (.tup [.int p, .int q, .int r, .int s]) = true := by
  simp only [chD]
  simpa using h
/-- what a change makes of a place -/
theorem mv_is {p q r s x y : Int} {n : Nat} (nd : p * s ≠ q * r) (ip : IsP x y) (h1 : Lt n (p * x + q * y)) (h2 : Lt n (r * x + s * y)) :
    ∃ u v k : Int, plV (p * x + q * y) (r * x + s * y) = .tup [.int u, .int v] ∧ IsP u v ∧ k ≠ 0 ∧ p * x + q * y = k * u ∧ r * x + s * y = k * v ∧ Lt (n + 1) u ∧ Lt (n + 1) v := by
  obtain ⟨u, v, k, hp, hk, _, e1, e2, e3⟩ := plV_is (move_nz nd ip)
  obtain ⟨u', v', e4, b1, b2⟩ := plV_bd n h1 h2
  rw [e3] at e4
  simp only [D.tup.injEq, List.cons.injEq, D.int.injEq, and_true] at e4
  obtain ⟨rfl, rfl⟩ := e4
  exact ⟨u, v, k, e3, hp, hk, e1, e2, b1, b2⟩
theorem back_is {p q r s x y u v k : Int} (nd : p * s ≠ q * r) (ip : IsP x y) (hk : k ≠ 0) (e1 : p * x + q * y = k * u) (e2 : r * x + s * y = k * v) : plV (s * u + -q * v) (-r * u + p * v) = .tup [.int x, .int y] := by
  refine lead1 (c := k) (d := p * s - q * r) ip hk (by omega) ?_ ?_
  · have : k * (s * u + -q * v) = s * (k * u) - q * (k * v) := by grind
    rw [this, ← e1, ← e2]
    grind
  · have : k * (-r * u + p * v) = p * (k * v) - r * (k * u) := by grind
    rw [this, ← e1, ← e2]
    grind
theorem fore_is {p q r s x y u v k : Int} (nd : p * s ≠ q * r) (ip : IsP x y) (hk : k ≠ 0) (e1 : s * x + -q * y = k * u) (e2 : -r * x + p * y = k * v) : plV (p * u + q * v) (r * u + s * v) = .tup [.int x, .int y] := by
  refine lead1 (c := k) (d := p * s - q * r) ip hk (by omega) ?_ ?_
  · have : k * (p * u + q * v) = p * (k * u) + q * (k * v) := by grind
    rw [this, ← e1, ← e2]
    grind
  · have : k * (r * u + s * v) = r * (k * u) + s * (k * v) := by grind
    rw [this, ← e1, ← e2]
    grind
theorem three_is {p q r s x y : Int} (nd : p * s ≠ q * r) (ip : IsP x y) : plV (3 * p * x + 3 * q * y) (3 * r * x + 3 * s * y) = plV (p * x + q * y) (r * x + s * y) := by
  have e1 : 3 * p * x + 3 * q * y = 3 * (p * x + q * y) := by grind
  have e2 : 3 * r * x + 3 * s * y = 3 * (r * x + s * y) := by grind
  rw [e1, e2]
  exact plV_scale (by decide) (move_nz nd ip)
theorem both_is {p q r s t u v w x y a b k : Int} (nd : p * s ≠ q * r) (ia : IsP a b) (hk : k ≠ 0) (e1 : t * x + u * y = k * a) (e2 : v * x + w * y = k * b) :
    plV ((p * t + q * v) * x + (p * u + q * w) * y) ((r * t + s * v) * x + (r * u + s * w) * y) = plV (p * a + q * b) (r * a + s * b) := by
  have f1 : (p * t + q * v) * x + (p * u + q * w) * y = k * (p * a + q * b) := by
    have : (p * t + q * v) * x + (p * u + q * w) * y = p * (t * x + u * y) + q * (v * x + w * y) := by grind
    rw [this, e1, e2]
    grind
  have f2 : (r * t + s * v) * x + (r * u + s * w) * y = k * (r * a + s * b) := by
    have : (r * t + s * v) * x + (r * u + s * w) * y = r * (t * x + u * y) + s * (v * x + w * y) := by grind
    rw [this, e1, e2]
    grind
  rw [f1, f2]
  exact plV_scale hk (move_nz nd ia)
theorem det_mul {p q r s t u v w : Int} (h1 : p * s ≠ q * r) (h2 : t * w ≠ u * v) : (p * t + q * v) * (r * u + s * w) ≠ (p * u + q * w) * (r * t + s * v) := by
  intro e
  have e2 : (p * s - q * r) * (t * w - u * v) = 0 := by
    have : (p * s - q * r) * (t * w - u * v) = (p * t + q * v) * (r * u + s * w) - (p * u + q * w) * (r * t + s * v) := by grind
    rw [this, e]
    omega
  rcases Int.mul_eq_zero.mp e2 with h | h <;> omega
theorem ne_id {d : D} {G : D → Prop} (h : flatD d = true) (h2 : lvl d ≤ 64) (q : G (.bl false)) : oNe d d G := by
  have e := eqv_id h
  have o : eqOk d := .of h h2
  cases d with
  | str s => simpa using q
  | tup l =>
    rw [o_ne_tt]
    rw [eqv_tup] at e
    exact ⟨.inr ⟨o, o⟩, by rw [e]; exact q⟩
  | lst l =>
    rw [o_ne_ll]
    rw [eqv_lst] at e
    exact ⟨.inr ⟨o, o⟩, by rw [e]; exact q⟩
  | _ =>
    unfold oNe
    exact ⟨o, o, by rw [e]; exact q⟩
theorem flat2 {x y : Int} : flatD (.tup [.int x, .int y]) = true ∧ lvl (.tup [.int x, .int y]) ≤ 64 := ⟨by simp [flatD, flatDs], by simp [lvl, lvls]⟩
theorem flat4 {p q r s : Int} : flatD (.tup [.int p, .int q, .int r, .int s]) = true ∧ lvl (.tup [.int p, .int q, .int r, .int s]) ≤ 64 := ⟨by simp [flatD, flatDs], by simp [lvl, lvls]⟩
theorem moved_ok {a b : D} {P : D → Prop} {PX : Ex → Prop} (oa : Ok a) (ob : Ok b) (ca : chD a = true) (pb : plD b = true) (q : P (mvD a b)) : S_moved [a, b] P PX :=
  ⟨⟨oa, ob⟩, fun h => (by rw [ca] at h; cases h), fun _ h => (by rw [pb] at h; cases h), fun _ _ => ⟨trivial, q⟩⟩
theorem inv_ok {a : D} {P : D → Prop} {PX : Ex → Prop} (oa : Ok a) (ca : chD a = true) (q : P (invD a)) : S_change_inverse [a] P PX := ⟨oa, fun h => (by rw [ca] at h; cases h), fun _ => q⟩
theorem prod_ok {a b : D} {P : D → Prop} {PX : Ex → Prop} (oa : Ok a) (ob : Ok b) (ca : chD a = true) (cb : chD b = true) (q : P (prD a b)) : S_change_product [a, b] P PX :=
  ⟨⟨oa, ob⟩, fun h => (by rw [ca] at h; cases h), fun _ h => (by rw [cb] at h; cases h), fun _ _ => q⟩
end K03
namespace K03
open PySem PySem.Spec L2 DL
def PlB (n : Nat) (d : D) : Prop := ∃ x y : Int, d = .tup [.int x, .int y] ∧ IsP x y ∧ Lt n x ∧ Lt n y
theorem for_enum {g : DG} {u : DS} {B : DEnd} {l : List D} (I : List D → Evn → Prop) (step : ∀ (done tl : List D) (d : D) (env : Evn) (N : Evn → Prop), l = done ++ d :: tl → I done env → (∀ env', I (done ++ [d]) env' → N env') → g (.tup [.int done.length, d]) env fun env1 => u { B with nx := N, ct := N, bk := B.nx } env1)
    (fin : ∀ env, I l env → B.nx env) {env : Evn} (h : I [] env) : forL g u (enumD 0 l) B env := by
  have key : ∀ (tl done : List D) (env : Evn), l = done ++ tl → I done env → forL g u (enumD done.length tl) B env := by
    intro tl
    induction tl with
    | nil =>
      intro done env e h
      rw [List.append_nil] at e
      exact fin env (e ▸ h)
    | cons d tl ih =>
      intro done env e h
      refine step done tl d env _ e h fun env' h' => ?_
      have := ih (done ++ [d]) env' (by rw [e]; simp) h'
      rw [List.length_append, List.length_singleton] at this
      exact this
  exact key l [] env rfl h
section
variable {p q r s t u v w : Int} {third : D} {pls : List D} {s10 s11 : Slot}
/-- one turn of the first loop -/
theorem turn1 {N : Evn → Prop} {rt : D → Prop} {bk : Evn → Prop} {x y : Int} {gs : List D} {s12 s13 s14 s15 : Slot} (nd : p * s ≠ q * r) (ne : t * w ≠ u * v) (hp : Lt 15 p) (hq : Lt 15 q) (hr : Lt 15 r) (hs : Lt 15 s) (ht : Lt 15 t) (hu : Lt 15 u) (hv : Lt 15 v) (hw : Lt 15 w)
    (ip : IsP x y) (hx : Lt 15 x) (hy : Lt 15 y) (hl : gs.length ≤ 10)
    (hN : ∀ g : D, N [.no, .val (.deck 0), .val (.tup [.int p, .int q, .int r, .int s]), .val (.tup [.int t, .int u, .int v, .int w]), .val third, .val (.lst pls), .val (prD (.tup [.int p, .int q, .int r, .int s]) (.tup [.int t, .int u, .int v, .int w])), .val (.tup [.int s, .int (-q), .int (-r), .int p]), .own (gs ++ [plV (p * x + q * y) (r * x + s * y)]), .val (.tup [.int x, .int y]), .val g, s11, s12, s13, s14, s15, .no, .no, .no, .no]) :
    dSeq b_law_1 (dSeq b_law_2 (dSeq b_law_3 (dSeq b_law_4 b_law_5))) { nx := N, rt := rt, bk := bk, ct := N } [.no, .val (.deck 0), .val (.tup [.int p, .int q, .int r, .int s]), .val (.tup [.int t, .int u, .int v, .int w]), .val third, .val (.lst pls), .val (prD (.tup [.int p, .int q, .int r, .int s]) (.tup [.int t, .int u, .int v, .int w])), .val (.tup [.int s, .int (-q), .int (-r), .int p]), .own gs, .val (.tup [.int x, .int y]), s10, s11, s12, s13, s14, s15, .no, .no, .no, .no] := by
  have one1 : Lt 31 (p * x + q * y) := Lt.to (by decide)
  have one2 : Lt 31 (r * x + s * y) := Lt.to (by decide)
  obtain ⟨a, b, k, e1, ia, hk, f1, f2, ha, hb⟩ := mv_is nd ip one1 one2
  have nq : Lt 15 (-q) := Lt.to (by decide)
  have nr : Lt 15 (-r) := Lt.to (by decide)
  have ndi : s * p ≠ -q * -r := by rw [Int.neg_mul_neg, Int.mul_comm s p]; exact nd
  obtain ⟨c, d, k2, e2, ic, hk2, f3, f4, hc, hd⟩ := mv_is (n := 31) ndi ip (Lt.to (by decide)) (Lt.to (by decide))
  obtain ⟨f, g, k3, e3, iff, hk3, f5, f6, hf, hg⟩ := mv_is (n := 31) ne ip (Lt.to (by decide)) (Lt.to (by decide))
  have okc := ok_fd (fd4 (by decide) hp hq hr hs) (by decide)
  have oko := ok_fd (fd4 (by decide) ht hu hv hw) (by decide)
  have okb := ok_fd (fd4 (by decide) hs nq nr hp) (by decide)
  have okp := ok_fd (fd2 (by decide) hx hy) (by decide)
  have okg := ok_fd (fd2 (by decide) ha hb) (by decide)
  have ok3 : Ok (.tup [.int (3 * p), .int (3 * q), .int (3 * r), .int (3 * s)]) := ok_fd (fd4 (n := 20) (by decide) (Lt.to (by decide)) (Lt.to (by decide)) (Lt.to (by decide)) (Lt.to (by decide))) (by decide)
  have okm : Ok (prD (.tup [.int p, .int q, .int r, .int s]) (.tup [.int t, .int u, .int v, .int w])) := ok_fd (fd4 (n := 40) (by decide) (Lt.to (by decide)) (Lt.to (by decide)) (Lt.to (by decide)) (Lt.to (by decide))) (by decide)
  have nd3 : 3 * p * (3 * s) ≠ 3 * q * (3 * r) := by
    intro e
    have : 9 * (p * s) = 9 * (q * r) := by grind
    omega
  have cm := ch_of (det_mul nd ne)
  have sp : ShowOk (.tup [.str "told", .tup [.int a, .int b]]) := sh_told ((fd2 (by decide) ha hb).mono (by decide) (by decide))
  rw [e_Seq]
  unfold b_law_1
  simp -implicitDefEqProofs [S__law_moved, -e_Seq]
  refine ⟨⟨hp.mono (by decide), hq.mono (by decide), hr.mono (by decide), hs.mono (by decide)⟩, ⟨hx.mono (by decide), hy.mono (by decide)⟩, ?_⟩
  rw [e1] at hN ⊢
  rw [e_Seq]
  unfold b_law_2
  simp -implicitDefEqProofs [-e_Seq]
  refine moved_ok okc okp (ch_of nd) (pl_of ip) ?_
  simp only [mvD, e1]
  refine ⟨by omega, ?_⟩
  rw [e_Seq]
  unfold b_law_3
  simp -implicitDefEqProofs [-e_Seq]
  refine at_ok (ws := [0, 1]) okc okp (by decide) sp (fun n hn => ?_) ?_
  · have h2 : n = 0 ∨ n = 1 := by simpa using hn
    unfold tellD
    rw [if_neg (by rw [ch_of nd]; decide), if_pos h2, if_neg (by rw [pl_of ip]; decide)]
    simp only [mvD, e1]
  simp -implicitDefEqProofs [-e_Seq]
  refine moved_ok okb okg (ch_of ndi) (pl_of ia) ?_
  simp only [mvD, back_is nd ip hk f1 f2]
  refine ne_id flat2.1 flat2.2 ?_
  simp -implicitDefEqProofs [-e_Seq]
  rw [e_Seq]
  unfold b_law_4
  simp -implicitDefEqProofs [-e_Seq]
  refine inv_ok okc (ch_of nd) ?_
  simp only [invD]
  refine moved_ok okb okp (ch_of ndi) (pl_of ip) ?_
  simp only [mvD, e2]
  refine moved_ok okc (ok_fd (fd2 (by decide) hc hd) (by decide)) (ch_of nd) (pl_of ic) ?_
  simp only [mvD, fore_is nd ip hk2 f3 f4]
  refine ne_id flat2.1 flat2.2 ?_
  simp -implicitDefEqProofs [-e_Seq]
  refine comp_map (fun d => match d with | .int n => some (.int (3 * n)) | _ => none) _ [] (fun d hd Q' hQ' => ?_) (by simp) ?_
  · have key : ∃ n : Int, d = .int n ∧ Lt 15 n := by
      simp only [List.mem_cons, List.not_mem_nil, or_false] at hd
      rcases hd with rfl | rfl | rfl | rfl
      · exact ⟨_, rfl, hp⟩
      · exact ⟨_, rfl, hq⟩
      · exact ⟨_, rfl, hr⟩
      · exact ⟨_, rfl, hs⟩
    obtain ⟨n, rfl, hn⟩ := key
    simp -implicitDefEqProofs [turn, wipeD, restD, keepS]
    exact ⟨Lt.cm (by decide), hQ'⟩
  simp -implicitDefEqProofs [-e_Seq]
  refine moved_ok ok3 okp (ch_of nd3) (pl_of ip) ?_
  simp only [mvD, three_is nd ip, e1]
  refine ne_id flat2.1 flat2.2 ?_
  simp -implicitDefEqProofs [-e_Seq]
  unfold b_law_5
  simp -implicitDefEqProofs
  refine moved_ok okm okp cm (pl_of ip) ?_
  refine moved_ok oko okp (ch_of ne) (pl_of ip) ?_
  simp only [mvD, e3]
  refine moved_ok okc (ok_fd (fd2 (by decide) hf hg) (by decide)) (ch_of nd) (pl_of iff) ?_
  simp only [mvD, prD, both_is nd iff hk3 f5 f6]
  obtain ⟨a2, b2, e4⟩ : ∃ a2 b2 : Int, plV (p * f + q * g) (r * f + s * g) = .tup [.int a2, .int b2] := by
    obtain ⟨a2, b2, _, _, _, _, _, _, e4⟩ := plV_is (move_nz nd iff)
    exact ⟨a2, b2, e4⟩
  rw [e4]
  refine ne_id flat2.1 flat2.2 ?_
  simp -implicitDefEqProofs
  exact hN _
end
end K03
namespace K03
open PySem PySem.Spec L2 DL
theorem eqv_two {x y u v : Int} : eqv (.tup [.int x, .int y]) (.tup [.int u, .int v]) = decide (x = u ∧ y = v) := by
  rw [Bool.eq_iff_iff]
  simp
section
variable {p q r s t u v w : Int} {third : D} {pls : List D}
def mvp (p q r s : Int) : D → D
  | .tup [.int x, .int y] => plV (p * x + q * y) (r * x + s * y)
  | _ => .non
/-- the loop over all pairs of places -/
theorem turn2 {N : Evn → Prop} {rt : D → Prop} {bk : Evn → Prop} {s8 s10 s12 s13 s14 s15 : Slot} {both back one other : D} {done tl : List D} {d : D} (nd : p * s ≠ q * r) (hp : Lt 15 p) (hq : Lt 15 q) (hr : Lt 15 r) (hs : Lt 15 s)
    (hpl : ∀ e ∈ pls, PlB 15 e) (hl : pls.length ≤ 10) (hd : pls = done ++ d :: tl) (h8 : s8 = .own (pls.map (mvp p q r s)) ∨ s8 = .val (.lst (pls.map (mvp p q r s)))) (h10 : s10 = .no ∨ ∃ e, s10 = .val e)
    (hN : ∀ s8 s9 s11, (s8 = .own (pls.map (mvp p q r s)) ∨ s8 = .val (.lst (pls.map (mvp p q r s)))) → N [.no, .val (.deck 0), .val one, .val other, .val third, .val (.lst pls), .val both, .val back, s8, s9, s10, s11, s12, s13, s14, s15, .no, .no, .no, .no]) :
    (dIf (dTest (dBin oNe (dLc (dZip (dVar 5) (dVar 8)) (gTup 2 (gCons (gName 18) (gCons (gName 10) gNil))) (dTest (dBin oNe (dBin oEq (dVar 18) (dVar 9)) (dBin oEq (dVar 10) (dBin oIx (dVar 8) (dVar 11))))) (dVar 18) [18, 10]) (dLst dNil))) (dRet (dC (.bl false))) dNext) { nx := N, rt := rt, bk := bk, ct := N }
      [.no, .val (.deck 0), .val one, .val other, .val third, .val (.lst pls), .val both, .val back, s8, .val d, s10, .val (.int done.length), s12, s13, s14, s15, .no, .no, .no, .no] := by
  have len : (pls.map (mvp p q r s)).length = pls.length := List.length_map ..
  have isx : ∀ e ∈ pls, ∃ a b, mvp p q r s e = .tup [.int a, .int b] := fun e he => by
    obtain ⟨x, y, rfl, ip, _⟩ := hpl e he
    simp only [mvp]
    obtain ⟨a, b, _, _, _, _, _, _, e4⟩ := plV_is (move_nz nd ip)
    exact ⟨a, b, e4⟩
  have hdm : d ∈ pls := by rw [hd]; simp
  obtain ⟨x2, y2, rfl, ip2, hx2, hy2⟩ := hpl d hdm
  obtain ⟨a2, b2, k2, _, hk2, _, f3, f4, e5⟩ := plV_is (move_nz nd ip2)
  have g2 := back_is nd ip2 hk2 f3 f4
  have inj : ∀ x y a b : Int, IsP x y → plV (p * x + q * y) (r * x + s * y) = .tup [.int a, .int b] → ((x == x2 && y == y2) = (a == a2 && b == b2)) := fun x y a b ip e4 => by
    rw [Bool.eq_iff_iff]
    simp only [Bool.and_eq_true, beq_iff_eq]
    constructor
    · rintro ⟨rfl, rfl⟩
      rw [e5] at e4
      simp only [D.tup.injEq, List.cons.injEq, D.int.injEq, and_true] at e4
      exact ⟨e4.1.symm, e4.2.symm⟩
    · rintro ⟨rfl, rfl⟩
      obtain ⟨a', b', k, _, hk, _, f1, f2, e6⟩ := plV_is (move_nz nd ip)
      rw [e4] at e6
      simp only [D.tup.injEq, List.cons.injEq, D.int.injEq, and_true] at e6
      obtain ⟨rfl, rfl⟩ := e6
      have g1 := back_is nd ip hk f1 f2
      rw [g1] at g2
      simp only [D.tup.injEq, List.cons.injEq, D.int.injEq, and_true] at g2
      exact g2
  have ixd : ixD (pls.map (mvp p q r s)) (done.length : Int) = some (.tup [.int a2, .int b2]) := by
    unfold ixD
    rw [if_pos (by omega), Int.toNat_natCast, hd, List.map_append, List.map_cons, List.getElem?_append_right (by simp), List.length_map, Nat.sub_self]
    simp only [List.getElem?_cons_zero, mvp, e5]
  have zip : ∀ l : List D, zipD l (l.map (mvp p q r s)) = l.map fun e => .tup [e, mvp p q r s e] := by
    intro l
    induction l with
    | nil => rfl
    | cons a l ih => simp only [List.map_cons, zipD_cons, ih]
  have elem : ∀ e ∈ pls.map (fun e => D.tup [e, mvp p q r s e]), ∀ Q' : Option D → Evn → Prop, Q' none [.no, .val (.deck 0), .val one, .val other, .val third, .val (.lst pls), .val both, .val back, .val (.lst (pls.map (mvp p q r s))), .val (.tup [.int x2, .int y2]), s10, .val (.int done.length), s12, s13, s14, s15, .no, .no, .no, .no] →
      turn (gTup 2 (gCons (gName 18) (gCons (gName 10) gNil))) (dTest (dBin oNe (dBin oEq (dVar 18) (dVar 9)) (dBin oEq (dVar 10) (dBin oIx (dVar 8) (dVar 11))))) (dVar 18) [18, 10] [.no, .val (.deck 0), .val one, .val other, .val third, .val (.lst pls), .val both, .val back, .val (.lst (pls.map (mvp p q r s))), .val (.tup [.int x2, .int y2]), s10, .val (.int done.length), s12, s13, s14, s15, .no, .no, .no, .no] e Q' := by
    intro e he Q' hQ'
    obtain ⟨c, hc, rfl⟩ := List.mem_map.mp he
    obtain ⟨x, y, rfl, ip, hx, hy⟩ := hpl c hc
    obtain ⟨a, b, _, _, _, _, _, _, e4⟩ := plV_is (move_nz nd ip)
    have dd := inj x y a b ip e4
    rcases h10 with rfl | ⟨e, rfl⟩
    all_goals
      simp -implicitDefEqProofs [turn, wipeD, restD, keepS, mvp, e4, ixd]
      rw [if_pos dd]
      exact hQ'
  have e0 : (pls.map fun e => D.tup [e, mvp p q r s e]).filterMap (fun _ => (none : Option D)) = [] := List.filterMap_eq_nil_iff.mpr fun _ _ => rfl
  rcases h8 with rfl | rfl
  all_goals
    simp -implicitDefEqProofs
    rw [zip]
    refine comp_map (fun _ => none) _ [] elem (by simp; omega) ?_
    rw [e0]
    simp -implicitDefEqProofs
    exact hN _ _ _ (.inr rfl)
end
end K03
namespace K03
open PySem PySem.Spec L2 DL
def B0 : DEnd := { nx := fun _ => False, rt := fun d => d = .bl true }
def md (p : Int) : Int := p % 40 - 20
theorem md_lt (p : Int) : Lt 6 (md p) := .of (by unfold md; omega)
structure C4 (c : D) (p q r s : Int) : Prop where
  e : c = .tup [.int p, .int q, .int r, .int s]
  nd : p * s ≠ q * r
  a : Lt 15 p
  b : Lt 15 q
  c : Lt 15 r
  d : Lt 15 s
theorem ch_or {p q r s : Int} (h : chD (.tup [.int p, .int q, .int r, .int s]) = true) : p * s ≠ q * r := by
  simpa [chD] using h
section
variable {one other third both back : D} {pl0 : List D} {x y p q r s t u v w e f g h : Int} {s8 s9 s10 s11 s12 s13 s14 s15 : Slot}
theorem end18 (h1 : C4 one p q r s) (hx : Lt 15 x) (hy : Lt 15 y) : b_law_18 B0 [.no, .val (.deck 0), .val one, .val other, .val third, .val (.lst (.tup [.int x, .int y] :: pl0)), .val both, .val back, s8, s9, s10, s11, s12, s13, s14, s15, .no, .no, .no, .no] := by
  obtain ⟨rfl, nd, hp, hq, hr, hs⟩ := h1
  unfold b_law_18
  simp -implicitDefEqProofs [S__law_are_refused]
  exact ⟨⟨hp, hq, hr, hs⟩, nd, ⟨hx, hy⟩, rfl⟩
theorem end17 (h1 : C4 one p q r s) (hx : Lt 15 x) (hy : Lt 15 y) (a1 : Lt 6 p') (a2 : Lt 6 q') (a3 : Lt 6 r') (a4 : Lt 6 s') (a5 : Lt 6 t) (a6 : Lt 6 u) (a7 : Lt 6 v) (a8 : Lt 6 w) (a9 : Lt 6 e) (a10 : Lt 6 f) (a11 : Lt 6 g) (a12 : Lt 6 h) :
    dSeq b_law_17 b_law_18 B0 [.no, .val (.deck 0), .val one, .val other, .val third, .val (.lst (.tup [.int x, .int y] :: pl0)), .val both, .val back, s8, s9, s10, s11, s12, s13, s14,
      .val (.lst [.tup [.int p', .int q', .int r', .int s'], .tup [.int t, .int u, .int v, .int w], .tup [.int e, .int f, .int g, .int h]]), .no, .no, .no, .no] := by
  rw [e_Seq]
  unfold b_law_17
  simp -implicitDefEqProofs
  refine comp_map (fun d => if chD d = true then none else some d) _ [] (fun d hd Q' hQ' => ?_) (by simp) ?_
  · have key : ∃ a b c d' : Int, d = .tup [.int a, .int b, .int c, .int d'] ∧ Lt 6 a ∧ Lt 6 b ∧ Lt 6 c ∧ Lt 6 d' := by
      simp only [List.mem_cons, List.not_mem_nil, or_false] at hd
      rcases hd with rfl | rfl | rfl
      · exact ⟨_, _, _, _, rfl, a1, a2, a3, a4⟩
      · exact ⟨_, _, _, _, rfl, a5, a6, a7, a8⟩
      · exact ⟨_, _, _, _, rfl, a9, a10, a11, a12⟩
    obtain ⟨a, b, c, d', rfl, l1, l2, l3, l4⟩ := key
    simp -implicitDefEqProofs [turn, wipeD, restD, keepS]
    refine ⟨Lt.cm (by decide), Lt.cm (by decide), ?_⟩
    have ec : chD (.tup [.int a, .int b, .int c, .int d']) = !(a * d' == b * c) := rfl
    rw [ec] at hQ'
    by_cases hh : a * d' = b * c
    · simp [hh] at hQ' ⊢
      exact hQ'
    · simp [hh] at hQ' ⊢
      exact hQ'
  · generalize hF : ([D.tup [.int p', .int q', .int r', .int s'], .tup [.int t, .int u, .int v, .int w], .tup [.int e, .int f, .int g, .int h]].filterMap fun d => if chD d = true then none else some d) = l
    rw [List.nil_append]
    simp -implicitDefEqProofs [eqvs_emp]
    split
    · rename_i hl
      subst hl
      rw [List.filterMap_eq_nil_iff] at hF
      have ch : ∀ d ∈ [D.tup [.int p', .int q', .int r', .int s'], .tup [.int t, .int u, .int v, .int w], .tup [.int e, .int f, .int g, .int h]], chD d = true := fun d hd => by
        have := hF d hd
        cases hc : chD d with
        | true => rfl
        | false => rw [hc] at this; simp at this
      have c1 := ch _ (List.mem_cons_self ..)
      have c2 := ch (.tup [.int t, .int u, .int v, .int w]) (by simp)
      have c3 := ch (.tup [.int e, .int f, .int g, .int h]) (by simp)
      have o1 := ok_fd (fd4 (by decide) a1 a2 a3 a4) (by decide)
      have o2 := ok_fd (fd4 (by decide) a5 a6 a7 a8) (by decide)
      have o3 := ok_fd (fd4 (by decide) a9 a10 a11 a12) (by decide)
      refine prod_ok o1 o2 c1 c2 ?_
      refine prod_ok (ok_fd (fd4 (n := 20) (by decide) (Lt.to (by decide)) (Lt.to (by decide)) (Lt.to (by decide)) (Lt.to (by decide))) (by decide)) o3 (ch_of (det_mul (ch_or c1) (ch_or c2))) c3 ?_
      refine prod_ok o2 o3 c2 c3 ?_
      refine prod_ok o1 (ok_fd (fd4 (n := 20) (by decide) (Lt.to (by decide)) (Lt.to (by decide)) (Lt.to (by decide)) (Lt.to (by decide))) (by decide)) c1 (ch_of (det_mul (ch_or c2) (ch_or c3))) ?_
      simp only [prD]
      have as : ∀ a b c d' t u v w e f g h : Int, (a * t + b * v) * e + (a * u + b * w) * g = a * (t * e + u * g) + b * (v * e + w * g) := by intros; grind
      rw [as p' q' 0 0 t u v w e 0 g 0, as p' q' 0 0 t u v w f 0 h 0, as r' s' 0 0 t u v w e 0 g 0, as r' s' 0 0 t u v w f 0 h 0]
      refine ne_id flat4.1 flat4.2 ?_
      simp -implicitDefEqProofs
      exact end18 h1 hx hy
    · exact end18 h1 hx hy
end
end K03
namespace K03
open PySem PySem.Spec L2 DL
theorem comp4 {g : DG} {t : DT} {f : DE} {vs : List Nat} {env : Evn} {QL : List D → Evn → Prop} {h : Int → Int} {a b c d : Int} (ht : ∀ i : Int, ∀ Q : Option D → Evn → Prop, Q (some (.int (h i))) env → turn g t f vs env (.int i) Q) (q : QL [.int (h a), .int (h b), .int (h c), .int (h d)] env) :
    compL g t f vs [.int a, .int b, .int c, .int d] [] env QL := by
  refine comp_map (fun d => match d with | .int n => some (.int (h n)) | _ => none) _ [] (fun d hd Q' hQ' => ?_) (by simp) q
  obtain ⟨i, rfl⟩ : ∃ i : Int, d = .int i := by
    simp only [List.mem_cons, List.not_mem_nil, or_false] at hd
    rcases hd with rfl | rfl | rfl | rfl <;> exact ⟨_, rfl⟩
  exact ht i Q' hQ'
section
variable {one other third both back : D} {pl0 : List D} {x y p q r s t u v w e f g h : Int} {s8 s9 s10 s11 s12 s13 s14 s15 : Slot}
theorem end16 (h1 : C4 one p q r s) (h2 : C4 other t u v w) (h3 : C4 third e f g h) (hx : Lt 15 x) (hy : Lt 15 y) :
    dSeq b_law_16 (dSeq b_law_17 b_law_18) B0 [.no, .val (.deck 0), .val one, .val other, .val third, .val (.lst (.tup [.int x, .int y] :: pl0)), .val both, .val back, s8, s9, s10, s11, s12, s13, s14, s15, .no, .no, .no, .no] := by
  have e1 := h1.e
  have e2 := h2.e
  have e3 := h3.e
  rw [e_Seq]
  unfold b_law_16
  simp -implicitDefEqProofs [-e_Seq]
  refine comp_map (fun d => match d with | .tup [.int a, .int b, .int c, .int d] => some (.tup [.int (md a), .int (md b), .int (md c), .int (md d)]) | _ => none) _ [] (fun d hd Q' hQ' => ?_) (by simp) ?_
  · have key : ∃ a b c d' : Int, d = .tup [.int a, .int b, .int c, .int d'] := by
      simp only [List.mem_cons, List.not_mem_nil, or_false] at hd
      rcases hd with rfl | rfl | rfl
      · exact ⟨_, _, _, _, e1⟩
      · exact ⟨_, _, _, _, e2⟩
      · exact ⟨_, _, _, _, e3⟩
    obtain ⟨a, b, c, d', rfl⟩ := key
    simp -implicitDefEqProofs [turn, wipeD, restD, keepS]
    refine comp4 (h := md) (fun i Q hQ => ?_) ?_
    · simp -implicitDefEqProofs [turn, wipeD, restD, keepS]
      exact hQ
    · simp -implicitDefEqProofs
      exact hQ'
  · subst e1 e2 e3
    simp -implicitDefEqProofs [-e_Seq]
    exact end17 h1 hx hy (md_lt _) (md_lt _) (md_lt _) (md_lt _) (md_lt _) (md_lt _) (md_lt _) (md_lt _) (md_lt _) (md_lt _) (md_lt _) (md_lt _)
theorem end15 (h1 : C4 one p q r s) (h2 : C4 other t u v w) (h3 : C4 third e f g h) (hx : Lt 15 x) (hy : Lt 15 y) :
    dSeq b_law_15 (dSeq b_law_16 (dSeq b_law_17 b_law_18)) B0 [.no, .val (.deck 0), .val one, .val other, .val third, .val (.lst (.tup [.int x, .int y] :: pl0)), .val both, .val (.tup [.int s, .int (-q), .int (-r), .int p]), s8, s9, s10, s11, s12, s13, s14, s15, .no, .no, .no, .no] := by
  have e1 := h1.e
  obtain ⟨_, nd, hp, hq, hr, hs⟩ := id h1
  have nq : Lt 15 (-q) := Lt.to (by decide)
  have nr : Lt 15 (-r) := Lt.to (by decide)
  have ndi : s * p ≠ -q * -r := by rw [Int.neg_mul_neg, Int.mul_comm s p]; exact nd
  have okc := ok_fd (fd4 (by decide) hp hq hr hs) (by decide)
  have okb := ok_fd (fd4 (by decide) hs nq nr hp) (by decide)
  have e16 := end16 (pl0 := pl0) (both := both) (back := .tup [.int s, .int (-q), .int (-r), .int p]) (s8 := s8) (s9 := s9) (s10 := s10) (s11 := s11) (s12 := s12) (s13 := s13) (s14 := s14) (s15 := s15) h1 h2 h3 hx hy
  subst e1
  rw [e_Seq]
  unfold b_law_15
  simp -implicitDefEqProofs [-e_Seq]
  refine inv_ok okb (ch_of ndi) ?_
  simp only [invD, Int.neg_neg]
  refine ne_id flat4.1 flat4.2 ?_
  simp -implicitDefEqProofs [-e_Seq]
  refine prod_ok okc okb (ch_of nd) (ch_of ndi) ?_
  simp only [prD]
  have z1 : p * -q + q * p = 0 := by grind
  have z2 : r * s + s * -r = 0 := by grind
  rw [z1, z2]
  have cut : ∀ a b c d : D, cutD [a, b, c, d] (some 1) (some 3) = [b, c] := fun _ _ _ _ => rfl
  simp -implicitDefEqProofs [cut, -e_Seq]
  exact e16
end
end K03
namespace K03
open PySem PySem.Spec L2 DL
section
variable {one other third both back : D} {pl0 : List D} {x y p q r s t u v w e f g h : Int} {s8 s9 s10 s11 s12 s13 s14 s15 : Slot}
theorem end12 (h1 : C4 one p q r s) (h2 : C4 other t u v w) (h3 : C4 third e f g h) (hx : Lt 15 x) (hy : Lt 15 y) :
    dSeq b_law_12 (dSeq b_law_13 (dSeq b_law_14 (dSeq b_law_15 (dSeq b_law_16 (dSeq b_law_17 b_law_18))))) B0 [.no, .val (.deck 0), .val one, .val other, .val third, .val (.lst (.tup [.int x, .int y] :: pl0)), .val both, .val (.tup [.int s, .int (-q), .int (-r), .int p]), s8, s9, s10, s11, s12, s13, s14, s15, .no, .no, .no, .no] := by
  rw [e_Seq]
  unfold b_law_12
  simp -implicitDefEqProofs [S_draw, -e_Seq]
  intro m m0 m1
  obtain ⟨G, eG⟩ : ∃ G : Int, G = 999999999 - m := ⟨_, rfl⟩
  rw [← eG]
  have g0 : 0 < G := by omega
  have lg : Lt 30 G := .of (by omega)
  have lg1 : Lt 31 (G - 1) := Lt.to (by decide)
  have lgn : Lt 30 (-G) := Lt.to (by decide)
  have lg2 : Lt 31 (-G - 1) := Lt.to (by decide)
  rw [e_Seq]
  unfold b_law_13
  simp -implicitDefEqProofs [S_draw, S__law_place, -e_Seq]
  intro n n0 n1
  obtain ⟨M, eM⟩ : ∃ M : Int, M = 1000000000 - n := ⟨_, rfl⟩
  rw [← eM]
  have lm : Lt 30 M := .of (by omega)
  refine ⟨⟨lm.mono (by decide), lg.mono (by decide)⟩, ?_⟩
  obtain ⟨a, b, k, ip, _, _, _, _, ep⟩ := plV_is (a := M) (b := G) (by omega)
  obtain ⟨a', b', ep', la, lb⟩ := plV_bd 30 lm lg
  rw [ep] at ep'
  simp only [D.tup.injEq, List.cons.injEq, D.int.injEq, and_true] at ep'
  obtain ⟨rfl, rfl⟩ := ep'
  rw [ep]
  have ndS : G * -G ≠ (G - 1) * (-G - 1) := by
    intro e
    have : G * -G - (G - 1) * (-G - 1) = -1 := by grind
    omega
  have okS := ok_fd (fd4 (n := 31) (by decide) (lg.mono (by decide)) lg1 lg2 (lgn.mono (by decide))) (by decide)
  have okF := ok_fd (fd2 (by decide) la lb) (by decide)
  obtain ⟨c, d, _, ec, ic, _, _, _, lc, ld⟩ := mv_is (n := 80) ndS ip (Lt.to (by decide)) (Lt.to (by decide))
  have sp : ShowOk (.tup [.str "told", .tup [.int c, .int d]]) := sh_told ((fd2 (by decide) lc ld).mono (by decide) (by decide))
  rw [e_Seq]
  unfold b_law_14
  simp -implicitDefEqProofs [S__law_moved, -e_Seq]
  refine ⟨⟨lg.mono (by decide), lg1.mono (by decide), lg2.mono (by decide), lgn.mono (by decide)⟩, ⟨la.mono (by decide), lb.mono (by decide)⟩, ?_⟩
  rw [ec]
  refine at_ok (ws := [0, 1]) okS okF (by decide) sp (fun n hn => ?_) ?_
  · have h2 : n = 0 ∨ n = 1 := by simpa using hn
    unfold tellD
    rw [if_neg (by rw [ch_of ndS]; decide), if_pos h2, if_neg (by rw [pl_of ip]; decide)]
    simp only [mvD, ec]
  simp -implicitDefEqProofs [-e_Seq]
  refine inv_ok okS (ch_of ndS) ?_
  simp only [invD]
  have e1 : -(G - 1) = 1 - G := by omega
  simp -implicitDefEqProofs [e1, -e_Seq]
  exact end15 h1 h2 h3 hx hy
end
theorem len3 : ∀ {l : List D}, l.length = 3 → ∃ a b c, l = [a, b, c]
  | [a, b, c], _ => ⟨a, b, c, rfl⟩
theorem r_law : g_law { nx := fun _ => False, rt := fun d => d = .bl true } (lawEnv 20 1 0) := by
  unfold g_law lawEnv
  rw [e_Seq]
  unfold b_law_6
  simp -implicitDefEqProofs [S__law_change, -e_Seq]
  intro p q r s nd hp hq hr hs t u v w ne ht hu hv hw e f g h n3 he hf hg hh
  have c1 : C4 (.tup [.int p, .int q, .int r, .int s]) p q r s := ⟨rfl, nd, hp, hq, hr, hs⟩
  have c2 : C4 (.tup [.int t, .int u, .int v, .int w]) t u v w := ⟨rfl, ne, ht, hu, hv, hw⟩
  have c3 : C4 (.tup [.int e, .int f, .int g, .int h]) e f g h := ⟨rfl, n3, he, hf, hg, hh⟩
  rw [e_Seq]
  unfold b_law_7
  simp -implicitDefEqProofs [-e_Seq]
  refine comp_each (PlB 15) _ [] (fun d hd Q' hy => ?_) (by simp [rngD]) fun ys hl ha => ?_
  · obtain ⟨i, rfl⟩ : ∃ i : Int, d = .int i := by
      unfold rngD at hd
      obtain ⟨j, _, rfl⟩ := List.mem_map.mp hd
      exact ⟨_, rfl⟩
    simp -implicitDefEqProofs [turn, wipeD, restD, keepS, S__law_drawn_place]
    intro x y hp hx hy2
    obtain ⟨x', y', e, ip⟩ := pl_two hp
    simp only [D.tup.injEq, List.cons.injEq, D.int.injEq, and_true] at e
    obtain ⟨rfl, rfl⟩ := e
    exact hy _ ⟨x, y, rfl, ip, hx, hy2⟩
  obtain ⟨d1, d2, d3, rfl⟩ := len3 (l := ys) (by rw [hl]; rfl)
  obtain ⟨x1, y1, rfl, i1, lx1, ly1⟩ := ha d1 (by simp)
  obtain ⟨pls, epl⟩ : ∃ pls : List D, pls = [.tup [.int x1, .int y1], d2, d3, .tup [.int 1, .int 0], .tup [.int 0, .int 1]] := ⟨_, rfl⟩
  have hpl : ∀ d ∈ pls, PlB 15 d := fun d hd => by
    rw [epl] at hd
    simp only [List.mem_cons, List.not_mem_nil, or_false] at hd
    rcases hd with rfl | rfl | rfl | rfl | rfl
    · exact ⟨_, _, rfl, i1, lx1, ly1⟩
    · exact ha _ (by simp)
    · exact ha _ (by simp)
    · exact ⟨_, _, rfl, .inr ⟨rfl, rfl⟩, .of (by decide), .of (by decide)⟩
    · exact ⟨_, _, rfl, .inl ⟨by decide, by decide⟩, .of (by decide), .of (by decide)⟩
  have lpl : pls.length = 5 := by rw [epl]; rfl
  simp -implicitDefEqProofs [-e_Seq]
  rw [← epl]
  rw [e_Seq]
  unfold b_law_8
  simp -implicitDefEqProofs [S__law_product, -e_Seq]
  refine ⟨⟨hp.mono (by decide), hq.mono (by decide), hr.mono (by decide), hs.mono (by decide)⟩, ⟨ht.mono (by decide), hu.mono (by decide), hv.mono (by decide), hw.mono (by decide)⟩, ?_⟩
  have nq : Lt 15 (-q) := Lt.to (by decide)
  have nr : Lt 15 (-r) := Lt.to (by decide)
  have okc := ok_fd (fd4 (by decide) hp hq hr hs) (by decide)
  have oko := ok_fd (fd4 (by decide) ht hu hv hw) (by decide)
  have sm : ShowOk (.tup [.str "told", .tup [.int (p * t + q * v), .int (p * u + q * w), .int (r * t + s * v), .int (r * u + s * w)]]) := sh_told (fd4 (n := 40) (by decide) (Lt.to (by decide)) (Lt.to (by decide)) (Lt.to (by decide)) (Lt.to (by decide)))
  have sb : ShowOk (.tup [.str "told", .tup [.int s, .int (-q), .int (-r), .int p]]) := sh_told (fd4 (by decide) hs nq nr hp)
  rw [e_Seq]
  unfold b_law_9
  simp -implicitDefEqProofs [-e_Seq]
  refine at_ok (ws := [2, 3]) okc oko (by decide) sm (fun w hw => ?_) ?_
  · have h1 : ¬ (w = 0 ∨ w = 1) := by simp at hw; omega
    have h2 : w = 2 ∨ w = 3 := by simpa using hw
    unfold tellD
    rw [if_neg (by rw [ch_of nd]; decide), if_neg h1, if_pos h2, if_neg (by rw [ch_of ne]; decide)]
    rfl
  simp -implicitDefEqProofs [-e_Seq]
  refine at_ok (ws := [4, 5]) okc ⟨by decide +kernel, by decide +kernel⟩ (by decide) sb (fun w hw => ?_) ?_
  · have h1 : ¬ (w = 0 ∨ w = 1) := by simp at hw; omega
    have h2 : ¬ (w = 2 ∨ w = 3) := by simp at hw; omega
    unfold tellD
    rw [if_neg (by rw [ch_of nd]; decide), if_neg h1, if_neg h2]
    rfl
  simp -implicitDefEqProofs [-e_Seq]
  rw [e_Seq]
  simp -implicitDefEqProofs [-e_Seq]
  rw [e_Seq]
  unfold b_law_10
  simp -implicitDefEqProofs [-e_Seq]
  refine for_inv (fun l env => ∃ (done : List D) (s9 s10 : Slot), pls = done ++ l ∧ (s10 = .no ∨ ∃ e, s10 = .val e) ∧ env = [.no, .val (.deck 0), .val (.tup [.int p, .int q, .int r, .int s]), .val (.tup [.int t, .int u, .int v, .int w]), .val (.tup [.int e, .int f, .int g, .int h]), .val (.lst pls), .val (prD (.tup [.int p, .int q, .int r, .int s]) (.tup [.int t, .int u, .int v, .int w])), .val (.tup [.int s, .int (-q), .int (-r), .int p]), .own (done.map (mvp p q r s)), s9, s10, .no, .no, .no, .no, .no, .no, .no, .no, .no]) ?_ ?_ _ _ ⟨[], _, _, rfl, .inl rfl, rfl⟩
  · rintro d l env N ⟨done, s9, s10, hd, h10, rfl⟩ hN
    obtain ⟨x, y, rfl, ip, hx, hy⟩ := hpl d (by rw [hd]; simp)
    simp -implicitDefEqProofs [-e_Seq]
    have hlen : (done.map (mvp p q r s)).length ≤ 10 := by
      have := congrArg List.length hd
      rw [lpl, List.length_append] at this
      rw [List.length_map]
      omega
    refine turn1 nd ne hp hq hr hs ht hu hv hw ip hx hy hlen fun z => hN _ ⟨done ++ [.tup [.int x, .int y]], _, _, by rw [hd]; simp, .inr ⟨z, rfl⟩, by rw [List.map_append]; rfl⟩
  · rintro env ⟨done, s9, s10, hd, h10, rfl⟩
    rw [List.append_nil] at hd
    subst hd
    dsimp only
    rw [e_Seq]
    unfold b_law_11
    simp -implicitDefEqProofs [-e_Seq]
    refine for_enum (l := pls) (fun _ env => ∃ s8 s9 s11, (s8 = .own (pls.map (mvp p q r s)) ∨ s8 = .val (.lst (pls.map (mvp p q r s)))) ∧ env = [.no, .val (.deck 0), .val (.tup [.int p, .int q, .int r, .int s]), .val (.tup [.int t, .int u, .int v, .int w]), .val (.tup [.int e, .int f, .int g, .int h]), .val (.lst pls), .val (prD (.tup [.int p, .int q, .int r, .int s]) (.tup [.int t, .int u, .int v, .int w])), .val (.tup [.int s, .int (-q), .int (-r), .int p]), s8, s9, s10, s11, .no, .no, .no, .no, .no, .no, .no, .no]) ?_ ?_ ⟨_, _, _, .inl rfl, rfl⟩
    · rintro done tl d env N hd ⟨s8, s9, s11, h8, rfl⟩ hN
      simp -implicitDefEqProofs only [e_gTup, e_gCons, e_gName, e_gNil, List.length_cons, List.length_nil, List.set_cons_succ, List.set_cons_zero]
      exact ⟨trivial, turn2 nd hp hq hr hs hpl (by omega) hd h8 h10 fun s8 s9 s11 h8 => hN _ ⟨s8, s9, s11, h8, rfl⟩⟩
    · rintro env ⟨s8, s9, s11, h8, rfl⟩
      dsimp only
      subst epl
      exact end12 c1 c2 c3 lx1 ly1
end K03
namespace K03
open PySem PySem.Spec L2 DL
theorem fn_false {P : Program} {w : World} {K : PySem.W.Frag} {mg : Str → Option Value} {base : Heap} {n : Nat} {f : Addr} {fd : FuncData} {ps : List Str} : FnG P w K mg base (L2.CX P w) n f fd ps (spD K mg fun _ _ _ => False) :=
  ⟨fun ⟨_, _, _, _, _, _, _, h, _⟩ => h.elim, fun _ _ _ _ _ ⟨_, _, _, _, _, _, _, h, _⟩ => h.elim⟩
theorem fok_thing : FOk "thing" := ⟨by decide, by decide, fun _ _ _ _ _ _ _ _ _ _ _ _ _ _ _ => rfl⟩
theorem ar_is_integer : ∀ (ds : List D) (P : D → Prop) (PX : Ex → Prop), S_is_integer ds P PX → ds.length = 1 := by
  intro ds P PX h
  unfold S_is_integer S_isint at h
  first | (obtain ⟨_, rfl, _⟩ := h; rfl) | (split at h <;> first | rfl | exact h.elim)
theorem ar_are_integers : ∀ (ds : List D) (P : D → Prop) (PX : Ex → Prop), S_are_integers ds P PX → ds.length = 2 := by
  intro ds P PX h
  unfold S_are_integers S_areints at h
  first | (obtain ⟨_, rfl, _⟩ := h; rfl) | (split at h <;> first | rfl | exact h.elim)
theorem ar_common_divisor : ∀ (ds : List D) (P : D → Prop) (PX : Ex → Prop), S_common_divisor ds P PX → ds.length = 2 := by
  intro ds P PX h
  unfold S_common_divisor S_gcd at h
  first | (obtain ⟨_, rfl, _⟩ := h; rfl) | (split at h <;> first | rfl | exact h.elim)
theorem ar_is_place : ∀ (ds : List D) (P : D → Prop) (PX : Ex → Prop), S_is_place ds P PX → ds.length = 1 := by
  intro ds P PX h
  unfold S_is_place at h
  first | (obtain ⟨_, rfl, _⟩ := h; rfl) | (split at h <;> first | rfl | exact h.elim)
theorem ar_place_of : ∀ (ds : List D) (P : D → Prop) (PX : Ex → Prop), S_place_of ds P PX → ds.length = 2 := by
  intro ds P PX h
  unfold S_place_of at h
  first | (obtain ⟨_, rfl, _⟩ := h; rfl) | (split at h <;> first | rfl | exact h.elim)
theorem ar_is_change : ∀ (ds : List D) (P : D → Prop) (PX : Ex → Prop), S_is_change ds P PX → ds.length = 1 := by
  intro ds P PX h
  unfold S_is_change at h
  first | (obtain ⟨_, rfl, _⟩ := h; rfl) | (split at h <;> first | rfl | exact h.elim)
theorem ar_check_change : ∀ (ds : List D) (P : D → Prop) (PX : Ex → Prop), S_check_change ds P PX → ds.length = 1 := by
  intro ds P PX h
  unfold S_check_change at h
  first | (obtain ⟨_, rfl, _⟩ := h; rfl) | (split at h <;> first | rfl | exact h.elim)
theorem ar_move : ∀ (ds : List D) (P : D → Prop) (PX : Ex → Prop), S_move ds P PX → ds.length = 2 := by
  intro ds P PX h
  unfold S_move at h
  first | (obtain ⟨_, rfl, _⟩ := h; rfl) | (split at h <;> first | rfl | exact h.elim)
theorem ar_moved : ∀ (ds : List D) (P : D → Prop) (PX : Ex → Prop), S_moved ds P PX → ds.length = 2 := by
  intro ds P PX h
  unfold S_moved at h
  first | (obtain ⟨_, rfl, _⟩ := h; rfl) | (split at h <;> first | rfl | exact h.elim)
theorem ar_product : ∀ (ds : List D) (P : D → Prop) (PX : Ex → Prop), S_product ds P PX → ds.length = 2 := by
  intro ds P PX h
  unfold S_product at h
  first | (obtain ⟨_, rfl, _⟩ := h; rfl) | (split at h <;> first | rfl | exact h.elim)
theorem ar_change_product : ∀ (ds : List D) (P : D → Prop) (PX : Ex → Prop), S_change_product ds P PX → ds.length = 2 := by
  intro ds P PX h
  unfold S_change_product at h
  first | (obtain ⟨_, rfl, _⟩ := h; rfl) | (split at h <;> first | rfl | exact h.elim)
theorem ar_change_inverse : ∀ (ds : List D) (P : D → Prop) (PX : Ex → Prop), S_change_inverse ds P PX → ds.length = 1 := by
  intro ds P PX h
  unfold S_change_inverse at h
  first | (obtain ⟨_, rfl, _⟩ := h; rfl) | (split at h <;> first | rfl | exact h.elim)
theorem ar__law_deck : ∀ (ds : List D) (P : D → Prop) (PX : Ex → Prop), (S_deck 0) ds P PX → ds.length = 1 := by
  intro ds P PX h
  unfold S_deck at h
  first | (obtain ⟨_, rfl, _⟩ := h; rfl) | (split at h <;> first | rfl | exact h.elim)
theorem ar__law_pick : ∀ (ds : List D) (P : D → Prop) (PX : Ex → Prop), S__law_pick ds P PX → ds.length = 2 := by
  intro ds P PX h
  unfold S__law_pick at h
  first | (obtain ⟨_, rfl, _⟩ := h; rfl) | (split at h <;> first | rfl | exact h.elim)
theorem ar__law_divisor : ∀ (ds : List D) (P : D → Prop) (PX : Ex → Prop), S__law_divisor ds P PX → ds.length = 2 := by
  intro ds P PX h
  unfold S__law_divisor S_gcd at h
  first | (obtain ⟨_, rfl, _⟩ := h; rfl) | (split at h <;> first | rfl | exact h.elim)
theorem ar__law_place : ∀ (ds : List D) (P : D → Prop) (PX : Ex → Prop), S__law_place ds P PX → ds.length = 2 := by
  intro ds P PX h
  unfold S__law_place at h
  first | (obtain ⟨_, rfl, _⟩ := h; rfl) | (split at h <;> first | rfl | exact h.elim)
theorem ar__law_signed : ∀ (ds : List D) (P : D → Prop) (PX : Ex → Prop), S__law_signed ds P PX → ds.length = 2 := by
  intro ds P PX h
  unfold S__law_signed at h
  first | (obtain ⟨_, rfl, _⟩ := h; rfl) | (split at h <;> first | rfl | exact h.elim)
theorem ar__law_drawn_place : ∀ (ds : List D) (P : D → Prop) (PX : Ex → Prop), S__law_drawn_place ds P PX → ds.length = 1 := by
  intro ds P PX h
  unfold S__law_drawn_place at h
  first | (obtain ⟨_, rfl, _⟩ := h; rfl) | (split at h <;> first | rfl | exact h.elim)
theorem ar__law_change : ∀ (ds : List D) (P : D → Prop) (PX : Ex → Prop), S__law_change ds P PX → ds.length = 1 := by
  intro ds P PX h
  unfold S__law_change at h
  first | (obtain ⟨_, rfl, _⟩ := h; rfl) | (split at h <;> first | rfl | exact h.elim)
theorem ar__law_moved : ∀ (ds : List D) (P : D → Prop) (PX : Ex → Prop), S__law_moved ds P PX → ds.length = 2 := by
  intro ds P PX h
  unfold S__law_moved at h
  first | (obtain ⟨_, rfl, _⟩ := h; rfl) | (split at h <;> first | rfl | exact h.elim)
theorem ar__law_product : ∀ (ds : List D) (P : D → Prop) (PX : Ex → Prop), S__law_product ds P PX → ds.length = 2 := by
  intro ds P PX h
  unfold S__law_product at h
  first | (obtain ⟨_, rfl, _⟩ := h; rfl) | (split at h <;> first | rfl | exact h.elim)
theorem ar__law_told : ∀ (ds : List D) (P : D → Prop) (PX : Ex → Prop), S__law_told ds P PX → ds.length = 3 := by
  intro ds P PX h
  unfold S__law_told at h
  first | (obtain ⟨_, rfl, _⟩ := h; rfl) | (split at h <;> first | rfl | exact h.elim)
theorem ar__law_are_told : ∀ (ds : List D) (P : D → Prop) (PX : Ex → Prop), S__law_are_told ds P PX → ds.length = 4 := by
  intro ds P PX h
  unfold S__law_are_told at h
  first | (obtain ⟨_, rfl, _⟩ := h; rfl) | (split at h <;> first | rfl | exact h.elim)
theorem ar__law_no_change : ∀ (ds : List D) (P : D → Prop) (PX : Ex → Prop), S__law_no_change ds P PX → ds.length = 2 := by
  intro ds P PX h
  unfold S__law_no_change at h
  first | (obtain ⟨_, rfl, _⟩ := h; rfl) | (split at h <;> first | rfl | exact h.elim)
theorem ar__law_no_place : ∀ (ds : List D) (P : D → Prop) (PX : Ex → Prop), S__law_no_place ds P PX → ds.length = 2 := by
  intro ds P PX h
  unfold S__law_no_place at h
  first | (obtain ⟨_, rfl, _⟩ := h; rfl) | (split at h <;> first | rfl | exact h.elim)
theorem ar__law_are_refused : ∀ (ds : List D) (P : D → Prop) (PX : Ex → Prop), S__law_are_refused ds P PX → ds.length = 3 := by
  intro ds P PX h
  unfold S__law_are_refused at h
  first | (obtain ⟨_, rfl, _⟩ := h; rfl) | (split at h <;> first | rfl | exact h.elim)/-! ### the head -/
abbrev FnP (K : PySem.W.Frag) (x : Str) (st : Stmt) (f : Addr) (fd : FuncData) : Prop := FunD K x x (defArgs st) (defBody st) (defScope st) [] [] f fd
def dOf (x : Str) (st : Stmt) : He.DefD := ⟨(x, none), x, x, defArgs st, defBody st, defScope st, [], []⟩
def fn : List He.DefD := [dOf "is_integer" s_is_integer, dOf "are_integers" s_are_integers, dOf "common_divisor" s_common_divisor, dOf "is_place" s_is_place, dOf "place_of" s_place_of, dOf "is_change" s_is_change, dOf "check_change" s_check_change, dOf "move" s_move, dOf "moved" s_moved, dOf "product" s_product, dOf "change_product" s_change_product, dOf "change_inverse" s_change_inverse, dOf "_law_deck" s__law_deck, dOf "_law_draw" s__law_draw, dOf "_law_pick" s__law_pick, dOf "_law_divisor" s__law_divisor, dOf "_law_place" s__law_place, dOf "_law_signed" s__law_signed, dOf "_law_drawn_place" s__law_drawn_place, dOf "_law_change" s__law_change, dOf "_law_moved" s__law_moved, dOf "_law_product" s__law_product, dOf "_law_told" s__law_told, dOf "_law_are_told" s__law_are_told, dOf "_law_no_change" s__law_no_change, dOf "_law_no_place" s__law_no_place, dOf "_law_are_refused" s__law_are_refused, dOf "law" s_law, ⟨("BadChange", some "__init__"), "__init__", "BadChange.__init__", defArgs i_BadChange, defBody i_BadChange, defScope i_BadChange, [], []⟩, ⟨("BadPlace", some "__init__"), "__init__", "BadPlace.__init__", defArgs i_BadPlace, defBody i_BadPlace, defScope i_BadPlace, [], []⟩]
def fa : List He.Fa := [.glo "is_integer", .glo "are_integers", .glo "common_divisor", .glo "is_place", .glo "place_of", .glo "is_change", .glo "check_change", .glo "move", .glo "moved", .glo "product", .glo "change_product", .glo "change_inverse", .glo "_law_deck", .glo "_law_draw", .glo "_law_pick", .glo "_law_divisor", .glo "_law_place", .glo "_law_signed", .glo "_law_drawn_place", .glo "_law_change", .glo "_law_moved", .glo "_law_product", .glo "_law_told", .glo "_law_are_told", .glo "_law_no_change", .glo "_law_no_place", .glo "_law_are_refused", .glo "law", .free "abs", .free "all", .free "bool", .free "enumerate", .free "int", .free "isinstance", .free "len", .free "max", .free "range", .free "repr", .free "tuple", .free "zip", .glo "RulerError", .glo "AllZero", .glo "BadPlace", .glo "BadChange"]
abbrev R : PySem.W.OpenRow := PySem.W.OpenLaw.row PySem.Challenge.rw_rulertrees_k03_changes_move_places
def exB (K : PySem.W.Frag) : Bool := xpB K XN FS && (([] : List Str).all fun x => PySem.W.excIn K (He.ga K x) eTail "Exception.__new__") && (([("BadChange", "thing"), ("BadPlace", "thing")] : List (Str × Str)).all fun q => xiB K (He.ga K q.1) q.2)
abbrev hk : PySem.W.Hook := He.hookX 5 fa fn [] [] exB
def ob (s : PySem.W.SharedT) : He.AlX := He.obsX 5 fa fn [] [] exB (HandSHeadRun.getT s)
theorem ob_eq (s : PySem.W.SharedT) : ob s = hk.obs s.abs := He.obsX_eq (HandSHeadRun.getT_eq s)
def names : List Str := (["RulerError", "AllZero", "BadPlace", "BadChange", "is_integer", "are_integers", "common_divisor", "is_place", "place_of", "is_change", "check_change", "move", "moved", "product", "change_product", "change_inverse", "_law_deck", "_law_draw", "_law_pick", "_law_divisor", "_law_place", "_law_signed", "_law_drawn_place", "_law_change", "_law_moved", "_law_product", "_law_told", "_law_are_told", "_law_no_change", "_law_no_place", "_law_are_refused"] : List Str)
theorem run (w : World) : HandSHeadRun.RunEq R (PySem.W.view R.prog [35]) hk ob 8000 names w := by
  intro os
  kernel_rfl
theorem facts {P : Program} {w : World} {K : PySem.W.Frag} {h : Heap} {mg : Str → Option Value} {f : Addr} (X : K.In h) (G : h.Ns mainGlobals mg) (hfa : mg ("law" : Str) = some (.ref f)) (cx : He.SaysX fa fn [] [] exB w h K) :
    ∃ fd : FuncData, (∀ (s : Shared) (v : Value), BindsTo s fd ⟨[v], []⟩ [("script", v)]) ∧ ∀ base : Heap, K.In base → base.Ns mainGlobals mg → FnG P w K mg base (L2.CX P w) 9 f fd ["script"] (spLaw K) := by
  have c : He.SaysD fa fn K := cx.t.d
  obtain ⟨fd_is_integer, F_is_integer⟩ := c.def_ 0 (d := dOf "is_integer" s_is_integer) rfl
  have m_is_integer := He.glo_ok X G (c.fact 0 (f := .glo "is_integer") rfl)
  obtain ⟨fd_are_integers, F_are_integers⟩ := c.def_ 1 (d := dOf "are_integers" s_are_integers) rfl
  have m_are_integers := He.glo_ok X G (c.fact 1 (f := .glo "are_integers") rfl)
  obtain ⟨fd_common_divisor, F_common_divisor⟩ := c.def_ 2 (d := dOf "common_divisor" s_common_divisor) rfl
  have m_common_divisor := He.glo_ok X G (c.fact 2 (f := .glo "common_divisor") rfl)
  obtain ⟨fd_is_place, F_is_place⟩ := c.def_ 3 (d := dOf "is_place" s_is_place) rfl
  have m_is_place := He.glo_ok X G (c.fact 3 (f := .glo "is_place") rfl)
  obtain ⟨fd_place_of, F_place_of⟩ := c.def_ 4 (d := dOf "place_of" s_place_of) rfl
  have m_place_of := He.glo_ok X G (c.fact 4 (f := .glo "place_of") rfl)
  obtain ⟨fd_is_change, F_is_change⟩ := c.def_ 5 (d := dOf "is_change" s_is_change) rfl
  have m_is_change := He.glo_ok X G (c.fact 5 (f := .glo "is_change") rfl)
  obtain ⟨fd_check_change, F_check_change⟩ := c.def_ 6 (d := dOf "check_change" s_check_change) rfl
  have m_check_change := He.glo_ok X G (c.fact 6 (f := .glo "check_change") rfl)
  obtain ⟨fd_move, F_move⟩ := c.def_ 7 (d := dOf "move" s_move) rfl
  have m_move := He.glo_ok X G (c.fact 7 (f := .glo "move") rfl)
  obtain ⟨fd_moved, F_moved⟩ := c.def_ 8 (d := dOf "moved" s_moved) rfl
  have m_moved := He.glo_ok X G (c.fact 8 (f := .glo "moved") rfl)
  obtain ⟨fd_product, F_product⟩ := c.def_ 9 (d := dOf "product" s_product) rfl
  have m_product := He.glo_ok X G (c.fact 9 (f := .glo "product") rfl)
  obtain ⟨fd_change_product, F_change_product⟩ := c.def_ 10 (d := dOf "change_product" s_change_product) rfl
  have m_change_product := He.glo_ok X G (c.fact 10 (f := .glo "change_product") rfl)
  obtain ⟨fd_change_inverse, F_change_inverse⟩ := c.def_ 11 (d := dOf "change_inverse" s_change_inverse) rfl
  have m_change_inverse := He.glo_ok X G (c.fact 11 (f := .glo "change_inverse") rfl)
  obtain ⟨fd__law_deck, F__law_deck⟩ := c.def_ 12 (d := dOf "_law_deck" s__law_deck) rfl
  have m__law_deck := He.glo_ok X G (c.fact 12 (f := .glo "_law_deck") rfl)
  obtain ⟨fd__law_draw, F__law_draw⟩ := c.def_ 13 (d := dOf "_law_draw" s__law_draw) rfl
  have m__law_draw := He.glo_ok X G (c.fact 13 (f := .glo "_law_draw") rfl)
  obtain ⟨fd__law_pick, F__law_pick⟩ := c.def_ 14 (d := dOf "_law_pick" s__law_pick) rfl
  have m__law_pick := He.glo_ok X G (c.fact 14 (f := .glo "_law_pick") rfl)
  obtain ⟨fd__law_divisor, F__law_divisor⟩ := c.def_ 15 (d := dOf "_law_divisor" s__law_divisor) rfl
  have m__law_divisor := He.glo_ok X G (c.fact 15 (f := .glo "_law_divisor") rfl)
  obtain ⟨fd__law_place, F__law_place⟩ := c.def_ 16 (d := dOf "_law_place" s__law_place) rfl
  have m__law_place := He.glo_ok X G (c.fact 16 (f := .glo "_law_place") rfl)
  obtain ⟨fd__law_signed, F__law_signed⟩ := c.def_ 17 (d := dOf "_law_signed" s__law_signed) rfl
  have m__law_signed := He.glo_ok X G (c.fact 17 (f := .glo "_law_signed") rfl)
  obtain ⟨fd__law_drawn_place, F__law_drawn_place⟩ := c.def_ 18 (d := dOf "_law_drawn_place" s__law_drawn_place) rfl
  have m__law_drawn_place := He.glo_ok X G (c.fact 18 (f := .glo "_law_drawn_place") rfl)
  obtain ⟨fd__law_change, F__law_change⟩ := c.def_ 19 (d := dOf "_law_change" s__law_change) rfl
  have m__law_change := He.glo_ok X G (c.fact 19 (f := .glo "_law_change") rfl)
  obtain ⟨fd__law_moved, F__law_moved⟩ := c.def_ 20 (d := dOf "_law_moved" s__law_moved) rfl
  have m__law_moved := He.glo_ok X G (c.fact 20 (f := .glo "_law_moved") rfl)
  obtain ⟨fd__law_product, F__law_product⟩ := c.def_ 21 (d := dOf "_law_product" s__law_product) rfl
  have m__law_product := He.glo_ok X G (c.fact 21 (f := .glo "_law_product") rfl)
  obtain ⟨fd__law_told, F__law_told⟩ := c.def_ 22 (d := dOf "_law_told" s__law_told) rfl
  have m__law_told := He.glo_ok X G (c.fact 22 (f := .glo "_law_told") rfl)
  obtain ⟨fd__law_are_told, F__law_are_told⟩ := c.def_ 23 (d := dOf "_law_are_told" s__law_are_told) rfl
  have m__law_are_told := He.glo_ok X G (c.fact 23 (f := .glo "_law_are_told") rfl)
  obtain ⟨fd__law_no_change, F__law_no_change⟩ := c.def_ 24 (d := dOf "_law_no_change" s__law_no_change) rfl
  have m__law_no_change := He.glo_ok X G (c.fact 24 (f := .glo "_law_no_change") rfl)
  obtain ⟨fd__law_no_place, F__law_no_place⟩ := c.def_ 25 (d := dOf "_law_no_place" s__law_no_place) rfl
  have m__law_no_place := He.glo_ok X G (c.fact 25 (f := .glo "_law_no_place") rfl)
  obtain ⟨fd__law_are_refused, F__law_are_refused⟩ := c.def_ 26 (d := dOf "_law_are_refused" s__law_are_refused) rfl
  have m__law_are_refused := He.glo_ok X G (c.fact 26 (f := .glo "_law_are_refused") rfl)
  obtain ⟨fd_law, F_law⟩ := c.def_ 27 (d := dOf "law" s_law) rfl
  have m_law := He.glo_ok X G (c.fact 27 (f := .glo "law") rfl)
  have z : Zs mg := ⟨He.free_ok X G (c.fact 28 (f := .free "abs") rfl), He.free_ok X G (c.fact 29 (f := .free "all") rfl), He.free_ok X G (c.fact 30 (f := .free "bool") rfl), He.free_ok X G (c.fact 31 (f := .free "enumerate") rfl), He.free_ok X G (c.fact 32 (f := .free "int") rfl), He.free_ok X G (c.fact 33 (f := .free "isinstance") rfl), He.free_ok X G (c.fact 34 (f := .free "len") rfl), He.free_ok X G (c.fact 35 (f := .free "max") rfl), He.free_ok X G (c.fact 36 (f := .free "range") rfl), He.free_ok X G (c.fact 37 (f := .free "repr") rfl), He.free_ok X G (c.fact 38 (f := .free "tuple") rfl), He.free_ok X G (c.fact 39 (f := .free "zip") rfl)⟩
  have e := hfa.symm.trans m_law
  cases e
  have b_is_integer : Binds K fd_is_integer P_is_integer [] := F_is_integer.bindsN fun _ _ _ _ _ _ us hl => match us, hl with | [_], _ => rfl
  have k_is_integer : ∀ t ∈ kw_is_integer, KwB K fd_is_integer P_is_integer t.1 t.2.1 t.2.2 := fun t ht => absurd ht (List.not_mem_nil)
  have b_are_integers : Binds K fd_are_integers P_are_integers [] := F_are_integers.bindsN fun _ _ _ _ _ _ us hl => match us, hl with | [_, _], _ => rfl
  have k_are_integers : ∀ t ∈ kw_are_integers, KwB K fd_are_integers P_are_integers t.1 t.2.1 t.2.2 := fun t ht => absurd ht (List.not_mem_nil)
  have b_common_divisor : Binds K fd_common_divisor P_common_divisor [] := F_common_divisor.bindsN fun _ _ _ _ _ _ us hl => match us, hl with | [_, _], _ => rfl
  have k_common_divisor : ∀ t ∈ kw_common_divisor, KwB K fd_common_divisor P_common_divisor t.1 t.2.1 t.2.2 := fun t ht => absurd ht (List.not_mem_nil)
  have b_is_place : Binds K fd_is_place P_is_place [] := F_is_place.bindsN fun _ _ _ _ _ _ us hl => match us, hl with | [_], _ => rfl
  have k_is_place : ∀ t ∈ kw_is_place, KwB K fd_is_place P_is_place t.1 t.2.1 t.2.2 := fun t ht => absurd ht (List.not_mem_nil)
  have b_place_of : Binds K fd_place_of P_place_of [] := F_place_of.bindsN fun _ _ _ _ _ _ us hl => match us, hl with | [_, _], _ => rfl
  have k_place_of : ∀ t ∈ kw_place_of, KwB K fd_place_of P_place_of t.1 t.2.1 t.2.2 := fun t ht => absurd ht (List.not_mem_nil)
  have b_is_change : Binds K fd_is_change P_is_change [] := F_is_change.bindsN fun _ _ _ _ _ _ us hl => match us, hl with | [_], _ => rfl
  have k_is_change : ∀ t ∈ kw_is_change, KwB K fd_is_change P_is_change t.1 t.2.1 t.2.2 := fun t ht => absurd ht (List.not_mem_nil)
  have b_check_change : Binds K fd_check_change P_check_change [] := F_check_change.bindsN fun _ _ _ _ _ _ us hl => match us, hl with | [_], _ => rfl
  have k_check_change : ∀ t ∈ kw_check_change, KwB K fd_check_change P_check_change t.1 t.2.1 t.2.2 := fun t ht => absurd ht (List.not_mem_nil)
  have b_move : Binds K fd_move P_move [] := F_move.bindsN fun _ _ _ _ _ _ us hl => match us, hl with | [_, _], _ => rfl
  have k_move : ∀ t ∈ kw_move, KwB K fd_move P_move t.1 t.2.1 t.2.2 := fun t ht => absurd ht (List.not_mem_nil)
  have b_moved : Binds K fd_moved P_moved [] := F_moved.bindsN fun _ _ _ _ _ _ us hl => match us, hl with | [_, _], _ => rfl
  have k_moved : ∀ t ∈ kw_moved, KwB K fd_moved P_moved t.1 t.2.1 t.2.2 := by
    intro t ht
    simp only [kw_moved, List.mem_cons, List.not_mem_nil, or_false] at ht
    rcases ht with rfl
    · exact kwB F_moved fun _ _ _ _ _ _ us ws h1 h2 => match us, ws, h1, h2 with | [], [_, _], _, _ => rfl
  have b_product : Binds K fd_product P_product [] := F_product.bindsN fun _ _ _ _ _ _ us hl => match us, hl with | [_, _], _ => rfl
  have k_product : ∀ t ∈ kw_product, KwB K fd_product P_product t.1 t.2.1 t.2.2 := fun t ht => absurd ht (List.not_mem_nil)
  have b_change_product : Binds K fd_change_product P_change_product [] := F_change_product.bindsN fun _ _ _ _ _ _ us hl => match us, hl with | [_, _], _ => rfl
  have k_change_product : ∀ t ∈ kw_change_product, KwB K fd_change_product P_change_product t.1 t.2.1 t.2.2 := by
    intro t ht
    simp only [kw_change_product, List.mem_cons, List.not_mem_nil, or_false] at ht
    rcases ht with rfl
    · exact kwB F_change_product fun _ _ _ _ _ _ us ws h1 h2 => match us, ws, h1, h2 with | [], [_, _], _, _ => rfl
  have b_change_inverse : Binds K fd_change_inverse P_change_inverse [] := F_change_inverse.bindsN fun _ _ _ _ _ _ us hl => match us, hl with | [_], _ => rfl
  have k_change_inverse : ∀ t ∈ kw_change_inverse, KwB K fd_change_inverse P_change_inverse t.1 t.2.1 t.2.2 := by
    intro t ht
    simp only [kw_change_inverse, List.mem_cons, List.not_mem_nil, or_false] at ht
    rcases ht with rfl
    · exact kwB F_change_inverse fun _ _ _ _ _ _ us ws h1 h2 => match us, ws, h1, h2 with | [], [_], _, _ => rfl
  have b__law_deck : Binds K fd__law_deck P__law_deck [] := F__law_deck.bindsN fun _ _ _ _ _ _ us hl => match us, hl with | [_], _ => rfl
  have k__law_deck : ∀ t ∈ kw__law_deck, KwB K fd__law_deck P__law_deck t.1 t.2.1 t.2.2 := fun t ht => absurd ht (List.not_mem_nil)
  have b__law_draw : Binds K fd__law_draw P__law_draw [] := F__law_draw.bindsN fun _ _ _ _ _ _ us hl => match us, hl with | [_, _], _ => rfl
  have k__law_draw : ∀ t ∈ kw__law_draw, KwB K fd__law_draw P__law_draw t.1 t.2.1 t.2.2 := fun t ht => absurd ht (List.not_mem_nil)
  have b__law_pick : Binds K fd__law_pick P__law_pick [] := F__law_pick.bindsN fun _ _ _ _ _ _ us hl => match us, hl with | [_, _], _ => rfl
  have k__law_pick : ∀ t ∈ kw__law_pick, KwB K fd__law_pick P__law_pick t.1 t.2.1 t.2.2 := fun t ht => absurd ht (List.not_mem_nil)
  have b__law_divisor : Binds K fd__law_divisor P__law_divisor [] := F__law_divisor.bindsN fun _ _ _ _ _ _ us hl => match us, hl with | [_, _], _ => rfl
  have k__law_divisor : ∀ t ∈ kw__law_divisor, KwB K fd__law_divisor P__law_divisor t.1 t.2.1 t.2.2 := fun t ht => absurd ht (List.not_mem_nil)
  have b__law_place : Binds K fd__law_place P__law_place [] := F__law_place.bindsN fun _ _ _ _ _ _ us hl => match us, hl with | [_, _], _ => rfl
  have k__law_place : ∀ t ∈ kw__law_place, KwB K fd__law_place P__law_place t.1 t.2.1 t.2.2 := fun t ht => absurd ht (List.not_mem_nil)
  have b__law_signed : Binds K fd__law_signed P__law_signed [] := F__law_signed.bindsN fun _ _ _ _ _ _ us hl => match us, hl with | [_, _], _ => rfl
  have k__law_signed : ∀ t ∈ kw__law_signed, KwB K fd__law_signed P__law_signed t.1 t.2.1 t.2.2 := fun t ht => absurd ht (List.not_mem_nil)
  have b__law_drawn_place : Binds K fd__law_drawn_place P__law_drawn_place [] := F__law_drawn_place.bindsN fun _ _ _ _ _ _ us hl => match us, hl with | [_], _ => rfl
  have k__law_drawn_place : ∀ t ∈ kw__law_drawn_place, KwB K fd__law_drawn_place P__law_drawn_place t.1 t.2.1 t.2.2 := fun t ht => absurd ht (List.not_mem_nil)
  have b__law_change : Binds K fd__law_change P__law_change [] := F__law_change.bindsN fun _ _ _ _ _ _ us hl => match us, hl with | [_], _ => rfl
  have k__law_change : ∀ t ∈ kw__law_change, KwB K fd__law_change P__law_change t.1 t.2.1 t.2.2 := fun t ht => absurd ht (List.not_mem_nil)
  have b__law_moved : Binds K fd__law_moved P__law_moved [] := F__law_moved.bindsN fun _ _ _ _ _ _ us hl => match us, hl with | [_, _], _ => rfl
  have k__law_moved : ∀ t ∈ kw__law_moved, KwB K fd__law_moved P__law_moved t.1 t.2.1 t.2.2 := fun t ht => absurd ht (List.not_mem_nil)
  have b__law_product : Binds K fd__law_product P__law_product [] := F__law_product.bindsN fun _ _ _ _ _ _ us hl => match us, hl with | [_, _], _ => rfl
  have k__law_product : ∀ t ∈ kw__law_product, KwB K fd__law_product P__law_product t.1 t.2.1 t.2.2 := fun t ht => absurd ht (List.not_mem_nil)
  have b__law_told : Binds K fd__law_told P__law_told [] := F__law_told.bindsN fun _ _ _ _ _ _ us hl => match us, hl with | [_, _, _], _ => rfl
  have k__law_told : ∀ t ∈ kw__law_told, KwB K fd__law_told P__law_told t.1 t.2.1 t.2.2 := fun t ht => absurd ht (List.not_mem_nil)
  have b__law_are_told : Binds K fd__law_are_told P__law_are_told [] := F__law_are_told.bindsN fun _ _ _ _ _ _ us hl => match us, hl with | [_, _, _, _], _ => rfl
  have k__law_are_told : ∀ t ∈ kw__law_are_told, KwB K fd__law_are_told P__law_are_told t.1 t.2.1 t.2.2 := fun t ht => absurd ht (List.not_mem_nil)
  have b__law_no_change : Binds K fd__law_no_change P__law_no_change [] := F__law_no_change.bindsN fun _ _ _ _ _ _ us hl => match us, hl with | [_, _], _ => rfl
  have k__law_no_change : ∀ t ∈ kw__law_no_change, KwB K fd__law_no_change P__law_no_change t.1 t.2.1 t.2.2 := fun t ht => absurd ht (List.not_mem_nil)
  have b__law_no_place : Binds K fd__law_no_place P__law_no_place [] := F__law_no_place.bindsN fun _ _ _ _ _ _ us hl => match us, hl with | [_, _], _ => rfl
  have k__law_no_place : ∀ t ∈ kw__law_no_place, KwB K fd__law_no_place P__law_no_place t.1 t.2.1 t.2.2 := fun t ht => absurd ht (List.not_mem_nil)
  have b__law_are_refused : Binds K fd__law_are_refused P__law_are_refused [] := F__law_are_refused.bindsN fun _ _ _ _ _ _ us hl => match us, hl with | [_, _, _], _ => rfl
  have k__law_are_refused : ∀ t ∈ kw__law_are_refused, KwB K fd__law_are_refused P__law_are_refused t.1 t.2.1 t.2.2 := fun t ht => absurd ht (List.not_mem_nil)
  have bl := FunD.bindsA (ps := ["script"]) F_law fun _ _ _ _ _ _ us hl => match us, hl with | [_], _ => rfl
  refine ⟨fd_law, fun s v => bl s [v] rfl, fun base _ _ => ?_⟩
  have mx_RulerError : mg "RulerError" = some (.ref (He.ga K "RulerError")) := He.glo_ok X G (c.fact 40 (f := .glo "RulerError") rfl)
  have mx_AllZero : mg "AllZero" = some (.ref (He.ga K "AllZero")) := He.glo_ok X G (c.fact 41 (f := .glo "AllZero") rfl)
  have mx_BadPlace : mg "BadPlace" = some (.ref (He.ga K "BadPlace")) := He.glo_ok X G (c.fact 42 (f := .glo "BadPlace") rfl)
  have mx_BadChange : mg "BadChange" = some (.ref (He.ga K "BadChange")) := He.glo_ok X G (c.fact 43 (f := .glo "BadChange") rfl)
  have hex : exB K = true := cx.more
  unfold exB at hex
  obtain ⟨hex, hex3⟩ := He.ba hex
  obtain ⟨hex1, hex2⟩ := He.ba hex
  have xc : XcAll K mg XN FS := xpB_ok hex1 (by
    intro x hx
    simp only [XN, List.mem_cons, List.not_mem_nil, or_false] at hx
    rcases hx with rfl | rfl | rfl | rfl
    · exact mx_RulerError
    · exact mx_AllZero
    · exact mx_BadPlace
    · exact mx_BadChange)
  have xf_BadChange : XcF K (He.ga K "BadChange") := by
    obtain ⟨C, e1, e2, _⟩ := xc.at_ "BadChange" (by decide)
    rw [mx_BadChange] at e1
    cases e1
    exact e2
  obtain ⟨fdi_BadChange, Fi_BadChange⟩ := c.def_ 28 (d := ⟨("BadChange", some "__init__"), "__init__", "BadChange.__init__", defArgs i_BadChange, defBody i_BadChange, defScope i_BadChange, [], []⟩) rfl
  have r_BadChange : XR1 K mg "BadChange" "thing" := ⟨_, _, mx_BadChange, xf_BadChange, xiB_ok (List.all_eq_true.mp hex3 ("BadChange", "thing") (by simp)), ⟨_, _, _, _, _, _, _, fdi_BadChange, Fi_BadChange⟩, fok_thing⟩
  have xf_BadPlace : XcF K (He.ga K "BadPlace") := by
    obtain ⟨C, e1, e2, _⟩ := xc.at_ "BadPlace" (by decide)
    rw [mx_BadPlace] at e1
    cases e1
    exact e2
  obtain ⟨fdi_BadPlace, Fi_BadPlace⟩ := c.def_ 29 (d := ⟨("BadPlace", some "__init__"), "__init__", "BadPlace.__init__", defArgs i_BadPlace, defBody i_BadPlace, defScope i_BadPlace, [], []⟩) rfl
  have r_BadPlace : XR1 K mg "BadPlace" "thing" := ⟨_, _, mx_BadPlace, xf_BadPlace, xiB_ok (List.all_eq_true.mp hex3 ("BadPlace", "thing") (by simp)), ⟨_, _, _, _, _, _, _, fdi_BadPlace, Fi_BadPlace⟩, fok_thing⟩
  have C_is_integer : Cal P w K mg base "is_integer" P_is_integer lv_is_integer kw_is_integer S_is_integer := ⟨_, fd_is_integer, dl_def F_is_integer sc_is_integer ar_is_integer (w_is_integer z ) (fun ds P PX h => r_is_integer h), m_is_integer, F_is_integer.kp, b_is_integer, k_is_integer⟩
  have C_are_integers : Cal P w K mg base "are_integers" P_are_integers lv_are_integers kw_are_integers S_are_integers := ⟨_, fd_are_integers, dl_def F_are_integers sc_are_integers ar_are_integers (w_are_integers z C_is_integer) (fun ds P PX h => r_are_integers h), m_are_integers, F_are_integers.kp, b_are_integers, k_are_integers⟩
  have C_common_divisor : Cal P w K mg base "common_divisor" P_common_divisor lv_common_divisor kw_common_divisor S_common_divisor := ⟨_, fd_common_divisor, dl_def F_common_divisor sc_common_divisor ar_common_divisor (w_common_divisor z ) (fun ds P PX h => r_common_divisor h), m_common_divisor, F_common_divisor.kp, b_common_divisor, k_common_divisor⟩
  have C_is_place : Cal P w K mg base "is_place" P_is_place lv_is_place kw_is_place S_is_place := ⟨_, fd_is_place, dl_def F_is_place sc_is_place ar_is_place (w_is_place z C_are_integers C_common_divisor) (fun ds P PX h => r_is_place h), m_is_place, F_is_place.kp, b_is_place, k_is_place⟩
  have C_place_of : Cal P w K mg base "place_of" P_place_of lv_place_of kw_place_of S_place_of := ⟨_, fd_place_of, dl_def F_place_of sc_place_of ar_place_of (w_place_of z C_common_divisor) (fun ds P PX h => r_place_of h), m_place_of, F_place_of.kp, b_place_of, k_place_of⟩
  have C_is_change : Cal P w K mg base "is_change" P_is_change lv_is_change kw_is_change S_is_change := ⟨_, fd_is_change, dl_def F_is_change sc_is_change ar_is_change (w_is_change z C_are_integers) (fun ds P PX h => r_is_change h), m_is_change, F_is_change.kp, b_is_change, k_is_change⟩
  have C_check_change : Cal P w K mg base "check_change" P_check_change lv_check_change kw_check_change S_check_change := ⟨_, fd_check_change, dl_defX F_check_change sc_check_change ar_check_change (w_check_change z r_BadChange C_is_change) (fun ds P PX h => r_check_change h), m_check_change, F_check_change.kp, b_check_change, k_check_change⟩
  have C_move : Cal P w K mg base "move" P_move lv_move kw_move S_move := ⟨_, fd_move, dl_def F_move sc_move ar_move (w_move z C_place_of) (fun ds P PX h => r_move h), m_move, F_move.kp, b_move, k_move⟩
  have C_moved : Cal P w K mg base "moved" P_moved lv_moved kw_moved S_moved := ⟨_, fd_moved, dl_defX F_moved sc_moved ar_moved (w_moved z r_BadPlace C_check_change C_is_place C_move) (fun ds P PX h => r_moved h), m_moved, F_moved.kp, b_moved, k_moved⟩
  have C_product : Cal P w K mg base "product" P_product lv_product kw_product S_product := ⟨_, fd_product, dl_def F_product sc_product ar_product (w_product z ) (fun ds P PX h => r_product h), m_product, F_product.kp, b_product, k_product⟩
  have C_change_product : Cal P w K mg base "change_product" P_change_product lv_change_product kw_change_product S_change_product := ⟨_, fd_change_product, dl_defX F_change_product sc_change_product ar_change_product (w_change_product z C_check_change C_product) (fun ds P PX h => r_change_product h), m_change_product, F_change_product.kp, b_change_product, k_change_product⟩
  have C_change_inverse : Cal P w K mg base "change_inverse" P_change_inverse lv_change_inverse kw_change_inverse S_change_inverse := ⟨_, fd_change_inverse, dl_defX F_change_inverse sc_change_inverse ar_change_inverse (w_change_inverse z C_check_change) (fun ds P PX h => r_change_inverse h), m_change_inverse, F_change_inverse.kp, b_change_inverse, k_change_inverse⟩
  have C__law_deck : Cal P w K mg base "_law_deck" P__law_deck lv__law_deck kw__law_deck (S_deck 0) := ⟨_, fd__law_deck, dl_def F__law_deck sc__law_deck ar__law_deck (w__law_deck z ) (fun ds P PX h => r__law_deck h), m__law_deck, F__law_deck.kp, b__law_deck, k__law_deck⟩
  have C__law_draw : Cal P w K mg base "_law_draw" P__law_draw lv__law_draw kw__law_draw S__law_draw := ⟨_, fd__law_draw, w__law_draw z F__law_draw, m__law_draw, F__law_draw.kp, b__law_draw, k__law_draw⟩
  have C__law_pick : Cal P w K mg base "_law_pick" P__law_pick lv__law_pick kw__law_pick S__law_pick := ⟨_, fd__law_pick, dl_def F__law_pick sc__law_pick ar__law_pick (w__law_pick z C__law_draw) (fun ds P PX h => r__law_pick h), m__law_pick, F__law_pick.kp, b__law_pick, k__law_pick⟩
  have C__law_divisor : Cal P w K mg base "_law_divisor" P__law_divisor lv__law_divisor kw__law_divisor S__law_divisor := ⟨_, fd__law_divisor, dl_def F__law_divisor sc__law_divisor ar__law_divisor (w__law_divisor z ) (fun ds P PX h => r__law_divisor h), m__law_divisor, F__law_divisor.kp, b__law_divisor, k__law_divisor⟩
  have C__law_place : Cal P w K mg base "_law_place" P__law_place lv__law_place kw__law_place S__law_place := ⟨_, fd__law_place, dl_def F__law_place sc__law_place ar__law_place (w__law_place z C__law_divisor) (fun ds P PX h => r__law_place h), m__law_place, F__law_place.kp, b__law_place, k__law_place⟩
  have C__law_signed : Cal P w K mg base "_law_signed" P__law_signed lv__law_signed kw__law_signed S__law_signed := ⟨_, fd__law_signed, dl_def F__law_signed sc__law_signed ar__law_signed (w__law_signed z C__law_draw) (fun ds P PX h => r__law_signed h), m__law_signed, F__law_signed.kp, b__law_signed, k__law_signed⟩
  have C__law_drawn_place : Cal P w K mg base "_law_drawn_place" P__law_drawn_place lv__law_drawn_place kw__law_drawn_place S__law_drawn_place := ⟨_, fd__law_drawn_place, dl_def F__law_drawn_place sc__law_drawn_place ar__law_drawn_place (w__law_drawn_place z C__law_signed C__law_pick C__law_draw C__law_place) (fun ds P PX h => r__law_drawn_place h), m__law_drawn_place, F__law_drawn_place.kp, b__law_drawn_place, k__law_drawn_place⟩
  have C__law_change : Cal P w K mg base "_law_change" P__law_change lv__law_change kw__law_change S__law_change := ⟨_, fd__law_change, dl_def F__law_change sc__law_change ar__law_change (w__law_change z C__law_pick C__law_signed) (fun ds P PX h => r__law_change h), m__law_change, F__law_change.kp, b__law_change, k__law_change⟩
  have C__law_moved : Cal P w K mg base "_law_moved" P__law_moved lv__law_moved kw__law_moved S__law_moved := ⟨_, fd__law_moved, dl_def F__law_moved sc__law_moved ar__law_moved (w__law_moved z C__law_place) (fun ds P PX h => r__law_moved h), m__law_moved, F__law_moved.kp, b__law_moved, k__law_moved⟩
  have C__law_product : Cal P w K mg base "_law_product" P__law_product lv__law_product kw__law_product S__law_product := ⟨_, fd__law_product, dl_def F__law_product sc__law_product ar__law_product (w__law_product z ) (fun ds P PX h => r__law_product h), m__law_product, F__law_product.kp, b__law_product, k__law_product⟩
  have C__law_told : Cal P w K mg base "_law_told" P__law_told lv__law_told kw__law_told S__law_told := ⟨_, fd__law_told, dl_def F__law_told sc__law_told ar__law_told (w__law_told z xc C_moved C_change_product C_change_inverse) (fun ds P PX h => r__law_told h), m__law_told, F__law_told.kp, b__law_told, k__law_told⟩
  have C__law_are_told : Cal P w K mg base "_law_are_told" P__law_are_told lv__law_are_told kw__law_are_told S__law_are_told := ⟨_, fd__law_are_told, dl_def F__law_are_told sc__law_are_told ar__law_are_told (w__law_are_told z C__law_told) (fun ds P PX h => r__law_are_told h), m__law_are_told, F__law_are_told.kp, b__law_are_told, k__law_are_told⟩
  have C__law_no_change : Cal P w K mg base "_law_no_change" P__law_no_change lv__law_no_change kw__law_no_change S__law_no_change := ⟨_, fd__law_no_change, dl_def F__law_no_change sc__law_no_change ar__law_no_change (w__law_no_change z C__law_pick) (fun ds P PX h => r__law_no_change h), m__law_no_change, F__law_no_change.kp, b__law_no_change, k__law_no_change⟩
  have C__law_no_place : Cal P w K mg base "_law_no_place" P__law_no_place lv__law_no_place kw__law_no_place S__law_no_place := ⟨_, fd__law_no_place, dl_def F__law_no_place sc__law_no_place ar__law_no_place (w__law_no_place z C__law_pick) (fun ds P PX h => r__law_no_place h), m__law_no_place, F__law_no_place.kp, b__law_no_place, k__law_no_place⟩
  have C__law_are_refused : Cal P w K mg base "_law_are_refused" P__law_are_refused lv__law_are_refused kw__law_are_refused S__law_are_refused := ⟨_, fd__law_are_refused, dl_def F__law_are_refused sc__law_are_refused ar__law_are_refused (w__law_are_refused z C__law_no_change C__law_no_place C__law_are_told) (fun ds P PX h => r__law_are_refused h), m__law_are_refused, F__law_are_refused.kp, b__law_are_refused, k__law_are_refused⟩
  exact law_def F_law sc_law (by decide) (by decide) (w_law z C__law_deck C__law_change C__law_drawn_place C__law_product C__law_are_told C__law_moved C_moved C_change_inverse C__law_draw C__law_place C_change_product C__law_are_refused) r_law
end K03
open PySem PySem.W PySem.Calls PyProof.Rows
set_option maxRecDepth 100000 in
set_option maxHeartbeats 0 in
theorem PySem.Challenge.cw_rulertrees_k03_changes_move_places_holds : PySem.Challenge.rw_rulertrees_k03_changes_move_places.Holds := by
  w_on; o_law
  refine HandSHeadRun.head_any (r := OpenLaw.row PySem.Challenge.rw_rulertrees_k03_changes_move_places) (q := view (OpenLaw.row PySem.Challenge.rw_rulertrees_k03_changes_move_places).prog [35]) (H := K03.hk) (ob := K03.ob) (M := 8000) (loose := K03.names) (d := HandSHeadRun.topDef (OpenLaw.row PySem.Challenge.rw_rulertrees_k03_changes_move_places).prog 35) (kwd := []) K03.ob_eq
    (by kernel_rfl) (fun s => by kernel_rfl) K03.run (by kernel_rfl) (by kernel_rfl) (by kernel_rfl) (by rfl) (by first | assumption | decide +kernel) (by decide +kernel) ⟨rfl, rfl, rfl, rfl, rfl, by decide +kernel⟩ ?hw ?hc
  case hw => w_witness2
  case hc =>
    refine DL.walkG (l := PySem.Challenge.rw_rulertrees_k03_changes_move_places) (n := 9) (x := "script") rfl (by kernel_rfl) ⟨rfl, by decide, by decide⟩ ?F
    intro w mg fa h Y G hmg0
    obtain ⟨K, KX, c⟩ := Y
    have hmg : mg ("law" : PySem.Str) = some (.ref fa) := by
      have e : (HandSHeadRun.topDef (OpenLaw.row PySem.Challenge.rw_rulertrees_k03_changes_move_places).prog 35).name = ("law" : PySem.Str) := by kernel_rfl
      rw [← e]
      exact hmg0
    obtain ⟨fd, hb, hF⟩ := K03.facts (P := (PySem.Challenge.rw_rulertrees_k03_changes_move_places).prog) (w := w) KX G hmg c
    exact ⟨K, fd, KX, hb, hF⟩
