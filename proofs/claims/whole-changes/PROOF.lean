import PyProof.Rows.All
import Wide.All
import OpenK.AllK
import Wide.FinOn
import KE.KStateDown
import KE.KTupSum
import Lean
import HandS.ForMost
import HandS.ForExc
import HandS.Defaults
import HandS.Star
import HandS.Conv
import HandS.Zip
import HandS.TupAny
import HandS.Style
import HandS.IsInst
import HandS.Walk
import HandS.Codes
import HandS.Head0
import HandS.Head1
import HandS.Head2
import HandS.HeadEnd
import HandS.HeadHook1
import HandS.HeadHook2
import KE.GoesMore
import KE.GoesEnum
import PySem.Challenge.RW_struckboards_k19_whole_changes
set_option Elab.async false
set_option linter.all false
set_option maxRecDepth 100000
set_option maxHeartbeats 0
namespace SB
open PySem PySem.Spec PyProof.Rows L2 RZ StX
/-! ### heaps -/
theorem same_new {H : Hp} {p : Addr} {o : HO} (h : H p = none) : Same H (upd H p o) := fun b x e => by
  rw [upd_ne (ne_of_none e h)]
  exact e
theorem same_mut {H H' : Hp} {p : Addr} {o : HO} (e : Same H H') (h : H p = none) : Same H (upd H' p o) := fun a u ha => by
  rw [upd_ne (ne_of_none ha h)]
  exact e a u ha
/-! ### plain data and the values that stand for it -/
class Dat (α : Type) where
  rep : Hp → V → α → Prop
  mono : ∀ {H H' : Hp} {v : V} {x : α}, Same H H' → rep H v x → rep H' v x
instance : Dat Int := ⟨fun _ v z => v = .int z, fun _ h => h⟩
instance : Dat Nat := ⟨fun _ v n => v = .int (n : Int), fun _ h => h⟩
instance : Dat Bool := ⟨fun _ v b => v = .bl b, fun _ h => h⟩
instance : Dat Unit := ⟨fun _ v _ => v = .non, fun _ h => h⟩
instance : Dat Str := ⟨fun _ v z => v = .str z, fun _ h => h⟩
theorem pmono {α : Type} [Dat α] {H H' : Hp} (s : Same H H') : ∀ {vs : List V} {xs : List α}, Paired (Dat.rep H) vs xs → Paired (Dat.rep H') vs xs
  | _, _, .nil => .nil
  | _, _, .cons a r => .cons (Dat.mono s a) (pmono s r)
instance {α β : Type} [Dat α] [Dat β] : Dat (α × β) := ⟨fun H v p => ∃ a x y, v = .ref a ∧ H a = some (.tup [x, y]) ∧ Dat.rep H x p.1 ∧ Dat.rep H y p.2,
  fun s ⟨a, x, y, e, h, r1, r2⟩ => ⟨a, x, y, e, s _ _ h, Dat.mono s r1, Dat.mono s r2⟩⟩
/-- a tuple of things -/
instance {α : Type} [Dat α] : Dat (List α) := ⟨fun H v xs => ∃ a vs, v = .ref a ∧ H a = some (.tup vs) ∧ Paired (Dat.rep H) vs xs,
  fun s ⟨a, vs, e, h, r⟩ => ⟨a, vs, e, s _ _ h, pmono s r⟩⟩
/-- a list of things -/
structure Lst (α : Type) where
  items : List α
instance {α : Type} [Dat α] : Dat (Lst α) := ⟨fun H v xs => ∃ a vs, v = .ref a ∧ H a = some (.lst vs) ∧ Paired (Dat.rep H) vs xs.items,
  fun s ⟨a, vs, e, h, r⟩ => ⟨a, vs, e, s _ _ h, pmono s r⟩⟩
section
variable {α β : Type} [Dat α] [Dat β] {H : Hp}
theorem p_len {vs : List V} {xs : List α} (r : Paired (Dat.rep H) vs xs) : vs.length = xs.length := Paired.length r
theorem p_get : ∀ {vs : List V} {xs : List α} {i : Nat} {x : α}, Paired (Dat.rep H) vs xs → xs[i]? = some x → ∃ v, vs[i]? = some v ∧ Dat.rep H v x
  | _, _, _, _, .nil, e => by simp at e
  | _, _, 0, _, .cons r _, e => by simp at e; subst e; exact ⟨_, rfl, r⟩
  | _, _, i + 1, x, .cons _ t, e => by
    obtain ⟨u, h1, h2⟩ := p_get (i := i) (x := x) t (by simpa using e)
    exact ⟨u, by simpa using h1, h2⟩
theorem p_getv : ∀ {vs : List V} {xs : List α} {i : Nat} {v : V}, Paired (Dat.rep H) vs xs → vs[i]? = some v → ∃ x, xs[i]? = some x ∧ Dat.rep H v x
  | _, _, _, _, .nil, e => by simp at e
  | _, _, 0, _, .cons r _, e => by simp at e; subst e; exact ⟨_, rfl, r⟩
  | _, _, i + 1, v, .cons _ t, e => by
    obtain ⟨u, h1, h2⟩ := p_getv (i := i) (v := v) t (by simpa using e)
    exact ⟨u, by simpa using h1, h2⟩
theorem p_app : ∀ {vs ws : List V} {xs ys : List α}, Paired (Dat.rep H) vs xs → Paired (Dat.rep H) ws ys → Paired (Dat.rep H) (vs ++ ws) (xs ++ ys)
  | _, _, _, _, .nil, s => s
  | _, _, _, _, .cons r t, s => .cons r (p_app t s)
theorem p_drop : ∀ {vs : List V} {xs : List α} (n : Nat), Paired (Dat.rep H) vs xs → Paired (Dat.rep H) (vs.drop n) (xs.drop n)
  | _, _, 0, r => r
  | _, _, _ + 1, .nil => .nil
  | _, _, n + 1, .cons _ t => p_drop n t
theorem p_take : ∀ {vs : List V} {xs : List α} (n : Nat), Paired (Dat.rep H) vs xs → Paired (Dat.rep H) (vs.take n) (xs.take n)
  | _, _, 0, _ => .nil
  | _, _, _ + 1, .nil => .nil
  | _, _, n + 1, .cons r t => .cons r (p_take n t)
theorem p_ints : ∀ {vs : List V} {ns : List Int}, Paired (Dat.rep H) vs ns → vs = ns.map V.int
  | _, _, .nil => rfl
  | _, _, .cons r t => by rw [List.map_cons, p_ints t, show _ = V.int _ from r]
theorem p_nats : ∀ {vs : List V} {ns : List Nat}, Paired (Dat.rep H) vs ns → vs = (ns.map Int.ofNat).map V.int
  | _, _, .nil => rfl
  | _, _, .cons (a := a) (b := b) r t => by
    have e : a = V.int (b : Int) := r
    rw [e, p_nats t]
    rfl
theorem p_bools : ∀ {vs : List V} {ns : List Bool}, Paired (Dat.rep H) vs ns → vs = ns.map V.bl
  | _, _, .nil => rfl
  | _, _, .cons r t => by rw [List.map_cons, p_bools t, show _ = V.bl _ from r]
theorem ints_p : ∀ (ns : List Int), Paired (Dat.rep H) (ns.map V.int) ns
  | [] => .nil
  | _ :: r => .cons rfl (ints_p r)
theorem nats_p : ∀ (ns : List Nat), Paired (Dat.rep H) ((ns.map Int.ofNat).map V.int) ns
  | [] => .nil
  | _ :: r => .cons rfl (nats_p r)
theorem p_map {γ : Type} (f : γ → V) (g : γ → α) : ∀ {l : List γ}, (∀ z ∈ l, Dat.rep H (f z) (g z)) → Paired (Dat.rep H) (l.map f) (l.map g)
  | [], _ => .nil
  | a :: r, h => .cons (h a (List.mem_cons_self ..)) (p_map f g fun z hz => h z (List.mem_cons_of_mem _ hz))
end
/-! ### evaluation to data -/
def Ev {α : Type} [Dat α] (te : TE) (σ : L2.St) (H : Hp) (x : α) : Prop := ∀ H1, Same H H1 → ∀ Q : VK, (∀ v H2, Same H1 H2 → Dat.rep H2 v x → Q v H2) → te σ H1 Q
def EvT (tt : TT) (σ : L2.St) (H : Hp) (b : Bool) : Prop := ∀ H1, Same H H1 → ∀ Q : Bool → Hp → Prop, (∀ H2, Same H1 H2 → Q b H2) → tt σ H1 Q
/-- arguments of one kind -/
def EvA {α : Type} [Dat α] (ta : TA) (σ : L2.St) (H : Hp) (xs : List α) : Prop := ∀ H1, Same H H1 → ∀ Q : List V → Hp → Prop, (∀ vs H2, Same H1 H2 → Paired (Dat.rep H2) vs xs → Q vs H2) → ta σ H1 Q
section
variable {α β γ δ ε : Type} [Dat α] [Dat β] [Dat γ] [Dat δ] [Dat ε] {K : PySem.W.Frag} {σ : L2.St} {H H' : Hp} {ta tb tc td te : TE} {t u : TT}
theorem Ev.mono {x : α} (s : Same H H') (h : Ev te σ H x) : Ev te σ H' x := fun H1 a Q q => h H1 (s.trans a) Q q
theorem EvT.mono {b : Bool} (s : Same H H') (h : EvT t σ H b) : EvT t σ H' b := fun H1 a Q q => h H1 (s.trans a) Q q
theorem Ev.eq {x y : α} (h : Ev te σ H x) (e : x = y) : Ev te σ H y := e ▸ h
theorem EvT.eq {x y : Bool} (h : EvT t σ H x) (e : x = y) : EvT t σ H y := e ▸ h
theorem ev_var {i : Nat} {v : V} {x : α} (h : σ[i]? = some (some v)) (r : Dat.rep H v x) : Ev (tVar i) σ H x := fun H1 s Q q => ⟨v, h, q v H1 (Same.refl _) (Dat.mono s r)⟩
theorem ev_c {v : V} {x : α} (r : ∀ H, Dat.rep H v x) : Ev (tC v) σ H x := fun H1 _ Q q => q v H1 (Same.refl _) (r _)
theorem ev_int {z : Int} : Ev (tC (.int z)) σ H z := ev_c fun _ => rfl
theorem ev_nat {z : Int} {n : Nat} (h : z = (n : Int)) : Ev (tC (.int z)) σ H n := ev_c fun _ => by rw [h]; rfl
theorem ev_bl {b : Bool} : Ev (tC (.bl b)) σ H b := ev_c fun _ => rfl
theorem ev_non : Ev (tC .non) σ H () := ev_c fun _ => rfl
theorem ev_str {z : Str} : Ev (tC (.str z)) σ H z := ev_c fun _ => rfl
/-- two values in a row -/
theorem ev_op {r : R2} {x : α} {y : β} {z : γ} (ha : Ev ta σ H x) (hb : Ev tb σ H y)
    (hr : ∀ v w H1, Same H H1 → Dat.rep H1 v x → Dat.rep H1 w y → ∀ Q : VK, (∀ u H2, Same H1 H2 → Dat.rep H2 u z → Q u H2) → r v w H1 Q) : Ev (tOp r ta tb) σ H z := fun H0 s0 Q q =>
  ha H0 s0 _ fun v H1 s1 r1 => hb H1 (s0.trans s1) _ fun w H2 s2 r2 => hr v w H2 ((s0.trans s1).trans s2) (Dat.mono s2 r1) r2 Q fun u H3 s3 r3 => q u H3 ((s1.trans s2).trans s3) r3
theorem ev_addI {a b : Int} (ha : Ev ta σ H a) (hb : Ev tb σ H b) : Ev (tOp (rI0 fun i j => .int (i + j)) ta tb) σ H (a + b) := ev_op ha hb fun v w H1 _ r1 r2 Q q => ⟨a, b, r1, r2, q _ _ (Same.refl _) rfl⟩
theorem ev_subI {a b : Int} (ha : Ev ta σ H a) (hb : Ev tb σ H b) : Ev (tOp (rI0 fun i j => .int (i - j)) ta tb) σ H (a - b) := ev_op ha hb fun v w H1 _ r1 r2 Q q => ⟨a, b, r1, r2, q _ _ (Same.refl _) rfl⟩
theorem ev_addN {a b : Nat} (ha : Ev ta σ H a) (hb : Ev tb σ H b) : Ev (tOp (rI0 fun i j => .int (i + j)) ta tb) σ H (a + b) := ev_op ha hb fun v w H1 _ r1 r2 Q q => ⟨a, b, r1, r2, q _ _ (Same.refl _) (by show V.int _ = V.int _; rw [Int.natCast_add])⟩
theorem ev_subN {a b : Nat} (h : b ≤ a) (ha : Ev ta σ H a) (hb : Ev tb σ H b) : Ev (tOp (rI0 fun i j => .int (i - j)) ta tb) σ H (a - b) := ev_op ha hb fun v w H1 _ r1 r2 Q q => ⟨a, b, r1, r2, q _ _ (Same.refl _) (by show V.int _ = V.int _; congr 1; omega)⟩
theorem ev_ltI {a b : Int} (ha : Ev ta σ H a) (hb : Ev tb σ H b) : Ev (tOp (rI0 fun i j => .bl (decide (i < j))) ta tb) σ H (decide (a < b)) := ev_op ha hb fun v w H1 _ r1 r2 Q q => ⟨a, b, r1, r2, q _ _ (Same.refl _) rfl⟩
theorem ev_leI {a b : Int} (ha : Ev ta σ H a) (hb : Ev tb σ H b) : Ev (tOp (rI0 fun i j => .bl (decide (i ≤ j))) ta tb) σ H (decide (a ≤ b)) := ev_op ha hb fun v w H1 _ r1 r2 Q q => ⟨a, b, r1, r2, q _ _ (Same.refl _) rfl⟩
theorem ev_gtI {a b : Int} (ha : Ev ta σ H a) (hb : Ev tb σ H b) : Ev (tOp (rI0 fun i j => .bl (decide (j < i))) ta tb) σ H (decide (b < a)) := ev_op ha hb fun v w H1 _ r1 r2 Q q => ⟨a, b, r1, r2, q _ _ (Same.refl _) rfl⟩
theorem ev_geI {a b : Int} (ha : Ev ta σ H a) (hb : Ev tb σ H b) : Ev (tOp (rI0 fun i j => .bl (decide (j ≤ i))) ta tb) σ H (decide (b ≤ a)) := ev_op ha hb fun v w H1 _ r1 r2 Q q => ⟨a, b, r1, r2, q _ _ (Same.refl _) rfl⟩
theorem dec_lt (a b : Nat) : decide ((a : Int) < (b : Int)) = decide (a < b) := decide_eq_decide.mpr (by omega)
theorem dec_le (a b : Nat) : decide ((a : Int) ≤ (b : Int)) = decide (a ≤ b) := decide_eq_decide.mpr (by omega)
theorem dec_eq (a b : Nat) : decide ((a : Int) = (b : Int)) = decide (a = b) := decide_eq_decide.mpr (by omega)
theorem dec_vN (a b : Nat) : decide (V.int (a : Int) = V.int (b : Int)) = decide (a = b) := decide_eq_decide.mpr ⟨fun h => by have := V.int.inj h; omega, fun h => by rw [h]⟩
theorem dec_vI (a b : Int) : decide (V.int a = V.int b) = decide (a = b) := decide_eq_decide.mpr ⟨fun h => V.int.inj h, fun h => by rw [h]⟩
theorem ev_ltN {a b : Nat} (ha : Ev ta σ H a) (hb : Ev tb σ H b) : Ev (tOp (rI0 fun i j => .bl (decide (i < j))) ta tb) σ H (decide (a < b)) := ev_op ha hb fun v w H1 _ r1 r2 Q q => ⟨a, b, r1, r2, q _ _ (Same.refl _) (by show V.bl _ = V.bl _; rw [dec_lt])⟩
theorem ev_geN {a b : Nat} (ha : Ev ta σ H a) (hb : Ev tb σ H b) : Ev (tOp (rI0 fun i j => .bl (decide (j ≤ i))) ta tb) σ H (decide (b ≤ a)) := ev_op ha hb fun v w H1 _ r1 r2 Q q => ⟨a, b, r1, r2, q _ _ (Same.refl _) (by show V.bl _ = V.bl _; rw [dec_le])⟩
theorem ev_eqN {a b : Nat} (ha : Ev ta σ H a) (hb : Ev tb σ H b) : Ev (tOp rEq ta tb) σ H (decide (a = b)) := ev_op ha hb fun v w H1 _ r1 r2 Q q => by
  cases (show v = .int a from r1); cases (show w = .int b from r2)
  exact ⟨rfl, q _ _ (Same.refl _) (by show V.bl _ = V.bl _; rw [dec_vN])⟩
theorem ev_neN {a b : Nat} (ha : Ev ta σ H a) (hb : Ev tb σ H b) : Ev (tOp rNe ta tb) σ H (!decide (a = b)) := ev_op ha hb fun v w H1 _ r1 r2 Q q => by
  cases (show v = .int a from r1); cases (show w = .int b from r2)
  exact ⟨rfl, q _ _ (Same.refl _) (by show V.bl _ = V.bl _; rw [dec_vN])⟩
theorem ev_eqI {a b : Int} (ha : Ev ta σ H a) (hb : Ev tb σ H b) : Ev (tOp rEq ta tb) σ H (decide (a = b)) := ev_op ha hb fun v w H1 _ r1 r2 Q q => by
  cases (show v = .int a from r1); cases (show w = .int b from r2)
  exact ⟨rfl, q _ _ (Same.refl _) (by show V.bl _ = V.bl _; rw [dec_vI])⟩
theorem ev_eqB {a b : Bool} (ha : Ev ta σ H a) (hb : Ev tb σ H b) : Ev (tOp rEq ta tb) σ H (a == b) := ev_op ha hb fun v w H1 _ r1 r2 Q q => by
  cases (show v = .bl a from r1); cases (show w = .bl b from r2)
  exact ⟨rfl, q _ _ (Same.refl _) (by show V.bl _ = V.bl _; rw [dec_bl])⟩
theorem ev_neB {a b : Bool} (ha : Ev ta σ H a) (hb : Ev tb σ H b) : Ev (tOp rNe ta tb) σ H (!(a == b)) := ev_op ha hb fun v w H1 _ r1 r2 Q q => by
  cases (show v = .bl a from r1); cases (show w = .bl b from r2)
  exact ⟨rfl, q _ _ (Same.refl _) (by show V.bl _ = V.bl _; rw [dec_bl])⟩
theorem ev_eqS {a b : Str} (ha : Ev ta σ H a) (hb : Ev tb σ H b) : Ev (tOp rEq ta tb) σ H (a == b) := ev_op ha hb fun v w H1 _ r1 r2 Q q => by
  cases (show v = .str a from r1); cases (show w = .str b from r2)
  exact ⟨rfl, q _ _ (Same.refl _) (by show V.bl _ = V.bl _; rw [dec_str])⟩
theorem ev_negI {a : Int} (ha : Ev ta σ H a) : Ev (tUn (rU fun i => .int (-i)) ta) σ H (-a) := fun H0 s0 Q q => ha H0 s0 _ fun v H1 s1 r1 => ⟨a, r1, q _ _ s1 rfl⟩
/-! ### truth -/
theorem evt_of {b : Bool} (h : Ev te σ H b) : EvT (tTest te) σ H b := fun H0 s0 Q q => h H0 s0 _ fun v H1 s1 r => ⟨b, r, q H1 s1⟩
theorem evt_b {b : Bool} (h : Ev te σ H b) : EvT (tB te) σ H b := fun H0 s0 Q q => h H0 s0 _ fun v H1 s1 r => ⟨b, r, q H1 s1⟩
theorem evt_not {b : Bool} (h : EvT t σ H b) : EvT (tNot t) σ H (!b) := fun H0 s0 Q q => h H0 s0 _ fun H1 s1 => q H1 s1
theorem evt_and {b c : Bool} (h : EvT t σ H b) (k : b = true → EvT u σ H c) : EvT (tAnd t u) σ H (b && c) := fun H0 s0 Q q => h H0 s0 _ fun H1 s1 => by
  cases b with
  | true => exact k rfl H1 (s0.trans s1) _ fun H2 s2 => q H2 (s1.trans s2)
  | false => exact q H1 s1
theorem evt_or {b c : Bool} (h : EvT t σ H b) (k : b = false → EvT u σ H c) : EvT (tOr t u) σ H (b || c) := fun H0 s0 Q q => h H0 s0 _ fun H1 s1 => by
  cases b with
  | true => exact q H1 s1
  | false => exact k rfl H1 (s0.trans s1) _ fun H2 s2 => q H2 (s1.trans s2)
theorem ev_andV {b c : Bool} (h : Ev ta σ H b) (k : b = true → Ev tb σ H c) : Ev (tAndV ta tb) σ H (b && c) := fun H0 s0 Q q => h H0 s0 _ fun v H1 s1 r => by
  refine ⟨b, r, ?_⟩
  cases b with
  | true => exact k rfl H1 (s0.trans s1) _ fun w H2 s2 r2 => q w H2 (s1.trans s2) r2
  | false => exact q _ H1 s1 rfl
theorem ev_orV {b c : Bool} (h : Ev ta σ H b) (k : b = false → Ev tb σ H c) : Ev (tOrV ta tb) σ H (b || c) := fun H0 s0 Q q => h H0 s0 _ fun v H1 s1 r => by
  refine ⟨b, r, ?_⟩
  cases b with
  | true => exact q _ H1 s1 rfl
  | false => exact k rfl H1 (s0.trans s1) _ fun w H2 s2 r2 => q w H2 (s1.trans s2) r2
theorem ev_notV {b : Bool} (h : Ev ta σ H b) : Ev (tNotV ta) σ H (!b) := fun H0 s0 Q q => h H0 s0 _ fun v H1 s1 r => ⟨b, r, q _ H1 s1 rfl⟩
theorem ev_if {b : Bool} {x y : α} (h : EvT t σ H b) (k1 : b = true → Ev ta σ H x) (k2 : b = false → Ev tb σ H y) : Ev (tIf t ta tb) σ H (if b = true then x else y) := fun H0 s0 Q q => h H0 s0 _ fun H1 s1 => by
  cases b with
  | true => exact k1 rfl H1 (s0.trans s1) _ fun w H2 s2 r2 => q w H2 (s1.trans s2) r2
  | false => exact k2 rfl H1 (s0.trans s1) _ fun w H2 s2 r2 => q w H2 (s1.trans s2) r2
/-- a <= b <= c -/
theorem ev_chainI {a b c : Int} (ha : Ev ta σ H a) (hb : Ev tb σ H b) (hc : Ev tc σ H c) : Ev (tChain (rI0 fun i j => .bl (decide (i ≤ j))) (rI0 fun i j => .bl (decide (i ≤ j))) ta tb tc) σ H (decide (a ≤ b) && decide (b ≤ c)) := fun H0 s0 Q q =>
  ha H0 s0 _ fun v H1 s1 r1 => hb H1 (s0.trans s1) _ fun w H2 s2 r2 => ⟨a, b, r1, r2, decide (a ≤ b), rfl, by
    cases e : decide (a ≤ b) with
    | true => exact hc H2 ((s0.trans s1).trans s2) _ fun w' H3 s3 r3 => ⟨b, c, Dat.mono s3 r2, r3, q _ _ ((s1.trans s2).trans s3) (by show V.bl _ = V.bl _; rw [e, Bool.true_and])⟩
    | false => exact q _ _ (s1.trans s2) (by show V.bl _ = V.bl _; rw [e, Bool.false_and])⟩
/-! ### displays, parts -/
theorem eva_nil : EvA (α := α) tNil σ H [] := fun H1 s Q q => q [] H1 (Same.refl _) .nil
theorem eva_cons {tr : TA} {x : α} {xs : List α} (h : Ev te σ H x) (k : EvA tr σ H xs) : EvA (tCons te tr) σ H (x :: xs) := fun H0 s0 Q q =>
  h H0 s0 _ fun v H1 s1 r1 => k H1 (s0.trans s1) _ fun vs H2 s2 r2 => q (v :: vs) H2 (s1.trans s2) (.cons (Dat.mono s2 r1) r2)
theorem eva_starT {tr : TA} {xs ys : List α} (h : Ev te σ H xs) (k : EvA tr σ H ys) : EvA (tStar K te tr) σ H (xs ++ ys) := fun H0 s0 Q q =>
  h H0 s0 _ fun v H1 s1 ⟨a, vs, e, ha, r1⟩ => ⟨a, vs, e, .inl (SqT.of ha), k H1 (s0.trans s1) _ fun ws H2 s2 r2 => q (vs ++ ws) H2 (s1.trans s2) (p_app (pmono s2 r1) r2)⟩
theorem eva_starL {tr : TA} {xs : Lst α} {ys : List α} (h : Ev te σ H xs) (k : EvA tr σ H ys) : EvA (tStar K te tr) σ H (xs.items ++ ys) := fun H0 s0 Q q =>
  h H0 s0 _ fun v H1 s1 ⟨a, vs, e, ha, r1⟩ => ⟨a, vs, e, .inr (SqL.of ha), k H1 (s0.trans s1) _ fun ws H2 s2 r2 => q (vs ++ ws) H2 (s1.trans s2) (p_app (pmono s2 r1) r2)⟩
theorem sz {n : Nat} (h : n ≤ 100000) : n ≤ sizeLine := Nat.le_trans h (by decide)
theorem szl {n : Nat} (h : n < 100000) : n < sizeLine := Nat.lt_of_lt_of_le h (by decide)
theorem ev_tup {tr : TA} {xs : List α} (h : EvA tr σ H xs) (hz : xs.length ≤ 100000) : Ev (tTup tr) σ H xs := fun H0 s0 Q q => h H0 s0 _ fun vs H1 s1 r1 =>
  ⟨by rw [p_len r1]; exact sz hz, fun p np => q _ _ (s1.trans (same_new np)) ⟨p, vs, rfl, upd_same, pmono (same_new np) r1⟩⟩
theorem ev_lst {tr : TA} {xs : List α} (h : EvA tr σ H xs) (hz : xs.length ≤ 100000) : Ev (tLst tr) σ H (Lst.mk xs) := fun H0 s0 Q q => h H0 s0 _ fun vs H1 s1 r1 =>
  ⟨by rw [p_len r1]; exact sz hz, fun p np => q _ _ (s1.trans (same_new np)) ⟨p, vs, rfl, upd_same, pmono (same_new np) r1⟩⟩
theorem ev_pair {x : α} {y : β} (ha : Ev ta σ H x) (hb : Ev tb σ H y) : Ev (tTup (tCons ta (tCons tb tNil))) σ H (x, y) := fun H0 s0 Q q =>
  ha H0 s0 _ fun v H1 s1 r1 => hb H1 (s0.trans s1) _ fun w H2 s2 r2 => ⟨by show 2 ≤ sizeLine; decide, fun p np => q _ _ ((s1.trans s2).trans (same_new np)) ⟨p, v, w, rfl, upd_same, Dat.mono (same_new np) (Dat.mono s2 r1), Dat.mono (same_new np) r2⟩⟩
theorem ev_ixT {xs : List α} {i : Nat} {x : α} (ha : Ev ta σ H xs) (hb : Ev tb σ H i) (h : xs[i]? = some x) : Ev (tOp (rIxT K) ta tb) σ H x := ev_op ha hb fun v w H1 _ ⟨a, vs, e, ha, r⟩ r2 Q q => by
  obtain ⟨u, hu, ru⟩ := p_get r h
  exact ⟨a, vs, i, u, e, r2, SqT.of ha, atI_nat hu, q _ _ (Same.refl _) ru⟩
theorem ev_ixL {xs : Lst α} {i : Nat} {x : α} (ha : Ev ta σ H xs) (hb : Ev tb σ H i) (h : xs.items[i]? = some x) : Ev (tOp (rIxL K) ta tb) σ H x := ev_op ha hb fun v w H1 _ ⟨a, vs, e, ha, r⟩ r2 Q q => by
  obtain ⟨u, hu, ru⟩ := p_get r h
  exact ⟨a, vs, i, u, e, r2, SqL.of ha, atI_nat hu, q _ _ (Same.refl _) ru⟩
theorem ev_ixLast {xs : Lst α} {ys : List α} {x : α} (ha : Ev ta σ H xs) (hb : Ev tb σ H (-1 : Int)) (h : xs.items = ys ++ [x]) : Ev (tOp (rIxL K) ta tb) σ H x := ev_op ha hb fun v w H1 _ ⟨a, vs, e, ha, r⟩ r2 Q q => by
  have hl := p_len r
  rw [h, List.length_append, List.length_singleton] at hl
  obtain ⟨u, hu, ru⟩ := p_get (i := ys.length) (x := x) r (by rw [h]; simp)
  have ev : vs = vs.take ys.length ++ [u] := by
    have e1 := List.take_append_drop ys.length vs
    have e2 : vs.drop ys.length = [u] := by
      have hlt : ys.length < vs.length := by omega
      rw [List.drop_eq_getElem_cons hlt]
      have e3 : vs[ys.length] = u := by
        rw [List.getElem?_eq_getElem hlt] at hu
        exact Option.some.inj hu
      rw [e3, List.drop_of_length_le (by omega)]
    rw [e2] at e1
    exact e1.symm
  refine ⟨a, vs, -1, u, e, r2, SqL.of ha, ?_, q _ _ (Same.refl _) ru⟩
  rw [ev]
  exact atI_last _ _
theorem ev_fst {p : α × β} (ha : Ev ta σ H p) : Ev (tOp (rIxT K) ta (tC (.int 0))) σ H p.1 := fun H0 s0 Q q => ha H0 s0 _ fun v H1 s1 ⟨a, x, y, e, h, r1, r2⟩ => ⟨a, [x, y], 0, x, e, rfl, SqT.of h, atI_nat (j := 0) rfl, q _ _ s1 r1⟩
theorem ev_snd {p : α × β} (ha : Ev ta σ H p) : Ev (tOp (rIxT K) ta (tC (.int 1))) σ H p.2 := fun H0 s0 Q q => ha H0 s0 _ fun v H1 s1 ⟨a, x, y, e, h, r1, r2⟩ => ⟨a, [x, y], 1, y, e, rfl, SqT.of h, atI_nat (j := 1) rfl, q _ _ s1 r2⟩
/-! ### calls of defs -/
def Sp1 (pre : α → Prop) (f : α → β) : Sp := fun vs H Q _ => ∃ v x, vs = [v] ∧ Dat.rep H v x ∧ pre x ∧ ∀ v' H', Same H H' → Dat.rep H' v' (f x) → Q v' H'
def Sp2 (pre : α → β → Prop) (f : α → β → γ) : Sp := fun vs H Q _ => ∃ v x w y, vs = [v, w] ∧ Dat.rep H v x ∧ Dat.rep H w y ∧ pre x y ∧ ∀ v' H', Same H H' → Dat.rep H' v' (f x y) → Q v' H'
def Sp3 (pre : α → β → γ → Prop) (f : α → β → γ → δ) : Sp := fun vs H Q _ => ∃ v x w y u z, vs = [v, w, u] ∧ Dat.rep H v x ∧ Dat.rep H w y ∧ Dat.rep H u z ∧ pre x y z ∧ ∀ v' H', Same H H' → Dat.rep H' v' (f x y z) → Q v' H'
def Sp4 (pre : α → β → γ → δ → Prop) (f : α → β → γ → δ → ε) : Sp := fun vs H Q _ => ∃ v x w y u z v4 x4, vs = [v, w, u, v4] ∧ Dat.rep H v x ∧ Dat.rep H w y ∧ Dat.rep H u z ∧ Dat.rep H v4 x4 ∧ pre x y z x4 ∧ ∀ v' H', Same H H' → Dat.rep H' v' (f x y z x4) → Q v' H'
variable {E : XK}
theorem ev_call1 {pre : α → Prop} {f : α → β} {x : α} (ha : Ev ta σ H x) (p : pre x) : Ev (tCall (Sp1 pre f) [] E (tCons ta tNil)) σ H (f x) := fun H0 s0 Q q =>
  ha H0 s0 _ fun v H1 s1 r1 => ⟨v, x, rfl, r1, p, fun v' H' s r => q v' H' (s1.trans s) r⟩
theorem ev_call2 {pre : α → β → Prop} {f : α → β → γ} {x : α} {y : β} (ha : Ev ta σ H x) (hb : Ev tb σ H y) (p : pre x y) : Ev (tCall (Sp2 pre f) [] E (tCons ta (tCons tb tNil))) σ H (f x y) := fun H0 s0 Q q =>
  ha H0 s0 _ fun v H1 s1 r1 => hb H1 (s0.trans s1) _ fun w H2 s2 r2 => ⟨v, x, w, y, rfl, Dat.mono s2 r1, r2, p, fun v' H' s r => q v' H' ((s1.trans s2).trans s) r⟩
theorem ev_call3 {pre : α → β → γ → Prop} {f : α → β → γ → δ} {x : α} {y : β} {z : γ} (ha : Ev ta σ H x) (hb : Ev tb σ H y) (hc : Ev tc σ H z) (p : pre x y z) : Ev (tCall (Sp3 pre f) [] E (tCons ta (tCons tb (tCons tc tNil)))) σ H (f x y z) := fun H0 s0 Q q =>
  ha H0 s0 _ fun v H1 s1 r1 => hb H1 (s0.trans s1) _ fun w H2 s2 r2 => hc H2 ((s0.trans s1).trans s2) _ fun u H3 s3 r3 =>
    ⟨v, x, w, y, u, z, rfl, Dat.mono s3 (Dat.mono s2 r1), Dat.mono s3 r2, r3, p, fun v' H' s r => q v' H' (((s1.trans s2).trans s3).trans s) r⟩
theorem ev_call4 {pre : α → β → γ → δ → Prop} {f : α → β → γ → δ → ε} {x : α} {y : β} {z : γ} {x4 : δ} (ha : Ev ta σ H x) (hb : Ev tb σ H y) (hc : Ev tc σ H z) (hd : Ev td σ H x4) (p : pre x y z x4) : Ev (tCall (Sp4 pre f) [] E (tCons ta (tCons tb (tCons tc (tCons td tNil))))) σ H (f x y z x4) := fun H0 s0 Q q =>
  ha H0 s0 _ fun v H1 s1 r1 => hb H1 (s0.trans s1) _ fun w H2 s2 r2 => hc H2 ((s0.trans s1).trans s2) _ fun u H3 s3 r3 => hd H3 (((s0.trans s1).trans s2).trans s3) _ fun v4 H4 s4 r4 =>
    ⟨v, x, w, y, u, z, v4, x4, rfl, Dat.mono s4 (Dat.mono s3 (Dat.mono s2 r1)), Dat.mono s4 (Dat.mono s3 r2), Dat.mono s4 r3, r4, p, fun v' H' s r => q v' H' ((((s1.trans s2).trans s3).trans s4).trans s) r⟩
end
end SB
namespace SB
open PySem PySem.Spec PyProof.Rows L2 RZ StX
/-! ### rules of one's own: sum of a tuple, sorted of a tuple, enumerate of a tuple, len(set(..)), X() -/
section
variable {X : Cx}
def rSumT : List V → Hp → VK → Prop := fun vs H Q => ∃ (a : Addr) (ns : List Int), vs = [V.ref a] ∧ H a = some (.tup (ns.map V.int)) ∧ Q (.int ns.sum) H
theorem cr_sumT (hc : X.calm = true) : CallR X (.builtin "sum") rSumT := by
  intro pins s σ H vs us Q I r h
  obtain ⟨a, ns, rfl, ha, q⟩ := h
  obtain ⟨its, rv, ht, _⟩ := I.tuple (SqT.of ha)
  rw [Vals.ref1 r]
  have hi := rv.ints
  have ht' : s.heap.IsTuple a its.toArray := ht
  obtain ⟨xs, hx⟩ := hi.allInts.items
  have hn : numsOf its.toArray.toList = ns := by
    rw [show its.toArray.toList = its from rfl]
    exact hi.numsOf
  rw [hx] at hn
  rw [hx] at ht'
  rw [nums_intItems] at hn
  refine PySem.W.ktm_sumG (I.ok.hd hc) ht' fun h' tk t' hk => ?_
  refine ⟨.int ns.sum, H, I.kept (t' := tk) hk, ⟨t', ?_⟩, q⟩
  rw [preSum_eq, List.take_of_length_le (by simp), hn]
end
section
variable {prog : Program} {w : World} {A : Around} {E : Value → Shared → Prop} {s : Shared}
theorem collectTup {l : Addr} {vs : List Value} {Q : List Value → Shared → Prop} (hl : s.heap.IsTuple l vs.toArray) (hsz : vs.length ≤ sizeLine)
    (h : Q vs { s with heap := (s.heap.push (seqObj "list" #[] 0)).update s.heap.objs.size (Obj.mapSeq (· ++ vs.toArray)) }) : wpAny (model prog w) A (collect (.ref l)) Q E s := by
  obtain ⟨ob, hob, hcl, n, hdt⟩ := id hl
  unfold collect
  refine wpAny_bind (wpAny_runValue (codeAny_builtin entry_proto_collect' ?_))
  show wpAny (model prog w) _ (do again (.builtin "list.__iadd__" ⟨[← newList [], .ref l], []⟩)) _ _ _
  refine wpAny_bind (wpAny_newList (wpAny_pure ⟨Code.quiet_builtin _ (by decide +kernel), codeAny_builtin entry_list_iadd' ?_⟩))
  show wpAny (model prog w) _ (Builtin.List.listExtendWith (.ref s.heap.objs.size) (.ref l) (.ref s.heap.objs.size)) _ _ { s with heap := s.heap.push (seqObj "list" #[] 0) }
  unfold Builtin.List.listExtendWith
  have hob2 : (s.heap.push (seqObj "list" #[] 0)).get? l = some ob := Heap.get?_push_of_some _ hob
  refine wpAny_bind (wpAny_typeOf (T := "tuple") ⟨ob, hob2, hcl⟩ ?_)
  have ht2 : (Value.type "tuple" == Value.type "tuple") = true := by rfl
  rw [if_pos (by rw [ht2, Bool.or_true])]
  refine wpAny_bind (listItems_at hob2 hdt ?_)
  refine wpAny_bind (listItems_at (n := 0) (xs := #[]) (Heap.get?_push_size _ rfl) rfl ?_)
  rw [if_neg (by simp)]
  refine wpAny_bind (listUpdate_at (n := 0) (xs := #[]) (Heap.get?_push_size _ rfl) rfl ?_ (Nat.zero_le _) (by show (#[] ++ vs.toArray).size ≤ sizeLine + 1; simp only [Array.size_append, List.size_toArray, List.length_nil]; omega))
  refine wpAny_pure ?_
  show wpAny (model prog w) A (do
      let ol ← load s.heap.objs.size
      match ol.data with
      | .seq xs _ => pure xs.toList
      | _ => unsupported "internal:collect") Q E { s with heap := (s.heap.push (seqObj "list" #[] 0)).update s.heap.objs.size (Obj.mapSeq (· ++ vs.toArray)) }
  refine wpAny_bind (wpAny_load (get?_update_seq (Heap.get?_push_size _ rfl) _) ?_)
  show wpAny (model prog w) A (pure ((#[] : Array Value) ++ vs.toArray).toList) Q E _
  have e0 : ((#[] : Array Value) ++ vs.toArray).toList = vs := by simp
  rw [e0]
  exact wpAny_pure h
theorem sortedTup {l : Addr} {vs : List Value} {ns : List Int} {Q : Value → Shared → Prop} (hl : s.heap.IsTuple l vs.toArray) (hI : IntsAre vs ns) (h64 : vs.length < 64)
    (h : ∀ (out : Array Value) (ns' : List Int), IntsAre out.toList ns' → ns'.Perm ns → ns'.Pairwise (· ≤ ·) → Q (.ref (s.heap.objs.size + 1)) { s with heap := sortedAll s.heap vs out }) : wpAny (model prog w) A (call (.builtin "sorted") [.ref l]) Q E s := by
  refine Calls.call_function_entry kind_sorted plain_sorted entry_sorted (args_sorted1 _) ?_
  unfold Builtin.«sorted»
  refine wpAny_bind (m := checkCount "sorted" 1 1 _) (wpAny_pure ?_)
  refine wpAny_bind (collectTup hl (Nat.le_trans (Nat.le_of_lt h64) (by decide)) ?_)
  refine wpAny_bind (wpAny_newList ?_)
  have e1 : ((s.heap.push (seqObj "list" #[] 0)).update s.heap.objs.size (Obj.mapSeq (· ++ vs.toArray))).objs.size = s.heap.objs.size + 1 := by
    rw [Heap.size_update]
    exact size_push' _ _
  have e2 : (((s.heap.push (seqObj "list" #[] 0)).update s.heap.objs.size (Obj.mapSeq (· ++ vs.toArray))).push (seqObj "list" vs.toArray 0)).get? (s.heap.objs.size + 1) = some (seqObj "list" vs.toArray 0) := by
    rw [← e1]
    exact Heap.get?_push_size _ rfl
  show wpAny (model prog w) _ _ _ _ { s with heap := ((s.heap.push (seqObj "list" #[] 0)).update s.heap.objs.size (Obj.mapSeq (· ++ vs.toArray))).push (seqObj "list" vs.toArray 0) }
  rw [e1]
  refine wpAny_bind (wpAny_holding (wpAny_call_entry slot_list_sort ⟨_, e2, rfl⟩ entry_list_sort (list_sort_tree e2 hI h64 fun out ns' a1 a2 a3 => ⟨_, rfl, ?_⟩) (args_list_sort _)))
  exact wpAny_pure ⟨_, rfl, h out ns' a1 a2 a3⟩
end
section
variable {X : Cx}
def rSortedT : List V → Hp → VK → Prop := fun vs H Q => ∃ (a : Addr) (ns : List Int), vs = [V.ref a] ∧ H a = some (.tup (ns.map V.int)) ∧ ns.length < 64 ∧
  ∀ (ns' : List Int) (p : Addr), ns'.Perm ns → ns'.Pairwise (· ≤ ·) → H p = none → Q (.ref p) (upd H p (.lst (ns'.map V.int)))
theorem cr_sortedT : CallR X (.builtin "sorted") rSortedT := by
  intro pins s σ H vs us Q I r h
  obtain ⟨a, ns, rfl, ha, h64, q⟩ := h
  obtain ⟨its, rv, hl, _⟩ := I.tuple (SqT.of ha)
  rw [Vals.ref1 r]
  have hi := rv.ints
  refine sortedTup hl hi (by rw [hi.length]; exact h64) fun out ns' h1 h2 h3 => ?_
  obtain ⟨ep, hep⟩ := PyProof.Rows.sortedAll_at s.heap its out
  have hlen : (ns'.map V.int).length ≤ sizeLine := by
    rw [List.length_map, h2.length_eq]
    exact small64 h64
  exact ⟨.ref _, upd H (s.heap.objs.size + 1) (.lst (ns'.map V.int)), I.laid (t' := s.toks) (fun _ _ => PyProof.Rows.sortedAll_old) (Nat.le_succ _) ⟨hlen, out.toList, ep, vals_of_ints h1, hep⟩, rfl, q ns' _ h2 h3 (I.hok.fresh (Nat.le_succ _))⟩
end
/-! ### enumerate of a tuple -/
theorem meets_enumT {v : Value} {o : Obj} {H0 : Heap → Prop} (B : Begins v o H0) :
    Meets (Builtin.«enumerate.__new__» ⟨[.type "enumerate", v], []⟩) (fun _ R s => H0 s.heap ∧
      R (.ok (.ret (.ref (s.heap.push o).objs.size))) { s with heap := (s.heap.push o).push { cls := .type "enumerate", data := .fields #[.none, .bool false, .ref s.heap.objs.size, rawInt 0, .none, .none] } }) :=
  .of_wp fun prog w A R s h => by
    obtain ⟨hp, g, d, tk, os⟩ := s
    obtain ⟨h1, h⟩ := h
    have hsub := sub_enumerate
    have q1 : ∀ {A' : Around} {E' : Value → Shared → Prop} {Q' : Value → Shared → Prop}, Q' (.ref hp.objs.size) ⟨hp.push o, g, d, tk, os⟩ → wpAny (model prog w) A' (pyIter v) Q' E' ⟨hp, g, d, tk, os⟩ := fun q => B.iter prog w _ _ ⟨hp, g, d, tk, os⟩ _ h1 q
    wp_walk using q1
    refine wpAny_stack_any fun st => wpAny_pure ?_
    split
    · rename_i c _ _ _ _ _
      cases (c == Value.type "enumerate") <;> (wp_walk using q1; exact ⟨_, rfl, h⟩)
    · wp_walk using q1
      exact ⟨_, rfl, h⟩
theorem call_enumT {prog : Program} {w : World} {A : Around} {E : Value → Shared → Prop} {s : Shared} {v : Value} {o : Obj} {H0 : Heap → Prop} {Q : Value → Shared → Prop} (B : Begins v o H0) (h1 : H0 s.heap)
    (h : ∀ h', IsEnum h' (s.heap.objs.size + 1) s.heap.objs.size 0 .none → h'.get? s.heap.objs.size = some o →
      (∀ b o, s.heap.get? b = some o → h'.get? b = some o) → Q (.ref (s.heap.objs.size + 1)) { s with heap := h' }) : wpAny (model prog w) A (call (.type "enumerate") [v]) Q E s := by
  refine callType_new F.called_enumerate (by decide) (F.typeCall_enumerate_1 _) (F.newCall_enumerate_1 _) (fun obj => F.args_object_init_2 obj _) F.entry_enumerate_new (meets_enumT B) ⟨h1, ?_⟩
  have ez : (s.heap.push o).objs.size = s.heap.objs.size + 1 := Heap.size_push ..
  show _ ∧ _
  rw [ez]
  have he := Heap.get?_push_size (s.heap.push o) (o := { cls := .type "enumerate", data := .fields #[.none, .bool false, .ref s.heap.objs.size, rawInt 0, .none, .none] }) rfl
  rw [ez] at he
  exact ⟨⟨_, he, rfl⟩, h _ he (Heap.get?_push_of_some _ (Heap.get?_push_size _ B.free)) fun b o x => Heap.get?_push_of_some _ (Heap.get?_push_of_some _ x)⟩
/-- the tuple at a, each item in a new pair -/
def IteT (K : PySem.W.Frag) (a : Addr) : It :=
  ⟨fun i H => ∃ (xs : List V) (x : V), SqT K H a xs ∧ xs[i]? = some x, fun i H v H' => ∃ T x, v = .ref T ∧ H T = none ∧ H' = upd H T (.tup [.int (i : Nat), x]) ∧ ∀ xs, SqT K H a xs → xs[i]? = some x, fun i H => ∃ xs : List V, SqT K H a xs ∧ xs.length ≤ i⟩
theorem turn_enumT {P : Program} {w : World} {K : PySem.W.Frag} {elts : List Expr} {kk : Nat} {tpos : Pos} (a e it : Addr) :
    Turn P w K (.Tuple elts kk tpos) (IteT K a) [e, it] e (fun i h => (∃ old, IsEnum h e it ((i : Nat) : Int) old) ∧ h.IsTupleIter it a i ∧ e ≠ it ∧ a ≠ it ∧ a ≠ e) where
  mem := by simp
  obj := fun i h st b hb => by
    obtain ⟨⟨old, he⟩, ⟨o, ho, hc, hd⟩, _⟩ := st
    rcases (show b = e ∨ b = it by simpa using hb) with rfl | rfl
    · exact ⟨_, he, fun v q => nomatch q⟩
    · exact ⟨o, ho, fun v q => by rw [hd] at q; cases q⟩
  keep := fun i h h' st k => let ⟨⟨old, he⟩, hi, hne⟩ := st; ⟨⟨old, k e (by simp) _ he⟩, hi.at fun o q => k it (by simp) o q, hne⟩
  item := by
    intro X hP hw hK hc i pins s σ H E I hf st hg
    subst hP hw hK
    obtain ⟨⟨old, he⟩, hit, hne, hai, hae⟩ := st
    obtain ⟨xs, x, hq, hx⟩ := hg
    obtain ⟨its, rv, p, hz⟩ := I.tuple hq
    obtain ⟨u, hu, ru⟩ := rv.get hx
    have hel : e < s.heap.objs.size := Heap.lt_size he
    have hil : it < s.heap.objs.size := by
      obtain ⟨_, q, _⟩ := hit
      exact Heap.lt_size q
    have hlt : i < its.toArray.size := by
      rw [List.size_toArray]
      exact (List.getElem?_eq_some_iff.mp hu).1
    have DT : Draws X.prog X.w X.A.in1 it [it, a] its.toArray.size (fun i v => its.toArray[i]? = some v) (fun i h => h.IsTupleIter it a i ∧ h.IsTuple a its.toArray) := Draws.tuple (A := X.A.in1) (I.ok.hd hc) it a hai its.toArray
    refine wpAny_pyNext_enum_itemD DT he ⟨hit, p⟩ hlt hne (by simp [hne, Ne.symm hae]) fun v h' tk hv ho hit' hT hsz hk => ?_
    have ev : v = u := by
      have e1 : its[i]? = some v := by simpa using hv
      rw [hu] at e1
      exact (Option.some.inj e1).symm
    subst ev
    refine ⟨_, rfl, wpAny_letOwnedTupleGo_enum (s := { s with heap := h', toks := tk + 1 }) ho fun h'' he' sb => ?_⟩
    have hT2 : h''.get? s.heap.objs.size = some { cls := .type "tuple", data := .seq #[.int i tk, v] } := (sb.2 _ (Nat.ne_of_gt hel)).trans hT
    have new : ObjOk X.prog X.w (upd H s.heap.objs.size (.tup [.int (i : Nat), x])) h'' s.heap.objs.size (.tup [.int (i : Nat), x]) := ⟨by show 2 ≤ sizeLine; decide, [.int i tk, v], .cons ⟨_, rfl⟩ (.cons ru .nil), ⟨_, hT2, rfl, _, rfl⟩⟩
    have I1 : Inv X pins σ (upd H s.heap.objs.size (.tup [.int (i : Nat), x])) { s with heap := h'', toks := tk + 1 } :=
      I.turnedNew (ch := [e, it]) (fun b ob hb q => (sb.2 b (fun z => hb (by simp [z]))).trans (hk b ob (fun z => hb (by simp [z])) (fun z => hb (by simp [z])) q)) hf (Nat.le_refl _) new
    refine ⟨.ref s.heap.objs.size, _, I1, rfl, ⟨_, x, rfl, I.hok.fresh (Nat.le_refl _), rfl, fun ys hy => by rw [I.tuple_inj hy hq]; exact hx⟩, ⟨⟨v, ?_⟩, hit'.1.at fun o q => (sb.2 it (Ne.symm hne)).trans q, hne, hai, hae⟩, fun b hb => ?_⟩
    · have e1 : ((i + 1 : Nat) : Int) = (i : Int) + 1 := by omega
      rw [e1]
      exact he'
    · have hb' : b < s.heap.objs.size := by
        rcases (show b = e ∨ b = it by simpa using hb) with z | z
        · rw [z]; exact hel
        · rw [z]; exact hil
      rw [upd_ne (Nat.ne_of_lt hb')]
      exact (hf b hb).1
  done := by
    intro X hP hw hK hc i pins s σ H E I hf st hg
    subst hP hw hK
    obtain ⟨⟨old, he⟩, hit, hne, hai, hae⟩ := st
    obtain ⟨xs, hq, hx⟩ := hg
    obtain ⟨its, rv, p, hz⟩ := I.tuple hq
    obtain ⟨f0, f1, f2, f3, f4, f5⟩ := hf it (by simp)
    have hT : s.TypeIs (.ref e) "enumerate" := ⟨_, he, rfl⟩
    have hl := rv.length
    unfold pyNext
    refine wpAny_bind (wpAny_attempt (wpAny_callSpecial?_slot (name := Str.ofString "__next__") hT F.slot_enumerate_next (wpAny_call_entry F.slot_enumerate_next hT F.entry_enumerate_next ?_ (F.args_enumerate_next_1 _))))
    show wpAny (model X.prog X.w) _ (field (.ref e) 2 >>= _) _ _ _
    refine wpAny_bind (wpAny_field he rfl (x := .ref it) rfl ?_)
    refine wpAny_bind (wpAny_nextOf_tuple_end (items := its.toArray) (I.ok.hd hc) hit p (by simp; omega) fun h' x he' hx' => ?_)
    obtain ⟨o, ho, hcx⟩ := hx'
    refine wpAny_bind (wpAny_isInstance (T := "StopIteration") (b := true) ⟨o, ho, hcx⟩ isSubtype_stop ?_)
    exact wpAny_pure ⟨rfl, I.turned (t' := s.toks) (fun b o hb q => he' b o hb q) f0 f1 f3 f4 f5⟩
  self := fun A i s Q E st h => let ⟨⟨_, he⟩, _⟩ := st; wpAny_pyIter_enum he h
def iEnumT (K : PySem.W.Frag) (ta : TA) : TI := fun σ H R => ta σ H fun vs H1 => ∃ a xs, vs = [.ref a] ∧ SqT K H1 a xs ∧ R (IteT K a) H1
theorem pi_enumT {X : Cx} {e : Expr} {ta : TA} {p pos tpos : Pos} {elts : List Expr} {kk : Nat} (hg : Gl X "enumerate") (hm : X.mg "enumerate" = none) (ha : PA X [e] ta) (hs : starEach [e] X.env = [(false, eval e X.env)] := by rfl) :
    PI X (.Tuple elts kk tpos) (.Call (.Name "enumerate" p) [e] [] pos) (iEnumT X.K ta) := by
  refine ⟨fun pins s σ H R I h => ?_⟩
  refine Call_ (ld_blt I hg hm boot_enumerate (PyProof.Rows.callWith_type1 (thn (ha.run pos pins s σ H _ I h) fun us s1 ⟨vs, H1, I1, r1, q1⟩ => ?_) hs rfl))
  obtain ⟨a, xs, ex, hq, q⟩ := q1
  subst ex
  have eu := Vals.ref1 r1
  subst eu
  obtain ⟨its, rv, p', hz⟩ := I1.tuple hq
  have hal : a < s1.heap.objs.size := by
    obtain ⟨o, ho, _⟩ := p'
    exact Heap.lt_size ho
  refine call_enumT (begins_tuple a its.toArray) p' fun h' he hit hk => wpAny_pyIter_enum he ?_
  have I2 : Inv X pins σ H1 { s1 with heap := h' } := I1.kept (t' := s1.toks) hk
  refine ⟨s1.heap.objs.size + 1, [s1.heap.objs.size + 1, s1.heap.objs.size], _, _, H1, rfl, I2, turn_enumT a (s1.heap.objs.size + 1) s1.heap.objs.size, ⟨⟨.none, he⟩, ⟨_, hit, rfl, rfl⟩, Nat.succ_ne_self _, Nat.ne_of_lt hal, Nat.ne_of_lt (Nat.lt_succ_of_lt hal)⟩, fun b hb => ?_, q⟩
  have hle : s1.heap.objs.size ≤ b := by
    rcases (show b = s1.heap.objs.size + 1 ∨ b = s1.heap.objs.size by simpa using hb) with z | z
    · rw [z]; exact Nat.le_succ _
    · rw [z]; exact Nat.le_refl _
  exact I1.fpOk hle (I1.hok.fresh hle)
/-! ### len(set(xs)) -/
def nSet (ns : List Int) : Nat := (PyProof.Rows.firstMet (fun i => ns.getD i 0) ns.length).length
def tLenSetA (K : PySem.W.Frag) (ta : TE) : TE := fun σ H Q => ta σ H fun x H1 => ∃ (l : Addr) (ns : List Int), x = .ref l ∧ SqL K H1 l (ns.map V.int) ∧ ns.length ≤ 4000 ∧ Q (.int (nSet ns : Nat)) H1
theorem firstMet_le (f : Nat → Int) : ∀ n, (PyProof.Rows.firstMet f n).length ≤ n
  | 0 => Nat.le_refl _
  | n + 1 => by
    rw [PyProof.Rows.firstMet_succ]
    have := firstMet_le f n
    show (if (PyProof.Rows.firstMet f n).any (· == f n) then PyProof.Rows.firstMet f n else PyProof.Rows.firstMet f n ++ [f n]).length ≤ n + 1
    split
    · omega
    · rw [List.length_append, List.length_singleton]; omega
theorem pe_lenSetA {X : Cx} {a : Expr} {ta : TE} {p p2 q pos : Pos} (hg : Gl X "len") (hm : X.mg "len" = none) (hg2 : Gl X "set") (hm2 : X.mg "set" = none) (ha : PE X a ta) (hc : X.calm = true := by rfl)
    (na : starEach [a] X.env = (false, eval a X.env) :: starEach [] X.env := by rfl) : PE X (.Call (.Name "len" p) [.Call (.Name "set" p2) [a] [] q] [] pos) (tLenSetA X.K ta) := by
  refine ⟨fun pins s σ H Q I h => ?_⟩
  refine Call_ (ld_blt I hg hm boot_len ?_)
  refine PyProof.Rows.callWith_builtin1 (PyProof.Rows.args_cons ?_ rfl) rfl rfl
  refine Call_ (ld_blt I hg2 hm2 boot_set ?_)
  refine PyProof.Rows.callWith_type1 (PyProof.Rows.args_cons (thn (ha.run pins s σ H _ I h) fun v s1 ⟨x, H1, I1, r1, q1⟩ => PyProof.Rows.args_nil ?_) na) na rfl
  obtain ⟨l, ns, rfl, hq, hl, q1⟩ := q1
  cases r1
  obtain ⟨its, r, pl, hz⟩ := I1.list hq
  have hlen : its.toArray.size = ns.length := by rw [List.size_toArray, ← r.length, List.length_map]
  refine call_set_list (I1.ok.hd hc) pl.isList (by simpa using intsAre_vals r) (by rw [hlen]; unfold scanBound; omega) fun h' tk hS hk => ?_
  refine PyProof.Rows.args_nil ?_
  rw [hlen] at hS
  obtain ⟨o, es, ep, t, ho, hex, hd, _, _, _, hf, hn⟩ := hS
  have I2 : Inv X pins σ H1 { s1 with heap := h', toks := tk } := I1.kept fun b o e => hk b o (Heap.lt_size e) e
  have hb := firstMet_le (fun i => ns.getD i 0) ns.length
  exact call_len_set ho hex hd hf (by rw [hn] <;> omega) ⟨.int (nSet ns), H1, I2.tok _, ⟨_, by rw [hn] <;> rfl⟩, q1⟩
/-! ### X(), X an own class of errors without an __init__ -/
theorem pmk_own0 {X : Cx} {C : Addr} {bmB : List Value} {B newId initId : String} {x : Str} {p pos : Pos} (F : ExcBaseFacts B newId initId bmB) (q : PySem.W.excIn X.K C bmB newId = true) (gC : X.mg x = some (.ref C)) (kC : PySem.W.keepIn X.K (.ref C) = true) (r : Raises X (.ref C)) (hg : Gl X x)
    (hdb : (x == ("__debug__" : Str)) = false := by decide) : PMk X (.Call (.Name x p) [] [] pos) (fun _ H Q => Q (.ref C) none H) := by
  intro pins s σ H Q I h
  refine wpAny_Call_Name_kw (ld_glob I hg gC ?_ hdb)
  refine PySem.W.callWith_K0 I.kIn kC ?_
  obtain ⟨bm, N, nm, qn, bs, hdct, sn, sub, ab, col, dd, k0, k1, k2, k3, k5, mN, hC, hN, hni, T⟩ := exc_obj I.kIn q
  refine wpAny_call_exc_subT F T hC hN hni (fun h' e hm => ?_) (by show 0 ≤ sizeLine; exact Nat.zero_le _)
  exact mk_of I hm r h (I.hok.gone hm.new)
end SB
namespace SB
open PySem PySem.Spec PyProof.Rows L2 RZ StX
section
variable {α β γ : Type} [Dat α] [Dat β] [Dat γ] {K : PySem.W.Frag} {σ : L2.St} {H : Hp} {ta tb tc te : TE} {tt u : TT}
theorem ev_un {r : V → Hp → VK → Prop} {x : α} {y : β} (ha : Ev ta σ H x) (hr : ∀ v H1, Same H H1 → Dat.rep H1 v x → ∀ Q : VK, (∀ w H2, Same H1 H2 → Dat.rep H2 w y → Q w H2) → r v H1 Q) : Ev (fun σ H Q => ta σ H fun v H1 => r v H1 Q) σ H y := fun H0 s0 Q q =>
  ha H0 s0 _ fun v H1 s1 r1 => hr v H1 (s0.trans s1) r1 Q fun w H2 s2 r2 => q w H2 (s1.trans s2) r2
/-- f(x), f a built-in -/
theorem ev_b1 {r : List V → Hp → VK → Prop} {x : α} {y : β} (ha : Ev ta σ H x) (hr : ∀ v H1, Same H H1 → Dat.rep H1 v x → ∀ Q : VK, (∀ w H2, Same H1 H2 → Dat.rep H2 w y → Q w H2) → r [v] H1 Q) : Ev (tCB r (tCons ta tNil)) σ H y := fun H0 s0 Q q =>
  ha H0 s0 _ fun v H1 s1 r1 => hr v H1 (s0.trans s1) r1 Q fun w H2 s2 r2 => q w H2 (s1.trans s2) r2
theorem ev_lenT {xs : List α} (ha : Ev ta σ H xs) : Ev (tCB (fun xs H Q => ∃ p ys, xs = [.ref p] ∧ (SqL K H p ys ∨ SqT K H p ys) ∧ Q (.int ys.length) H) (tCons ta tNil)) σ H xs.length := ev_b1 ha fun v H1 _ ⟨a, vs, e, h, r⟩ Q q => ⟨a, vs, by rw [e], .inr (SqT.of h), q _ _ (Same.refl _) (by rw [p_len r]; rfl)⟩
theorem ev_lenL {xs : Lst α} (ha : Ev ta σ H xs) : Ev (tCB (fun xs H Q => ∃ p ys, xs = [.ref p] ∧ (SqL K H p ys ∨ SqT K H p ys) ∧ Q (.int ys.length) H) (tCons ta tNil)) σ H xs.items.length := ev_b1 ha fun v H1 _ ⟨a, vs, e, h, r⟩ Q q => ⟨a, vs, by rw [e], .inl (SqL.of h), q _ _ (Same.refl _) (by rw [p_len r]; rfl)⟩
/-- len of a pair that is a tuple of two numbers -/
theorem ev_lenP {p : α × β} (ha : Ev ta σ H p) : Ev (tCB (fun xs H Q => ∃ p ys, xs = [.ref p] ∧ (SqL K H p ys ∨ SqT K H p ys) ∧ Q (.int ys.length) H) (tCons ta tNil)) σ H (2 : Nat) := ev_b1 ha fun v H1 _ ⟨a, x, y, e, h, r⟩ Q q => ⟨a, [x, y], by rw [e], .inr (SqT.of h), q _ _ (Same.refl _) rfl⟩
theorem ev_sumP {p : Nat × Nat} (ha : Ev ta σ H p) : Ev (tCB rSumT (tCons ta tNil)) σ H (p.1 + p.2) := ev_b1 ha fun v H1 _ ⟨a, x, y, e, h, r1, r2⟩ Q q => by
  cases (show x = .int p.1 from r1)
  cases (show y = .int p.2 from r2)
  refine ⟨a, [(p.1 : Int), (p.2 : Int)], by rw [e], h, q _ _ (Same.refl _) ?_⟩
  show V.int _ = V.int _
  rw [List.sum_cons, List.sum_cons, List.sum_nil, Int.add_zero, Int.natCast_add]
def ins (x : Nat) : List Nat → List Nat
  | [] => [x]
  | y :: r => if x ≤ y then x :: y :: r else y :: ins x r
def isort : List Nat → List Nat
  | [] => []
  | x :: r => ins x (isort r)
theorem ins_perm (x : Nat) : ∀ l, (ins x l).Perm (x :: l)
  | [] => .refl _
  | y :: r => by
    unfold ins
    split
    · exact .refl _
    · exact ((ins_perm x r).cons y).trans (.swap x y r)
theorem isort_perm : ∀ l, (isort l).Perm l
  | [] => .refl _
  | x :: r => (ins_perm x _).trans ((isort_perm r).cons x)
theorem ins_sorted {x : Nat} : ∀ {l : List Nat}, l.Pairwise (· ≤ ·) → (ins x l).Pairwise (· ≤ ·)
  | [], _ => by unfold ins; exact List.pairwise_singleton ..
  | y :: r, h => by
    unfold ins
    split
    · rename_i hxy
      refine List.pairwise_cons.mpr ⟨fun z hz => ?_, h⟩
      rcases List.mem_cons.mp hz with e | e
      · omega
      · have := (List.pairwise_cons.mp h).1 z e
        omega
    · rename_i hxy
      refine List.pairwise_cons.mpr ⟨fun z hz => ?_, ins_sorted (List.pairwise_cons.mp h).2⟩
      rcases List.mem_cons.mp ((ins_perm x r).mem_iff.mp hz) with e | e
      · omega
      · exact (List.pairwise_cons.mp h).1 z e
theorem isort_sorted : ∀ l, (isort l).Pairwise (· ≤ ·)
  | [] => .nil
  | _ :: r => ins_sorted (isort_sorted r)
theorem sorted_unique : ∀ {a b : List Int}, a.Perm b → a.Pairwise (· ≤ ·) → b.Pairwise (· ≤ ·) → a = b
  | [], b, p, _, _ => (List.nil_perm.mp p).symm
  | x :: a, [], p, _, _ => absurd (List.perm_nil.mp p) (by simp)
  | x :: a, y :: b, p, ha, hb => by
    have h1 : x ≤ y := by
      rcases List.mem_cons.mp (p.mem_iff.mpr (List.mem_cons_self ..)) with e | e
      · omega
      · exact (List.pairwise_cons.mp ha).1 y e
    have h2 : y ≤ x := by
      rcases List.mem_cons.mp (p.mem_iff.mp (List.mem_cons_self ..)) with e | e
      · omega
      · exact (List.pairwise_cons.mp hb).1 x e
    have e : x = y := by omega
    subst e
    rw [sorted_unique (List.perm_cons _ |>.mp p) (List.pairwise_cons.mp ha).2 (List.pairwise_cons.mp hb).2]
theorem sorted_is {ns : List Nat} {ns' : List Int} (p : ns'.Perm (ns.map Int.ofNat)) (o : ns'.Pairwise (· ≤ ·)) : ns' = (isort ns).map Int.ofNat := by
  refine sorted_unique (p.trans ((isort_perm ns).symm.map _)) o ?_
  exact List.pairwise_map.mpr ((isort_sorted ns).imp fun {a b} h => Int.ofNat_le.mpr h)
theorem ev_sortedL {xs : Lst Nat} (ha : Ev ta σ H xs) (hz : xs.items.length < 64) : Ev (tCB (rSorted K) (tCons ta tNil)) σ H (Lst.mk (isort xs.items)) := ev_b1 ha fun v H1 _ ⟨a, vs, e, h, r⟩ Q q => by
  rw [p_nats r] at h
  refine ⟨a, xs.items.map Int.ofNat, by rw [e], SqL.of h, by rw [List.length_map]; exact hz, fun ns' p hp ho np => q _ _ (same_new np) ⟨p, _, rfl, upd_same, ?_⟩⟩
  rw [sorted_is hp ho]
  exact nats_p _
theorem ev_sortedT {xs : List Nat} (ha : Ev ta σ H xs) (hz : xs.length < 64) : Ev (tCB rSortedT (tCons ta tNil)) σ H (Lst.mk (isort xs)) := ev_b1 ha fun v H1 _ ⟨a, vs, e, h, r⟩ Q q => by
  rw [p_nats r] at h
  refine ⟨a, xs.map Int.ofNat, by rw [e], h, by rw [List.length_map]; exact hz, fun ns' p hp ho np => q _ _ (same_new np) ⟨p, _, rfl, upd_same, ?_⟩⟩
  rw [sorted_is hp ho]
  exact nats_p _
def minI : List Int → Int
  | [] => 0
  | [x] => x
  | x :: r => if x ≤ minI r then x else minI r
theorem minI_le : ∀ {l : List Int} {y : Int}, y ∈ l → minI l ≤ y
  | [x], y, h => by
    have e := List.mem_singleton.mp h
    subst e
    exact Int.le_refl _
  | x :: z :: r, y, h => by
    unfold minI
    rcases List.mem_cons.mp h with e | e
    · subst e; split <;> omega
    · have := minI_le (l := z :: r) e
      split <;> omega
theorem minI_mem : ∀ {l : List Int}, l ≠ [] → minI l ∈ l
  | [x], _ => List.mem_singleton.mpr rfl
  | x :: z :: r, _ => by
    unfold minI
    split
    · exact List.mem_cons_self ..
    · exact List.mem_cons_of_mem _ (minI_mem (List.cons_ne_nil z r))
theorem ev_min {ns : Lst Int} (ha : Ev ta σ H ns) (h0 : ns.items ≠ []) : Ev (tCB (rMin K) (tCons ta tNil)) σ H (minI ns.items) := ev_b1 ha fun v H1 _ ⟨a, vs, e, h, r⟩ Q q => by
  rw [p_ints r] at h
  refine ⟨a, ns.items, by rw [e], SqL.of h, List.length_pos_iff.mpr h0, fun m hm hle => q _ _ (Same.refl _) ?_⟩
  have e1 : m = minI ns.items := Int.le_antisymm (hle _ (minI_mem h0)) (minI_le hm)
  rw [e1]
  rfl
theorem ev_all {bs : Lst Bool} (ha : Ev ta σ H bs) : Ev (tCB (rAll K) (tCons ta tNil)) σ H (bs.items.all id) := ev_b1 ha fun v H1 _ ⟨a, vs, e, h, r⟩ Q q => by
  rw [p_bools r] at h
  exact ⟨a, bs.items, by rw [e], SqL.of h, q _ _ (Same.refl _) rfl⟩
theorem ev_any {bs : Lst Bool} (ha : Ev ta σ H bs) : Ev (tCB (rAny K) (tCons ta tNil)) σ H (bs.items.any id) := ev_b1 ha fun v H1 _ ⟨a, vs, e, h, r⟩ Q q => by
  rw [p_bools r] at h
  exact ⟨a, bs.items, by rw [e], SqL.of h, q _ _ (Same.refl _) rfl⟩
theorem ev_lenSet {ns : Lst Int} (ha : Ev ta σ H ns) (hz : ns.items.length ≤ 4000) : Ev (tLenSetA K ta) σ H (nSet ns.items) := fun H0 s0 Q q => ha H0 s0 _ fun v H1 s1 ⟨a, vs, e, h, r⟩ => by
  rw [p_ints r] at h
  exact ⟨a, ns.items, e, SqL.of h, hz, q _ _ s1 rfl⟩
theorem ev_tupleOf {xs : Lst α} (ha : Ev ta σ H xs) : Ev (tThen ta (kTup K)) σ H xs.items := fun H0 s0 Q q => ha H0 s0 _ fun v H1 s1 ⟨a, vs, e, h, r⟩ =>
  .inl ⟨a, vs, e, SqL.of h, fun p np => q _ _ (s1.trans (same_new np)) ⟨p, vs, rfl, upd_same, pmono (same_new np) r⟩⟩
theorem range_p (n : Nat) {H : Hp} : Paired (Dat.rep H) (rgV 0 (n : Int)) (List.range n) := by
  unfold rgV
  rw [show ((n : Int) - 0).toNat = n by omega]
  have h := p_map (H := H) (α := Nat) (fun i : Nat => V.int (0 + (i : Nat))) id (l := List.range n) fun z _ => by
    show V.int _ = V.int _
    congr 1
    show (0 : Int) + z = (z : Int)
    omega
  rw [List.map_id] at h
  exact h
theorem ev_tupRg {n : Nat} (ha : Ev ta σ H n) (hz : n ≤ 1000) : Ev (tTupRg (tRg1 ta)) σ H (List.range n) := fun H0 s0 Q q => ha H0 s0 _ fun v H1 s1 r =>
  ⟨(n : Int), r, ⟨by omega, by omega, by omega, by omega, by omega⟩, fun p np => q _ _ (s1.trans (same_new np)) ⟨p, _, rfl, upd_same, range_p n⟩⟩
/-! ### slices, sums of tuples and lists -/
theorem ev_slFrom {xs : List α} {n : Nat} (ha : Ev ta σ H xs) (hb : Ev tb σ H n) : Ev (tSl (rSlA K) ta (tPart tb) tNoPart) σ H (xs.drop n) := fun H0 s0 Q q =>
  ha H0 s0 _ fun v H1 s1 ⟨a, vs, e, h, r⟩ => hb H1 (s0.trans s1) _ fun w H2 s2 r2 => by
    have hl := p_len r
    refine ⟨(n : Int), r2, a, vs, e, SqT.of (s2 _ _ h), fun hw => ?_, fun hw p np => ?_⟩
    · refine q _ _ (s1.trans s2) ⟨a, vs, rfl, s2 _ _ h, ?_⟩
      rw [HT.sIx_nat] at hw
      have e0 : xs.drop n = xs := by
        have h0 := hw.1
        cases n with
        | zero => rfl
        | succ n =>
          have : xs.length = 0 := by omega
          have e1 := List.eq_nil_of_length_eq_zero this
          rw [e1]; rfl
      rw [e0]
      exact pmono s2 r
    · refine q _ _ ((s1.trans s2).trans (same_new np)) ⟨p, _, rfl, upd_same, ?_⟩
      unfold cutV
      rw [HT.sIx_nat, HT.sIx_none]
      have e1 : (vs.drop (min n vs.length)).take (vs.length - min n vs.length) = vs.drop n := by
        rcases Nat.le_total n vs.length with h1 | h1
        · rw [Nat.min_eq_left h1, List.take_of_length_le (by rw [List.length_drop]; omega)]
        · rw [Nat.min_eq_right h1, List.drop_of_length_le h1, List.drop_of_length_le (Nat.le_refl _), List.take_nil]
      rw [e1]
      exact pmono (same_new np) (p_drop n (pmono s2 r))
theorem ev_slTo {xs : List α} {n : Nat} (ha : Ev ta σ H xs) (hb : Ev tb σ H n) : Ev (tSl (rSlA K) ta tNoPart (tPart tb)) σ H (xs.take n) := fun H0 s0 Q q =>
  ha H0 s0 _ fun v H1 s1 ⟨a, vs, e, h, r⟩ => hb H1 (s0.trans s1) _ fun w H2 s2 r2 => by
    have hl := p_len r
    refine ⟨(n : Int), r2, a, vs, e, SqT.of (s2 _ _ h), fun hw => ?_, fun hw p np => ?_⟩
    · refine q _ _ (s1.trans s2) ⟨a, vs, rfl, s2 _ _ h, ?_⟩
      rw [HT.sIx_nat] at hw
      rw [List.take_of_length_le (by have := hw.2; omega)]
      exact pmono s2 r
    · refine q _ _ ((s1.trans s2).trans (same_new np)) ⟨p, _, rfl, upd_same, ?_⟩
      unfold cutV
      rw [HT.sIx_nat, HT.sIx_none]
      have e1 : (vs.drop 0).take (min n vs.length - 0) = vs.take n := by
        rw [List.drop_zero, Nat.sub_zero]
        rcases Nat.le_total n vs.length with h1 | h1
        · rw [Nat.min_eq_left h1]
        · rw [Nat.min_eq_right h1, List.take_of_length_le h1, List.take_of_length_le (Nat.le_refl _)]
      rw [e1]
      exact pmono (same_new np) (p_take n (pmono s2 r))
theorem ev_catT {xs ys : List α} (ha : Ev ta σ H xs) (hb : Ev tb σ H ys) (hz : xs.length + ys.length ≤ 100000) : Ev (tOp (rCatA K) ta tb) σ H (xs ++ ys) := ev_op ha hb fun v w H1 _ ⟨a, vs, e, h, r⟩ ⟨b, ws, e2, h2, r2⟩ Q q => by
  refine ⟨a, b, vs, ws, e, e2, SqT.of h, SqT.of h2, by rw [p_len r, p_len r2]; exact sz hz, fun e0 => ?_, fun _ e0 => ?_, fun _ _ p np => ?_⟩
  · subst e0
    refine q _ _ (Same.refl _) ⟨b, ws, rfl, h2, ?_⟩
    have hp := p_app r r2
    exact hp
  · subst e0
    refine q _ _ (Same.refl _) ⟨a, vs, rfl, h, ?_⟩
    have hp := p_app r r2
    rw [List.append_nil] at hp
    exact hp
  · exact q _ _ (same_new np) ⟨p, _, rfl, upd_same, pmono (same_new np) (p_app r r2)⟩
theorem ev_catL {xs ys : Lst α} (ha : Ev ta σ H xs) (hb : Ev tb σ H ys) (hz : xs.items.length + ys.items.length ≤ 100000) : Ev (tOp rCat ta tb) σ H (Lst.mk (xs.items ++ ys.items)) := ev_op ha hb fun v w H1 _ ⟨a, vs, e, h, r⟩ ⟨b, ws, e2, h2, r2⟩ Q q =>
  ⟨a, b, vs, ws, e, e2, h, h2, by rw [p_len r, p_len r2]; exact sz hz, fun p np => q _ _ (same_new np) ⟨p, _, rfl, upd_same, pmono (same_new np) (p_app r r2)⟩⟩
theorem rep0_p {H : Hp} : ∀ n : Nat, Paired (Dat.rep H) (List.replicate n [V.int 0]).flatten (List.replicate n (0 : Nat))
  | 0 => .nil
  | n + 1 => .cons rfl (rep0_p n)
theorem ev_rep0 {n : Nat} (hb : Ev tb σ H n) (hz : n ≤ 1000) : Ev (tOp rRep (tLst (tCons (tC (.int 0)) tNil)) tb) σ H (Lst.mk (List.replicate n (0 : Nat))) := ev_op (x := Lst.mk [(0 : Nat)]) (ev_lst (eva_cons (ev_nat rfl) eva_nil) (by decide)) hb fun v w H1 _ ⟨a, vs, e, h, r⟩ r2 Q q => by
  rw [p_nats r] at h
  refine ⟨a, (n : Int), _, e, r2, h, by omega, by omega, ?_, fun p np => q _ _ (same_new np) ⟨p, _, rfl, upd_same, ?_⟩⟩
  · show 1 * (n : Int).toNat ≤ sizeLine
    exact Nat.le_trans (show 1 * (n : Int).toNat ≤ 1000 by omega) (by decide)
  · show Paired _ (List.replicate (n : Int).toNat [V.int 0]).flatten (List.replicate n 0)
    rw [Int.toNat_natCast]
    exact rep0_p n
/-! ### in -/
theorem inV_ints (x : Int) : ∀ xs : List Int, inV (.int x) (xs.map V.int) = decide (x ∈ xs)
  | [] => rfl
  | y :: r => by
    have ih := inV_ints x r
    unfold inV at ih ⊢
    rw [List.map_cons, List.any_cons, ih]
    have e : eqV (.int y) (.int x) = decide (y = x) := by
      show (y == x) = _
      by_cases h : y = x <;> simp [h]
    rw [e, ← Bool.decide_or]
    refine decide_eq_decide.mpr ?_
    rw [List.mem_cons]
    constructor
    · rintro (h | h)
      · exact .inl h.symm
      · exact .inr h
    · rintro (h | h)
      · exact .inl h.symm
      · exact .inr h
theorem mem_ofNat {x : Nat} {xs : List Nat} : ((x : Int) ∈ xs.map Int.ofNat) ↔ x ∈ xs := by
  constructor
  · intro h
    obtain ⟨y, hy, e⟩ := List.mem_map.mp h
    have : y = x := by
      have e' : (y : Int) = (x : Int) := e
      omega
    exact this ▸ hy
  · exact fun h => List.mem_map.mpr ⟨x, h, rfl⟩
theorem flat_ints : ∀ xs : List Int, (xs.map V.int).all flatV = true
  | [] => rfl
  | _ :: r => by rw [List.map_cons, List.all_cons, flat_ints r]; rfl
theorem ev_inT {x : Nat} {xs : List Nat} (ha : Ev ta σ H x) (hb : Ev tb σ H xs) : Ev (tOp (rIn K false) ta tb) σ H (decide (x ∈ xs)) := ev_op ha hb fun v w H1 _ r1 ⟨a, vs, e, h, r⟩ Q q => by
  cases (show v = .int x from r1)
  rw [p_nats r] at h
  refine ⟨a, _, e, .inr (SqT.of h), rfl, flat_ints _, q _ _ (Same.refl _) ?_⟩
  show V.bl (inV _ _) = V.bl _
  rw [inV_ints, decide_eq_decide.mpr mem_ofNat]
theorem ev_inL {x : Nat} {xs : Lst Nat} (ha : Ev ta σ H x) (hb : Ev tb σ H xs) : Ev (tOp (rIn K false) ta tb) σ H (decide (x ∈ xs.items)) := ev_op ha hb fun v w H1 _ r1 ⟨a, vs, e, h, r⟩ Q q => by
  cases (show v = .int x from r1)
  rw [p_nats r] at h
  refine ⟨a, _, e, .inl (SqL.of h), rfl, flat_ints _, q _ _ (Same.refl _) ?_⟩
  show V.bl (inV _ _) = V.bl _
  rw [inV_ints, decide_eq_decide.mpr mem_ofNat]
theorem ev_notInT {x : Nat} {xs : List Nat} (ha : Ev ta σ H x) (hb : Ev tb σ H xs) : Ev (tOp (rIn K true) ta tb) σ H (!decide (x ∈ xs)) := ev_op ha hb fun v w H1 _ r1 ⟨a, vs, e, h, r⟩ Q q => by
  cases (show v = .int x from r1)
  rw [p_nats r] at h
  refine ⟨a, _, e, .inr (SqT.of h), rfl, flat_ints _, q _ _ (Same.refl _) ?_⟩
  show V.bl (!inV _ _) = V.bl _
  rw [inV_ints, decide_eq_decide.mpr mem_ofNat]
/-! ### lists of numbers against [] -/
theorem dpInts {H1 : Hp} : ∀ ns : List Int, DpAll K H1 (ns.map V.int) (ns.map PyData.int)
  | [] => .nil
  | n :: r => .cons (.int n) (dpInts r)
theorem eqv_nil : ∀ ns : List Int, PyData.eqv (.list (ns.map PyData.int)) (.list []) = decide (ns = [])
  | [] => by simp [PyData.eqv, PyData.eqvAll]
  | n :: r => by simp [PyData.eqv, PyData.eqvAll]
theorem dp_nats {H1 : Hp} {a : Addr} {vs : List V} {xs : List Nat} (h : H1 a = some (.lst vs)) (r : Paired (Dat.rep H1) vs xs) : Dp K H1 (.ref a) (.list ((xs.map Int.ofNat).map PyData.int)) := by
  rw [p_nats r] at h
  exact .lst (SqL.of h) (dpInts _)
theorem map_nil_dec (xs : List Nat) : decide (xs.map Int.ofNat = []) = decide (xs = []) := by cases xs <;> rfl
theorem ev_eqNil {xs : Lst Nat} (ha : Ev ta σ H xs) : Ev (tOp (rEqD K) ta (tLst tNil)) σ H (decide (xs.items = [])) := ev_op (y := Lst.mk ([] : List Nat)) ha (ev_lst eva_nil (by decide)) fun v w H1 _ ⟨a, vs, e, h, r⟩ ⟨b, ws, e2, h2, r2⟩ Q q => by
  subst e e2
  refine ⟨_, _, dp_nats h r, dp_nats h2 r2, PySem.W.ke_shaped_ints _, PySem.W.ke_shaped_ints _, q _ _ (Same.refl _) ?_⟩
  show V.bl _ = V.bl _
  rw [← map_nil_dec]
  exact congrArg V.bl (eqv_nil _)
theorem ev_neNil {xs : Lst Nat} (ha : Ev ta σ H xs) : Ev (tOp (rNeD K) ta (tLst tNil)) σ H (!decide (xs.items = [])) := ev_op (y := Lst.mk ([] : List Nat)) ha (ev_lst eva_nil (by decide)) fun v w H1 _ ⟨a, vs, e, h, r⟩ ⟨b, ws, e2, h2, r2⟩ Q q => by
  subst e e2
  refine ⟨_, _, dp_nats h r, dp_nats h2 r2, PySem.W.ke_shaped_ints _, PySem.W.ke_shaped_ints _, q _ _ (Same.refl _) ?_⟩
  show V.bl _ = V.bl _
  rw [← map_nil_dec]
  exact congrArg (fun z => V.bl (!z)) (eqv_nil _)
/-! ### isinstance -/
class Typ (α : Type) [Dat α] where
  ty : String
  is : ∀ {K : PySem.W.Frag} {H : Hp} {v : V} {x : α}, Dat.rep H v x → TyX K H v (.type ty)
instance : Typ Int := ⟨"int", fun {K H v x} r => by cases (show v = .int x from r); exact .base (.int _)⟩
instance : Typ Nat := ⟨"int", fun {K H v x} r => by cases (show v = .int x from r); exact .base (.int _)⟩
instance : Typ Bool := ⟨"bool", fun {K H v x} r => by cases (show v = .bl x from r); exact .base (.bl _)⟩
instance {α : Type} [Dat α] : Typ (List α) := ⟨"tuple", fun {K H v x} ⟨a, vs, e, h, r⟩ => by subst e; exact .base (.tup h)⟩
instance {α : Type} [Dat α] : Typ (Lst α) := ⟨"list", fun {K H v x} ⟨a, vs, e, h, r⟩ => by subst e; exact .base (.lst h)⟩
instance {α β : Type} [Dat α] [Dat β] : Typ (α × β) := ⟨"tuple", fun {K H v x} ⟨a, _, _, e, h, r⟩ => by subst e; exact .base (.tup h)⟩
theorem ev_isi [Typ α] {x : α} {T : String} {b : Bool} (ha : Ev ta σ H x) (hk : kitB (Typ.ty α) T = some b) : Ev (tCB (rIsi K) (tCons ta (tCons (tC (.ty T)) tNil))) σ H b := fun H0 s0 Q q => ha H0 s0 _ fun v H1 s1 r =>
  ⟨v, .ty T, _, _, b, rfl, .ty T, Typ.is r, kit_ty hk, q _ _ s1 rfl⟩
theorem ev_isi2 [Typ α] {x : α} {T U : String} {b c : Bool} (ha : Ev ta σ H x) (hk : kitB (Typ.ty α) T = some b) (hk2 : kitB (Typ.ty α) U = some c) : Ev (tCB (rIsiT K) (tCons ta (tCons (tTup (tCons (tC (.ty T)) (tCons (tC (.ty U)) tNil))) tNil))) σ H (b || c) := fun H0 s0 Q q => ha H0 s0 _ fun v H1 s1 r =>
  ⟨by show 2 ≤ sizeLine; decide, fun p np => by
    refine ⟨v, p, [.ty T, .ty U], _, [.type T, .type U], b || c, rfl, upd_same, .cons (.ty T) (.cons (.ty U) .nil), Typ.is (Dat.mono (same_new np) r), ?_, q _ _ (s1.trans (same_new np)) rfl⟩
    refine kitAny_cons (kit_ty hk) (fun e => ?_) (fun e => by rw [e]; rfl)
    subst e
    exact kitAny_cons (kit_ty hk2) (fun e => by subst e; exact kitAny_nil) (fun e => by rw [e]; rfl)⟩
end
end SB
namespace SB
open PySem PySem.Spec PyProof.Rows L2 RZ StX
/-- all but what stands at M is as it was -/
def SameB (M : Addr → Prop) (H H' : Hp) : Prop := ∀ a o, ¬ M a → H a = some o → H' a = some o
theorem SameB.refl {M : Addr → Prop} (H : Hp) : SameB M H H := fun _ _ _ h => h
theorem SameB.trans {M : Addr → Prop} {H H1 H2 : Hp} (a : SameB M H H1) (b : SameB M H1 H2) : SameB M H H2 := fun x o n h => b x o n (a x o n h)
theorem same_b {M : Addr → Prop} {H H' : Hp} (s : Same H H') : SameB M H H' := fun a o _ h => s a o h
theorem SameB.same {H H' : Hp} (s : SameB (fun _ => False) H H') : Same H H' := fun a o h => s a o (fun z => z) h
theorem SameB.put {M : Addr → Prop} {H H' : Hp} {a : Addr} {o : HO} (s : SameB M H H') (h : M a) : SameB M H (upd H' a o) := fun b u n e => by
  have nb : b ≠ a := fun z => n (z ▸ h)
  rw [upd_ne nb]
  exact s b u n e
abbrev M0 : Addr → Prop := fun _ => False
/-- data of tuples alone -/
def TupX (H H' : Hp) : Prop := ∀ a vs, H a = some (.tup vs) → H' a = some (.tup vs)
class DatT (α : Type) [Dat α] : Prop where
  tx : ∀ {H H' : Hp} {v : V} {x : α}, TupX H H' → Dat.rep H v x → Dat.rep H' v x
instance : DatT Int := ⟨fun _ h => h⟩
instance : DatT Nat := ⟨fun _ h => h⟩
instance : DatT Bool := ⟨fun _ h => h⟩
instance : DatT Unit := ⟨fun _ h => h⟩
instance : DatT Str := ⟨fun _ h => h⟩
theorem ptx {α : Type} [Dat α] [DatT α] {H H' : Hp} (s : TupX H H') : ∀ {vs : List V} {xs : List α}, Paired (Dat.rep H) vs xs → Paired (Dat.rep H') vs xs
  | _, _, .nil => .nil
  | _, _, .cons a r => .cons (DatT.tx s a) (ptx s r)
instance {α β : Type} [Dat α] [Dat β] [DatT α] [DatT β] : DatT (α × β) := ⟨fun s ⟨a, x, y, e, h, r1, r2⟩ => ⟨a, x, y, e, s _ _ h, DatT.tx s r1, DatT.tx s r2⟩⟩
instance {α : Type} [Dat α] [DatT α] : DatT (List α) := ⟨fun s ⟨a, vs, e, h, r⟩ => ⟨a, vs, e, s _ _ h, ptx s r⟩⟩
/-- M holds lists alone -/
def MOk (M : Addr → Prop) (H : Hp) : Prop := ∀ a, M a → ∃ l, H a = some (.lst l)
theorem m0_ok {H : Hp} : MOk M0 H := fun _ z => z.elim
theorem MOk.nt {M : Addr → Prop} {H H1 : Hp} (m : MOk M H) (s : Same H H1) {a : Addr} {vs : List V} (h : H1 a = some (.tup vs)) : ¬ M a := fun z => by
  obtain ⟨l, hl⟩ := m a z
  have := s _ _ hl
  rw [h] at this
  cases this
theorem MOk.tx {M : Addr → Prop} {H H1 H' : Hp} (m : MOk M H) (s : Same H H1) (b : SameB M H1 H') : TupX H1 H' := fun a vs h => b a _ (m.nt s h) h
theorem Same.tx {H H' : Hp} (s : Same H H') : TupX H H' := fun a vs h => s a _ h
/-- what is walked: these things, one by one, while all but M stands -/
def SrcOk {α : Type} [Dat α] (M : Addr → Prop) (wi : TI) (σ : L2.St) (H : Hp) (xs : List α) : Prop := ∀ H0, Same H H0 → ∀ R : It → Hp → Prop,
  (∀ J H1, Same H0 H1 → (∃ G Y, Walk J xs.length G Y ∧ (∀ H', SameB M H1 H' → G H') ∧ ∀ i x, xs[i]? = some x → ∀ H' v H'', SameB M H1 H' → Y i H' v H'' → Same H' H'' ∧ Dat.rep H'' v x) → R J H1) → wi σ H0 R
/-- a target -/
def TgOk {α : Type} [Dat α] (g : TG) (σ0 : L2.St) (R : Hp → L2.St → α → Prop) : Prop := ∀ v H1 x, Dat.rep H1 v x → ∀ K' : L2.St → Hp → Prop, (∀ σ2, R H1 σ2 x → K' σ2 H1) → g v σ0 H1 K'
section
variable {α β γ : Type} [Dat α] [Dat β] [Dat γ] [DatT α] [DatT β] [DatT γ] {K : PySem.W.Frag} {σ : L2.St} {H : Hp} {ta tb tc te tl : TE} {tt u : TT} {M : Addr → Prop}
theorem src_T {xs : List α} (hl : Ev tl σ H xs) (hM : MOk M H) : SrcOk M (iTup K tl) σ H xs := fun H0 s0 R k => hl H0 s0 _ fun v H1 s1 ⟨a, vs, e, h, r⟩ => by
  refine ⟨a, e, ⟨vs, SqT.of h⟩, k _ H1 s1 ⟨_, _, (p_len r) ▸ walk_tup (K := K) (a := a) (xs := vs), fun H' s => SqT.of (s _ _ (hM.nt (s0.trans s1) h) h), fun i x hx H' v H'' s hy => ?_⟩⟩
  obtain ⟨e1, e2⟩ := hy
  subst e1
  obtain ⟨u, hu, ru⟩ := p_get r hx
  rw [hu] at e2
  cases e2
  exact ⟨Same.refl _, DatT.tx (hM.tx (s0.trans s1) s) ru⟩
/-- a list that was just made (or stands at a name): none of M -/
theorem src_L {xs : Lst α} (hl : ∀ H1, Same H H1 → ∀ Q : VK, (∀ a vs H2, Same H1 H2 → H2 a = some (.lst vs) → Paired (Dat.rep H2) vs xs.items → ¬ M a → Q (.ref a) H2) → tl σ H1 Q) (hM : MOk M H) : SrcOk M (iList K tl) σ H xs.items := fun H0 s0 R k => hl H0 s0 _ fun a vs H1 s1 h r nM => by
  refine ⟨a, rfl, ⟨vs, SqL.of h⟩, k _ H1 s1 ⟨_, _, (p_len r) ▸ walk_list (K := K) (a := a) (xs := vs), fun H' s => SqL.of (s _ _ nM h), fun i x hx H' v H'' s hy => ?_⟩⟩
  obtain ⟨e1, e2⟩ := hy
  subst e1
  obtain ⟨u, hu, ru⟩ := p_get r hx
  rw [hu] at e2
  cases e2
  exact ⟨Same.refl _, DatT.tx (hM.tx (s0.trans s1) s) ru⟩
theorem src_L0 {xs : Lst α} (hl : Ev tl σ H xs) : SrcOk M0 (iList K tl) σ H xs.items := src_L (fun H1 s Q q => hl H1 s Q fun v H2 s2 ⟨a, vs, e, h, r⟩ => by subst e; exact q a vs H2 s2 h r fun z => z) m0_ok
theorem src_Lv {xs : List α} {j : Nat} {a : Addr} {vs : List V} (hj : σ[j]? = some (some (.ref a))) (h : H a = some (.lst vs)) (r : Paired (Dat.rep H) vs xs) (nM : ¬ M a) (hM : MOk M H) : SrcOk M (iList K (tVar j)) σ H xs :=
  src_L (xs := Lst.mk xs) (fun H1 s Q q => ⟨_, hj, q a vs H1 (Same.refl _) (s _ _ h) (pmono s r) nM⟩) hM
theorem src_R1 {n : Nat} (ha : Ev ta σ H n) (hz : n ≤ 100000) : SrcOk M (iRng1 (tCons ta tNil)) σ H (List.range n) := fun H0 s0 R k => ha H0 s0 _ fun v H1 s1 r => by
  have w : Walk (Itr 0 (n : Int).toNat) (List.range n).length (fun _ => True) (YFn fun i => .int ((0 : Int) + i)) := by
    rw [List.length_range, Int.toNat_natCast]
    exact walk_range
  refine ⟨(n : Int), by rw [show v = _ from r], by omega, by omega, k _ H1 s1 ⟨_, _, w, fun H' _ => trivial, fun i x hx H' v H'' s hy => ?_⟩⟩
  · obtain ⟨e1, e2⟩ := hy
    subst e1
    refine ⟨Same.refl _, ?_⟩
    rw [e2]
    obtain ⟨hi, e⟩ := List.getElem?_eq_some_iff.mp hx
    rw [List.getElem_range] at e
    subst e
    show V.int _ = V.int _
    rw [Int.zero_add]
theorem src_R2 {a b : Nat} (ha : Ev ta σ H a) (hb : Ev tb σ H b) (h1 : a ≤ 100000) (h2 : b ≤ 100000) : SrcOk M (iRng2 (tCons ta (tCons tb tNil))) σ H (List.range' a (b - a)) := fun H0 s0 R k => ha H0 s0 _ fun v H1 s1 r => hb H1 (s0.trans s1) _ fun w H2 s2 r2 => by
  have wk : Walk (Itr (a : Int) ((b : Int) - (a : Int)).toNat) (List.range' a (b - a)).length (fun _ => True) (YFn fun i => .int ((a : Int) + i)) := by
    rw [List.length_range', show ((b : Int) - (a : Int)).toNat = b - a by omega]
    exact walk_range
  show ∃ i j : Int, [v, w] = [V.int i, V.int j] ∧ _
  refine ⟨(a : Int), (b : Int), by rw [show v = _ from r, show w = _ from r2], ⟨by omega, by omega, by omega, by omega⟩, k _ H2 (s1.trans s2) ⟨_, _, wk, fun H' _ => trivial, fun i x hx H' v H'' s hy => ?_⟩⟩
  · obtain ⟨e1, e2⟩ := hy
    subst e1
    refine ⟨Same.refl _, ?_⟩
    rw [e2]
    obtain ⟨hi, e⟩ := List.getElem?_eq_some_iff.mp hx
    rw [List.getElem_range'] at e
    subst e
    show V.int _ = V.int _
    congr 1
    omega
theorem zip_get {xs : List α} {ys : List β} {i : Nat} {x : α × β} (h : (xs.zip ys)[i]? = some x) : xs[i]? = some x.1 ∧ ys[i]? = some x.2 := by
  rw [List.getElem?_zip_eq_some] at h
  exact h
theorem src_ZL {xs : Lst α} {ys : Lst β} (ha : Ev ta σ H xs) (hb : Ev tb σ H ys) : SrcOk M0 (iZipA K (tCons ta (tCons tb tNil))) σ H (xs.items.zip ys.items) := fun H0 s0 R k => ha H0 s0 _ fun v H1 s1 ⟨a, vs, e, h, r⟩ => hb H1 (s0.trans s1) _ fun w H2 s2 ⟨b, ws, e2, h2, r2⟩ => by
  subst e e2
  refine ⟨a, b, vs, ws, rfl, .inl ⟨SqL.of (s2 _ _ h), SqL.of h2, k _ H2 (s1.trans s2) ⟨_, _, walk_zip (K := K) (a := a) (b := b) (xs := vs) (ys := ws) (by rw [List.length_zip, p_len r, p_len r2]), fun H' s => ⟨SqL.of (s _ _ (fun z => z) (s2 _ _ h)), SqL.of (s _ _ (fun z => z) h2)⟩, fun i x hx H' v H'' s hy => ?_⟩⟩⟩
  obtain ⟨T, y, z, e1, nT, e3, e4, e5⟩ := hy
  subst e1 e3
  obtain ⟨g1, g2⟩ := zip_get hx
  obtain ⟨u, hu, ru⟩ := p_get r g1
  obtain ⟨u2, hu2, ru2⟩ := p_get r2 g2
  have eu : u = y := Option.some.inj (hu.symm.trans e4)
  have eu2 : u2 = z := Option.some.inj (hu2.symm.trans e5)
  subst eu eu2
  exact ⟨same_new nT, ⟨T, u, u2, rfl, upd_same, Dat.mono ((s2.trans s.same).trans (same_new nT)) ru, Dat.mono (s.same.trans (same_new nT)) ru2⟩⟩
theorem walk_zipT {a b : Addr} {xs ys : List V} {n : Nat} (hn : n = min xs.length ys.length) : Walk (ItzT K a b) n (fun H => SqT K H a xs ∧ SqT K H b ys) (YPair (fun i => xs[i]?) (fun i => ys[i]?)) := by
  subst hn
  refine ⟨fun i _ hi q => ?_, fun _ q => ⟨xs, ys, q.1, q.2, by omega⟩, fun i H v H' _ q y => ?_⟩
  · have g1 : i < xs.length := by omega
    have g2 : i < ys.length := by omega
    exact ⟨xs, ys, xs[i], ys[i], q.1, q.2, List.getElem?_eq_getElem g1, List.getElem?_eq_getElem g2⟩
  · obtain ⟨T, x, z, k1, k2, k3, k4, k5⟩ := y
    exact ⟨T, x, z, k1, k2, k3, k4 xs q.1, k5 ys q.2⟩
theorem src_ZT {xs : List α} {ys : List β} (ha : Ev ta σ H xs) (hb : Ev tb σ H ys) : SrcOk M0 (iZipA K (tCons ta (tCons tb tNil))) σ H (xs.zip ys) := fun H0 s0 R k => ha H0 s0 _ fun v H1 s1 ⟨a, vs, e, h, r⟩ => hb H1 (s0.trans s1) _ fun w H2 s2 ⟨b, ws, e2, h2, r2⟩ => by
  subst e e2
  refine ⟨a, b, vs, ws, rfl, .inr ⟨SqT.of (s2 _ _ h), SqT.of h2, k _ H2 (s1.trans s2) ⟨_, _, walk_zipT (K := K) (a := a) (b := b) (xs := vs) (ys := ws) (by rw [List.length_zip, p_len r, p_len r2]), fun H' s => ⟨SqT.of (s _ _ (fun z => z) (s2 _ _ h)), SqT.of (s _ _ (fun z => z) h2)⟩, fun i x hx H' v H'' s hy => ?_⟩⟩⟩
  obtain ⟨T, y, z, e1, nT, e3, e4, e5⟩ := hy
  subst e1 e3
  obtain ⟨g1, g2⟩ := zip_get hx
  obtain ⟨u, hu, ru⟩ := p_get r g1
  obtain ⟨u2, hu2, ru2⟩ := p_get r2 g2
  have eu : u = y := Option.some.inj (hu.symm.trans e4)
  have eu2 : u2 = z := Option.some.inj (hu2.symm.trans e5)
  subst eu eu2
  exact ⟨same_new nT, ⟨T, u, u2, rfl, upd_same, Dat.mono ((s2.trans s.same).trans (same_new nT)) ru, Dat.mono (s.same.trans (same_new nT)) ru2⟩⟩
/-- enumerate(t) -/
def enumD (xs : List α) : List (Nat × α) := (List.range xs.length).zip xs
theorem enumD_len (xs : List α) : (enumD xs).length = xs.length := by unfold enumD; rw [List.length_zip, List.length_range, Nat.min_self]
theorem enumD_get {xs : List α} {i : Nat} {x : Nat × α} (h : (enumD xs)[i]? = some x) : x.1 = i ∧ xs[i]? = some x.2 := by
  obtain ⟨g1, g2⟩ := zip_get (α := Nat) h
  obtain ⟨hi, e⟩ := List.getElem?_eq_some_iff.mp g1
  rw [List.getElem_range] at e
  exact ⟨e.symm, g2⟩
theorem walk_enumT {a : Addr} {xs : List V} : Walk (IteT K a) xs.length (fun H => SqT K H a xs) (YPair (fun i => some (.int (i : Nat))) (fun i => xs[i]?)) := by
  refine ⟨fun i _ hi q => ⟨xs, xs[i], q, List.getElem?_eq_getElem hi⟩, fun _ q => ⟨xs, q, Nat.le_refl _⟩, fun i H v H' _ q y => ?_⟩
  obtain ⟨T, x, k1, k2, k3, k4⟩ := y
  exact ⟨T, .int (i : Nat), x, k1, k2, k3, rfl, k4 xs q⟩
theorem src_E {xs : List α} (ha : Ev ta σ H xs) (hM : MOk M H) : SrcOk M (iEnumT K (tCons ta tNil)) σ H (enumD xs) := fun H0 s0 R k => ha H0 s0 _ fun v H1 s1 ⟨a, vs, e, h, r⟩ => by
  subst e
  refine ⟨a, vs, rfl, SqT.of h, k _ H1 s1 ⟨_, _, by rw [enumD_len, ← p_len r]; exact walk_enumT (K := K) (a := a) (xs := vs), fun H' s => SqT.of (s _ _ (hM.nt (s0.trans s1) h) h), fun i x hx H' v H'' s hy => ?_⟩⟩
  obtain ⟨T, y, z, e1, nT, e3, e4, e5⟩ := hy
  subst e1 e3
  obtain ⟨g1, g2⟩ := enumD_get hx
  obtain ⟨u, hu, ru⟩ := p_get r g2
  have eu : u = z := Option.some.inj (hu.symm.trans e5)
  subst eu
  have ey : y = .int (i : Nat) := (Option.some.inj e4).symm
  subst ey
  refine ⟨same_new nT, ⟨T, _, u, rfl, upd_same, ?_, Dat.mono (same_new nT) (DatT.tx (hM.tx (s0.trans s1) s) ru)⟩⟩
  show V.int _ = V.int _
  rw [g1]
/-! ### targets -/
theorem tg_name {j : Nat} {σ0 : L2.St} : TgOk (α := α) (gName j) σ0 (fun H σ2 x => ∃ v, σ2 = σ0.set j (some v) ∧ Dat.rep H v x) := fun v H1 x r K' k => k _ ⟨v, rfl, r⟩
theorem tg_two {i j : Nat} {σ0 : L2.St} : TgOk (α := α × β) (gTup K 2 (gCons (gName i) (gCons (gName j) gNil))) σ0 (fun H σ2 x => ∃ v w, σ2 = (σ0.set i (some v)).set j (some w) ∧ Dat.rep H v x.1 ∧ Dat.rep H w x.2) :=
  fun v H1 x ⟨a, y, z, e, h, r1, r2⟩ K' k => ⟨a, [y, z], e, SqT.of h, rfl, y, [z], rfl, z, [], rfl, rfl, k _ ⟨y, z, rfl, r1, r2⟩⟩
theorem tg_three {i j l : Nat} {σ0 : L2.St} : TgOk (α := α × β × γ) (gTup K 2 (gCons (gName i) (gCons (gTup K 2 (gCons (gName j) (gCons (gName l) gNil))) gNil))) σ0
    (fun H σ2 x => ∃ v w z, σ2 = ((σ0.set i (some v)).set j (some w)).set l (some z) ∧ Dat.rep H v x.1 ∧ Dat.rep H w x.2.1 ∧ Dat.rep H z x.2.2) :=
  fun v H1 x ⟨a, y, z, e, h, r1, b, y2, z2, e2, h2, r2, r3⟩ K' k => ⟨a, [y, z], e, SqT.of h, rfl, y, [z], rfl, z, [], rfl, ⟨b, [y2, z2], e2, SqT.of h2, rfl, y2, [z2], rfl, z2, [], rfl, rfl, rfl, k _ ⟨y, y2, z2, rfl, r1, r2, r3⟩⟩⟩
/-! ### a comprehension -/
theorem take_snoc {xs : List α} {i : Nat} {x : α} (h : xs[i]? = some x) : xs.take (i + 1) = xs.take i ++ [x] := by rw [List.take_add_one, h]; rfl
theorem tup_upd {H : Hp} {D : Addr} {l : List V} {o : HO} (h : H D = some (.lst l)) : TupX H (upd H D o) := fun a vs e => by
  rw [upd_ne (ne_of e h (by intro z; cases z))]
  exact e
theorem ev_lc {δ : Type} [Dat δ] [DatT δ] {wi : TI} {g : TG} {vs : List Nat} {xs : List γ} {R : Hp → L2.St → γ → Prop} (p : γ → Bool) (f : γ → δ) (hs : SrcOk M0 wi σ H xs) (ht : TgOk g (wipe σ vs) R) (hz : xs.length ≤ 50000)
    (hw : ∀ H1 x σ2, R H1 σ2 x → wipe σ2 vs = wipe σ vs) (htt : ∀ x ∈ xs, ∀ σ2 H1, Same H H1 → R H1 σ2 x → EvT tt σ2 H1 (p x)) (he : ∀ x ∈ xs, p x = true → ∀ σ2 H1, Same H H1 → R H1 σ2 x → Ev te σ2 H1 (f x))
    (hmono : ∀ H1 H2 σ2 x, Same H1 H2 → R H1 σ2 x → R H2 σ2 x) : Ev (tLc wi g tt te vs) σ H (Lst.mk ((xs.filter p).map f)) := fun H0 s0 Q q => hs H0 s0 _ fun J H1 s1 ⟨G, Y, w, hG, hY⟩ D nD => by
  refine lc_it w (fun i H' => H1 D = none ∧ Same H1 H' ∧ ∃ acc, H' D = some (.lst acc) ∧ Paired (Dat.rep H') acc (((xs.take i).filter p).map f)) ⟨nD, same_new nD, [], upd_same, .nil⟩ (fun i H' _ h => hG H' (same_b h.2.1)) (fun i v H' H'' hi h hy => ?_) (fun H' h => ?_)
  · obtain ⟨n1, sH, acc, hD, ra⟩ := h
    have hx : xs[i]? = some xs[i] := List.getElem?_eq_getElem hi
    obtain ⟨sY, rv⟩ := hY i _ hx H' v H'' (same_b sH) hy
    refine ht v H'' _ rv _ fun σ2 hR => ⟨hw _ _ _ hR, ?_⟩
    have sT : Same H H'' := ((s0.trans s1).trans sH).trans sY
    refine htt _ (List.getElem_mem hi) σ2 H'' sT hR H'' (Same.refl _) _ fun H3 s3 => ?_
    rw [take_snoc hx, List.filter_append, List.map_append]
    cases hp : p xs[i] with
    | true =>
      refine iteT ?_
      refine he _ (List.getElem_mem hi) hp σ2 H3 (sT.trans s3) (hmono _ _ _ _ s3 hR) H3 (Same.refl _) _ fun y H4 s4 ry => ?_
      have sD := (sY.trans s3).trans s4
      refine ⟨acc, sD _ _ hD, ?_, n1, same_mut (sH.trans sD) n1, acc ++ [y], upd_same, ?_⟩
      · rw [p_len ra, List.length_map]
        have l1 := List.length_filter_le p (xs.take i)
        rw [List.length_take] at l1
        exact szl (by omega)
      · have e1 : List.filter p [xs[i]] = [xs[i]] := by rw [List.filter_cons, if_pos hp]; rfl
        rw [e1]
        have tX := tup_upd (o := .lst (acc ++ [y])) (sD _ _ hD)
        exact p_app (ptx tX (pmono sD ra)) (.cons (DatT.tx tX ry) .nil)
    | false =>
      refine iteF ?_
      have e1 : List.filter p [xs[i]] = [] := by rw [List.filter_cons, if_neg (by rw [hp]; decide)]; rfl
      rw [e1, List.map_nil, List.append_nil]
      exact ⟨n1, (sH.trans sY).trans s3, acc, s3 _ _ (sY _ _ hD), pmono (sY.trans s3) ra⟩
  · obtain ⟨n1, sH, acc, hD, ra⟩ := h
    rw [List.take_length] at ra
    exact q _ _ (s1.trans sH) ⟨D, acc, rfl, hD, ra⟩
end
end SB
namespace SB
open PySem PySem.Spec PyProof.Rows L2 RZ StX
section
variable {α β γ : Type} [Dat α] [Dat β] [Dat γ] {K : PySem.W.Frag} {σ : L2.St} {H : Hp} {ta tb tc te tl : TE} {tt : TT} {tu tw tz : TS} {D : Ends} {M : Addr → Prop}
theorem s_set {i : Nat} {x : α} (h : Ev te σ H x) (k : ∀ v H1, Same H H1 → Dat.rep H1 v x → D.nx (σ.set i (some v)) H1) : tAsg te (gName i) D σ H := h H (Same.refl H) _ fun v H1 s r => k v H1 s r
theorem q_set {i : Nat} {x : α} (h : Ev te σ H x) (k : ∀ v H1, Same H H1 → Dat.rep H1 v x → tz D (σ.set i (some v)) H1) : tSeq (tAsg te (gName i)) tz D σ H := h H (Same.refl H) _ fun v H1 s r => k v H1 s r
theorem q_set2 {i j : Nat} {x : α} {y : β} (h : Ev te σ H (x, y)) (k : ∀ v w H1, Same H H1 → Dat.rep H1 v x → Dat.rep H1 w y → tz D ((σ.set i (some v)).set j (some w)) H1) : tSeq (tAsg te (gTup K 2 (gCons (gName i) (gCons (gName j) gNil)))) tz D σ H :=
  h H (Same.refl H) _ fun v H1 s ⟨a, u, w, e, ha, r1, r2⟩ => ⟨a, [u, w], e, SqT.of ha, rfl, u, [w], rfl, w, [], rfl, rfl, k u w H1 s r1 r2⟩
theorem q_set3 {i j l : Nat} {x : α} {y : β} {z : γ} (ha : Ev ta σ H x) (hb : Ev tb σ H y) (hc : Ev tc σ H z) (k : ∀ u v w H1, Same H H1 → Dat.rep H1 u x → Dat.rep H1 v y → Dat.rep H1 w z → tz D (((σ.set i (some u)).set j (some v)).set l (some w)) H1) :
    tSeq (tAsg (tTup (tCons ta (tCons tb (tCons tc tNil)))) (gTup K 3 (gCons (gName i) (gCons (gName j) (gCons (gName l) gNil))))) tz D σ H :=
  ha H (Same.refl H) _ fun u H1 s1 r1 => hb H1 s1 _ fun v H2 s2 r2 => hc H2 (s1.trans s2) _ fun w H3 s3 r3 => ⟨by show 3 ≤ sizeLine; decide, fun p np =>
    ⟨p, [u, v, w], rfl, SqT.of upd_same, rfl, u, [v, w], rfl, v, [w], rfl, w, [], rfl, rfl, k u v w _ (((s1.trans s2).trans s3).trans (same_new np)) (Dat.mono (same_new np) (Dat.mono s3 (Dat.mono s2 r1))) (Dat.mono (same_new np) (Dat.mono s3 r2)) (Dat.mono (same_new np) r3)⟩⟩
theorem q_par {i j : Nat} {x : α} {y : β} (ha : Ev ta σ H x) (hb : Ev tb σ H y) (k : ∀ v w H1, Same H H1 → Dat.rep H1 v x → Dat.rep H1 w y → tz D ((σ.set i (some v)).set j (some w)) H1) : tSeq (tPar i j (tCons ta (tCons tb tNil))) tz D σ H :=
  ha H (Same.refl H) _ fun v H1 s1 r1 => hb H1 s1 _ fun w H2 s2 r2 => ⟨v, w, rfl, k v w H2 (s1.trans s2) (Dat.mono s2 r1) r2⟩
theorem q_par3 {i j l : Nat} {x : α} {y : β} {z : γ} (ha : Ev ta σ H x) (hb : Ev tb σ H y) (hc : Ev tc σ H z) (k : ∀ u v w H1, Same H H1 → Dat.rep H1 u x → Dat.rep H1 v y → Dat.rep H1 w z → tz D (((σ.set i (some u)).set j (some v)).set l (some w)) H1) : tSeq (tPar3 i j l (tCons ta (tCons tb (tCons tc tNil)))) tz D σ H :=
  ha H (Same.refl H) _ fun u H1 s1 r1 => hb H1 s1 _ fun v H2 s2 r2 => hc H2 (s1.trans s2) _ fun w H3 s3 r3 => ⟨u, v, w, rfl, k u v w H3 ((s1.trans s2).trans s3) (Dat.mono s3 (Dat.mono s2 r1)) (Dat.mono s3 r2) r3⟩
theorem s_if {b : Bool} (h : EvT tt σ H b) (h1 : b = true → ∀ H1, Same H H1 → tu D σ H1) (h2 : b = false → ∀ H1, Same H H1 → tw D σ H1) : tIfS tt tu tw D σ H := h H (Same.refl H) _ fun H1 s => by
  cases b with
  | true => exact iteT (h1 rfl H1 s)
  | false => exact iteF (h2 rfl H1 s)
theorem q_if {b : Bool} (h : EvT tt σ H b) (h1 : b = true → ∀ H1, Same H H1 → tu { D with nx := tz D } σ H1) (h2 : b = false → ∀ H1, Same H H1 → tw { D with nx := tz D } σ H1) : tSeq (tIfS tt tu tw) tz D σ H := s_if (D := { D with nx := tz D }) h h1 h2
theorem q_ifn {b : Bool} (h : EvT tt σ H b) (h1 : b = true → ∀ H1, Same H H1 → tu { D with nx := tz D } σ H1) (h2 : b = false → ∀ H1, Same H H1 → tz D σ H1) : tSeq (tIfS tt tu tNext) tz D σ H := s_if (D := { D with nx := tz D }) h h1 h2
theorem q_pass (h : EvT tt σ H false) (k : ∀ H1, Same H H1 → tz D σ H1) : tSeq (tIfS tt tu tNext) tz D σ H := q_if h (fun e => by cases e) fun _ H1 s => k H1 s
theorem s_pass (h : EvT tt σ H false) (k : ∀ H1, Same H H1 → D.nx σ H1) : tIfS tt tu tNext D σ H := s_if h (fun e => by cases e) fun _ H1 s => k H1 s
theorem s_ret {x : α} (h : Ev te σ H x) (k : ∀ v H1, Same H H1 → Dat.rep H1 v x → D.rt v H1) : tRet te D σ H := h H (Same.refl H) _ fun v H1 s r => k v H1 s r
theorem s_retq {x : α} (h : Ev te σ H x) (k : ∀ v H1, Same H H1 → Dat.rep H1 v x → D.rt v H1) : tSeq (tRet te) tz D σ H := h H (Same.refl H) _ fun v H1 s r => k v H1 s r
theorem q_drop {x : α} (h : Ev te σ H x) (k : ∀ H1, Same H H1 → tz D σ H1) : tSeq (tDrop te) tz D σ H := h H (Same.refl H) _ fun v H1 s r => k H1 s
theorem s_app {i : Nat} {l : Addr} {vs : List V} {x : α} (hi : σ[i]? = some (some (.ref l))) (hl : H l = some (.lst vs)) (h : Ev te σ H x) (hz : vs.length < 100000) (k : ∀ v H1, Same H H1 → Dat.rep H1 v x → D.nx σ (upd H1 l (.lst (vs ++ [v])))) :
    tDrop (tBM K "list" rAppend (tVar i) (tCons te tNil)) D σ H := ⟨_, hi, .inl ⟨rfl, _, SqL.of hl⟩, h H (Same.refl H) _ fun v H1 s r => ⟨l, vs, v, rfl, rfl, s _ _ hl, szl hz, k v H1 s r⟩⟩
theorem q_app {i : Nat} {l : Addr} {vs : List V} {x : α} (hi : σ[i]? = some (some (.ref l))) (hl : H l = some (.lst vs)) (h : Ev te σ H x) (hz : vs.length < 100000) (k : ∀ v H1, Same H H1 → Dat.rep H1 v x → tz D σ (upd H1 l (.lst (vs ++ [v])))) :
    tSeq (tDrop (tBM K "list" rAppend (tVar i) (tCons te tNil))) tz D σ H := s_app (D := { D with nx := tz D }) hi hl h hz k
theorem s_augN {i : Nat} {a b : Nat} (hx : σ[i]? = some (some (.int (a : Int)))) (h : Ev te σ H b) (k : ∀ H1, Same H H1 → D.nx (σ.set i (some (.int ((a + b : Nat) : Int)))) H1) : tAug i te (ipI fun i j => i + j) D σ H :=
  ⟨_, hx, h H (Same.refl H) _ fun v H1 s r => ⟨(a : Int), (b : Int), rfl, r, by
    have q := k H1 s
    rw [Int.natCast_add] at q
    exact q⟩⟩
/-- a for -/
theorem s_for {wi : TI} {g : TG} {xs : List α} (hs : SrcOk M wi σ H xs) (k : ∀ H1, Same H H1 → ∃ I : Nat → L2.St → Hp → Prop, I 0 σ H1 ∧ (∀ i σ' H', I i σ' H' → SameB M H1 H') ∧
    (∀ i x, xs[i]? = some x → ∀ σ' H', I i σ' H' → ∀ v H'', Same H' H'' → Dat.rep H'' v x → g v σ' H'' fun σ2 H2 => tu { D with nx := I (i + 1), ct := I (i + 1), bk := D.nx } σ2 H2) ∧ (∀ σ' H', I xs.length σ' H' → D.nx σ' H')) : tFor wi g tu D σ H :=
  hs H (Same.refl H) _ fun J H1 s1 ⟨G, Y, w, hG, hY⟩ => by
    obtain ⟨I, h0, hI, ht, hd⟩ := k H1 s1
    refine for_it w I h0 (fun i σ' H' _ hi => hG H' (hI i σ' H' hi)) (fun i v σ' H' H'' hi hv hy => ?_) hd
    have hx : xs[i]? = some xs[i] := List.getElem?_eq_getElem hi
    obtain ⟨sY, rv⟩ := hY i _ hx H' v H'' (hI i σ' H' hv) hy
    exact ht i _ hx σ' H' hv v H'' sY rv
theorem q_for {wi : TI} {g : TG} {xs : List α} (hs : SrcOk M wi σ H xs) (k : ∀ H1, Same H H1 → ∃ I : Nat → L2.St → Hp → Prop, I 0 σ H1 ∧ (∀ i σ' H', I i σ' H' → SameB M H1 H') ∧
    (∀ i x, xs[i]? = some x → ∀ σ' H', I i σ' H' → ∀ v H'', Same H' H'' → Dat.rep H'' v x → g v σ' H'' fun σ2 H2 => tu { D with nx := I (i + 1), ct := I (i + 1), bk := tz D } σ2 H2) ∧ (∀ σ' H', I xs.length σ' H' → tz D σ' H')) : tSeq (tFor wi g tu) tz D σ H := s_for (D := { D with nx := tz D }) hs k
end
/-! ### defs by their names -/
section
variable (P : Program) (w : World) (K : PySem.W.Frag) (mg : Str → Option Value) (base : Heap)
structure Cal (CX : CXT) (k : Nat) (x : Str) (sp : Sp) : Prop where
  ex : ∃ (f : Addr) (fd : FuncData) (ps : List Str), FnOk P w K mg base CX k f fd ps sp ∧ mg x = some (.ref f) ∧ PySem.W.keepIn K (.ref f) = true ∧ Binds K fd ps []
structure Def (x : Str) (st : Stmt) : Prop where
  ex : ∃ (f : Addr) (fd : FuncData), FunD K x x (defArgs st) (defBody st) (defScope st) [] [] f fd ∧ mg x = some (.ref f)
end
section
variable {P : Program} {w : World} {K : PySem.W.Frag} {mg : Str → Option Value} {base : Heap}
theorem cal_mk {CX : CXT} {x : Str} {st : Stmt} {N ps : List Str} {k : Nat} {sp : Sp} (Dx : Def K mg x st) (S : FnScope N ps (defScope st))
    (hb : ∀ (kV doc pm : Value) (an : Option Addr) (cdv ct : Value) (us : List Value), us.length = ps.length → bindArgs (PySem.W.fnOf x x (defArgs st) (defBody st) (defScope st) .none kV doc pm an cdv ct) ⟨us, []⟩ = pure (ps.zip us))
    (len : ∀ vs H Q E, sp vs H Q E → vs.length = ps.length)
    (hbody : ∀ (f : Addr) (cdv : Value) (A : Around) (outer : List Env) (s : Shared) (H : Hp) (vs : List V) (Q : VK) (E : XK), Room k (A.deeper (envOfC x (defScope st) s.heap.objs.size f cdv)) → sp vs H Q E →
      ∃ t, PSs (cxOf CX P w K mg base N x (defScope st) f cdv A outer s H E) (defBody st) t ∧ t { nx := fun _ H' => Q .non H', rt := Q } (start N vs) H) : Cal P w K mg base CX (k + 1) x sp := by
  obtain ⟨f, fd, F, hm⟩ := Dx.ex
  exact ⟨f, fd, ps, F.ok S len (fun cdv A outer s H vs Q E hr h => hbody f cdv A outer s H vs Q E hr h), hm, F.kp, F.bindsN hb⟩
theorem cal0 {x : Str} {st : Stmt} {N ps : List Str} {k : Nat} {sp : Sp} (Dx : Def K mg x st) (S : FnScope N ps (defScope st))
    (hb : ∀ (kV doc pm : Value) (an : Option Addr) (cdv ct : Value) (us : List Value), us.length = ps.length → bindArgs (PySem.W.fnOf x x (defArgs st) (defBody st) (defScope st) .none kV doc pm an cdv ct) ⟨us, []⟩ = pure (ps.zip us))
    (len : ∀ vs H Q E, sp vs H Q E → vs.length = ps.length)
    (hbody : ∀ (f : Addr) (cdv : Value) (A : Around) (outer : List Env) (s : Shared) (H : Hp) (vs : List V) (Q : VK) (E : XK), Room k (A.deeper (envOfC x (defScope st) s.heap.objs.size f cdv)) → sp vs H Q E →
      ∃ t, PSs (cxOf CX0 P w K mg base N x (defScope st) f cdv A outer s H E).nox (defBody st) t ∧ t { nx := fun _ H' => Q .non H', rt := Q } (start N vs) H) : Cal P w K mg base CX0 (k + 1) x sp :=
  cal_mk Dx S hb len fun f cdv A outer s H vs Q E hr h => by
    obtain ⟨t, h1, h2⟩ := hbody f cdv A outer s H vs Q E hr h
    exact ⟨t, h1.nox, h2⟩
end
section
variable {X : Cx} {k j : Nat} {x : Str} {sp : Sp} {p pos : Pos} {e : Expr} {es : List Expr} {t : TA}
theorem pe_cal (c : Cal X.prog X.w X.K X.mg X.base CX0 k x sp) (hr : Room j X.A) (hk : k ≤ j) (hg : Gl X x) (ha : PA X (e :: es) t)
    (hdb : (x == ("__debug__" : Str)) = false := by decide) (he : starEach (e :: es) X.env = (false, eval e X.env) :: starEach es X.env := by rfl) (hpl : (backTo pos (starEach es X.env)).any (·.1) = false := by rfl) :
    PE X (.Call (.Name x p) (e :: es) [] pos) (tCall sp [] E0 t) := by
  obtain ⟨f, fd, ps, F, hm, kp, b⟩ := c.ex
  exact pe_call F (hr.mono hk) hg hm kp b .nil pass0 ha hdb he hpl
/-- a def that may let an error out -/
theorem pe_calX (c : Cal X.prog X.w X.K X.mg X.base (L2.CX X.prog X.w) k x sp) {E : XK} (hx : Passes (L2.CX X.prog X.w) X E) (hr : Room j X.A) (hk : k ≤ j) (hg : Gl X x) (ha : PA X (e :: es) t)
    (hdb : (x == ("__debug__" : Str)) = false := by decide) (he : starEach (e :: es) X.env = (false, eval e X.env) :: starEach es X.env := by rfl) (hpl : (backTo pos (starEach es X.env)).any (·.1) = false := by rfl) :
    PE X (.Call (.Name x p) (e :: es) [] pos) (tCall sp [] E t) := by
  obtain ⟨f, fd, ps, F, hm, kp, b⟩ := c.ex
  exact pe_call F (hr.mono hk) hg hm kp b .nil hx ha hdb he hpl
theorem pe_calS (c : Cal X.prog X.w X.K X.mg X.base (L2.CX X.prog X.w) k x sp) {E : L2.St → XK} (hx : ∀ σ, PassesAt (L2.CX X.prog X.w) X σ (E σ)) (hr : Room j X.A) (hk : k ≤ j) (hg : Gl X x) (ha : PA X (e :: es) t)
    (hdb : (x == ("__debug__" : Str)) = false := by decide) (he : starEach (e :: es) X.env = (false, eval e X.env) :: starEach es X.env := by rfl) (hpl : (backTo pos (starEach es X.env)).any (·.1) = false := by rfl) :
    PE X (.Call (.Name x p) (e :: es) [] pos) (tCallS sp E t) := by
  obtain ⟨f, fd, ps, F, hm, kp, b⟩ := c.ex
  exact pe_callS F (hr.mono hk) hg hm kp b hx ha hdb he hpl
theorem pe_gname {v : V} (hg : Gl X x) (h : ∃ u, X.mg x = some u ∧ RelV v u) (hd : (x == ("__debug__" : Str)) = false := by decide) : PE X (.Name x pos) (tC v) := by
  obtain ⟨u, hm, r⟩ := h
  exact pe_glob hg hm r hd
theorem pe_tyname {T : String} (hg : Gl X x) (hm : X.mg x = none) (hv : bootBuiltins x = some (.type T)) (hn : x ≠ "__name__" := by decide) (hd : (x == ("__debug__" : Str)) = false := by decide) : PE X (.Name x pos) (tC (.ty T)) := pe_bltn hg hm hv rfl hn hd
end
/-! ### promises -/
section
variable {α β γ δ ε : Type} [Dat α] [Dat β] [Dat γ] [Dat δ] [Dat ε]
theorem len1 {pre : α → Prop} {f : α → β} {x : Str} (vs : List V) (H : Hp) (Q : VK) (E : XK) (h : Sp1 pre f vs H Q E) : vs.length = [x].length := by
  obtain ⟨v, x, rfl, _⟩ := h
  rfl
theorem len2 {pre : α → β → Prop} {f : α → β → γ} {x y : Str} (vs : List V) (H : Hp) (Q : VK) (E : XK) (h : Sp2 pre f vs H Q E) : vs.length = [x, y].length := by
  obtain ⟨v, x, w, y, rfl, _⟩ := h
  rfl
theorem len3 {pre : α → β → γ → Prop} {f : α → β → γ → δ} {x y z : Str} (vs : List V) (H : Hp) (Q : VK) (E : XK) (h : Sp3 pre f vs H Q E) : vs.length = [x, y, z].length := by
  obtain ⟨v, x, w, y, u, z, rfl, _⟩ := h
  rfl
theorem len4 {pre : α → β → γ → δ → Prop} {f : α → β → γ → δ → ε} {x y z z4 : Str} (vs : List V) (H : Hp) (Q : VK) (E : XK) (h : Sp4 pre f vs H Q E) : vs.length = [x, y, z, z4].length := by
  obtain ⟨v, x, w, y, u, z, v4, x4, rfl, _⟩ := h
  rfl
end
end SB
namespace SB
open PySem PySem.Spec PyProof.Rows L2 RZ StX
/-! ### the rules once more, the written part K said apart (a comprehension's block has the same) -/
def rLenK (K : PySem.W.Frag) : List V → Hp → VK → Prop := fun xs H Q => ∃ p ys, xs = [.ref p] ∧ (SqL K H p ys ∨ SqT K H p ys) ∧ Q (.int ys.length) H
section
variable {X : Cx} {K : PySem.W.Frag}
theorem k_len (h : X.K = K := by rfl) : CallR X (.builtin "len") (rLenK K) := by subst h; exact call_len_seq
theorem k_all (h : X.K = K := by rfl) (hc : X.calm = true := by rfl) : CallR X (.builtin "all") (rAll K) := by subst h; exact cr_all hc
theorem k_any (h : X.K = K := by rfl) (hc : X.calm = true := by rfl) : CallR X (.builtin "any") (rAny K) := by subst h; exact cr_any hc
theorem k_min (h : X.K = K := by rfl) (hc : X.calm = true := by rfl) : CallR X (.builtin "min") (rMin K) := by subst h; exact cr_min hc
theorem k_sorted (h : X.K = K := by rfl) : CallR X (.builtin "sorted") (rSorted K) := by subst h; exact cr_sorted
theorem k_isi (h : X.K = K := by rfl) : CallR X (.builtin "isinstance") (rIsi K) := by subst h; exact call_isi
theorem k_isiT (h : X.K = K := by rfl) : CallR X (.builtin "isinstance") (rIsiT K) := by subst h; exact call_isiT
theorem k_ixL (h : X.K = K := by rfl) : IxR X (rIxL K) := by subst h; exact ix_list
theorem k_ixT (h : X.K = K := by rfl) : IxR X (rIxT K) := by subst h; exact ix_tup
theorem k_sl (h : X.K = K := by rfl) : SlR X (rSlA K) := by subst h; exact sl_tupA
theorem k_in (h : X.K = K := by rfl) : OpR X (compareOp .In) (rIn K false) := by subst h; exact op_in_seq
theorem k_notIn (h : X.K = K := by rfl) : OpR X (compareOp .NotIn) (rIn K true) := by subst h; exact op_notIn_seq
theorem k_eqD (hu : X.A.units + 64 < cLine) (h : X.K = K := by rfl) : OpR X (compareOp .Eq) (rEqD K) := by subst h; exact op_eqD hu
theorem k_neD (hu : X.A.units + 64 < cLine) (h : X.K = K := by rfl) : OpR X (compareOp .NotEq) (rNeD K) := by subst h; exact op_neD hu
theorem k_cat (h : X.K = K := by rfl) : OpR X (binaryOp .Add) (rCatA K) := by subst h; exact op_catA
theorem kpi_list {tg l : Expr} {tl : TE} (hl : PE X l tl) (h : X.K = K := by rfl) : PI X tg l (iList K tl) := by subst h; exact pi_list hl
theorem kpi_tup {tg l : Expr} {tl : TE} (hl : PE X l tl) (h : X.K = K := by rfl) : PI X tg l (iTup K tl) := by subst h; exact pi_tup hl
theorem kpi_zip {e e2 : Expr} {ta : TA} {p pos tpos : Pos} {elts : List Expr} {kk : Nat} (hg : Gl X "zip") (hm : X.mg "zip" = none) (ha : PA X [e, e2] ta) (h : X.K = K := by rfl)
    (hs : starEach [e, e2] X.env = (false, eval e X.env) :: starEach [e2] X.env := by rfl) (hpl : (backTo pos (starEach [e2] X.env)).any (·.1) = false := by rfl) : PI X (.Tuple elts kk tpos) (.Call (.Name "zip" p) [e, e2] [] pos) (iZipA K ta) := by
  subst h
  exact pi_zipA hg hm ha hs hpl
theorem kpi_enum {e : Expr} {ta : TA} {p pos tpos : Pos} {elts : List Expr} {kk : Nat} (hg : Gl X "enumerate") (hm : X.mg "enumerate" = none) (ha : PA X [e] ta) (h : X.K = K := by rfl) (hs : starEach [e] X.env = [(false, eval e X.env)] := by rfl) :
    PI X (.Tuple elts kk tpos) (.Call (.Name "enumerate" p) [e] [] pos) (iEnumT K ta) := by
  subst h
  exact pi_enumT hg hm ha hs
theorem kpg_tup {es : List Expr} {k : Nat} {t : TGs} {n : Nat} {pos : Pos} (h : PGs X es t) (hk : X.K = K := by rfl) (hc : X.calm = true := by rfl) (hn : (assignEach es X.env).length = n := by rfl) (hst : (assignEach es X.env).findIdx? (·.1) = none := by rfl) : PG X (.Tuple es k pos) (gTup K n t) := by
  subst hk
  exact pg_tup hc h hn hst
theorem kpe_tupleOf {a : Expr} {ta : TE} {p pos : Pos} (hg : Gl X "tuple") (hm : X.mg "tuple" = none) (ha : PE X a ta) (h : X.K = K := by rfl) (na : starEach [a] X.env = (false, eval a X.env) :: starEach [] X.env := by rfl) : PE X (.Call (.Name "tuple" p) [a] [] pos) (tThen ta (kTup K)) := by
  subst h
  exact pe_tupleOf hg hm ha na
theorem kpe_lenSet {a : Expr} {ta : TE} {p p2 q pos : Pos} (hg : Gl X "len") (hm : X.mg "len" = none) (hg2 : Gl X "set") (hm2 : X.mg "set" = none) (ha : PE X a ta) (h : X.K = K := by rfl) (hc : X.calm = true := by rfl)
    (na : starEach [a] X.env = (false, eval a X.env) :: starEach [] X.env := by rfl) : PE X (.Call (.Name "len" p) [.Call (.Name "set" p2) [a] [] q] [] pos) (tLenSetA K ta) := by
  subst h
  exact pe_lenSetA hg hm hg2 hm2 ha hc na
theorem kpe_bm {T name id : String} {o e : Expr} {es : List Expr} {to : TE} {t : TA} {r : V → List V → Hp → VK → Prop} {apos cpos : Pos} (pa : PlainAttrs T) (slot : Slot T name id) (hty : typeOf (.builtin id) = pure (.type "method_descriptor")) (hm : MtR X id r) (ho : PE X o to) (ha : PA X (e :: es) t)
    (h : X.K = K := by rfl) (hbase : attributeBase o name X.env (eval o X.env) = eval o X.env := by rfl)
    (hfew : ((backTo cpos (starEach (e :: es) X.env)).all (fun x => !x.1) && (backToKw cpos (keywordEach [] X.env)).all (fun x => x.1.isSome)
      && decide ((e :: es).length + ([] : List Keyword).length + (if ([] : List Keyword).isEmpty then 0 else 1) < 30)) = true := by rfl)
    (hline : (apos.endLine == cpos.line) = true := by rfl) (hs : starEach (e :: es) X.env = (false, eval e X.env) :: starEach es X.env := by rfl) (hplain : (backTo cpos (starEach es X.env)).any (·.1) = false := by rfl) :
    PE X (.Call (.Attribute o name apos) (e :: es) [] cpos) (tBM K T r to t) := by
  subst h
  exact pe_bm pa slot hty hm ho ha hbase hfew hline hs hplain
theorem kpa_star {e : Expr} {es : List Expr} {te : TE} {t : TA} {p : Pos} (he : PE X e te) (hr : PA X es t) (h : X.K = K := by rfl) (hs : starEach (.Starred e p :: es) X.env = (true, eval e X.env) :: starEach es X.env := by rfl) : PA X (.Starred e p :: es) (tStar K te t) := by
  subst h
  exact pa_star he hr hs
end
section
variable {K : PySem.W.Frag} {σ : L2.St} {H : Hp} {ta : TE} {α : Type} [Dat α]
theorem ek_lenT {xs : List α} (ha : Ev ta σ H xs) : Ev (tCB (rLenK K) (tCons ta tNil)) σ H xs.length := ev_lenT ha
theorem ek_lenL {xs : Lst α} (ha : Ev ta σ H xs) : Ev (tCB (rLenK K) (tCons ta tNil)) σ H xs.items.length := ev_lenL ha
theorem ek_lenP {β : Type} [Dat β] {p : α × β} (ha : Ev ta σ H p) : Ev (tCB (rLenK K) (tCons ta tNil)) σ H (2 : Nat) := ev_lenP ha
end
end SB
namespace SB
/-! ### the mirror: boards, lots, lines -/
abbrev Cell := Int × Int
abbrev Row := List Cell
abbrev Board := List Row
def wid (B : Board) : Nat := (B.headD []).length
def cellAt (B : Board) (i j : Nat) : Cell := (B.getD i []).getD j (0, 0)
def nLines (B : Board) : Nat := B.length + wid B
def InR (z : Int) : Prop := -1000 ≤ z ∧ z ≤ 1000
structure BOk (B : Board) : Prop where
  r1 : 1 ≤ B.length
  r6 : B.length ≤ 6
  c1 : 1 ≤ wid B
  c6 : wid B ≤ 6
  rows : ∀ row ∈ B, row.length = wid B
  cells : ∀ row ∈ B, ∀ p ∈ row, InR p.1 ∧ InR p.2
def outs (lot : List Nat) (i : Nat) : Bool := !decide (i ∈ lot)
def linesOf (B : Board) : List Nat := List.range (nLines B)
def rowsLeft (B : Board) (lot : List Nat) : List Nat := (List.range B.length).filter (outs lot)
def colsLeft (B : Board) (lot : List Nat) : List Nat := (List.range' B.length (wid B)).filter (outs lot)
def nums (B : Board) (lot : List Nat) (line : Nat) : List Int :=
  if line < B.length then (colsLeft B lot).map (fun c => (cellAt B line (c - B.length)).1) else (rowsLeft B lot).map (fun r => (cellAt B r (line - B.length)).2)
def sameSide (B : Board) (a b : Nat) : Bool := decide (a < B.length) == decide (b < B.length)
def isGr (B : Board) (lot : List Nat) (line other : Nat) : Bool := if sameSide B line other = false then false else ((nums B lot line).zip (nums B lot other)).all (fun p => decide (p.1 < p.2))
def canFall (B : Board) (lot : List Nat) (line : Nat) : Bool := ((linesOf B).filter (outs (lot ++ [line]))).any (isGr B lot line)
def withLn (lot : List Nat) (x : Nat) : List Nat := isort (lot ++ [x])
def sideOf (B : Board) (lot : List Nat) (line : Nat) : List Nat := if line < B.length then rowsLeft B lot else colsLeft B lot
def lows (own told : List Int) : List Nat := (List.range own.length).filter (fun at_ => decide (told.getD at_ 0 ≤ own.getD at_ 0))
def overs (B : Board) (lot : List Nat) (line : Nat) : List Nat := (sideOf B lot line).filter (fun o => decide (lows (nums B lot line) (nums B lot o) = []))
def readys (B : Board) (lot : List Nat) : List Nat := (rowsLeft B lot ++ colsLeft B lot).filter (fun l => !decide (overs B lot l = []))
def endStep (B : Board) (lot : List Nat) : List Nat := match (readys B lot).getLast? with
  | some x => withLn lot x
  | none => lot
def endN (B : Board) : Nat → List Nat
  | 0 => []
  | n + 1 => endStep B (endN B n)
def endLot (B : Board) : List Nat := endN B 12
structure LotOk (B : Board) (lot : List Nat) : Prop where
  up : lot.Pairwise (· < ·)
  lt : ∀ x ∈ lot, x < nLines B
  row : ∃ r, r < B.length ∧ r ∉ lot
  col : ∃ c, B.length ≤ c ∧ c < nLines B ∧ c ∉ lot
/-! ### lists -/
theorem ssorted_ext : ∀ {a b : List Nat}, a.Pairwise (· < ·) → b.Pairwise (· < ·) → (∀ x, x ∈ a ↔ x ∈ b) → a = b
  | [], [], _, _, _ => rfl
  | [], y :: b, _, _, h => absurd ((h y).mpr (List.mem_cons_self ..)) (by simp)
  | x :: a, [], _, _, h => absurd ((h x).mp (List.mem_cons_self ..)) (by simp)
  | x :: a, y :: b, ha, hb, h => by
    have ha' := List.pairwise_cons.mp ha
    have hb' := List.pairwise_cons.mp hb
    have h1 : x ≤ y := by
      rcases List.mem_cons.mp ((h y).mpr (List.mem_cons_self ..)) with e | e
      · omega
      · exact Nat.le_of_lt (ha'.1 y e)
    have h2 : y ≤ x := by
      rcases List.mem_cons.mp ((h x).mp (List.mem_cons_self ..)) with e | e
      · omega
      · exact Nat.le_of_lt (hb'.1 x e)
    have e : x = y := by omega
    subst e
    rw [ssorted_ext ha'.2 hb'.2 fun z => ?_]
    constructor
    · intro hz
      rcases List.mem_cons.mp ((h z).mp (List.mem_cons_of_mem _ hz)) with e | e
      · have := ha'.1 z hz; omega
      · exact e
    · intro hz
      rcases List.mem_cons.mp ((h z).mpr (List.mem_cons_of_mem _ hz)) with e | e
      · have := hb'.1 z hz; omega
      · exact e
theorem mem_outs {lot : List Nat} {i : Nat} : outs lot i = true ↔ i ∉ lot := by unfold outs; simp
theorem mem_rows {B : Board} {lot : List Nat} {i : Nat} : i ∈ rowsLeft B lot ↔ i < B.length ∧ i ∉ lot := by
  unfold rowsLeft
  rw [List.mem_filter, List.mem_range, mem_outs]
theorem mem_cols {B : Board} {lot : List Nat} {i : Nat} : i ∈ colsLeft B lot ↔ (B.length ≤ i ∧ i < nLines B) ∧ i ∉ lot := by
  unfold colsLeft nLines
  rw [List.mem_filter, mem_outs, List.mem_range'_1]
theorem range_lt (n : Nat) : (List.range n).Pairwise (· < ·) := List.pairwise_lt_range
theorem rows_up {B : Board} {lot : List Nat} : (rowsLeft B lot).Pairwise (· < ·) := (range_lt _).sublist List.filter_sublist
theorem isort_mem {l : List Nat} {x : Nat} : x ∈ isort l ↔ x ∈ l := (isort_perm l).mem_iff
theorem mem_with {lot : List Nat} {x z : Nat} : z ∈ withLn lot x ↔ z = x ∨ z ∈ lot := by
  unfold withLn
  rw [isort_mem, List.mem_append, List.mem_singleton]
  exact Or.comm
theorem up_of_le {l : List Nat} (h : l.Pairwise (· ≤ ·)) (n : l.Nodup) : l.Pairwise (· < ·) := by
  have := h.and n
  exact this.imp fun {a b} h => by omega
theorem nodup_of_up {l : List Nat} (h : l.Pairwise (· < ·)) : l.Nodup := h.imp fun {a b} h => by omega
theorem with_up {lot : List Nat} {x : Nat} (h : lot.Pairwise (· < ·)) (nx : x ∉ lot) : (withLn lot x).Pairwise (· < ·) := by
  refine up_of_le (isort_sorted _) ?_
  have n1 : (lot ++ [x]).Nodup := by
    rw [List.nodup_append]
    refine ⟨nodup_of_up h, List.pairwise_singleton .., fun a ha b hb e => ?_⟩
    rw [List.mem_singleton] at hb
    subst e hb
    exact nx ha
  exact (isort_perm _).nodup_iff.mpr n1
/-! ### greater lines -/
def val (B : Board) (line c : Nat) : Int := if line < B.length then (cellAt B line (c - B.length)).1 else (cellAt B c (line - B.length)).2
def cross (B : Board) (lot : List Nat) (line : Nat) : List Nat := if line < B.length then colsLeft B lot else rowsLeft B lot
theorem nums_eq (B : Board) (lot : List Nat) (line : Nat) : nums B lot line = (cross B lot line).map (val B line) := by
  unfold nums cross val
  split <;> rfl
theorem cross_side {B : Board} {lot : List Nat} {x y : Nat} (h : sameSide B x y = true) : cross B lot y = cross B lot x := by
  unfold sameSide at h
  have e := eq_of_beq h
  unfold cross
  by_cases hx : x < B.length
  · have hy : y < B.length := by
      rw [decide_eq_true hx] at e
      exact of_decide_eq_true e.symm
    rw [if_pos hx, if_pos hy]
  · have hy : ¬ y < B.length := by
      rw [decide_eq_false hx] at e
      exact of_decide_eq_false e.symm
    rw [if_neg hx, if_neg hy]
/-- the second is greater in all that is left -/
def Gt (B : Board) (lot : List Nat) (x y : Nat) : Prop := sameSide B x y = true ∧ ∀ c ∈ cross B lot x, val B x c < val B y c
theorem isGr_iff {B : Board} {lot : List Nat} {x y : Nat} : isGr B lot x y = true ↔ Gt B lot x y := by
  unfold isGr Gt
  by_cases h : sameSide B x y = false
  · rw [if_pos h, h]
    simp
  · rw [if_neg h]
    have ht : sameSide B x y = true := by simpa using h
    rw [nums_eq, nums_eq, cross_side ht]
    simp only [ht, true_and]
    generalize cross B lot x = l
    clear h ht
    induction l with
    | nil => simp
    | cons c r ih =>
      simp only [List.map_cons, List.zip_cons_cons, List.all_cons, Bool.and_eq_true, ih, decide_eq_true_eq, List.mem_cons, forall_eq_or_imp]
theorem getD_map {l : List Nat} {f : Nat → Int} {i : Nat} (h : i < l.length) : (l.map f).getD i 0 = f l[i] := by
  rw [List.getD_eq_getElem?_getD, List.getElem?_map, List.getElem?_eq_getElem h]
  rfl
theorem lows_nil {l : List Nat} {f g : Nat → Int} : lows (l.map f) (l.map g) = [] ↔ ∀ c ∈ l, f c < g c := by
  unfold lows
  rw [List.filter_eq_nil_iff]
  constructor
  · intro h c hc
    obtain ⟨i, hi, e⟩ := List.mem_iff_getElem.mp hc
    have := h i (by rw [List.mem_range, List.length_map]; exact hi)
    rw [getD_map hi, getD_map hi, e] at this
    have := of_decide_eq_false (by simpa using this : decide (g c ≤ f c) = false)
    omega
  · intro h i hi
    rw [List.mem_range, List.length_map] at hi
    rw [getD_map hi, getD_map hi]
    have := h _ (List.getElem_mem hi)
    simp
    omega
theorem mem_side {B : Board} {lot : List Nat} {x y : Nat} (hx : x < nLines B) : y ∈ sideOf B lot x ↔ (y < nLines B ∧ sameSide B x y = true) ∧ y ∉ lot := by
  unfold sideOf sameSide
  have hn : nLines B = B.length + wid B := rfl
  by_cases h : x < B.length
  · rw [if_pos h, mem_rows, decide_eq_true h]
    constructor
    · rintro ⟨h1, h2⟩
      exact ⟨⟨by omega, by rw [decide_eq_true h1]; rfl⟩, h2⟩
    · rintro ⟨⟨h1, h2⟩, h3⟩
      exact ⟨of_decide_eq_true (eq_of_beq h2).symm, h3⟩
  · rw [if_neg h, mem_cols, decide_eq_false h]
    constructor
    · rintro ⟨⟨h1, h2⟩, h3⟩
      exact ⟨⟨h2, by rw [decide_eq_false (show ¬ y < B.length by omega)]; rfl⟩, h3⟩
    · rintro ⟨⟨h1, h2⟩, h3⟩
      have := of_decide_eq_false (eq_of_beq h2).symm
      exact ⟨⟨by omega, h1⟩, h3⟩
/-- y is left, of the side of x and greater -/
def Dom (B : Board) (lot : List Nat) (x y : Nat) : Prop := y ∉ lot ∧ y < nLines B ∧ Gt B lot x y
def Rdy (B : Board) (lot : List Nat) (x : Nat) : Prop := ∃ y, Dom B lot x y
theorem mem_overs {B : Board} {lot : List Nat} {x y : Nat} (hx : x < nLines B) : y ∈ overs B lot x ↔ Dom B lot x y := by
  unfold overs Dom Gt
  rw [List.mem_filter, mem_side hx]
  constructor
  · rintro ⟨⟨⟨h1, h2⟩, h3⟩, h4⟩
    have h5 := of_decide_eq_true h4
    rw [nums_eq, nums_eq, cross_side h2, lows_nil] at h5
    exact ⟨h3, h1, h2, h5⟩
  · rintro ⟨h3, h1, h2, h5⟩
    refine ⟨⟨⟨h1, h2⟩, h3⟩, decide_eq_true ?_⟩
    rw [nums_eq, nums_eq, cross_side h2, lows_nil]
    exact h5
theorem overs_ne {B : Board} {lot : List Nat} {x : Nat} (hx : x < nLines B) : overs B lot x ≠ [] ↔ Rdy B lot x := by
  constructor
  · intro h
    obtain ⟨y, hy⟩ := List.exists_mem_of_ne_nil _ h
    exact ⟨y, (mem_overs hx).mp hy⟩
  · rintro ⟨y, hy⟩ e
    have := (mem_overs hx).mpr hy
    rw [e] at this
    cases this
theorem mem_readys {B : Board} {lot : List Nat} {x : Nat} : x ∈ readys B lot ↔ (x < nLines B ∧ x ∉ lot) ∧ Rdy B lot x := by
  unfold readys
  rw [List.mem_filter, List.mem_append, mem_rows, mem_cols]
  have hn : nLines B = B.length + wid B := rfl
  have key : ((x < B.length ∧ x ∉ lot) ∨ ((B.length ≤ x ∧ x < nLines B) ∧ x ∉ lot)) ↔ (x < nLines B ∧ x ∉ lot) := by
    constructor
    · rintro (⟨h1, h2⟩ | ⟨h1, h2⟩)
      · exact ⟨by omega, h2⟩
      · exact ⟨h1.2, h2⟩
    · rintro ⟨h1, h2⟩
      by_cases h : x < B.length
      · exact .inl ⟨h, h2⟩
      · exact .inr ⟨⟨by omega, h1⟩, h2⟩
  rw [key]
  constructor
  · rintro ⟨h1, h2⟩
    refine ⟨h1, (overs_ne h1.1).mp fun e => ?_⟩
    rw [e] at h2
    cases h2
  · rintro ⟨h1, h2⟩
    exact ⟨h1, by rw [decide_eq_false ((overs_ne h1.1).mpr h2)]; rfl⟩
theorem cross_ne {B : Board} {lot : List Nat} (h : LotOk B lot) (x : Nat) : ∃ c, c ∈ cross B lot x := by
  unfold cross
  split
  · obtain ⟨c, h1, h2, h3⟩ := h.col
    exact ⟨c, mem_cols.mpr ⟨⟨h1, h2⟩, h3⟩⟩
  · obtain ⟨r, h1, h2⟩ := h.row
    exact ⟨r, mem_rows.mpr ⟨h1, h2⟩⟩
theorem gt_ne {B : Board} {lot : List Nat} (h : LotOk B lot) {x y : Nat} (g : Gt B lot x y) : y ≠ x := by
  intro e
  subst e
  obtain ⟨c, hc⟩ := cross_ne h y
  have := g.2 c hc
  omega
theorem canFall_iff {B : Board} {lot : List Nat} (h : LotOk B lot) {x : Nat} : canFall B lot x = true ↔ Rdy B lot x := by
  unfold canFall
  rw [List.any_eq_true]
  constructor
  · rintro ⟨y, hy, hg⟩
    rw [List.mem_filter, mem_outs, List.mem_append, List.mem_singleton] at hy
    exact ⟨y, fun z => hy.2 (.inl z), List.mem_range.mp hy.1, isGr_iff.mp hg⟩
  · rintro ⟨y, h1, h2, h3⟩
    refine ⟨y, ?_, isGr_iff.mpr h3⟩
    rw [List.mem_filter, mem_outs, List.mem_append, List.mem_singleton]
    exact ⟨List.mem_range.mpr h2, fun z => z.elim h1 (gt_ne h h3)⟩
theorem canFall_overs {B : Board} {lot : List Nat} (h : LotOk B lot) {x : Nat} (hx : x < nLines B) : canFall B lot x = !decide (overs B lot x = []) := by
  by_cases e : overs B lot x = []
  · rw [decide_eq_true e]
    cases q : canFall B lot x with
    | false => rfl
    | true => exact absurd e ((overs_ne hx).mpr ((canFall_iff h).mp q))
  · rw [decide_eq_false e]
    exact (canFall_iff h).mpr ((overs_ne hx).mp e)
/-! ### what comes; the end is one -/
inductive Comes (B : Board) : List Nat → Prop
  | nil : Comes B []
  | step {lot : List Nat} {x : Nat} : Comes B lot → x ∉ lot → x < nLines B → Rdy B lot x → Comes B (withLn lot x)
theorem sameSide_lt {B : Board} {x y : Nat} (h : sameSide B x y = true) : x < B.length ↔ y < B.length := by
  unfold sameSide at h
  exact decide_eq_decide.mp (eq_of_beq h)
theorem sameSide_trans {B : Board} {x y z : Nat} (h : sameSide B x y = true) (h' : sameSide B y z = true) : sameSide B x z = true := by
  unfold sameSide at *
  rw [eq_of_beq h, eq_of_beq h']
  exact beq_self_eq_true _
theorem comes_ok {B : Board} (b : BOk B) : ∀ {lot : List Nat}, Comes B lot → LotOk B lot := by
  intro lot h
  induction h with
  | nil => exact ⟨.nil, (fun x h => nomatch h), ⟨0, b.r1, by simp⟩, ⟨B.length, Nat.le_refl _, Nat.lt_add_of_pos_right b.c1, by simp⟩⟩
  | @step lot x hc nx hx hr ih =>
    obtain ⟨y, ny, hy, hg⟩ := hr
    have hne := gt_ne ih hg
    have hs := sameSide_lt hg.1
    refine ⟨with_up ih.up nx, fun z hz => ?_, ?_, ?_⟩
    · rcases mem_with.mp hz with e | e
      · rw [e]; exact hx
      · exact ih.lt z e
    · by_cases hxl : x < B.length
      · exact ⟨y, hs.mp hxl, fun z => (mem_with.mp z).elim hne ny⟩
      · obtain ⟨r, h1, h2⟩ := ih.row
        exact ⟨r, h1, fun z => (mem_with.mp z).elim (fun e => by omega) h2⟩
    · by_cases hxl : x < B.length
      · obtain ⟨c, h1, h2, h3⟩ := ih.col
        exact ⟨c, h1, h2, fun z => (mem_with.mp z).elim (fun e => by omega) h3⟩
      · exact ⟨y, by have := mt hs.mpr hxl; omega, hy, fun z => (mem_with.mp z).elim hne ny⟩
theorem cross_mem {B : Board} {lot : List Nat} {x c : Nat} : c ∈ cross B lot x ↔ (if x < B.length then (B.length ≤ c ∧ c < nLines B) else c < B.length) ∧ c ∉ lot := by
  unfold cross
  split
  · exact mem_cols
  · exact mem_rows
theorem cross_sub {B : Board} {lot lot' : List Nat} (hs : ∀ z ∈ lot, z ∈ lot') {x c : Nat} (h : c ∈ cross B lot' x) : c ∈ cross B lot x := by
  rw [cross_mem] at h ⊢
  exact ⟨h.1, fun z => h.2 (hs c z)⟩
/-- a line that was struck has one left that is at least as great -/
theorem heir {B : Board} (b : BOk B) {lot : List Nat} (h : Comes B lot) : ∀ y, y < nLines B → ∃ z, z ∉ lot ∧ z < nLines B ∧ sameSide B y z = true ∧ ∀ c ∈ cross B lot y, val B y c ≤ val B z c := by
  induction h with
  | nil => exact fun y hy => ⟨y, by simp, hy, by unfold sameSide; exact beq_self_eq_true _, fun c _ => Int.le_refl _⟩
  | @step lot x hc nx hx hr ih =>
    intro y hy
    obtain ⟨z, nz, hz, hs, hv⟩ := ih y hy
    have sub : ∀ u ∈ lot, u ∈ withLn lot x := fun u hu => mem_with.mpr (.inr hu)
    by_cases e : z = x
    · subst e
      obtain ⟨w, nw, hw, hg⟩ := hr
      have hne := gt_ne (comes_ok b hc) hg
      refine ⟨w, fun q => (mem_with.mp q).elim hne nw, hw, sameSide_trans hs hg.1, fun c hc' => ?_⟩
      have h1 := hv c (cross_sub sub hc')
      have h2 := hg.2 c (by rw [cross_side hs]; exact cross_sub sub hc')
      omega
    · exact ⟨z, fun q => (mem_with.mp q).elim e nz, hz, hs, fun c hc' => hv c (cross_sub sub hc')⟩
theorem rdy_mono {B : Board} (b : BOk B) {lot lot' : List Nat} (h : Comes B lot') (hs : ∀ z ∈ lot, z ∈ lot') {x : Nat} (hr : Rdy B lot x) : Rdy B lot' x := by
  obtain ⟨y, _, hy, hg⟩ := hr
  obtain ⟨z, nz, hz, hsz, hv⟩ := heir b h y hy
  refine ⟨z, nz, hz, sameSide_trans hg.1 hsz, fun c hc => ?_⟩
  have h1 := hg.2 c (cross_sub hs hc)
  have h2 := hv c (by rw [cross_side hg.1]; exact hc)
  omega
def Term (B : Board) (lot : List Nat) : Prop := ∀ x, x < nLines B → x ∉ lot → ¬ Rdy B lot x
theorem comes_sub {B : Board} (b : BOk B) {l1 l2 : List Nat} (h1 : Comes B l1) (h2 : Comes B l2) (t : Term B l2) : ∀ z ∈ l1, z ∈ l2 := by
  induction h1 with
  | nil => intro z hz; cases hz
  | @step lot x hc nx hx hr ih =>
    intro z hz
    rcases mem_with.mp hz with e | e
    · subst e
      by_cases q : z ∈ l2
      · exact q
      · exact absurd (rdy_mono b h2 ih hr) (t z hx q)
    · exact ih z e
theorem end_one {B : Board} (b : BOk B) {l1 l2 : List Nat} (h1 : Comes B l1) (t1 : Term B l1) (h2 : Comes B l2) (t2 : Term B l2) : l1 = l2 :=
  ssorted_ext (comes_ok b h1).up (comes_ok b h2).up fun z => ⟨comes_sub b h1 h2 t2 z, comes_sub b h2 h1 t1 z⟩
theorem last_mem {l : List Nat} {x : Nat} (h : l.getLast? = some x) : x ∈ l := List.mem_of_getLast? h
theorem step_comes {B : Board} {lot : List Nat} (h : Comes B lot) : Comes B (endStep B lot) := by
  unfold endStep
  split
  · rename_i x e
    obtain ⟨⟨h1, h2⟩, h3⟩ := mem_readys.mp (last_mem e)
    exact .step h h2 h1 h3
  · exact h
theorem endN_comes {B : Board} : ∀ n, Comes B (endN B n)
  | 0 => .nil
  | n + 1 => step_comes (endN_comes n)
theorem term_of_nil {B : Board} {lot : List Nat} (h : readys B lot = []) : Term B lot := fun x hx nx hr => by
  have := mem_readys.mpr ⟨⟨hx, nx⟩, hr⟩
  rw [h] at this
  cases this
theorem endN_long {B : Board} : ∀ n, readys B (endN B n) = [] ∨ (endN B n).length = n
  | 0 => .inr rfl
  | n + 1 => by
    show readys B (endStep B (endN B n)) = [] ∨ (endStep B (endN B n)).length = n + 1
    cases e : (readys B (endN B n)).getLast? with
    | none =>
      have e0 := List.getLast?_eq_none_iff.mp e
      unfold endStep
      rw [e]
      exact .inl e0
    | some x =>
      rcases endN_long n with h | h
      · rw [h] at e; cases e
      · unfold endStep
        rw [e]
        refine .inr ?_
        show (isort _).length = _
        rw [(isort_perm _).length_eq, List.length_append, h]
        rfl
theorem len_lt {n : Nat} : ∀ {l : List Nat} {a : Nat}, l.Pairwise (· < ·) → (∀ x ∈ l, a ≤ x ∧ x < n) → a ≤ n → l.length ≤ n - a
  | [], a, _, _, _ => Nat.zero_le _
  | x :: r, a, h, hm, ha => by
    have h1 := List.pairwise_cons.mp h
    have h2 := hm x (List.mem_cons_self ..)
    have := len_lt (l := r) (a := x + 1) h1.2 (fun y hy => ⟨h1.1 y hy, (hm y (List.mem_cons_of_mem _ hy)).2⟩) (by omega)
    rw [List.length_cons]
    omega
theorem lot_len {B : Board} (b : BOk B) {lot : List Nat} (h : LotOk B lot) : lot.length < nLines B := by
  have h1 := len_lt (n := nLines B) (a := 0) h.up (fun x hx => ⟨Nat.zero_le _, h.lt x hx⟩) (Nat.zero_le _)
  rcases Nat.lt_or_eq_of_le (show lot.length ≤ nLines B by omega) with h2 | h2
  · exact h2
  · exfalso
    -- a lot of as many lines would be all lines
    obtain ⟨r, hr, nr⟩ := h.row
    have hr' : r < nLines B := by unfold nLines; omega
    have up : (withLn lot r).Pairwise (· < ·) := with_up h.up nr
    have h3 := len_lt (n := nLines B) (a := 0) up (fun x hx => ⟨Nat.zero_le _, (mem_with.mp hx).elim (fun e => e ▸ hr') (h.lt x)⟩) (Nat.zero_le _)
    have h4 : (withLn lot r).length = lot.length + 1 := by
      unfold withLn
      rw [(isort_perm _).length_eq, List.length_append]
      rfl
    omega
theorem endLot_comes {B : Board} : Comes B (endLot B) := endN_comes 12
theorem endLot_term {B : Board} (b : BOk B) : Term B (endLot B) := by
  rcases endN_long (B := B) 12 with h | h
  · exact term_of_nil h
  · exfalso
    have := lot_len b (comes_ok b (endN_comes 12))
    rw [h] at this
    have h1 := b.r6
    have h2 := b.c6
    unfold nLines at this
    omega
/-- all that is struck until nothing can be is the end -/
theorem end_is {B : Board} (b : BOk B) {lot : List Nat} (h : Comes B lot) (t : Term B lot) : lot = endLot B := end_one b h t endLot_comes (endLot_term b)
end SB
namespace SB
open PySem PySem.Spec PyProof.Rows L2 RZ StX
def topS (i : Nat) : Stmt := PySem.Challenge.pw_struckboards_k19_whole_changes.main.body.getD i (.Pass ⟨0, 0, 0, 0⟩)
abbrev s_is_int : Stmt := topS 9
abbrev s_is_from : Stmt := topS 10
abbrev s_is_place : Stmt := topS 11
abbrev s_need_board : Stmt := topS 12
abbrev s_sides : Stmt := topS 13
abbrev s_lines_of : Stmt := topS 14
abbrev s_is_lot : Stmt := topS 15
abbrev s_need_lot : Stmt := topS 16
abbrev s_need_line : Stmt := topS 17
abbrev s_left_of : Stmt := topS 18
abbrev s_shown_of : Stmt := topS 19
abbrev s_numbers : Stmt := topS 20
abbrev s_same_side : Stmt := topS 21
abbrev s_is_greater : Stmt := topS 22
abbrev s_can_fall : Stmt := topS 24
abbrev s_with_line : Stmt := topS 25
abbrev s_closure : Stmt := topS 27
abbrev s_last_of : Stmt := topS 28
abbrev s_need_two : Stmt := topS 30
abbrev s_fewest_to_fall : Stmt := topS 31
abbrev s_need_standing : Stmt := topS 32
abbrev s_fewest_to_stand : Stmt := topS 33
abbrev s_lead : Stmt := topS 34
abbrev s_with_place : Stmt := topS 35
abbrev s_count_changes : Stmt := topS 36
abbrev s_kept_board : Stmt := topS 37
abbrev s_is_unlike : Stmt := topS 38
abbrev s_takenL : Stmt := topS 40
abbrev s_pickL : Stmt := topS 41
abbrev s_alikeL : Stmt := topS 42
abbrev s_isL : Stmt := topS 43
abbrev s_boardL : Stmt := topS 44
abbrev s_rowsL : Stmt := topS 45
abbrev s_columnsL : Stmt := topS 46
abbrev s_numbersL : Stmt := topS 47
abbrev s_overL : Stmt := topS 48
abbrev s_readyL : Stmt := topS 49
abbrev s_withL : Stmt := topS 50
abbrev s_drawnL : Stmt := topS 51
abbrev s_lotL : Stmt := topS 52
abbrev s_endL : Stmt := topS 53
abbrev s_shownL : Stmt := topS 54
abbrev s_law : Stmt := topS 55
theorem sc_is_int : FnScope ["value"] ["value"] (defScope s_is_int) := ⟨rfl, rfl, rfl, by decide +kernel, rfl, by decide +kernel, by decide +kernel⟩
theorem sc_is_from : FnScope ["value", "least", "most"] ["value", "least", "most"] (defScope s_is_from) := ⟨rfl, rfl, rfl, by decide +kernel, rfl, by decide +kernel, by decide +kernel⟩
theorem sc_is_place : FnScope ["value", "one"] ["value"] (defScope s_is_place) := ⟨rfl, rfl, rfl, by decide +kernel, rfl, by decide +kernel, by decide +kernel⟩
theorem sc_need_board : FnScope ["value", "index", "row", "place"] ["value"] (defScope s_need_board) := ⟨rfl, rfl, rfl, by decide +kernel, rfl, by decide +kernel, by decide +kernel⟩
theorem sc_sides : FnScope ["board"] ["board"] (defScope s_sides) := ⟨rfl, rfl, rfl, by decide +kernel, rfl, by decide +kernel, by decide +kernel⟩
theorem sc_lines_of : FnScope ["board"] ["board"] (defScope s_lines_of) := ⟨rfl, rfl, rfl, by decide +kernel, rfl, by decide +kernel, by decide +kernel⟩
theorem sc_is_lot : FnScope ["board", "value", "rows", "one", "a", "b"] ["board", "value"] (defScope s_is_lot) := ⟨rfl, rfl, rfl, by decide +kernel, rfl, by decide +kernel, by decide +kernel⟩
theorem sc_need_lot : FnScope ["board", "value"] ["board", "value"] (defScope s_need_lot) := ⟨rfl, rfl, rfl, by decide +kernel, rfl, by decide +kernel, by decide +kernel⟩
theorem sc_need_line : FnScope ["board", "value"] ["board", "value"] (defScope s_need_line) := ⟨rfl, rfl, rfl, by decide +kernel, rfl, by decide +kernel, by decide +kernel⟩
theorem sc_left_of : FnScope ["board", "lot", "rows", "one"] ["board", "lot"] (defScope s_left_of) := ⟨rfl, rfl, rfl, by decide +kernel, rfl, by decide +kernel, by decide +kernel⟩
theorem sc_shown_of : FnScope ["board", "lot", "rows", "columns", "row", "column"] ["board", "lot"] (defScope s_shown_of) := ⟨rfl, rfl, rfl, by decide +kernel, rfl, by decide +kernel, by decide +kernel⟩
theorem sc_numbers : FnScope ["board", "lot", "line", "rows", "columns", "row", "column"] ["board", "lot", "line"] (defScope s_numbers) := ⟨rfl, rfl, rfl, by decide +kernel, rfl, by decide +kernel, by decide +kernel⟩
theorem sc_same_side : FnScope ["board", "one", "other"] ["board", "one", "other"] (defScope s_same_side) := ⟨rfl, rfl, rfl, by decide +kernel, rfl, by decide +kernel, by decide +kernel⟩
theorem sc_is_greater : FnScope ["board", "lot", "line", "other", "a", "b"] ["board", "lot", "line", "other"] (defScope s_is_greater) := ⟨rfl, rfl, rfl, by decide +kernel, rfl, by decide +kernel, by decide +kernel⟩
theorem sc_can_fall : FnScope ["board", "lot", "line", "other"] ["board", "lot", "line"] (defScope s_can_fall) := ⟨rfl, rfl, rfl, by decide +kernel, rfl, by decide +kernel, by decide +kernel⟩
theorem sc_with_line : FnScope ["lot", "line"] ["lot", "line"] (defScope s_with_line) := ⟨rfl, rfl, rfl, by decide +kernel, rfl, by decide +kernel, by decide +kernel⟩
theorem sc_closure : FnScope ["board", "within", "some", "lot", "order", "line"] ["board", "within"] (defScope s_closure) := ⟨rfl, rfl, rfl, by decide +kernel, rfl, by decide +kernel, by decide +kernel⟩
theorem sc_last_of : FnScope ["board"] ["board"] (defScope s_last_of) := ⟨rfl, rfl, rfl, by decide +kernel, rfl, by decide +kernel, by decide +kernel⟩
theorem sc_need_two : FnScope ["board", "lot", "line", "other"] ["board", "lot", "line"] (defScope s_need_two) := ⟨rfl, rfl, rfl, by decide +kernel, rfl, by decide +kernel, by decide +kernel⟩
theorem sc_fewest_to_fall : FnScope ["board", "lot", "line", "other", "own", "best", "a", "b"] ["board", "lot", "line"] (defScope s_fewest_to_fall) := ⟨rfl, rfl, rfl, by decide +kernel, rfl, by decide +kernel, by decide +kernel⟩
theorem sc_need_standing : FnScope ["board", "lot", "line"] ["board", "lot", "line"] (defScope s_need_standing) := ⟨rfl, rfl, rfl, by decide +kernel, rfl, by decide +kernel, by decide +kernel⟩
theorem sc_fewest_to_stand : FnScope ["board", "lot", "line"] ["board", "lot", "line"] (defScope s_fewest_to_stand) := ⟨rfl, rfl, rfl, by decide +kernel, rfl, by decide +kernel, by decide +kernel⟩
theorem sc_lead : FnScope ["board", "lot", "line", "other", "a", "b"] ["board", "lot", "line", "other"] (defScope s_lead) := ⟨rfl, rfl, rfl, by decide +kernel, rfl, by decide +kernel, by decide +kernel⟩
theorem sc_with_place : FnScope ["board", "index", "at", "place", "row"] ["board", "index", "at", "place"] (defScope s_with_place) := ⟨rfl, rfl, rfl, by decide +kernel, rfl, by decide +kernel, by decide +kernel⟩
theorem sc_count_changes : FnScope ["board", "line", "found", "index", "row", "at", "a", "b", "place"] ["board", "line"] (defScope s_count_changes) := ⟨rfl, rfl, rfl, by decide +kernel, rfl, by decide +kernel, by decide +kernel⟩
theorem sc_kept_board : FnScope ["board", "lot"] ["board", "lot"] (defScope s_kept_board) := ⟨rfl, rfl, rfl, by decide +kernel, rfl, by decide +kernel, by decide +kernel⟩
theorem sc_is_unlike : FnScope ["board", "lot", "line", "rows", "columns", "some", "column", "row"] ["board", "lot"] (defScope s_is_unlike) := ⟨rfl, rfl, rfl, by decide +kernel, rfl, by decide +kernel, by decide +kernel⟩
theorem sc_takenL : FnScope ["_law_row", "_law_many", "_law_cell", "_law_found"] ["_law_row", "_law_many"] (defScope s_takenL) := ⟨rfl, rfl, rfl, by decide +kernel, rfl, by decide +kernel, by decide +kernel⟩
theorem sc_pickL : FnScope ["_law_row", "_law_things"] ["_law_row", "_law_things"] (defScope s_pickL) := ⟨rfl, rfl, rfl, by decide +kernel, rfl, by decide +kernel, by decide +kernel⟩
theorem sc_alikeL : FnScope ["_law_found", "_law_due", "_law_k"] ["_law_found", "_law_due"] (defScope s_alikeL) := ⟨rfl, rfl, rfl, by decide +kernel, rfl, by decide +kernel, by decide +kernel⟩
theorem sc_isL : FnScope ["_law_found", "_law_due"] ["_law_found", "_law_due"] (defScope s_isL) := ⟨rfl, rfl, rfl, by decide +kernel, rfl, by decide +kernel, by decide +kernel⟩
theorem sc_boardL : FnScope ["_law_row", "_law_rows_here", "_law_columns_here", "_law_many", "_law_one", "_law_high", "_law_wide", "_law_found", "_law_first", "_law_second", "_law_told", "_law_at"] ["_law_row", "_law_rows_here", "_law_columns_here", "_law_many"] (defScope s_boardL) := ⟨rfl, rfl, rfl, by decide +kernel, rfl, by decide +kernel, by decide +kernel⟩
theorem sc_rowsL : FnScope ["_law_board_here", "_law_lot_here", "_law_one"] ["_law_board_here", "_law_lot_here"] (defScope s_rowsL) := ⟨rfl, rfl, rfl, by decide +kernel, rfl, by decide +kernel, by decide +kernel⟩
theorem sc_columnsL : FnScope ["_law_board_here", "_law_lot_here", "_law_one"] ["_law_board_here", "_law_lot_here"] (defScope s_columnsL) := ⟨rfl, rfl, rfl, by decide +kernel, rfl, by decide +kernel, by decide +kernel⟩
theorem sc_numbersL : FnScope ["_law_board_here", "_law_lot_here", "_law_line", "_law_one"] ["_law_board_here", "_law_lot_here", "_law_line"] (defScope s_numbersL) := ⟨rfl, rfl, rfl, by decide +kernel, rfl, by decide +kernel, by decide +kernel⟩
theorem sc_overL : FnScope ["_law_board_here", "_law_lot_here", "_law_line", "_law_side", "_law_other", "_law_own", "_law_found", "_law_told", "_law_at"] ["_law_board_here", "_law_lot_here", "_law_line"] (defScope s_overL) := ⟨rfl, rfl, rfl, by decide +kernel, rfl, by decide +kernel, by decide +kernel⟩
theorem sc_readyL : FnScope ["_law_board_here", "_law_lot_here", "_law_line"] ["_law_board_here", "_law_lot_here"] (defScope s_readyL) := ⟨rfl, rfl, rfl, by decide +kernel, rfl, by decide +kernel, by decide +kernel⟩
theorem sc_withL : FnScope ["_law_lot_here", "_law_line"] ["_law_lot_here", "_law_line"] (defScope s_withL) := ⟨rfl, rfl, rfl, by decide +kernel, rfl, by decide +kernel, by decide +kernel⟩
theorem sc_drawnL : FnScope ["_law_row", "_law_board_here", "_law_many", "_law_turn", "_law_lot_here", "_law_found", "_law_some", "_law_line"] ["_law_row", "_law_board_here", "_law_many"] (defScope s_drawnL) := ⟨rfl, rfl, rfl, by decide +kernel, rfl, by decide +kernel, by decide +kernel⟩
theorem sc_lotL : FnScope ["_law_row", "_law_board_here", "_law_line", "_law_rows_here", "_law_high", "_law_wide", "_law_found"] ["_law_row", "_law_board_here"] (defScope s_lotL) := ⟨rfl, rfl, rfl, by decide +kernel, rfl, by decide +kernel, by decide +kernel⟩
theorem sc_endL : FnScope ["_law_board_here", "_law_lot_here", "_law_turn", "_law_some"] ["_law_board_here"] (defScope s_endL) := ⟨rfl, rfl, rfl, by decide +kernel, rfl, by decide +kernel, by decide +kernel⟩
theorem sc_shownL : FnScope ["_law_board_here", "_law_lot_here", "_law_high", "_law_one", "_law_at"] ["_law_board_here", "_law_lot_here"] (defScope s_shownL) := ⟨rfl, rfl, rfl, by decide +kernel, rfl, by decide +kernel, by decide +kernel⟩
theorem sc_law : FnScope ["_law_script", "_law_row", "_law_board_here", "_law_side", "_law_own", "e", "_law_over_here", "_law_many", "_law_one", "_law_same", "_law_at", "_law_high", "_law_wide", "_law_lot_here", "_law_rows_here", "_law_columns_here", "_law_line", "_law_word", "_law_counts", "_law_other", "_law_told", "_law_numbers_here", "_law_place", "_law_new"] ["_law_script"] (defScope s_law) := ⟨rfl, rfl, rfl, by decide +kernel, rfl, by decide +kernel, by decide +kernel⟩
structure Txt (K : PySem.W.Frag) (mg : Str → Option Value) (C : Addr) : Prop where
  f_isinstance : mg "isinstance" = none
  f_int : mg "int" = none
  f_bool : mg "bool" = none
  f_tuple : mg "tuple" = none
  f_list : mg "list" = none
  f_str : mg "str" = none
  f_len : mg "len" = none
  f_all : mg "all" = none
  f_any : mg "any" = none
  f_range : mg "range" = none
  f_sum : mg "sum" = none
  f_zip : mg "zip" = none
  f_enumerate : mg "enumerate" = none
  f_sorted : mg "sorted" = none
  f_min : mg "min" = none
  f_set : mg "set" = none
  side : ∃ u, mg "MOST_SIDE" = some u ∧ RelV (.int 6) u
  most : ∃ u, mg "MOST_VALUE" = some u ∧ RelV (.int 1000) u
  gC : mg "AloneOnSide" = some (.ref C)
  xC : PySem.W.excIn K C [.type "ValueError", .type "Exception", .type "BaseException", .type "object"] "ValueError.__new__" = true
  kC : PySem.W.keepIn K (.ref C) = true
  bC : PySem.W.subIn K (.ref C) (.type "BaseException") = some true
  tC : PySem.W.typeIn K (.ref C) = some (.type "type")
  eC : PySem.W.exmOne K (.ref C) (.ref C) = some true
  d_is_int : Def K mg "is_int" s_is_int
  d_is_from : Def K mg "is_from" s_is_from
  d_is_place : Def K mg "is_place" s_is_place
  d_need_board : Def K mg "need_board" s_need_board
  d_sides : Def K mg "sides" s_sides
  d_lines_of : Def K mg "lines_of" s_lines_of
  d_is_lot : Def K mg "is_lot" s_is_lot
  d_need_lot : Def K mg "need_lot" s_need_lot
  d_need_line : Def K mg "need_line" s_need_line
  d_left_of : Def K mg "left_of" s_left_of
  d_shown_of : Def K mg "shown_of" s_shown_of
  d_numbers : Def K mg "numbers" s_numbers
  d_same_side : Def K mg "same_side" s_same_side
  d_is_greater : Def K mg "is_greater" s_is_greater
  d_can_fall : Def K mg "can_fall" s_can_fall
  d_with_line : Def K mg "with_line" s_with_line
  d_closure : Def K mg "closure" s_closure
  d_last_of : Def K mg "last_of" s_last_of
  d_need_two : Def K mg "need_two" s_need_two
  d_fewest_to_fall : Def K mg "fewest_to_fall" s_fewest_to_fall
  d_need_standing : Def K mg "need_standing" s_need_standing
  d_fewest_to_stand : Def K mg "fewest_to_stand" s_fewest_to_stand
  d_lead : Def K mg "lead" s_lead
  d_with_place : Def K mg "with_place" s_with_place
  d_count_changes : Def K mg "count_changes" s_count_changes
  d_kept_board : Def K mg "kept_board" s_kept_board
  d_is_unlike : Def K mg "is_unlike" s_is_unlike
  d_takenL : Def K mg "_law_taken" s_takenL
  d_pickL : Def K mg "_law_pick" s_pickL
  d_alikeL : Def K mg "_law_alike" s_alikeL
  d_isL : Def K mg "_law_is" s_isL
  d_boardL : Def K mg "_law_board" s_boardL
  d_rowsL : Def K mg "_law_rows" s_rowsL
  d_columnsL : Def K mg "_law_columns" s_columnsL
  d_numbersL : Def K mg "_law_numbers" s_numbersL
  d_overL : Def K mg "_law_over" s_overL
  d_readyL : Def K mg "_law_ready" s_readyL
  d_withL : Def K mg "_law_with" s_withL
  d_drawnL : Def K mg "_law_drawn" s_drawnL
  d_lotL : Def K mg "_law_lot" s_lotL
  d_endL : Def K mg "_law_end" s_endL
  d_shownL : Def K mg "_law_shown" s_shownL
  d_law : Def K mg "law" s_law
end SB
namespace SB
open PySem PySem.Spec PyProof.Rows L2 RZ StX
local macro_rules | `(tactic| walk_at "rp") => `(tactic| first | assumption | rfl | (refine Dat.mono (by assumption) ?_; walk_at "rp"))
section
variable {K : PySem.W.Frag} {σ : L2.St} {H : Hp} {te : TE}
theorem ev_cast {n : Nat} (h : Ev te σ H n) : Ev te σ H (n : Int) := fun H1 s Q q => h H1 s Q fun v H2 s2 r => q v H2 s2 r
theorem ev_pairL {p : Int × Int} (h : Ev te σ H p) : Ev te σ H [p.1, p.2] := fun H1 s Q q => h H1 s Q fun v H2 s2 ⟨a, x, y, e, ha, r1, r2⟩ => q v H2 s2 ⟨a, [x, y], e, ha, .cons r1 (.cons r2 .nil)⟩
variable {α β γ δ : Type} [Dat α] [Dat β] [Dat γ] [DatT α] [DatT β] [DatT γ] [Dat δ] [DatT δ] {wi : TI} {vs : List Nat} {tt : TT}
theorem evt_yes : EvT tYes σ H true := fun H1 s Q q => q H1 (Same.refl _)
theorem ev_lc1 {j : Nat} {xs : List α} (p : α → Bool) (f : α → δ) (hs : SrcOk M0 wi σ H xs) (hz : xs.length ≤ 50000) (hw : ∀ v, wipe ((wipe σ vs).set j (some v)) vs = wipe σ vs)
    (htt : ∀ x ∈ xs, ∀ v H1, Same H H1 → Dat.rep H1 v x → EvT tt ((wipe σ vs).set j (some v)) H1 (p x)) (he : ∀ x ∈ xs, p x = true → ∀ v H1, Same H H1 → Dat.rep H1 v x → Ev te ((wipe σ vs).set j (some v)) H1 (f x)) :
    Ev (tLc wi (gName j) tt te vs) σ H (Lst.mk ((xs.filter p).map f)) :=
  ev_lc p f hs tg_name hz (by rintro _ _ _ ⟨v, rfl, _⟩; exact hw v) (by rintro x hx _ H1 s ⟨v, rfl, r⟩; exact htt x hx v H1 s r) (by rintro x hx hp _ H1 s ⟨v, rfl, r⟩; exact he x hx hp v H1 s r) (by rintro _ _ _ _ s ⟨v, rfl, r⟩; exact ⟨v, rfl, Dat.mono s r⟩)
theorem filter_all {α : Type} (xs : List α) : xs.filter (fun _ => true) = xs := List.filter_eq_self.mpr fun _ _ => rfl
theorem ev_lc1m {j : Nat} {xs : List α} (f : α → δ) (hs : SrcOk M0 wi σ H xs) (hz : xs.length ≤ 50000) (hw : ∀ v, wipe ((wipe σ vs).set j (some v)) vs = wipe σ vs)
    (he : ∀ x ∈ xs, ∀ v H1, Same H H1 → Dat.rep H1 v x → Ev te ((wipe σ vs).set j (some v)) H1 (f x)) :
    Ev (tLc wi (gName j) tYes te vs) σ H (Lst.mk (xs.map f)) := (ev_lc1 (fun _ => true) f hs hz hw (fun _ _ _ _ _ _ => evt_yes) (fun x hx _ => he x hx)).eq (by rw [filter_all])
/-- a filter alone -/
theorem ev_lc1f {j : Nat} {xs : List α} (p : α → Bool) (hs : SrcOk M0 wi σ H xs) (hz : xs.length ≤ 50000) (hw : ∀ v, wipe ((wipe σ vs).set j (some v)) vs = wipe σ vs)
    (htt : ∀ x ∈ xs, ∀ v H1, Same H H1 → Dat.rep H1 v x → EvT tt ((wipe σ vs).set j (some v)) H1 (p x)) (hg : ∀ v, ((wipe σ vs).set j (some v))[j]? = some (some v)) :
    Ev (tLc wi (gName j) tt (tVar j) vs) σ H (Lst.mk (xs.filter p)) := (ev_lc1 p id hs hz hw htt (fun x hx _ v H1 s r => ev_var (hg v) r)).eq (by rw [List.map_id])
theorem ev_lc2 {i j : Nat} {K : PySem.W.Frag} {xs : List (α × β)} (p : α × β → Bool) (f : α × β → δ) (hs : SrcOk M0 wi σ H xs) (hz : xs.length ≤ 50000) (hw : ∀ v w, wipe (((wipe σ vs).set i (some v)).set j (some w)) vs = wipe σ vs)
    (htt : ∀ x ∈ xs, ∀ v w H1, Same H H1 → Dat.rep H1 v x.1 → Dat.rep H1 w x.2 → EvT tt (((wipe σ vs).set i (some v)).set j (some w)) H1 (p x)) (he : ∀ x ∈ xs, p x = true → ∀ v w H1, Same H H1 → Dat.rep H1 v x.1 → Dat.rep H1 w x.2 → Ev te (((wipe σ vs).set i (some v)).set j (some w)) H1 (f x)) :
    Ev (tLc wi (gTup K 2 (gCons (gName i) (gCons (gName j) gNil))) tt te vs) σ H (Lst.mk ((xs.filter p).map f)) :=
  ev_lc p f hs tg_two hz (by rintro _ _ _ ⟨v, w, rfl, _⟩; exact hw v w) (by rintro x hx _ H1 s ⟨v, w, rfl, r, r2⟩; exact htt x hx v w H1 s r r2) (by rintro x hx hp _ H1 s ⟨v, w, rfl, r, r2⟩; exact he x hx hp v w H1 s r r2) (by rintro _ _ _ _ s ⟨v, w, rfl, r, r2⟩; exact ⟨v, w, rfl, Dat.mono s r, Dat.mono s r2⟩)
theorem ev_lc2m {i j : Nat} {K : PySem.W.Frag} {xs : List (α × β)} (f : α × β → δ) (hs : SrcOk M0 wi σ H xs) (hz : xs.length ≤ 50000) (hw : ∀ v w, wipe (((wipe σ vs).set i (some v)).set j (some w)) vs = wipe σ vs)
    (he : ∀ x ∈ xs, ∀ v w H1, Same H H1 → Dat.rep H1 v x.1 → Dat.rep H1 w x.2 → Ev te (((wipe σ vs).set i (some v)).set j (some w)) H1 (f x)) :
    Ev (tLc wi (gTup K 2 (gCons (gName i) (gCons (gName j) gNil))) tYes te vs) σ H (Lst.mk (xs.map f)) := (ev_lc2 (fun _ => true) f hs hz hw (fun _ _ _ _ _ _ _ _ => evt_yes) (fun x hx _ => he x hx)).eq (by rw [filter_all])
end
section
variable {P : Program} {w : World} {K : PySem.W.Frag} {mg : Str → Option Value} {base : Heap} {C : Addr}
abbrev sp_is_int : Sp := Sp1 (fun _ : Int => True) (fun _ => true)
theorem c_is_int (T : Txt K mg C)  : Cal P w K mg base CX0 1 "is_int" sp_is_int := by
  refine cal0 T.d_is_int sc_is_int (fun _ _ _ _ _ _ us hl => match us, hl with | [_], _ => rfl) len1 (fun f cdv A outer s H vs Q E hr h => ?_)
  obtain ⟨v0, x0, rfl, r0, p, q⟩ := h
  refine ⟨_, (pss_one (ps_ret (pe_and (pe_callB (k_isi (K := K)) (by rfl) T.f_isinstance boot_isinstance (pa_cons (pv 0) (pa_cons (pe_tyname (by rfl) T.f_int boot_int) pa_nil))) (pe_one (pe_not (pe_callB (k_isi (K := K)) (by rfl) T.f_isinstance boot_isinstance (pa_cons (pv 0) (pa_cons (pe_tyname (by rfl) T.f_bool boot_bool) pa_nil)))))))), ?_⟩
  exact s_ret ((ev_andV (ev_isi (x := x0) (b := true) (ev_var rfl (by walk_at "rp")) (by decide +kernel)) fun _ => ev_notV (ev_isi (x := x0) (b := false) (ev_var rfl (by walk_at "rp")) (by decide +kernel)))) q
abbrev sp_is_from : Sp := Sp3 (fun _ _ _ : Int => True) (fun x a b => decide (a ≤ x) && decide (x ≤ b))
theorem c_is_from (T : Txt K mg C) (C_is_int : Cal P w K mg base CX0 1 "is_int" sp_is_int) : Cal P w K mg base CX0 2 "is_from" sp_is_from := by
  refine cal0 T.d_is_from sc_is_from (fun _ _ _ _ _ _ us hl => match us, hl with | [_, _, _], _ => rfl) len3 (fun f cdv A outer s H vs Q E hr h => ?_)
  obtain ⟨v0, x0, v1, x1, v2, x2, rfl, r0, r1, r2, p, q⟩ := h
  refine ⟨_, (pss_one (ps_ret (pe_and (pe_cal C_is_int hr (by decide) (by rfl) (pa_cons (pv 0) pa_nil)) (pe_one (pe_chain op_le op_le (pv 1) (pv 0) (pv 2)))))), ?_⟩
  exact s_ret (ev_andV (ev_call1 (x := x0) (ev_var rfl (by walk_at "rp")) trivial) fun _ => ev_chainI (a := x1) (b := x0) (c := x2) (ev_var rfl (by walk_at "rp")) (ev_var rfl (by walk_at "rp")) (ev_var rfl (by walk_at "rp"))) q
abbrev sp_is_place : Sp := Sp1 (fun p : Cell => InR p.1 ∧ InR p.2) (fun _ => true)
theorem c_is_place (T : Txt K mg C) (C_is_from : Cal P w K mg base CX0 2 "is_from" sp_is_from) : Cal P w K mg base CX0 3 "is_place" sp_is_place := by
  refine cal0 T.d_is_place sc_is_place (fun _ _ _ _ _ _ us hl => match us, hl with | [_], _ => rfl) len1 (fun f cdv A outer s H vs Q E hr h => ?_)
  obtain ⟨v0, x0, rfl, r0, p, q⟩ := h
  refine ⟨_, (pss_cons (ps_if (PW.pt (pw_or (pt_not (pt_val (pe_callB (k_isi (K := K)) (by rfl) T.f_isinstance boot_isinstance (pa_cons (pv 0) (pa_cons (pe_tyname (by rfl) T.f_tuple boot_tuple) pa_nil))))) (pw_or1 (pt_cmpR op_ne (pe_callB (k_len (K := K)) (by rfl) T.f_len boot_len (pa_cons (pv 0) pa_nil)) pe_int (by rfl))))) (pss_one (ps_ret pe_bl)) pss_nil)
      (pss_one (ps_ret (pe_callB (k_all (K := K)) (by rfl) T.f_all boot_all (pa_cons (pe_lc (own := [("one", 1)]) rfl sc_is_place.nd (kpi_tup (K := K) (pv 0)) (blkOk_by (N := ["value", "one"]) (sc := defScope s_is_place) (by decide +kernel)) (fun _ _ _ _ _ => (pg_name (i := 1) sc_is_place.nd rfl (by first | exact .inl rfl | exact .inr rfl))) (fun _ _ _ _ _ => pts_nil) (fun _ _ _ _ _ => (pe_cal C_is_from hr (by decide) (by rfl) (pa_cons (pv 1) (pa_cons (pe_un un_neg (pe_gname (by rfl) T.most)) (pa_cons (pe_gname (by rfl) T.most) pa_nil)))))) pa_nil))))), ?_⟩
  refine q_pass ((evt_or (evt_not (evt_b (ev_isi (x := x0) (b := true) (ev_var rfl (by walk_at "rp")) (by decide +kernel)))) fun _ => evt_of (ev_neN (ek_lenP (p := x0) (ev_var rfl (by walk_at "rp"))) (ev_nat (n := 2) rfl))).eq (by decide)) fun H1 s1 => ?_
  refine s_ret ((ev_all (ev_lc (fun _ => true) (fun x => decide (-1000 ≤ x) && decide (x ≤ 1000)) (src_T (ev_pairL (p := x0) (ev_var rfl (by walk_at "rp"))) m0_ok) tg_name (by show 2 ≤ 50000; decide) ?_ ?_ ?_ ?_)).eq ?_) fun v H2 s r => q v H2 (s1.trans s) r
  · rintro _ _ _ ⟨v, rfl, _⟩; rfl
  · rintro x hx _ _ _ ⟨v, rfl, _⟩; exact fun H1 s Q q => q H1 (Same.refl _)
  · rintro x hx _ _ H2 s2 ⟨v, rfl, rv⟩
    exact ev_call3 (x := x) (y := -1000) (z := 1000) (ev_var rfl (by walk_at "rp")) (ev_negI (a := 1000) (ev_c fun _ => rfl)) (ev_c fun _ => rfl) trivial
  · rintro _ _ _ _ s ⟨v, rfl, r⟩; exact ⟨v, rfl, Dat.mono s r⟩
  · have h1 := p.1
    have h2 := p.2
    unfold InR at h1 h2
    simp [h1, h2]
end
end SB
namespace SB
open PySem PySem.Spec PyProof.Rows L2 RZ StX
local macro_rules | `(tactic| walk_at "rp") => `(tactic| first | assumption | rfl | (refine Dat.mono (by assumption) ?_; walk_at "rp"))
section
variable {P : Program} {w : World} {K : PySem.W.Frag} {mg : Str → Option Value} {base : Heap} {C : Addr}
theorem bok_head {B : Board} (b : BOk B) : B[0]? = some (B.headD []) := by
  have := b.r1
  cases B with
  | nil => simp at this
  | cons x r => rfl
theorem bok_row {B : Board} (b : BOk B) {i : Nat} {row : Row} (h : B[i]? = some row) : row.length = wid B := b.rows row (List.mem_of_getElem? h)
theorem bok_get {B : Board} {i : Nat} (h : i < B.length) : B[i]? = some (B.getD i []) := by
  rw [List.getElem?_eq_getElem h, List.getD_eq_getElem?_getD, List.getElem?_eq_getElem h]
  rfl
theorem bok_cell {B : Board} (b : BOk B) {i j : Nat} (hi : i < B.length) (hj : j < wid B) : (B.getD i [])[j]? = some (cellAt B i j) := by
  have hl := bok_row b (bok_get hi)
  unfold cellAt
  have h' : j < (B.getD i []).length := by omega
  rw [List.getElem?_eq_getElem h', List.getD_eq_getElem?_getD (l := B.getD i []), List.getElem?_eq_getElem h']
  rfl
abbrev sp_need_board : Sp := Sp1 BOk (fun _ => ())
theorem c_need_board (T : Txt K mg C) (C_is_place : Cal P w K mg base CX0 3 "is_place" sp_is_place) : Cal P w K mg base CX0 4 "need_board" sp_need_board := by
  refine cal0 T.d_need_board sc_need_board (fun _ _ _ _ _ _ us hl => match us, hl with | [_], _ => rfl) len1 (fun f cdv A outer s H vs Q E hr h => ?_)
  obtain ⟨v0, B, rfl, r0, b, q⟩ := h
  refine ⟨_, (pss_cons (ps_if (PW.pt (pw_or (pt_not (pt_val (pe_callB (k_isi (K := K)) (by rfl) T.f_isinstance boot_isinstance (pa_cons (pv 0) (pa_cons (pe_tyname (by rfl) T.f_tuple boot_tuple) pa_nil))))) (pw_or1 (pt_not (pt_chain op_le op_le pe_int (pe_callB (k_len (K := K)) (by rfl) T.f_len boot_len (pa_cons (pv 0) pa_nil)) (pe_gname (by rfl) T.side)))))) (pss_one ps_never) pss_nil)
      (pss_one (ps_for PassesOwn.never rfl (kpi_enum (K := K) (by rfl) T.f_enumerate (pa_cons (pv 0) pa_nil)) (kpg_tup (K := K) (n := 2) (pgs_cons (pg_name (i := 1) sc_need_board.nd rfl (by first | exact .inl rfl | exact .inr rfl)) (pgs_cons (pg_name (i := 2) sc_need_board.nd rfl (by first | exact .inl rfl | exact .inr rfl)) pgs_nil))) (pss_cons (ps_if (PW.pt (pw_or (pt_not (pt_val (pe_callB (k_isi (K := K)) (by rfl) T.f_isinstance boot_isinstance (pa_cons (pv 2) (pa_cons (pe_tyname (by rfl) T.f_tuple boot_tuple) pa_nil))))) (pw_or (pt_not (pt_chain op_le op_le pe_int (pe_callB (k_len (K := K)) (by rfl) T.f_len boot_len (pa_cons (pv 2) pa_nil)) (pe_gname (by rfl) T.side))) (pw_or1 (pt_cmpR op_ne (pe_callB (k_len (K := K)) (by rfl) T.f_len boot_len (pa_cons (pv 2) pa_nil)) (pe_callB (k_len (K := K)) (by rfl) T.f_len boot_len (pa_cons (pe_ix (k_ixT (K := K)) (pv 0) pe_int (fun _ _ => rfl)) pa_nil)) (by rfl)))))) (pss_one ps_never) pss_nil)
      (pss_one (ps_if (pt_not (pt_val (pe_callB (k_all (K := K)) (by rfl) T.f_all boot_all (pa_cons (pe_lc (own := [("place", 3)]) rfl sc_need_board.nd (kpi_tup (K := K) (pv 2)) (blkOk_by (N := ["value", "index", "row", "place"]) (sc := defScope s_need_board) (by decide +kernel)) (fun _ _ _ _ _ => (pg_name (i := 3) sc_need_board.nd rfl (by first | exact .inl rfl | exact .inr rfl))) (fun _ _ _ _ _ => pts_nil) (fun _ _ _ _ _ => (pe_cal C_is_place hr (by decide) (by rfl) (pa_cons (pv 3) pa_nil)))) pa_nil)))) (pss_one ps_never) pss_nil)))))), ?_⟩
  refine q_pass ((evt_or (evt_not (evt_b (ev_isi (x := B) (b := true) (ev_var rfl (by walk_at "rp")) (by decide +kernel)))) fun _ => evt_not (evt_of (ev_chainI ev_int (ev_cast (ek_lenT (xs := B) (ev_var rfl (by walk_at "rp")))) (ev_c (x := (6 : Int)) fun _ => rfl)))).eq ?_) fun H1 s1 => ?_
  · have h1 := b.r1
    have h2 := b.r6
    simp
    omega
  refine s_for (src_E (xs := B) (ev_var rfl (by walk_at "rp")) m0_ok) fun H2 s2 => ⟨fun i σ' H' => (∃ a b, σ' = [some v0, a, b, none]) ∧ Same H2 H', ⟨⟨_, _, rfl⟩, Same.refl _⟩, fun i σ' H' h => same_b h.2, ?_, fun σ' H' h => q _ _ ((s1.trans s2).trans h.2) rfl⟩
  rintro i x hx σ' H' ⟨⟨a, c, rfl⟩, s3⟩ v H3 s4 rv
  refine tg_two v H3 x rv _ ?_
  rintro σ2 ⟨v1, v2, rfl, r1, r2⟩
  obtain ⟨_, gx⟩ := enumD_get hx
  have hl := bok_row b gx
  have h1 := b.c1
  have h2 := b.c6
  refine q_pass ((evt_or (evt_not (evt_b (ev_isi (x := x.2) (b := true) (ev_var rfl (by walk_at "rp")) (by decide +kernel)))) fun _ => evt_or (evt_not (evt_of (ev_chainI ev_int (ev_cast (ek_lenT (xs := x.2) (ev_var rfl (by walk_at "rp")))) (ev_c (x := (6 : Int)) fun _ => rfl)))) fun _ =>
    evt_of (ev_neN (ek_lenT (xs := x.2) (ev_var rfl (by walk_at "rp"))) (ek_lenT (xs := B.headD []) (ev_ixT (xs := B) (i := 0) (ev_var rfl (by walk_at "rp")) (ev_nat rfl) (bok_head b))))).eq ?_) fun H4 s5 => ?_
  · have e1 : (B.headD []).length = x.2.length := hl.symm
    rw [e1]
    simp
    omega
  refine s_pass ((evt_not (evt_b (ev_all (ev_lc1m (fun _ => true) (src_T (xs := x.2) (ev_var rfl (by walk_at "rp")) m0_ok) (by omega) (fun v => rfl) fun p hp v H5 s6 rp => ev_call1 (x := p) (ev_var rfl (by walk_at "rp")) (b.cells _ (List.mem_of_getElem? gx) p hp))))).eq ?_) fun H5 s6 => ?_
  · simp
  · exact ⟨⟨_, _, rfl⟩, s3.trans (s4.trans (s5.trans s6))⟩
abbrev sp_sides : Sp := Sp1 BOk (fun B => (B.length, wid B))
theorem c_sides (T : Txt K mg C)  : Cal P w K mg base CX0 1 "sides" sp_sides := by
  refine cal0 T.d_sides sc_sides (fun _ _ _ _ _ _ us hl => match us, hl with | [_], _ => rfl) len1 (fun f cdv A outer s H vs Q E hr h => ?_)
  obtain ⟨v0, B, rfl, r0, b, q⟩ := h
  refine ⟨_, (pss_one (ps_ret (pe_tup (pa_cons (pe_callB (k_len (K := K)) (by rfl) T.f_len boot_len (pa_cons (pv 0) pa_nil)) (pa_cons (pe_callB (k_len (K := K)) (by rfl) T.f_len boot_len (pa_cons (pe_ix (k_ixT (K := K)) (pv 0) pe_int (fun _ _ => rfl)) pa_nil)) pa_nil))))), ?_⟩
  exact s_ret (ev_pair (ek_lenT (xs := B) (ev_var rfl (by walk_at "rp"))) (ek_lenT (xs := B.headD []) (ev_ixT (xs := B) (i := 0) (ev_var rfl (by walk_at "rp")) (ev_nat rfl) (bok_head b)))) q
abbrev sp_lines_of : Sp := Sp1 BOk linesOf
theorem c_lines_of (T : Txt K mg C) (C_sides : Cal P w K mg base CX0 1 "sides" sp_sides) : Cal P w K mg base CX0 2 "lines_of" sp_lines_of := by
  refine cal0 T.d_lines_of sc_lines_of (fun _ _ _ _ _ _ us hl => match us, hl with | [_], _ => rfl) len1 (fun f cdv A outer s H vs Q E hr h => ?_)
  obtain ⟨v0, B, rfl, r0, b, q⟩ := h
  refine ⟨_, (pss_one (ps_ret (pe_tupRg rfl (by rfl) T.f_tuple (prg_1 (by rfl) T.f_range (pe_callB (cr_sumT rfl) (by rfl) T.f_sum boot_sum (pa_cons (pe_cal C_sides hr (by decide) (by rfl) (pa_cons (pv 0) pa_nil)) pa_nil)))))), ?_⟩
  have h1 := b.r6
  have h2 := b.c6
  exact s_ret (ev_tupRg (ev_sumP (ev_call1 (x := B) (ev_var rfl (by walk_at "rp")) b)) (by show B.length + wid B ≤ 1000; omega)) q
theorem low_count {B : Board} {lot : List Nat} (h : LotOk B lot) : (lot.filter (fun x => decide (x < B.length))).length < B.length := by
  have e : lot.filter (fun x => decide (x < B.length)) = (List.range B.length).filter (fun i => decide (i ∈ lot)) := by
    refine ssorted_ext (h.up.sublist List.filter_sublist) ((range_lt _).sublist List.filter_sublist) fun x => ?_
    simp [List.mem_filter, List.mem_range]
    exact And.comm
  rw [e]
  obtain ⟨r, hr, nr⟩ := h.row
  have h1 : ((List.range B.length).filter (fun i => decide (i ∈ lot))).length ≠ (List.range B.length).length := fun z => by
    have := List.filter_eq_self.mp (List.filter_sublist.eq_of_length z) r (List.mem_range.mpr hr)
    exact nr (of_decide_eq_true this)
  have h2 := List.length_filter_le (fun i => decide (i ∈ lot)) (List.range B.length)
  rw [List.length_range] at h1 h2
  omega
theorem high_count {B : Board} {lot : List Nat} (h : LotOk B lot) : lot.length < (lot.filter (fun x => decide (x < B.length))).length + wid B := by
  have e0 : (lot.filter (fun x => decide (x < B.length))).length + (lot.filter (fun x => !decide (x < B.length))).length = lot.length := by
    generalize lot = l
    induction l with
    | nil => rfl
    | cons a r ih =>
      by_cases q : a < B.length
      · simp only [List.filter_cons, decide_eq_true q, Bool.not_true, Bool.false_eq_true, if_true, if_false, List.length_cons]
        omega
      · simp only [List.filter_cons, decide_eq_false q, Bool.not_false, Bool.false_eq_true, if_true, if_false, List.length_cons]
        omega
  have e : lot.filter (fun x => !decide (x < B.length)) = (List.range' B.length (wid B)).filter (fun i => decide (i ∈ lot)) := by
    refine ssorted_ext (h.up.sublist List.filter_sublist) ((List.pairwise_lt_range' (s := B.length) (n := wid B)).sublist List.filter_sublist) fun x => ?_
    simp only [List.mem_filter, List.mem_range'_1, Bool.not_eq_true', decide_eq_false_iff_not, decide_eq_true_eq]
    constructor
    · rintro ⟨h1, h2⟩
      have := h.lt x h1
      unfold nLines at this
      exact ⟨⟨by omega, this⟩, h1⟩
    · rintro ⟨⟨h1, h2⟩, h3⟩
      exact ⟨h3, by omega⟩
  obtain ⟨c, h1, h2, nc⟩ := h.col
  have h3 : ((List.range' B.length (wid B)).filter (fun i => decide (i ∈ lot))).length ≠ (List.range' B.length (wid B)).length := fun z => by
    have := List.filter_eq_self.mp (List.filter_sublist.eq_of_length z) c (List.mem_range'_1.mpr ⟨h1, h2⟩)
    exact nc (of_decide_eq_true this)
  have h4 := List.length_filter_le (fun i => decide (i ∈ lot)) (List.range' B.length (wid B))
  rw [List.length_range'] at h3 h4
  rw [e] at e0
  omega
abbrev sp_is_lot : Sp := Sp2 (fun B lot => BOk B ∧ LotOk B lot) (fun _ _ => true)
theorem zip_up {l : List Nat} (h : l.Pairwise (· < ·)) : ∀ p ∈ l.zip (l.drop 1), p.1 < p.2 := by
  induction l with
  | nil => intro p hp; cases hp
  | cons a r ih =>
    intro p hp
    cases r with
    | nil => cases hp
    | cons c r' =>
      have h' := List.pairwise_cons.mp h
      rcases List.mem_cons.mp (show p ∈ (a, c) :: (c :: r').zip r' from hp) with e | e
      · rw [e]; exact h'.1 c (List.mem_cons_self ..)
      · exact ih h'.2 p e
theorem c_is_lot (T : Txt K mg C) (C_is_from : Cal P w K mg base CX0 2 "is_from" sp_is_from) (C_sides : Cal P w K mg base CX0 1 "sides" sp_sides) : Cal P w K mg base CX0 3 "is_lot" sp_is_lot := by
  refine cal0 T.d_is_lot sc_is_lot (fun _ _ _ _ _ _ us hl => match us, hl with | [_, _], _ => rfl) len2 (fun f cdv A outer s H vs Q E hr h => ?_)
  obtain ⟨v0, B, v1, lot, rfl, r0, r1, ⟨b, lo⟩, q⟩ := h
  refine ⟨_, (pss_cons (ps_if (PW.pt (pw_or (pt_not (pt_val (pe_callB (k_isi (K := K)) (by rfl) T.f_isinstance boot_isinstance (pa_cons (pv 1) (pa_cons (pe_tyname (by rfl) T.f_tuple boot_tuple) pa_nil))))) (pw_or1 (pt_not (pt_val (pe_callB (k_all (K := K)) (by rfl) T.f_all boot_all (pa_cons (pe_lc (own := [("one", 3)]) rfl sc_is_lot.nd (kpi_tup (K := K) (pv 1)) (blkOk_by (N := ["board", "value", "rows", "one", "a", "b"]) (sc := defScope s_is_lot) (by decide +kernel)) (fun _ _ _ _ _ => (pg_name (i := 3) sc_is_lot.nd rfl (by first | exact .inl rfl | exact .inr rfl))) (fun _ _ _ _ _ => pts_nil) (fun _ _ _ _ _ => (pe_cal C_is_from hr (by decide) (by rfl) (pa_cons (pv 3) (pa_cons pe_int (pa_cons (pe_op op_sub (pe_callB (cr_sumT rfl) (by rfl) T.f_sum boot_sum (pa_cons (pe_cal C_sides hr (by decide) (by rfl) (pa_cons (pv 0) pa_nil)) pa_nil)) pe_int) pa_nil)))))) pa_nil))))))) (pss_one (ps_ret pe_bl)) pss_nil)
      (pss_cons (ps_if (pt_val (pe_callB (k_any (K := K)) (by rfl) T.f_any boot_any (pa_cons (pe_lc (own := [("a", 4), ("b", 5)]) rfl sc_is_lot.nd (kpi_zip (K := K) (by rfl) T.f_zip (pa_cons (pv 1) (pa_cons (pe_slice (k_sl (K := K)) (pv 1) (po_some pe_int) po_none) pa_nil))) (blkOk_by (N := ["board", "value", "rows", "one", "a", "b"]) (sc := defScope s_is_lot) (by decide +kernel)) (fun _ _ _ _ _ => (kpg_tup (K := K) (n := 2) (pgs_cons (pg_name (i := 4) sc_is_lot.nd rfl (by first | exact .inl rfl | exact .inr rfl)) (pgs_cons (pg_name (i := 5) sc_is_lot.nd rfl (by first | exact .inl rfl | exact .inr rfl)) pgs_nil)))) (fun _ _ _ _ _ => pts_nil) (fun _ _ _ _ _ => (pe_cmpR op_ge (pv 4) (pv 5) (by rfl)))) pa_nil))) (pss_one (ps_ret pe_bl)) pss_nil)
      (pss_cons (ps_set (i := 2) sc_is_lot.nd rfl (by first | exact .inl rfl | exact .inr rfl) (pe_callB (k_len (K := K)) (by rfl) T.f_len boot_len (pa_cons (pe_lc (own := [("one", 3)]) rfl sc_is_lot.nd (kpi_tup (K := K) (pv 1)) (blkOk_by (N := ["board", "value", "rows", "one", "a", "b"]) (sc := defScope s_is_lot) (by decide +kernel)) (fun _ _ _ _ _ => (pg_name (i := 3) sc_is_lot.nd rfl (by first | exact .inl rfl | exact .inr rfl))) (fun _ _ _ _ _ => pts_one (pt_cmpR op_lt (pv 3) (pe_callB (k_len (K := K)) (by rfl) T.f_len boot_len (pa_cons (pv 0) pa_nil)) (by rfl))) (fun _ _ _ _ _ => (pv 3))) pa_nil)))
      (pss_one (ps_ret (pe_and (pe_cmpR op_lt (pv 2) (pe_callB (k_len (K := K)) (by rfl) T.f_len boot_len (pa_cons (pv 0) pa_nil)) (by rfl)) (pe_one (pe_cmpR op_lt (pe_op op_sub (pe_callB (k_len (K := K)) (by rfl) T.f_len boot_len (pa_cons (pv 1) pa_nil)) (pv 2)) (pe_callB (k_len (K := K)) (by rfl) T.f_len boot_len (pa_cons (pe_ix (k_ixT (K := K)) (pv 0) pe_int (fun _ _ => rfl)) pa_nil)) (by rfl))))))))), ?_⟩
  have hz := lot_len b lo
  have hz2 : nLines B ≤ 12 := by
    have := b.r6
    have := b.c6
    unfold nLines
    omega
  refine q_pass ((evt_or (evt_not (evt_b (ev_isi (x := lot) (b := true) (ev_var rfl (by walk_at "rp")) (by decide +kernel)))) fun _ => evt_not (evt_b (ev_all (ev_lc1m (fun _ => true) (src_T (xs := lot) (ev_var rfl (by walk_at "rp")) m0_ok) (by omega) (fun v => rfl) fun x hx v H1 s1 rv =>
    (ev_call3 (x := (x : Int)) (y := 0) (z := ((nLines B : Nat) : Int) - 1) (ev_cast (n := x) (ev_var rfl (by walk_at "rp"))) ev_int (ev_subI (ev_cast (ev_sumP (ev_call1 (x := B) (ev_var rfl (by walk_at "rp")) b))) ev_int) trivial).eq ?_)))).eq ?_) fun H1 s1 => ?_
  · have := lo.lt x hx
    simp
    omega
  · simp
  refine q_pass ((evt_b (ev_any (ev_lc2m (fun p => decide (p.2 ≤ p.1)) (src_ZT (xs := lot) (ys := lot.drop 1) (ev_var rfl (by walk_at "rp")) (ev_slFrom (xs := lot) (n := 1) (ev_var rfl (by walk_at "rp")) (ev_nat rfl))) (by rw [List.length_zip]; omega) (fun _ _ => rfl) fun p hp v w H2 s2 r3 r4 => ev_geN (a := p.1) (b := p.2) (ev_var rfl (by walk_at "rp")) (ev_var rfl (by walk_at "rp"))))).eq ?_) fun H2 s2 => ?_
  · rw [List.any_map]
    refine List.any_eq_false.mpr fun p hp => ?_
    have := zip_up lo.up p hp
    simp
    omega
  refine q_set (ek_lenL (ev_lc1f (fun x => decide (x < B.length)) (src_T (xs := lot) (ev_var rfl (by walk_at "rp")) m0_ok) (by omega) (fun _ => rfl) (fun x hx v H3 s3 rv => evt_of (ev_ltN (a := x) (b := B.length) (ev_var rfl (by walk_at "rp")) (ek_lenT (xs := B) (ev_var rfl (by walk_at "rp"))))) (fun _ => rfl))) fun v H3 s3 rv => ?_
  have h1 := low_count lo
  have h2 := high_count lo
  have hle := List.length_filter_le (fun x => decide (x < B.length)) lot
  refine s_ret ((ev_andV (ev_ltN (a := (lot.filter (fun x => decide (x < B.length))).length) (b := B.length) (ev_var rfl (by walk_at "rp")) (ek_lenT (xs := B) (ev_var rfl (by walk_at "rp")))) fun _ => ev_ltN (ev_subN hle (ek_lenT (xs := lot) (ev_var rfl (by walk_at "rp"))) (ev_var rfl (by walk_at "rp"))) (ek_lenT (xs := B.headD []) (ev_ixT (xs := B) (i := 0) (ev_var rfl (by walk_at "rp")) (ev_nat rfl) (bok_head b)))).eq ?_) fun u H4 s4 r => q u H4 (s1.trans (s2.trans (s3.trans s4))) r
  have e1 : (B.headD []).length = wid B := rfl
  rw [e1]
  simp
  omega
abbrev sp_need_lot : Sp := Sp2 (fun B lot => BOk B ∧ LotOk B lot) (fun _ _ => ())
theorem c_need_lot (T : Txt K mg C) (C_is_lot : Cal P w K mg base CX0 3 "is_lot" sp_is_lot) : Cal P w K mg base CX0 4 "need_lot" sp_need_lot := by
  refine cal0 T.d_need_lot sc_need_lot (fun _ _ _ _ _ _ us hl => match us, hl with | [_, _], _ => rfl) len2 (fun f cdv A outer s H vs Q E hr h => ?_)
  obtain ⟨v0, B, v1, lot, rfl, r0, r1, bl, q⟩ := h
  refine ⟨_, (pss_one (ps_if (pt_not (pt_val (pe_cal C_is_lot hr (by decide) (by rfl) (pa_cons (pv 0) (pa_cons (pv 1) pa_nil))))) (pss_one ps_never) pss_nil)), ?_⟩
  exact s_pass ((evt_not (evt_b (ev_call2 (x := B) (y := lot) (ev_var rfl (by walk_at "rp")) (ev_var rfl (by walk_at "rp")) bl))).eq rfl) fun H1 s1 => q _ _ s1 rfl
abbrev sp_need_line : Sp := Sp2 (fun B (n : Nat) => BOk B ∧ n < nLines B) (fun _ _ => ())
theorem c_need_line (T : Txt K mg C) (C_is_from : Cal P w K mg base CX0 2 "is_from" sp_is_from) (C_sides : Cal P w K mg base CX0 1 "sides" sp_sides) : Cal P w K mg base CX0 3 "need_line" sp_need_line := by
  refine cal0 T.d_need_line sc_need_line (fun _ _ _ _ _ _ us hl => match us, hl with | [_, _], _ => rfl) len2 (fun f cdv A outer s H vs Q E hr h => ?_)
  obtain ⟨v0, B, v1, n, rfl, r0, r1, ⟨b, hn⟩, q⟩ := h
  refine ⟨_, (pss_one (ps_if (pt_not (pt_val (pe_cal C_is_from hr (by decide) (by rfl) (pa_cons (pv 1) (pa_cons pe_int (pa_cons (pe_op op_sub (pe_callB (cr_sumT rfl) (by rfl) T.f_sum boot_sum (pa_cons (pe_cal C_sides hr (by decide) (by rfl) (pa_cons (pv 0) pa_nil)) pa_nil)) pe_int) pa_nil)))))) (pss_one ps_never) pss_nil)), ?_⟩
  refine s_pass ((evt_not (evt_b (ev_call3 (x := (n : Int)) (y := 0) (z := ((nLines B : Nat) : Int) - 1) (ev_cast (n := n) (ev_var rfl (by walk_at "rp"))) ev_int (ev_subI (ev_cast (ev_sumP (ev_call1 (x := B) (ev_var rfl (by walk_at "rp")) b))) ev_int) trivial))).eq ?_) fun H1 s1 => q _ _ s1 rfl
  simp
  omega
end
end SB
namespace SB
open PySem PySem.Spec PyProof.Rows L2 RZ StX
local macro_rules | `(tactic| walk_at "rp") => `(tactic| first | assumption | rfl | (refine Dat.mono (by assumption) ?_; walk_at "rp"))
section
variable {P : Program} {w : World} {K : PySem.W.Frag} {mg : Str → Option Value} {base : Heap} {C : Addr}
abbrev sp_left_of : Sp := Sp2 (fun B (_ : List Nat) => BOk B) (fun B lot => (rowsLeft B lot, colsLeft B lot))
theorem drop_range (a b : Nat) : (List.range (a + b)).drop a = List.range' a b := by
  rw [List.range_eq_range', List.drop_range']
  simp
theorem c_left_of (T : Txt K mg C) (C_lines_of : Cal P w K mg base CX0 2 "lines_of" sp_lines_of) : Cal P w K mg base CX0 3 "left_of" sp_left_of := by
  refine cal0 T.d_left_of sc_left_of (fun _ _ _ _ _ _ us hl => match us, hl with | [_, _], _ => rfl) len2 (fun f cdv A outer s H vs Q E hr h => ?_)
  obtain ⟨v0, B, v1, lot, rfl, r0, r1, b, q⟩ := h
  refine ⟨_, (pss_cons (ps_set (i := 2) sc_left_of.nd rfl (by first | exact .inl rfl | exact .inr rfl) (kpe_tupleOf (K := K) (by rfl) T.f_tuple (pe_lc (own := [("one", 3)]) rfl sc_left_of.nd (pi_range1 (by rfl) T.f_range (pa_cons (pe_callB (k_len (K := K)) (by rfl) T.f_len boot_len (pa_cons (pv 0) pa_nil)) pa_nil)) (blkOk_by (N := ["board", "lot", "rows", "one"]) (sc := defScope s_left_of) (by decide +kernel)) (fun _ _ _ _ _ => (pg_name (i := 3) sc_left_of.nd rfl (by first | exact .inl rfl | exact .inr rfl))) (fun _ _ _ _ _ => pts_one (pt_cmpR (k_notIn (K := K)) (pv 3) (pv 1) (by rfl))) (fun _ _ _ _ _ => (pv 3)))))
      (pss_one (ps_ret (pe_tup (pa_cons (pv 2) (pa_cons (kpe_tupleOf (K := K) (by rfl) T.f_tuple (pe_lc (own := [("one", 3)]) rfl sc_left_of.nd (kpi_tup (K := K) (pe_slice (k_sl (K := K)) (pe_cal C_lines_of hr (by decide) (by rfl) (pa_cons (pv 0) pa_nil)) (po_some (pe_callB (k_len (K := K)) (by rfl) T.f_len boot_len (pa_cons (pv 0) pa_nil))) po_none)) (blkOk_by (N := ["board", "lot", "rows", "one"]) (sc := defScope s_left_of) (by decide +kernel)) (fun _ _ _ _ _ => (pg_name (i := 3) sc_left_of.nd rfl (by first | exact .inl rfl | exact .inr rfl))) (fun _ _ _ _ _ => pts_one (pt_cmpR (k_notIn (K := K)) (pv 3) (pv 1) (by rfl))) (fun _ _ _ _ _ => (pv 3)))) pa_nil)))))), ?_⟩
  have h1 := b.r6
  have h2 := b.c6
  refine q_set (ev_tupleOf (ev_lc1f (outs lot) (src_R1 (n := B.length) (ek_lenT (xs := B) (ev_var rfl (by walk_at "rp"))) (by omega)) (by rw [List.length_range]; omega) (fun _ => rfl) (fun x hx v H1 s1 rv => evt_of (ev_notInT (x := x) (xs := lot) (ev_var rfl (by walk_at "rp")) (ev_var rfl (by walk_at "rp")))) (fun _ => rfl))) fun v H1 s1 rv => ?_
  refine s_ret (ev_pair (x := rowsLeft B lot) (y := colsLeft B lot) (ev_var rfl (by walk_at "rp")) ((ev_tupleOf (ev_lc1f (outs lot) (src_T (ev_slFrom (xs := linesOf B) (n := B.length) (ev_call1 (x := B) (ev_var rfl (by walk_at "rp")) b) (ek_lenT (xs := B) (ev_var rfl (by walk_at "rp")))) m0_ok) ?_ (fun _ => rfl) (fun x hx v H1 s1 rv => evt_of (ev_notInT (x := x) (xs := lot) (ev_var rfl (by walk_at "rp")) (ev_var rfl (by walk_at "rp")))) (fun _ => rfl))).eq ?_)) fun v H2 s2 r => q v H2 (s1.trans s2) r
  · rw [List.length_drop]
    unfold linesOf nLines
    rw [List.length_range]
    omega
  · show ((linesOf B).drop B.length).filter _ = colsLeft B lot
    unfold linesOf colsLeft nLines
    rw [drop_range]
def shownB (B : Board) (lot : List Nat) : Board := (rowsLeft B lot).map fun r => (colsLeft B lot).map fun c => cellAt B r (c - B.length)
abbrev sp_shown_of : Sp := Sp2 (fun B (_ : List Nat) => BOk B) shownB
theorem rows_small {B : Board} (b : BOk B) (lot : List Nat) : (rowsLeft B lot).length ≤ 6 := by
  have h := List.length_filter_le (outs lot) (List.range B.length)
  rw [List.length_range] at h
  exact Nat.le_trans h b.r6
theorem cols_small {B : Board} (b : BOk B) (lot : List Nat) : (colsLeft B lot).length ≤ 6 := by
  have h := List.length_filter_le (outs lot) (List.range' B.length (wid B))
  rw [List.length_range'] at h
  exact Nat.le_trans h b.c6
theorem ev_cell {K : PySem.W.Frag} {σ : L2.St} {H : Hp} {ta tb tc : TE} {B : Board} (b : BOk B) {i j : Nat} (hi : i < B.length) (hj : j < wid B) (ha : Ev ta σ H B) (hb : Ev tb σ H i) (hc : Ev tc σ H j) : Ev (tOp (rIxT K) (tOp (rIxT K) ta tb) tc) σ H (cellAt B i j) :=
  ev_ixT (ev_ixT ha hb (bok_get hi)) hc (bok_cell b hi hj)
theorem c_shown_of (T : Txt K mg C) (C_left_of : Cal P w K mg base CX0 3 "left_of" sp_left_of) : Cal P w K mg base CX0 4 "shown_of" sp_shown_of := by
  refine cal0 T.d_shown_of sc_shown_of (fun _ _ _ _ _ _ us hl => match us, hl with | [_, _], _ => rfl) len2 (fun f cdv A outer s H vs Q E hr h => ?_)
  obtain ⟨v0, B, v1, lot, rfl, r0, r1, b, q⟩ := h
  refine ⟨_, (pss_cons (ps_asg (pe_cal C_left_of hr (by decide) (by rfl) (pa_cons (pv 0) (pa_cons (pv 1) pa_nil))) (kpg_tup (K := K) (n := 2) (pgs_cons (pg_name (i := 2) sc_shown_of.nd rfl (by first | exact .inl rfl | exact .inr rfl)) (pgs_cons (pg_name (i := 3) sc_shown_of.nd rfl (by first | exact .inl rfl | exact .inr rfl)) pgs_nil))))
      (pss_one (ps_ret (kpe_tupleOf (K := K) (by rfl) T.f_tuple (pe_lc (own := [("row", 4)]) rfl sc_shown_of.nd (kpi_tup (K := K) (pv 2)) (blkOk_by (N := ["board", "lot", "rows", "columns", "row", "column"]) (sc := defScope s_shown_of) (by decide +kernel)) (fun _ _ _ _ _ => (pg_name (i := 4) sc_shown_of.nd rfl (by first | exact .inl rfl | exact .inr rfl))) (fun _ _ _ _ _ => pts_nil) (fun _ _ _ _ _ => (kpe_tupleOf (K := K) (by rfl) T.f_tuple (pe_lc (own := [("column", 5)]) rfl sc_shown_of.nd (kpi_tup (K := K) (pv 3)) (blkOk_by (N := ["board", "lot", "rows", "columns", "row", "column"]) (sc := relS _ (defScope s_shown_of)) (by decide +kernel)) (fun _ _ _ _ _ => (pg_name (i := 5) sc_shown_of.nd rfl (by first | exact .inl rfl | exact .inr rfl))) (fun _ _ _ _ _ => pts_nil) (fun _ _ _ _ _ => (pe_ix (k_ixT (K := K)) (pe_ix (k_ixT (K := K)) (pv 0) (pv 4) (fun _ _ => rfl)) (pe_op op_sub (pv 5) (pe_callB (k_len (K := K)) (by rfl) T.f_len boot_len (pa_cons (pv 0) pa_nil))) (fun _ _ => rfl))))))))))), ?_⟩
  have h1 := rows_small b lot
  have h2 := cols_small b lot
  refine q_set2 (ev_call2 (x := B) (y := lot) (ev_var rfl (by walk_at "rp")) (ev_var rfl (by walk_at "rp")) b) fun v u H1 s1 r2 r3 => ?_
  refine s_ret (ev_tupleOf (ev_lc1m (fun r => (colsLeft B lot).map fun c => cellAt B r (c - B.length)) (src_T (xs := rowsLeft B lot) (ev_var rfl (by walk_at "rp")) m0_ok) (by omega) (fun _ => rfl) fun r hr v H2 s2 rv =>
    ev_tupleOf (ev_lc1m (fun c => cellAt B r (c - B.length)) (src_T (xs := colsLeft B lot) (ev_var rfl (by walk_at "rp")) m0_ok) (by omega) (fun _ => rfl) fun c hc u H3 s3 ru => ?_))) fun v H2 s2 r => q v H2 (s1.trans s2) r
  have g1 := (mem_rows.mp hr).1
  have g2 := (mem_cols.mp hc).1
  have g3 : nLines B = B.length + wid B := rfl
  exact ev_cell b g1 (by omega) (ev_var rfl (by walk_at "rp")) (ev_var rfl (by walk_at "rp")) (ev_subN g2.1 (ev_var rfl (by walk_at "rp")) (ek_lenT (xs := B) (ev_var rfl (by walk_at "rp"))))
abbrev sp_numbers : Sp := Sp3 (fun B (_ : List Nat) line => BOk B ∧ line < nLines B) (fun B lot line => Lst.mk (nums B lot line))
theorem c_numbers (T : Txt K mg C) (C_left_of : Cal P w K mg base CX0 3 "left_of" sp_left_of) : Cal P w K mg base CX0 4 "numbers" sp_numbers := by
  refine cal0 T.d_numbers sc_numbers (fun _ _ _ _ _ _ us hl => match us, hl with | [_, _, _], _ => rfl) len3 (fun f cdv A outer s H vs Q E hr h => ?_)
  obtain ⟨v0, B, v1, lot, v2, line, rfl, r0, r1, r2, ⟨b, hn⟩, q⟩ := h
  refine ⟨_, (pss_cons (ps_asg (pe_cal C_left_of hr (by decide) (by rfl) (pa_cons (pv 0) (pa_cons (pv 1) pa_nil))) (kpg_tup (K := K) (n := 2) (pgs_cons (pg_name (i := 3) sc_numbers.nd rfl (by first | exact .inl rfl | exact .inr rfl)) (pgs_cons (pg_name (i := 4) sc_numbers.nd rfl (by first | exact .inl rfl | exact .inr rfl)) pgs_nil))))
      (pss_cons (ps_if (pt_cmpR op_lt (pv 2) (pe_callB (k_len (K := K)) (by rfl) T.f_len boot_len (pa_cons (pv 0) pa_nil)) (by rfl)) (pss_one (ps_ret (pe_lc (own := [("column", 6)]) rfl sc_numbers.nd (kpi_tup (K := K) (pv 4)) (blkOk_by (N := ["board", "lot", "line", "rows", "columns", "row", "column"]) (sc := defScope s_numbers) (by decide +kernel)) (fun _ _ _ _ _ => (pg_name (i := 6) sc_numbers.nd rfl (by first | exact .inl rfl | exact .inr rfl))) (fun _ _ _ _ _ => pts_nil) (fun _ _ _ _ _ => (pe_ix (k_ixT (K := K)) (pe_ix (k_ixT (K := K)) (pe_ix (k_ixT (K := K)) (pv 0) (pv 2) (fun _ _ => rfl)) (pe_op op_sub (pv 6) (pe_callB (k_len (K := K)) (by rfl) T.f_len boot_len (pa_cons (pv 0) pa_nil))) (fun _ _ => rfl)) pe_int (fun _ _ => rfl)))))) pss_nil)
      (pss_one (ps_ret (pe_lc (own := [("row", 5)]) rfl sc_numbers.nd (kpi_tup (K := K) (pv 3)) (blkOk_by (N := ["board", "lot", "line", "rows", "columns", "row", "column"]) (sc := defScope s_numbers) (by decide +kernel)) (fun _ _ _ _ _ => (pg_name (i := 5) sc_numbers.nd rfl (by first | exact .inl rfl | exact .inr rfl))) (fun _ _ _ _ _ => pts_nil) (fun _ _ _ _ _ => (pe_ix (k_ixT (K := K)) (pe_ix (k_ixT (K := K)) (pe_ix (k_ixT (K := K)) (pv 0) (pv 5) (fun _ _ => rfl)) (pe_op op_sub (pv 2) (pe_callB (k_len (K := K)) (by rfl) T.f_len boot_len (pa_cons (pv 0) pa_nil))) (fun _ _ => rfl)) pe_int (fun _ _ => rfl)))))))), ?_⟩
  have h1 := rows_small b lot
  have h2 := cols_small b lot
  have g3 : nLines B = B.length + wid B := rfl
  refine q_set2 (ev_call2 (x := B) (y := lot) (ev_var rfl (by walk_at "rp")) (ev_var rfl (by walk_at "rp")) b) fun v u H1 s1 r3 r4 => ?_
  refine q_if (evt_of (ev_ltN (a := line) (b := B.length) (ev_var rfl (by walk_at "rp")) (ek_lenT (xs := B) (ev_var rfl (by walk_at "rp"))))) (fun e H2 s2 => ?_) (fun e H2 s2 => ?_)
  · have hl := of_decide_eq_true e
    refine s_ret ((ev_lc1m (fun c => (cellAt B line (c - B.length)).1) (src_T (xs := colsLeft B lot) (ev_var rfl (by walk_at "rp")) m0_ok) (by omega) (fun _ => rfl) fun c hc u H3 s3 ru => ?_).eq ?_) fun v H3 s3 r => q v H3 ((s1.trans s2).trans s3) r
    · have g2 := (mem_cols.mp hc).1
      exact ev_fst (ev_cell b hl (by omega) (ev_var rfl (by walk_at "rp")) (ev_var rfl (by walk_at "rp")) (ev_subN g2.1 (ev_var rfl (by walk_at "rp")) (ek_lenT (xs := B) (ev_var rfl (by walk_at "rp")))))
    · show _ = Lst.mk (nums B lot line)
      unfold nums
      rw [if_pos hl]
  · have hl := of_decide_eq_false e
    refine s_ret ((ev_lc1m (fun r => (cellAt B r (line - B.length)).2) (src_T (xs := rowsLeft B lot) (ev_var rfl (by walk_at "rp")) m0_ok) (by omega) (fun _ => rfl) fun r hr u H3 s3 ru => ?_).eq ?_) fun v H3 s3 r => q v H3 ((s1.trans s2).trans s3) r
    · have g2 := (mem_rows.mp hr).1
      exact ev_snd (ev_cell b g2 (by omega) (ev_var rfl (by walk_at "rp")) (ev_var rfl (by walk_at "rp")) (ev_subN (by omega) (ev_var rfl (by walk_at "rp")) (ek_lenT (xs := B) (ev_var rfl (by walk_at "rp")))))
    · show _ = Lst.mk (nums B lot line)
      unfold nums
      rw [if_neg hl]
abbrev sp_same_side : Sp := Sp3 (fun _ _ _ => True) sameSide
theorem c_same_side (T : Txt K mg C)  : Cal P w K mg base CX0 1 "same_side" sp_same_side := by
  refine cal0 T.d_same_side sc_same_side (fun _ _ _ _ _ _ us hl => match us, hl with | [_, _, _], _ => rfl) len3 (fun f cdv A outer s H vs Q E hr h => ?_)
  obtain ⟨v0, B, v1, x, v2, y, rfl, r0, r1, r2, _, q⟩ := h
  refine ⟨_, (pss_one (ps_ret (pe_cmpR op_eq (pe_cmpR op_lt (pv 1) (pe_callB (k_len (K := K)) (by rfl) T.f_len boot_len (pa_cons (pv 0) pa_nil)) (by rfl)) (pe_cmpR op_lt (pv 2) (pe_callB (k_len (K := K)) (by rfl) T.f_len boot_len (pa_cons (pv 0) pa_nil)) (by rfl)) (by rfl)))), ?_⟩
  exact s_ret (ev_eqB (ev_ltN (a := x) (b := B.length) (ev_var rfl (by walk_at "rp")) (ek_lenT (xs := B) (ev_var rfl (by walk_at "rp")))) (ev_ltN (a := y) (b := B.length) (ev_var rfl (by walk_at "rp")) (ek_lenT (xs := B) (ev_var rfl (by walk_at "rp"))))) q
theorem nums_small {B : Board} (b : BOk B) (lot : List Nat) (line : Nat) : (nums B lot line).length ≤ 6 := by
  unfold nums
  split
  · rw [List.length_map]; exact cols_small b lot
  · rw [List.length_map]; exact rows_small b lot
abbrev sp_is_greater : Sp := Sp4 (fun B (_ : List Nat) x y => BOk B ∧ x < nLines B ∧ y < nLines B) isGr
theorem c_is_greater (T : Txt K mg C) (C_same_side : Cal P w K mg base CX0 1 "same_side" sp_same_side) (C_numbers : Cal P w K mg base CX0 4 "numbers" sp_numbers) : Cal P w K mg base CX0 5 "is_greater" sp_is_greater := by
  refine cal0 T.d_is_greater sc_is_greater (fun _ _ _ _ _ _ us hl => match us, hl with | [_, _, _, _], _ => rfl) len4 (fun f cdv A outer s H vs Q E hr h => ?_)
  obtain ⟨v0, B, v1, lot, v2, x, v3, y, rfl, r0, r1, r2, r3, ⟨b, hx, hy⟩, q⟩ := h
  refine ⟨_, (pss_cons (ps_if (pt_not (pt_val (pe_cal C_same_side hr (by decide) (by rfl) (pa_cons (pv 0) (pa_cons (pv 2) (pa_cons (pv 3) pa_nil)))))) (pss_one (ps_ret pe_bl)) pss_nil)
      (pss_one (ps_ret (pe_callB (k_all (K := K)) (by rfl) T.f_all boot_all (pa_cons (pe_lc (own := [("a", 4), ("b", 5)]) rfl sc_is_greater.nd (kpi_zip (K := K) (by rfl) T.f_zip (pa_cons (pe_cal C_numbers hr (by decide) (by rfl) (pa_cons (pv 0) (pa_cons (pv 1) (pa_cons (pv 2) pa_nil)))) (pa_cons (pe_cal C_numbers hr (by decide) (by rfl) (pa_cons (pv 0) (pa_cons (pv 1) (pa_cons (pv 3) pa_nil)))) pa_nil))) (blkOk_by (N := ["board", "lot", "line", "other", "a", "b"]) (sc := defScope s_is_greater) (by decide +kernel)) (fun _ _ _ _ _ => (kpg_tup (K := K) (n := 2) (pgs_cons (pg_name (i := 4) sc_is_greater.nd rfl (by first | exact .inl rfl | exact .inr rfl)) (pgs_cons (pg_name (i := 5) sc_is_greater.nd rfl (by first | exact .inl rfl | exact .inr rfl)) pgs_nil)))) (fun _ _ _ _ _ => pts_nil) (fun _ _ _ _ _ => (pe_cmpR op_gt (pv 5) (pv 4) (by rfl)))) pa_nil))))), ?_⟩
  have h1 := nums_small b lot x
  have hpx : BOk B ∧ x < nLines B := ⟨b, hx⟩
  have hpy : BOk B ∧ y < nLines B := ⟨b, hy⟩
  refine q_ifn (evt_not (evt_b (ev_call3 (x := B) (y := x) (z := y) (ev_var rfl (by walk_at "rp")) (ev_var rfl (by walk_at "rp")) (ev_var rfl (by walk_at "rp")) trivial))) (fun e H1 s1 => ?_) (fun e H1 s1 => ?_)
  · refine s_ret (ev_bl (b := false)) fun v H2 s2 r => q v H2 (s1.trans s2) ?_
    have e' : sameSide B x y = false := by simpa using e
    unfold isGr
    rw [if_pos e']
    exact r
  · refine s_ret (ev_all (ev_lc2m (fun p => decide (p.1 < p.2)) (src_ZL (xs := Lst.mk (nums B lot x)) (ys := Lst.mk (nums B lot y)) (ev_call3 (x := B) (y := lot) (z := x) (ev_var rfl (by walk_at "rp")) (ev_var rfl (by walk_at "rp")) (ev_var rfl (by walk_at "rp")) hpx) (ev_call3 (x := B) (y := lot) (z := y) (ev_var rfl (by walk_at "rp")) (ev_var rfl (by walk_at "rp")) (ev_var rfl (by walk_at "rp")) hpy)) (by rw [List.length_zip]; show min (nums B lot x).length _ ≤ _; omega) (fun _ _ => rfl)
      fun p hp v w H2 s2 r4 r5 => ev_gtI (a := p.2) (b := p.1) (ev_var rfl (by walk_at "rp")) (ev_var rfl (by walk_at "rp")))) fun v H2 s2 r => q v H2 (s1.trans s2) ?_
    have e' : ¬ sameSide B x y = false := by simpa using e
    unfold isGr
    rw [if_neg e']
    rw [List.all_map] at r
    exact r
abbrev sp_can_fall : Sp := Sp3 (fun B (lot : List Nat) x => BOk B ∧ x < nLines B ∧ lot.length ≤ 1000) canFall
theorem c_can_fall (T : Txt K mg C) (C_is_greater : Cal P w K mg base CX0 5 "is_greater" sp_is_greater) (C_lines_of : Cal P w K mg base CX0 2 "lines_of" sp_lines_of) : Cal P w K mg base CX0 6 "can_fall" sp_can_fall := by
  refine cal0 T.d_can_fall sc_can_fall (fun _ _ _ _ _ _ us hl => match us, hl with | [_, _, _], _ => rfl) len3 (fun f cdv A outer s H vs Q E hr h => ?_)
  obtain ⟨v0, B, v1, lot, v2, x, rfl, r0, r1, r2, ⟨b, hx, hl⟩, q⟩ := h
  refine ⟨_, (pss_one (ps_ret (pe_callB (k_any (K := K)) (by rfl) T.f_any boot_any (pa_cons (pe_lc (own := [("other", 3)]) rfl sc_can_fall.nd (kpi_tup (K := K) (pe_cal C_lines_of hr (by decide) (by rfl) (pa_cons (pv 0) pa_nil))) (blkOk_by (N := ["board", "lot", "line", "other"]) (sc := defScope s_can_fall) (by decide +kernel)) (fun _ _ _ _ _ => (pg_name (i := 3) sc_can_fall.nd rfl (by first | exact .inl rfl | exact .inr rfl))) (fun _ _ _ _ _ => pts_one (pt_cmpR (k_notIn (K := K)) (pv 3) (pe_tup (kpa_star (K := K) (pv 1) (pa_cons (pv 2) pa_nil))) (by rfl))) (fun _ _ _ _ _ => (pe_cal C_is_greater hr (by decide) (by rfl) (pa_cons (pv 0) (pa_cons (pv 1) (pa_cons (pv 2) (pa_cons (pv 3) pa_nil))))))) pa_nil)))), ?_⟩
  have h1 := b.r6
  have h2 := b.c6
  have hz : (linesOf B).length ≤ 12 := by unfold linesOf nLines; rw [List.length_range]; omega
  refine s_ret (ev_any (ev_lc1 (outs (lot ++ [x])) (isGr B lot x) (src_T (xs := linesOf B) (ev_call1 (x := B) (ev_var rfl (by walk_at "rp")) b) m0_ok) (by omega) (fun _ => rfl) (fun y hy v H1 s1 rv => evt_of (ev_notInT (x := y) (xs := lot ++ [x]) (ev_var rfl (by walk_at "rp")) (ev_tup (eva_starT (xs := lot) (ys := [x]) (ev_var rfl (by walk_at "rp")) (eva_cons (ev_var rfl (by walk_at "rp")) eva_nil)) (by rw [List.length_append]; show _ + 1 ≤ _; omega))))
    (fun y hy hp v H1 s1 rv => ev_call4 (x := B) (y := lot) (z := x) (x4 := y) (ev_var rfl (by walk_at "rp")) (ev_var rfl (by walk_at "rp")) (ev_var rfl (by walk_at "rp")) (ev_var rfl (by walk_at "rp")) ⟨b, hx, List.mem_range.mp hy⟩))) fun v H1 s1 r => q v H1 s1 ?_
  rw [List.any_map] at r
  exact r
abbrev sp_with_line : Sp := Sp2 (fun (lot : List Nat) (_ : Nat) => lot.length ≤ 60) withLn
theorem c_with_line (T : Txt K mg C)  : Cal P w K mg base CX0 1 "with_line" sp_with_line := by
  refine cal0 T.d_with_line sc_with_line (fun _ _ _ _ _ _ us hl => match us, hl with | [_, _], _ => rfl) len2 (fun f cdv A outer s H vs Q E hr h => ?_)
  obtain ⟨v0, lot, v1, x, rfl, r0, r1, hz, q⟩ := h
  refine ⟨_, (pss_one (ps_ret (kpe_tupleOf (K := K) (by rfl) T.f_tuple (pe_callB (k_sorted (K := K)) (by rfl) T.f_sorted boot_sorted (pa_cons (pe_lst (kpa_star (K := K) (pv 0) (pa_cons (pv 1) pa_nil))) pa_nil))))), ?_⟩
  exact s_ret (ev_tupleOf (ev_sortedL (xs := Lst.mk (lot ++ [x])) (ev_lst (eva_starT (xs := lot) (ys := [x]) (ev_var rfl (by walk_at "rp")) (eva_cons (ev_var rfl (by walk_at "rp")) eva_nil)) (by rw [List.length_append]; show _ + 1 ≤ _; omega)) (by show (lot ++ [x]).length < 64; rw [List.length_append]; show _ + 1 < _; omega))) q
/-! ### closure, last_of -/
def sp_closure : Sp := fun vs H Q _ => ∃ v0 B v1, vs = [v0, v1] ∧ Dat.rep H v0 B ∧ Dat.rep H v1 (linesOf B) ∧ BOk B ∧ ∀ (order : List Nat) (v' : V) (H' : Hp), isort order = endLot B → order.length < 60 → Same H H' → Dat.rep H' v' (Lst.mk order) → Q v' H'
theorem isort_up {l : List Nat} (h : l.Pairwise (· < ·)) {o : List Nat} (p : o.Perm l) : isort o = l := by
  refine ssorted_ext ?_ h fun x => ?_
  · refine up_of_le (isort_sorted _) ?_
    exact ((isort_perm o).trans p).nodup_iff.mpr (nodup_of_up h)
  · rw [isort_mem]
    exact p.mem_iff
def some1 (B : Board) (lot : List Nat) : List Nat := (linesOf B).filter (fun x => outs lot x && canFall B lot x)
theorem some1_nil {B : Board} (b : BOk B) {lot : List Nat} (h : Comes B lot) (e : some1 B lot = []) : Term B lot := fun x hx nx hr => by
  have : x ∈ some1 B lot := by
    unfold some1
    rw [List.mem_filter, Bool.and_eq_true, mem_outs]
    exact ⟨List.mem_range.mpr hx, nx, (canFall_iff (comes_ok b h)).mpr hr⟩
  rw [e] at this
  cases this
theorem some1_step {B : Board} (b : BOk B) {lot : List Nat} (h : Comes B lot) {x : Nat} (hx : x ∈ some1 B lot) : x ∉ lot ∧ Comes B (withLn lot x) := by
  unfold some1 at hx
  rw [List.mem_filter, Bool.and_eq_true, mem_outs] at hx
  exact ⟨hx.2.1, .step h hx.2.1 (List.mem_range.mp hx.1) ((canFall_iff (comes_ok b h)).mp hx.2.2)⟩
theorem c_closure (T : Txt K mg C) (C_can_fall : Cal P w K mg base CX0 6 "can_fall" sp_can_fall) (C_with_line : Cal P w K mg base CX0 1 "with_line" sp_with_line) : Cal P w K mg base CX0 7 "closure" sp_closure := by
  refine cal0 T.d_closure sc_closure (fun _ _ _ _ _ _ us hl => match us, hl with | [_, _], _ => rfl) (by rintro vs H Q E ⟨v0, B, v1, rfl, _⟩; rfl) (fun f cdv A outer s H vs Q E hr h => ?_)
  obtain ⟨v0, B, v1, rfl, r0, r1, b, q⟩ := h
  refine ⟨_, (pss_cons (ps_asg (pe_tup (pa_cons (pe_tup pa_nil) (pa_cons (pe_lst pa_nil) pa_nil))) (kpg_tup (K := K) (n := 2) (pgs_cons (pg_name (i := 3) sc_closure.nd rfl (by first | exact .inl rfl | exact .inr rfl)) (pgs_cons (pg_name (i := 4) sc_closure.nd rfl (by first | exact .inl rfl | exact .inr rfl)) pgs_nil))))
      (pss_cons (ps_setLc (i := 2) (own := [("line", 5)]) rfl sc_closure.nd rfl rfl (sw_true rfl rfl rfl (by decide +kernel)) (kpi_tup (K := K) (pv 1)) (blkOk_by (N := ["board", "within", "some", "lot", "order", "line"]) (sc := defScope s_closure) (by decide +kernel)) (fun _ _ _ _ _ => (pg_name (i := 5) sc_closure.nd rfl (by first | exact .inl rfl | exact .inr rfl))) (fun _ _ _ _ _ => pts_one (pt_val (pe_cal C_can_fall hr (by decide) (by rfl) (pa_cons (pv 0) (pa_cons (pv 3) (pa_cons (pv 5) pa_nil)))))) (fun _ _ _ _ _ => (pv 5)))
      (pss_cons (ps_while PassesOwn.never (pt_cmpR (k_neD (K := K) hr.units) (pv 2) (pe_lst pa_nil) (by rfl)) (pss_cons (ps_asg (pe_tup (pa_cons (pe_cal C_with_line hr (by decide) (by rfl) (pa_cons (pv 3) (pa_cons (pe_ix (k_ixL (K := K)) (pv 2) pe_int (fun _ _ => rfl)) pa_nil))) (pa_cons (pe_lst (kpa_star (K := K) (pv 4) (pa_cons (pe_ix (k_ixL (K := K)) (pv 2) pe_int (fun _ _ => rfl)) pa_nil))) pa_nil))) (kpg_tup (K := K) (n := 2) (pgs_cons (pg_name (i := 3) sc_closure.nd rfl (by first | exact .inl rfl | exact .inr rfl)) (pgs_cons (pg_name (i := 4) sc_closure.nd rfl (by first | exact .inl rfl | exact .inr rfl)) pgs_nil))))
      (pss_one (ps_setLc (i := 2) (own := [("line", 5)]) rfl sc_closure.nd rfl rfl (sw_true rfl rfl rfl (by decide +kernel)) (kpi_tup (K := K) (pv 1)) (blkOk_by (N := ["board", "within", "some", "lot", "order", "line"]) (sc := defScope s_closure) (by decide +kernel)) (fun _ _ _ _ _ => (pg_name (i := 5) sc_closure.nd rfl (by first | exact .inl rfl | exact .inr rfl))) (fun _ _ _ _ _ => pts_one (PW.pt (pw_and (pt_cmpR (k_notIn (K := K)) (pv 5) (pv 3) (by rfl)) (pw_and1 (pt_val (pe_cal C_can_fall hr (by decide) (by rfl) (pa_cons (pv 0) (pa_cons (pv 3) (pa_cons (pv 5) pa_nil))))))))) (fun _ _ _ _ _ => (pv 5))))))
      (pss_one (ps_ret (pv 4)))))), ?_⟩
  have h1 := b.r6
  have h2 := b.c6
  have hn : nLines B ≤ 12 := by unfold nLines; omega
  have hz : (linesOf B).length ≤ 12 := by unfold linesOf; rw [List.length_range]; exact hn
  refine q_set2 (x := ([] : List Nat)) (y := Lst.mk ([] : List Nat)) (ev_pair (ev_tup eva_nil (by decide)) (ev_lst eva_nil (by decide))) fun v u H1 s1 r2 r3 => ?_
  refine q_set (x := Lst.mk (some1 B [])) ((ev_lc1f (fun x => canFall B [] x) (src_T (xs := linesOf B) (ev_var rfl (by walk_at "rp")) m0_ok) (by omega) (fun _ => rfl) (fun x hx v H2 s2 rv => evt_b (ev_call3 (x := B) (y := ([] : List Nat)) (z := x) (ev_var rfl (by walk_at "rp")) (ev_var rfl (by walk_at "rp")) (ev_var rfl (by walk_at "rp")) ⟨b, List.mem_range.mp hx, Nat.zero_le _⟩)) (fun _ => rfl)).eq rfl) fun v' H2 s2 r4 => ?_
  -- while some != []
  refine ⟨fun m σ' H' => ∃ lot order vs vl vo a5, m = nLines B - lot.length ∧ σ' = [some v0, some v1, some vs, some vl, some vo, a5] ∧ Same H H' ∧ Dat.rep H' vs (Lst.mk (some1 B lot)) ∧ Dat.rep H' vl lot ∧ Dat.rep H' vo (Lst.mk order) ∧ Comes B lot ∧ order.Perm lot,
    ⟨nLines B, [], [], v', v, u, none, by simp, rfl, s1.trans s2, r4, Dat.mono s2 r2, Dat.mono s2 r3, .nil, .refl _⟩, ?_⟩
  rintro m σ' H' ⟨lot, order, vs, vl, vo, a5, em, rfl, s3, r5, r6, r7, hc, hp⟩
  have lo := comes_ok b hc
  have hl := lot_len b lo
  have r0' := Dat.mono s3 r0
  have r1' := Dat.mono s3 r1
  refine evt_of (ev_neNil (xs := Lst.mk (some1 B lot)) (ev_var rfl (by walk_at "rp"))) H' (Same.refl _) _ fun H3 s4 => ?_
  cases e : some1 B lot with
  | nil =>
    refine iteF ?_
    have et := end_is b hc (some1_nil b hc e)
    have ep := hp.length_eq
    refine s_ret (x := Lst.mk order) (ev_var rfl (by walk_at "rp")) fun v H4 s5 r => q order v H4 ?_ (by omega) (s3.trans (s4.trans s5)) r
    rw [← et]
    exact isort_up lo.up hp
  | cons x rest =>
    refine iteT ?_
    have hx : x ∈ some1 B lot := by rw [e]; exact List.mem_cons_self ..
    obtain ⟨nx, hc'⟩ := some1_step b hc hx
    have lo' := comes_ok b hc'
    have hl' := lot_len b lo'
    have ew : (withLn lot x).length = lot.length + 1 := by
      unfold withLn
      rw [(isort_perm _).length_eq, List.length_append]
      rfl
    have ep := hp.length_eq
    refine ⟨fun σ2 H2 => ∃ lot' order vs vl vo a5, nLines B - lot'.length < m ∧ σ2 = [some v0, some v1, some vs, some vl, some vo, a5] ∧ Same H H2 ∧ Dat.rep H2 vs (Lst.mk (some1 B lot')) ∧ Dat.rep H2 vl lot' ∧ Dat.rep H2 vo (Lst.mk order) ∧ Comes B lot' ∧ order.Perm lot',
      fun σ2 H2 ⟨lot', order, vs, vl, vo, a5, k1, k2, k3, k4, k5, k6, k7, k8⟩ => ⟨_, k1, lot', order, vs, vl, vo, a5, rfl, k2, k3, k4, k5, k6, k7, k8⟩, ?_⟩
    have gx : (Lst.mk (some1 B lot)).items[0]? = some x := by show (some1 B lot)[0]? = _; rw [e]; rfl
    refine q_set2 (x := withLn lot x) (y := Lst.mk (order ++ [x])) (ev_pair (ev_call2 (x := lot) (y := x) (ev_var rfl (by walk_at "rp")) (ev_ixL (xs := Lst.mk (some1 B lot)) (i := 0) (ev_var rfl (by walk_at "rp")) (ev_nat rfl) gx) (by show lot.length ≤ 60; omega))
      (ev_lst (eva_starL (xs := Lst.mk order) (ys := [x]) (ev_var rfl (by walk_at "rp")) (eva_cons (ev_ixL (xs := Lst.mk (some1 B lot)) (i := 0) (ev_var rfl (by walk_at "rp")) (ev_nat rfl) gx) eva_nil)) (by rw [List.length_append]; show order.length + 1 ≤ _; omega))) fun vl' vo' H4 s5 r8 r9 => ?_
    refine s_set (x := Lst.mk (some1 B (withLn lot x))) ((ev_lc1f (fun y => outs (withLn lot x) y && canFall B (withLn lot x) y) (src_T (xs := linesOf B) (ev_var rfl (by walk_at "rp")) m0_ok) (by omega) (fun _ => rfl) (fun y hy v H5 s6 rv =>
      evt_and (evt_of (ev_notInT (x := y) (xs := withLn lot x) (ev_var rfl (by walk_at "rp")) (ev_var rfl (by walk_at "rp")))) fun _ => evt_b (ev_call3 (x := B) (y := withLn lot x) (z := y) (ev_var rfl (by walk_at "rp")) (ev_var rfl (by walk_at "rp")) (ev_var rfl (by walk_at "rp")) ⟨b, List.mem_range.mp hy, by omega⟩)) (fun _ => rfl)).eq rfl) fun vs' H5 s6 r10 => ?_
    refine ⟨withLn lot x, order ++ [x], vs', vl', vo', _, by omega, rfl, s3.trans (s4.trans (s5.trans s6)), r10, Dat.mono s6 r8, Dat.mono s6 r9, hc', ?_⟩
    unfold withLn
    exact (hp.append_right _).trans (isort_perm _).symm
abbrev sp_last_of : Sp := Sp1 BOk endLot
theorem c_last_of (T : Txt K mg C) (C_closure : Cal P w K mg base CX0 7 "closure" sp_closure) (C_lines_of : Cal P w K mg base CX0 2 "lines_of" sp_lines_of) : Cal P w K mg base CX0 8 "last_of" sp_last_of := by
  refine cal0 T.d_last_of sc_last_of (fun _ _ _ _ _ _ us hl => match us, hl with | [_], _ => rfl) len1 (fun f cdv A outer s H vs Q E hr h => ?_)
  obtain ⟨v0, B, rfl, r0, b, q⟩ := h
  refine ⟨_, (pss_one (ps_ret (kpe_tupleOf (K := K) (by rfl) T.f_tuple (pe_callB (k_sorted (K := K)) (by rfl) T.f_sorted boot_sorted (pa_cons (pe_cal C_closure hr (by decide) (by rfl) (pa_cons (pv 0) (pa_cons (pe_cal C_lines_of hr (by decide) (by rfl) (pa_cons (pv 0) pa_nil)) pa_nil))) pa_nil))))), ?_⟩
  refine s_ret (x := endLot B) (fun H1 s1 Q' q' => ?_) q
  refine ⟨v0, rfl, ev_call1 (x := B) (ta := tVar 0) (ev_var rfl (by walk_at "rp")) b H1 s1 _ fun w1 H2 s2 r2 => ⟨v0, B, w1, rfl, Dat.mono (s1.trans s2) r0, r2, b, fun order v' H3 e hz s3 r3 => ?_⟩⟩
  refine ev_tupleOf (ev_sortedL (ta := fun _ H Q => Q v' H) (xs := Lst.mk order) (σ := [some v0]) (H := H3) (fun H4 s4 Q4 q4 => q4 v' H4 (Same.refl _) (Dat.mono s4 r3)) (by show order.length < 64; omega)) H3 (Same.refl _) Q' fun u H4 s4 r4 => q' u H4 (s2.trans (s3.trans s4)) ?_
  have e2 : (Lst.mk (isort (Lst.mk order).items)).items = endLot B := e
  rw [e2] at r4
  exact r4
end
end SB
namespace SB
open PySem PySem.Spec PyProof.Rows L2 RZ StX
local macro_rules | `(tactic| walk_at "rp") => `(tactic| first | assumption | rfl | (refine Dat.mono (by assumption) ?_; walk_at "rp"))
section
variable {α β γ : Type} [Dat α] [Dat β] [Dat γ] {σ : L2.St} {H : Hp} {ta tb : TE} {tz : TS} {D : Ends}
theorem q_par_new {i j : Nat} {x : α} (ha : Ev ta σ H x) (k : ∀ v p H1, Same H H1 → Dat.rep H1 v x → H1 p = none → tz D ((σ.set i (some v)).set j (some (.ref p))) (upd H1 p (.lst []))) : tSeq (tPar i j (tCons ta (tCons (tLst tNil) tNil))) tz D σ H :=
  ha H (Same.refl H) _ fun v H1 s1 r1 => ⟨Nat.zero_le _, fun p np => ⟨v, .ref p, rfl, k v p H1 s1 r1 np⟩⟩
theorem q_par3_new {i j l : Nat} {x : α} {y : β} (ha : Ev ta σ H x) (hb : Ev tb σ H y) (k : ∀ v w p H1, Same H H1 → Dat.rep H1 v x → Dat.rep H1 w y → H1 p = none → tz D (((σ.set i (some v)).set j (some w)).set l (some (.ref p))) (upd H1 p (.lst []))) :
    tSeq (tPar3 i j l (tCons ta (tCons tb (tCons (tLst tNil) tNil)))) tz D σ H :=
  ha H (Same.refl H) _ fun v H1 s1 r1 => hb H1 s1 _ fun w H2 s2 r2 => ⟨Nat.zero_le _, fun p np => ⟨v, w, .ref p, rfl, k v w p H2 (s1.trans s2) (Dat.mono s2 r1) r2 np⟩⟩
theorem q_set_new {i : Nat} (k : ∀ p, H p = none → tz D (σ.set i (some (.ref p))) (upd H p (.lst []))) : tSeq (tAsg (tLst tNil) (gName i)) tz D σ H := ⟨Nat.zero_le _, fun p np => k p np⟩
end
abbrev M1 (p : Addr) : Addr → Prop := fun a => a = p
theorem m1_ok {p : Addr} {H : Hp} {l : List V} (h : H p = some (.lst l)) : MOk (M1 p) H := fun a e => ⟨l, e ▸ h⟩
theorem lot_small {B : Board} (b : BOk B) {lot : List Nat} (h : LotOk B lot) : lot.length ≤ 12 := by
  have := lot_len b h
  have := b.r6
  have := b.c6
  unfold nLines at *
  omega
section
variable {P : Program} {w : World} {K : PySem.W.Frag} {mg : Str → Option Value} {base : Heap} {C : Addr}
def others (B : Board) (lot : List Nat) (line : Nat) : List Nat := (linesOf B).filter (fun o => outs (lot ++ [line]) o && sameSide B line o)
def sp_need_two (C : Addr) : Sp := fun vs H Q E => ∃ v0 B v1 lot v2 line, vs = [v0, v1, v2] ∧ Dat.rep H v0 B ∧ Dat.rep H v1 lot ∧ Dat.rep H v2 line ∧ (BOk B ∧ LotOk B lot) ∧ (others B lot line ≠ [] → ∀ H', Same H H' → Q .non H') ∧ (others B lot line = [] → ∀ H', Same H H' → E (.ref C) none H')
theorem filter_any {α : Type} (p : α → Bool) (l : List α) : l.any p = !decide (l.filter p = []) := by
  by_cases h : l.filter p = []
  · rw [decide_eq_true h]
    exact List.any_eq_false.mpr fun x hx => by
      have := List.filter_eq_nil_iff.mp h x hx
      simpa using this
  · rw [decide_eq_false h]
    obtain ⟨x, hx⟩ := List.exists_mem_of_ne_nil _ h
    rw [List.mem_filter] at hx
    exact List.any_eq_true.mpr ⟨x, hx⟩
theorem c_need_two (T : Txt K mg C) (C_same_side : Cal P w K mg base CX0 1 "same_side" sp_same_side) (C_lines_of : Cal P w K mg base CX0 2 "lines_of" sp_lines_of) : Cal P w K mg base (L2.CX P w) 3 "need_two" (sp_need_two C) := by
  refine cal_mk T.d_need_two sc_need_two (fun _ _ _ _ _ _ us hl => match us, hl with | [_, _, _], _ => rfl) (by rintro vs H Q E ⟨v0, B, v1, lot, v2, line, rfl, _⟩; rfl) (fun f cdv A outer s H vs Q E hr h => ?_)
  obtain ⟨v0, B, v1, lot, v2, line, rfl, r0, r1, r2, ⟨b, lo⟩, q1, q2⟩ := h
  refine ⟨_, (pss_one (ps_if (pt_not (pt_val (pe_callB (k_any (K := K)) (by rfl) T.f_any boot_any (pa_cons (pe_lc (own := [("other", 3)]) rfl sc_need_two.nd (kpi_tup (K := K) (pe_cal C_lines_of hr (by decide) (by rfl) (pa_cons (pv 0) pa_nil))) (blkOk_by (N := ["board", "lot", "line", "other"]) (sc := defScope s_need_two) (by decide +kernel)) (fun _ _ _ _ _ => (pg_name (i := 3) sc_need_two.nd rfl (by first | exact .inl rfl | exact .inr rfl))) (fun _ _ _ _ _ => pts_nil) (fun _ _ _ _ _ => (pe_and (pe_cmpR (k_notIn (K := K)) (pv 3) (pe_tup (kpa_star (K := K) (pv 1) (pa_cons (pv 2) pa_nil))) (by rfl)) (pe_one (pe_cal C_same_side hr (by decide) (by rfl) (pa_cons (pv 0) (pa_cons (pv 2) (pa_cons (pv 3) pa_nil)))))))) pa_nil)))) (pss_one (ps_raise rfl (takes_of rfl rfl rfl rfl) (pmk_own0 PySem.F.excBase_ValueError T.xC T.gC T.kC (raises_own T.bC T.tC) (by exact rfl)))) pss_nil)), ?_⟩
  have h1 := b.r6
  have h2 := b.c6
  have h3 := lot_small b lo
  have hz : (linesOf B).length ≤ 12 := by unfold linesOf nLines; rw [List.length_range]; omega
  refine s_if ((evt_not (evt_b (ev_any (ev_lc1m (fun o => outs (lot ++ [line]) o && sameSide B line o) (src_T (xs := linesOf B) (ev_call1 (x := B) (ev_var rfl (by walk_at "rp")) b) m0_ok) (by omega) (fun _ => rfl) fun o ho v H1 s1 rv =>
    ev_andV (ev_notInT (x := o) (xs := lot ++ [line]) (ev_var rfl (by walk_at "rp")) (ev_tup (eva_starT (xs := lot) (ys := [line]) (ev_var rfl (by walk_at "rp")) (eva_cons (ev_var rfl (by walk_at "rp")) eva_nil)) (by rw [List.length_append]; show _ + 1 ≤ _; omega))) fun _ => ev_call3 (x := B) (y := line) (z := o) (ev_var rfl (by walk_at "rp")) (ev_var rfl (by walk_at "rp")) (ev_var rfl (by walk_at "rp")) trivial)))).eq ?_) (b := decide (others B lot line = [])) (fun e H1 s1 => ?_) (fun e H1 s1 => ?_)
  · rw [List.any_map]
    have := filter_any (fun o => outs (lot ++ [line]) o && sameSide B line o) (linesOf B)
    show (!(linesOf B).any (id ∘ _)) = _
    rw [Function.id_comp, this, Bool.not_not]
    rfl
  · exact q2 (of_decide_eq_true e) H1 s1
  · exact q1 (of_decide_eq_false e) H1 s1
abbrev sp_need_standing : Sp := Sp3 (fun B (lot : List Nat) line => BOk B ∧ line < nLines B ∧ line ∉ lot) (fun _ _ _ => ())
theorem c_need_standing (T : Txt K mg C) (C_need_line : Cal P w K mg base CX0 3 "need_line" sp_need_line) : Cal P w K mg base CX0 4 "need_standing" sp_need_standing := by
  refine cal0 T.d_need_standing sc_need_standing (fun _ _ _ _ _ _ us hl => match us, hl with | [_, _, _], _ => rfl) len3 (fun f cdv A outer s H vs Q E hr h => ?_)
  obtain ⟨v0, B, v1, lot, v2, line, rfl, r0, r1, r2, ⟨b, hl, hn⟩, q⟩ := h
  refine ⟨_, (pss_cons (ps_expr (pe_cal C_need_line hr (by decide) (by rfl) (pa_cons (pv 0) (pa_cons (pv 2) pa_nil))))
      (pss_one (ps_if (pt_cmpR (k_in (K := K)) (pv 2) (pv 1) (by rfl)) (pss_one ps_never) pss_nil))), ?_⟩
  refine q_drop (ev_call2 (x := B) (y := line) (ev_var rfl (by walk_at "rp")) (ev_var rfl (by walk_at "rp")) ⟨b, hl⟩) fun H1 s1 => ?_
  exact s_pass ((evt_of (ev_inT (x := line) (xs := lot) (ev_var rfl (by walk_at "rp")) (ev_var rfl (by walk_at "rp")))).eq (decide_eq_false hn)) fun H2 s2 => q _ _ (s1.trans s2) rfl
def fallCnt (B : Board) (lot : List Nat) (line o : Nat) : Nat := (((nums B lot line).zip (nums B lot o)).filter (fun p => decide (p.2 ≤ p.1))).length
def ftf (B : Board) (lot : List Nat) (line : Nat) : Int := minI ((others B lot line).map fun o => (fallCnt B lot line o : Int))
def sp_fewest_to_fall (C : Addr) : Sp := fun vs H Q E => ∃ v0 B v1 lot v2 line, vs = [v0, v1, v2] ∧ Dat.rep H v0 B ∧ Dat.rep H v1 lot ∧ Dat.rep H v2 line ∧ (BOk B ∧ LotOk B lot ∧ line < nLines B ∧ line ∉ lot) ∧
  (others B lot line ≠ [] → ∀ v H', Same H H' → Dat.rep H' v (ftf B lot line) → Q v H') ∧ (others B lot line = [] → ∀ H', Same H H' → E (.ref C) none H')
theorem c_fewest_to_fall (T : Txt K mg C) (C_need_board : Cal P w K mg base CX0 4 "need_board" sp_need_board) (C_need_lot : Cal P w K mg base CX0 4 "need_lot" sp_need_lot) (C_need_standing : Cal P w K mg base CX0 4 "need_standing" sp_need_standing) (C_need_two : Cal P w K mg base (L2.CX P w) 3 "need_two" (sp_need_two C)) (C_lines_of : Cal P w K mg base CX0 2 "lines_of" sp_lines_of) (C_numbers : Cal P w K mg base CX0 4 "numbers" sp_numbers) (C_same_side : Cal P w K mg base CX0 1 "same_side" sp_same_side) : Cal P w K mg base (L2.CX P w) 5 "fewest_to_fall" (sp_fewest_to_fall C) := by
  refine cal_mk T.d_fewest_to_fall sc_fewest_to_fall (fun _ _ _ _ _ _ us hl => match us, hl with | [_, _, _], _ => rfl) (by rintro vs H Q E ⟨v0, B, v1, lot, v2, line, rfl, _⟩; rfl) (fun f cdv A outer s H vs Q E hr h => ?_)
  obtain ⟨v0, B, v1, lot, v2, line, rfl, r0, r1, r2, ⟨b, lo, hl, hn⟩, q1, q2⟩ := h
  refine ⟨_, (pss_cons (ps_expr (pe_cal C_need_board hr (by decide) (by rfl) (pa_cons (pv 0) pa_nil)))
      (pss_cons (ps_expr (pe_cal C_need_lot hr (by decide) (by rfl) (pa_cons (pv 0) (pa_cons (pv 1) pa_nil))))
      (pss_cons (ps_expr (pe_cal C_need_standing hr (by decide) (by rfl) (pa_cons (pv 0) (pa_cons (pv 1) (pa_cons (pv 2) pa_nil)))))
      (pss_cons (ps_expr (pe_calX C_need_two (passes_call (takes_of rfl rfl rfl rfl) (fun _ _ _ _ h => h)) hr (by decide) (by rfl) (pa_cons (pv 0) (pa_cons (pv 1) (pa_cons (pv 2) pa_nil)))))
      (pss_cons (ps_par (i := 4) (j := 5) rfl sc_fewest_to_fall.nd rfl rfl (by decide) rfl rfl (pa_cons (pe_cal C_numbers hr (by decide) (by rfl) (pa_cons (pv 0) (pa_cons (pv 1) (pa_cons (pv 2) pa_nil)))) (pa_cons (pe_lst pa_nil) pa_nil)) (by rfl))
      (pss_cons (ps_for (passes_of rfl) rfl (kpi_tup (K := K) (pe_cal C_lines_of hr (by decide) (by rfl) (pa_cons (pv 0) pa_nil))) (pg_name (i := 3) sc_fewest_to_fall.nd rfl (by first | exact .inl rfl | exact .inr rfl)) (pss_one (ps_if (PW.pt (pw_and (pt_cmpR (k_notIn (K := K)) (pv 3) (pe_tup (kpa_star (K := K) (pv 1) (pa_cons (pv 2) pa_nil))) (by rfl)) (pw_and1 (pt_val (pe_cal C_same_side hr (by decide) (by rfl) (pa_cons (pv 0) (pa_cons (pv 2) (pa_cons (pv 3) pa_nil)))))))) (pss_one (ps_expr (kpe_bm (K := K) PySem.F.plainAttrs_list PySem.F.slot_list_append PySem.F.type_list_append mt_append (pv 5) (pa_cons (pe_callB (k_len (K := K)) (by rfl) T.f_len boot_len (pa_cons (pe_lc (own := [("a", 6), ("b", 7)]) rfl sc_fewest_to_fall.nd (kpi_zip (K := K) (by rfl) T.f_zip (pa_cons (pv 4) (pa_cons (pe_cal C_numbers hr (by decide) (by rfl) (pa_cons (pv 0) (pa_cons (pv 1) (pa_cons (pv 3) pa_nil)))) pa_nil))) (blkOk_by (N := ["board", "lot", "line", "other", "own", "best", "a", "b"]) (sc := defScope s_fewest_to_fall) (by decide +kernel)) (fun _ _ _ _ _ => (kpg_tup (K := K) (n := 2) (pgs_cons (pg_name (i := 6) sc_fewest_to_fall.nd rfl (by first | exact .inl rfl | exact .inr rfl)) (pgs_cons (pg_name (i := 7) sc_fewest_to_fall.nd rfl (by first | exact .inl rfl | exact .inr rfl)) pgs_nil)))) (fun _ _ _ _ _ => pts_one (pt_cmpR op_ge (pv 6) (pv 7) (by rfl))) (fun _ _ _ _ _ => pe_int)) pa_nil)) pa_nil)))) pss_nil)))
      (pss_one (ps_ret (pe_callB (k_min (K := K)) (by rfl) T.f_min boot_min (pa_cons (pv 5) pa_nil)))))))))), ?_⟩
  have h1 := b.r6
  have h2 := b.c6
  have h3 := lot_small b lo
  have h4 := nums_small b lot line
  have hz : (linesOf B).length ≤ 12 := by unfold linesOf nLines; rw [List.length_range]; omega
  refine q_drop (ev_call1 (x := B) (ev_var rfl (by walk_at "rp")) b) fun H1 s1 => ?_
  refine q_drop (ev_call2 (x := B) (y := lot) (ev_var rfl (by walk_at "rp")) (ev_var rfl (by walk_at "rp")) ⟨b, lo⟩) fun H2 s2 => ?_
  refine q_drop (ev_call3 (x := B) (y := lot) (z := line) (ev_var rfl (by walk_at "rp")) (ev_var rfl (by walk_at "rp")) (ev_var rfl (by walk_at "rp")) ⟨b, hl, hn⟩) fun H3 s3 => ?_
  -- need_two
  have s03 : Same H H3 := s1.trans (s2.trans s3)
  refine ⟨v0, rfl, v1, rfl, v2, rfl, v0, B, v1, lot, v2, line, rfl, (by walk_at "rp"), (by walk_at "rp"), (by walk_at "rp"), ⟨b, lo⟩, fun ho H4 s4 => ?_, fun ho H4 s4 => q2 ho H4 (s03.trans s4)⟩
  refine q_par_new (ev_call3 (x := B) (y := lot) (z := line) (ev_var rfl (by walk_at "rp")) (ev_var rfl (by walk_at "rp")) (ev_var rfl (by walk_at "rp")) ⟨b, hl⟩) fun vo p H5 s5 r5 np => ?_
  have s05 : Same H H5 := s03.trans (s4.trans s5)
  have s6 : Same H5 (upd H5 p (.lst [])) := same_new np
  refine q_for (M := M1 p) (src_T (xs := linesOf B) (ev_call1 (x := B) (ev_var rfl (by walk_at "rp")) b) (m1_ok upd_same)) fun H7 s7 => ?_
  refine ⟨fun i σ' H' => (∃ a, σ' = [some v0, some v1, some v2, a, some vo, some (.ref p), none, none]) ∧ SameB (M1 p) H7 H' ∧ Same H5 H' ∧ H' p = some (.lst (((((linesOf B).take i).filter (fun o => outs (lot ++ [line]) o && sameSide B line o)).map fun o => (fallCnt B lot line o : Int)).map V.int)),
    ⟨⟨_, rfl⟩, SameB.refl _, s6.trans s7, s7 _ _ upd_same⟩, fun i σ' H' h => h.2.1, ?_, ?_⟩
  · rintro i o hx σ' H' ⟨⟨a, rfl⟩, t1, t2, t3⟩ v H8 s8 rv
    have s58 : Same H5 H8 := t2.trans s8
    have s08 : Same H H8 := s05.trans s58
    have ho : o < nLines B := List.mem_range.mp (List.mem_of_getElem? hx)
    have r5' := Dat.mono s58 r5
    have r0' := Dat.mono s08 r0
    have r1' := Dat.mono s08 r1
    have r2' := Dat.mono s08 r2
    have eT : ((((linesOf B).take (i + 1)).filter (fun o => outs (lot ++ [line]) o && sameSide B line o)).map fun o => (fallCnt B lot line o : Int)).map V.int = ((((linesOf B).take i).filter (fun o => outs (lot ++ [line]) o && sameSide B line o)).map fun o => (fallCnt B lot line o : Int)).map V.int ++ (([o].filter (fun o => outs (lot ++ [line]) o && sameSide B line o)).map fun o => (fallCnt B lot line o : Int)).map V.int := by
      rw [take_snoc hx, List.filter_append, List.map_append, List.map_append]
    have hpo : BOk B ∧ o < nLines B := ⟨b, ho⟩
    refine s_if (evt_and (evt_of (ev_notInT (x := o) (xs := lot ++ [line]) (ev_var rfl (by walk_at "rp")) (ev_tup (eva_starT (xs := lot) (ys := [line]) (ev_var rfl (by walk_at "rp")) (eva_cons (ev_var rfl (by walk_at "rp")) eva_nil)) (by rw [List.length_append]; show _ + 1 ≤ _; omega)))) fun _ => evt_b (ev_call3 (x := B) (y := line) (z := o) (ev_var rfl (by walk_at "rp")) (ev_var rfl (by walk_at "rp")) (ev_var rfl (by walk_at "rp")) trivial)) (fun e H9 s9 => ?_) (fun e H9 s9 => ?_)
    · have e1 : List.filter (fun o => outs (lot ++ [line]) o && sameSide B line o) [o] = [o] := by rw [List.filter_cons]; exact if_pos e
      rw [e1] at eT
      have hlen := List.length_filter_le (fun o => outs (lot ++ [line]) o && sameSide B line o) ((linesOf B).take i)
      rw [List.length_take] at hlen
      refine s_app (x := (fallCnt B lot line o)) rfl (s9 _ _ (s8 _ _ t3)) (ek_lenL (xs := Lst.mk ((((nums B lot line).zip (nums B lot o)).filter (fun p => decide (p.2 ≤ p.1))).map fun _ => (1 : Nat)))
        (ev_lc2 (fun p => decide (p.2 ≤ p.1)) (fun _ => (1 : Nat)) (src_ZL (xs := Lst.mk (nums B lot line)) (ys := Lst.mk (nums B lot o)) (ev_var rfl (by walk_at "rp")) (ev_call3 (x := B) (y := lot) (z := o) (ev_var rfl (by walk_at "rp")) (ev_var rfl (by walk_at "rp")) (ev_var rfl (by walk_at "rp")) hpo)) (by rw [List.length_zip]; show min (nums B lot line).length _ ≤ _; omega) (fun _ _ => rfl)
          (fun p hp v w HA sA rA rB => evt_of (ev_geI (a := p.1) (b := p.2) (ev_var rfl (by walk_at "rp")) (ev_var rfl (by walk_at "rp")))) (fun p hp _ v w HA sA rA rB => ev_nat rfl)) |>.eq (by show (List.map _ _).length = _; rw [List.length_map]; rfl)) (by rw [List.length_map, List.length_map]; omega) fun u HA sA rA => ?_
      have eu : u = V.int (fallCnt B lot line o) := rA
      subst eu
      exact ⟨⟨_, rfl⟩, (t1.trans (same_b (s8.trans (s9.trans sA)))).put rfl, same_mut (s58.trans (s9.trans sA)) np, by rw [eT]; exact upd_same⟩
    · have e1 : List.filter (fun o => outs (lot ++ [line]) o && sameSide B line o) [o] = [] := by rw [List.filter_cons]; exact if_neg (fun z => by have := e.symm.trans z; cases this)
      rw [e1, List.map_nil, List.map_nil, List.append_nil] at eT
      exact ⟨⟨_, rfl⟩, t1.trans (same_b (s8.trans s9)), s58.trans s9, by rw [eT]; exact s9 _ _ (s8 _ _ t3)⟩
  · rintro σ' H' ⟨⟨a, rfl⟩, t1, t2, t3⟩
    rw [List.take_length] at t3
    refine s_ret (ev_min (ns := Lst.mk ((others B lot line).map fun o => (fallCnt B lot line o : Int))) (ev_var rfl ⟨p, _, rfl, t3, ints_p _⟩) ?_) fun v H8 s8 r => q1 ho v H8 (s05.trans (t2.trans s8)) r
    show List.map _ _ ≠ []
    intro z
    exact ho (List.map_eq_nil_iff.mp z)
abbrev sp_fewest_to_stand : Sp := Sp3 (fun B lot line => BOk B ∧ LotOk B lot ∧ line < nLines B ∧ line ∉ lot) (fun B lot line => if canFall B lot line = true then (1 : Nat) else 0)
theorem c_fewest_to_stand (T : Txt K mg C) (C_need_board : Cal P w K mg base CX0 4 "need_board" sp_need_board) (C_need_lot : Cal P w K mg base CX0 4 "need_lot" sp_need_lot) (C_need_standing : Cal P w K mg base CX0 4 "need_standing" sp_need_standing) (C_can_fall : Cal P w K mg base CX0 6 "can_fall" sp_can_fall) : Cal P w K mg base CX0 7 "fewest_to_stand" sp_fewest_to_stand := by
  refine cal0 T.d_fewest_to_stand sc_fewest_to_stand (fun _ _ _ _ _ _ us hl => match us, hl with | [_, _, _], _ => rfl) len3 (fun f cdv A outer s H vs Q E hr h => ?_)
  obtain ⟨v0, B, v1, lot, v2, line, rfl, r0, r1, r2, ⟨b, lo, hl, hn⟩, q⟩ := h
  refine ⟨_, (pss_cons (ps_expr (pe_cal C_need_board hr (by decide) (by rfl) (pa_cons (pv 0) pa_nil)))
      (pss_cons (ps_expr (pe_cal C_need_lot hr (by decide) (by rfl) (pa_cons (pv 0) (pa_cons (pv 1) pa_nil))))
      (pss_cons (ps_expr (pe_cal C_need_standing hr (by decide) (by rfl) (pa_cons (pv 0) (pa_cons (pv 1) (pa_cons (pv 2) pa_nil)))))
      (pss_one (ps_ret (pe_ifExp (pt_val (pe_cal C_can_fall hr (by decide) (by rfl) (pa_cons (pv 0) (pa_cons (pv 1) (pa_cons (pv 2) pa_nil))))) pe_int pe_int)))))), ?_⟩
  have h3 := lot_small b lo
  refine q_drop (ev_call1 (x := B) (ev_var rfl (by walk_at "rp")) b) fun H1 s1 => ?_
  refine q_drop (ev_call2 (x := B) (y := lot) (ev_var rfl (by walk_at "rp")) (ev_var rfl (by walk_at "rp")) ⟨b, lo⟩) fun H2 s2 => ?_
  refine q_drop (ev_call3 (x := B) (y := lot) (z := line) (ev_var rfl (by walk_at "rp")) (ev_var rfl (by walk_at "rp")) (ev_var rfl (by walk_at "rp")) ⟨b, hl, hn⟩) fun H3 s3 => ?_
  exact s_ret (ev_if (x := (1 : Nat)) (y := 0) (evt_b (ev_call3 (x := B) (y := lot) (z := line) (ev_var rfl (by walk_at "rp")) (ev_var rfl (by walk_at "rp")) (ev_var rfl (by walk_at "rp")) ⟨b, hl, by omega⟩)) (fun _ => ev_nat rfl) (fun _ => ev_nat rfl)) fun v H4 s4 r => q v H4 (s1.trans (s2.trans (s3.trans s4))) r
def leadV (B : Board) (lot : List Nat) (x y : Nat) : Int := minI (((nums B lot x).zip (nums B lot y)).map fun p => p.2 - p.1)
def sp_lead (C : Addr) : Sp := fun vs H Q E => ∃ v0 B v1 lot v2 x v3 y, vs = [v0, v1, v2, v3] ∧ Dat.rep H v0 B ∧ Dat.rep H v1 lot ∧ Dat.rep H v2 x ∧ Dat.rep H v3 y ∧ (BOk B ∧ LotOk B lot ∧ (x < nLines B ∧ x ∉ lot) ∧ y < nLines B ∧ y ∉ lot) ∧
  (sameSide B x y = true → ∀ v H', Same H H' → Dat.rep H' v (leadV B lot x y) → Q v H') ∧ (sameSide B x y = false → ∀ H', Same H H' → E (.ref C) none H')
theorem nums_ne {B : Board} {lot : List Nat} (h : LotOk B lot) (x : Nat) : nums B lot x ≠ [] := by
  obtain ⟨c, hc⟩ := cross_ne h x
  rw [nums_eq]
  intro z
  rw [List.map_eq_nil_iff.mp z] at hc
  cases hc
theorem zip_ne {α β : Type} {a : List α} {b : List β} (ha : a ≠ []) (hb : b ≠ []) : a.zip b ≠ [] := by
  cases a with
  | nil => exact absurd rfl ha
  | cons x r =>
    cases b with
    | nil => exact absurd rfl hb
    | cons y t => simp
theorem c_lead (T : Txt K mg C) (C_need_board : Cal P w K mg base CX0 4 "need_board" sp_need_board) (C_need_lot : Cal P w K mg base CX0 4 "need_lot" sp_need_lot) (C_need_standing : Cal P w K mg base CX0 4 "need_standing" sp_need_standing) (C_same_side : Cal P w K mg base CX0 1 "same_side" sp_same_side) (C_numbers : Cal P w K mg base CX0 4 "numbers" sp_numbers) : Cal P w K mg base (L2.CX P w) 5 "lead" (sp_lead C) := by
  refine cal_mk T.d_lead sc_lead (fun _ _ _ _ _ _ us hl => match us, hl with | [_, _, _, _], _ => rfl) (by rintro vs H Q E ⟨v0, B, v1, lot, v2, x, v3, y, rfl, _⟩; rfl) (fun f cdv A outer s H vs Q E hr h => ?_)
  obtain ⟨v0, B, v1, lot, v2, x, v3, y, rfl, r0, r1, r2, r3, ⟨b, lo, ⟨hx, nx⟩, hy, ny⟩, q1, q2⟩ := h
  refine ⟨_, (pss_cons (ps_expr (pe_cal C_need_board hr (by decide) (by rfl) (pa_cons (pv 0) pa_nil)))
      (pss_cons (ps_expr (pe_cal C_need_lot hr (by decide) (by rfl) (pa_cons (pv 0) (pa_cons (pv 1) pa_nil))))
      (pss_cons (ps_expr (pe_cal C_need_standing hr (by decide) (by rfl) (pa_cons (pv 0) (pa_cons (pv 1) (pa_cons (pv 2) pa_nil)))))
      (pss_cons (ps_expr (pe_cal C_need_standing hr (by decide) (by rfl) (pa_cons (pv 0) (pa_cons (pv 1) (pa_cons (pv 3) pa_nil)))))
      (pss_cons (ps_if (pt_not (pt_val (pe_cal C_same_side hr (by decide) (by rfl) (pa_cons (pv 0) (pa_cons (pv 2) (pa_cons (pv 3) pa_nil)))))) (pss_one (ps_raise rfl (takes_of rfl rfl rfl rfl) (pmk_own0 PySem.F.excBase_ValueError T.xC T.gC T.kC (raises_own T.bC T.tC) (by exact rfl)))) pss_nil)
      (pss_one (ps_ret (pe_callB (k_min (K := K)) (by rfl) T.f_min boot_min (pa_cons (pe_lc (own := [("a", 4), ("b", 5)]) rfl sc_lead.nd (kpi_zip (K := K) (by rfl) T.f_zip (pa_cons (pe_cal C_numbers hr (by decide) (by rfl) (pa_cons (pv 0) (pa_cons (pv 1) (pa_cons (pv 2) pa_nil)))) (pa_cons (pe_cal C_numbers hr (by decide) (by rfl) (pa_cons (pv 0) (pa_cons (pv 1) (pa_cons (pv 3) pa_nil)))) pa_nil))) (blkOk_by (N := ["board", "lot", "line", "other", "a", "b"]) (sc := defScope s_lead) (by decide +kernel)) (fun _ _ _ _ _ => (kpg_tup (K := K) (n := 2) (pgs_cons (pg_name (i := 4) sc_lead.nd rfl (by first | exact .inl rfl | exact .inr rfl)) (pgs_cons (pg_name (i := 5) sc_lead.nd rfl (by first | exact .inl rfl | exact .inr rfl)) pgs_nil)))) (fun _ _ _ _ _ => pts_nil) (fun _ _ _ _ _ => (pe_op op_sub (pv 5) (pv 4)))) pa_nil))))))))), ?_⟩
  have h4 := nums_small b lot x
  have hpx : BOk B ∧ x < nLines B := ⟨b, hx⟩
  have hpy : BOk B ∧ y < nLines B := ⟨b, hy⟩
  refine q_drop (ev_call1 (x := B) (ev_var rfl (by walk_at "rp")) b) fun H1 s1 => ?_
  refine q_drop (ev_call2 (x := B) (y := lot) (ev_var rfl (by walk_at "rp")) (ev_var rfl (by walk_at "rp")) ⟨b, lo⟩) fun H2 s2 => ?_
  refine q_drop (ev_call3 (x := B) (y := lot) (z := x) (ev_var rfl (by walk_at "rp")) (ev_var rfl (by walk_at "rp")) (ev_var rfl (by walk_at "rp")) ⟨b, hx, nx⟩) fun H3 s3 => ?_
  refine q_drop (ev_call3 (x := B) (y := lot) (z := y) (ev_var rfl (by walk_at "rp")) (ev_var rfl (by walk_at "rp")) (ev_var rfl (by walk_at "rp")) ⟨b, hy, ny⟩) fun H4 s4 => ?_
  have s04 : Same H H4 := s1.trans (s2.trans (s3.trans s4))
  refine q_ifn (evt_not (evt_b (ev_call3 (x := B) (y := x) (z := y) (ev_var rfl (by walk_at "rp")) (ev_var rfl (by walk_at "rp")) (ev_var rfl (by walk_at "rp")) trivial))) (fun e H5 s5 => q2 (by simpa using e) H5 (s04.trans s5)) (fun e H5 s5 => ?_)
  refine s_ret (ev_min (ns := Lst.mk (((nums B lot x).zip (nums B lot y)).map fun p => p.2 - p.1)) (ev_lc2m (fun p => p.2 - p.1) (src_ZL (xs := Lst.mk (nums B lot x)) (ys := Lst.mk (nums B lot y)) (ev_call3 (x := B) (y := lot) (z := x) (ev_var rfl (by walk_at "rp")) (ev_var rfl (by walk_at "rp")) (ev_var rfl (by walk_at "rp")) hpx) (ev_call3 (x := B) (y := lot) (z := y) (ev_var rfl (by walk_at "rp")) (ev_var rfl (by walk_at "rp")) (ev_var rfl (by walk_at "rp")) hpy))
    (by rw [List.length_zip]; show min (nums B lot x).length _ ≤ _; omega) (fun _ _ => rfl) fun p hp v w HA sA rA rB => ev_subI (a := p.2) (b := p.1) (ev_var rfl (by walk_at "rp")) (ev_var rfl (by walk_at "rp"))) ?_) fun v H6 s6 r => q1 (by simpa using e) v H6 (s04.trans (s5.trans s6)) r
  intro z
  exact zip_ne (nums_ne lo x) (nums_ne lo y) (List.map_eq_nil_iff.mp z)
end
end SB
namespace SB
open PySem PySem.Spec PyProof.Rows L2 RZ StX
local macro_rules | `(tactic| walk_at "rp") => `(tactic| first | assumption | rfl | (refine Dat.mono (by assumption) ?_; walk_at "rp"))
section
variable {P : Program} {w : World} {K : PySem.W.Frag} {mg : Str → Option Value} {base : Heap} {C : Addr}
def withPl (B : Board) (i j : Nat) (p : Cell) : Board := B.take i ++ (((B.getD i []).take j ++ (p :: (B.getD i []).drop (j + 1))) :: B.drop (i + 1))
abbrev sp_with_place : Sp := Sp4 (fun B i j (_ : Cell) => BOk B ∧ i < B.length ∧ j < wid B) withPl
theorem c_with_place (T : Txt K mg C)  : Cal P w K mg base CX0 1 "with_place" sp_with_place := by
  refine cal0 T.d_with_place sc_with_place (fun _ _ _ _ _ _ us hl => match us, hl with | [_, _, _, _], _ => rfl) len4 (fun f cdv A outer s H vs Q E hr h => ?_)
  obtain ⟨v0, B, v1, i, v2, j, v3, p, rfl, r0, r1, r2, r3, ⟨b, hi, hj⟩, q⟩ := h
  refine ⟨_, (pss_cons (ps_set (i := 4) sc_with_place.nd rfl (by first | exact .inl rfl | exact .inr rfl) (pe_tup (kpa_star (K := K) (pe_slice (k_sl (K := K)) (pe_ix (k_ixT (K := K)) (pv 0) (pv 1) (fun _ _ => rfl)) po_none (po_some (pv 2))) (pa_cons (pv 3) (kpa_star (K := K) (pe_slice (k_sl (K := K)) (pe_ix (k_ixT (K := K)) (pv 0) (pv 1) (fun _ _ => rfl)) (po_some (pe_op op_add (pv 2) pe_int)) po_none) pa_nil)))))
      (pss_one (ps_ret (pe_tup (kpa_star (K := K) (pe_slice (k_sl (K := K)) (pv 0) po_none (po_some (pv 1))) (pa_cons (pv 4) (kpa_star (K := K) (pe_slice (k_sl (K := K)) (pv 0) (po_some (pe_op op_add (pv 1) pe_int)) po_none) pa_nil))))))), ?_⟩
  have h1 := b.r6
  have h2 := b.c6
  have hl := bok_row b (bok_get hi)
  refine q_set (x := (B.getD i []).take j ++ (p :: ((B.getD i []).drop (j + 1) ++ []))) (ev_tup (eva_starT (ev_slTo (ev_ixT (xs := B) (ev_var rfl (by walk_at "rp")) (ev_var (x := i) rfl (by walk_at "rp")) (bok_get hi)) (ev_var (x := j) rfl (by walk_at "rp"))) (eva_cons (ev_var rfl (by walk_at "rp")) (eva_starT (ev_slFrom (n := j + 1) (ev_ixT (xs := B) (ev_var rfl (by walk_at "rp")) (ev_var (x := i) rfl (by walk_at "rp")) (bok_get hi)) (ev_addN (a := j) (b := 1) (ev_var rfl (by walk_at "rp")) (ev_nat rfl))) eva_nil))) ?_) fun v H1 s1 rv => ?_
  · simp only [List.length_append, List.length_take, List.length_cons, List.length_drop, List.length_nil]
    omega
  refine s_ret ((ev_tup (xs := B.take i ++ (((B.getD i []).take j ++ (p :: ((B.getD i []).drop (j + 1) ++ []))) :: (B.drop (i + 1) ++ []))) (eva_starT (ev_slTo (xs := B) (ev_var rfl (by walk_at "rp")) (ev_var (x := i) rfl (by walk_at "rp"))) (eva_cons (ev_var rfl (by walk_at "rp")) (eva_starT (ev_slFrom (xs := B) (n := i + 1) (ev_var rfl (by walk_at "rp")) (ev_addN (a := i) (b := 1) (ev_var rfl (by walk_at "rp")) (ev_nat rfl))) eva_nil))) ?_).eq ?_) fun v H2 s2 r => q v H2 (s1.trans s2) r
  · simp only [List.length_append, List.length_take, List.length_cons, List.length_drop, List.length_nil]
    omega
  · unfold withPl
    rw [List.append_nil, List.append_nil]
theorem withPl_len {B : Board} {i j : Nat} {p : Cell} (hi : i < B.length) : (withPl B i j p).length = B.length := by
  unfold withPl
  simp only [List.length_append, List.length_take, List.length_cons, List.length_drop]
  omega
theorem bok_withPl {B : Board} (b : BOk B) {i j : Nat} {p : Cell} (hi : i < B.length) (hj : j < wid B) (hp : InR p.1 ∧ InR p.2) : BOk (withPl B i j p) := by
  have hrow := bok_row b (bok_get hi)
  have rows : ∀ row ∈ withPl B i j p, row.length = wid B := by
    intro row hr
    unfold withPl at hr
    rcases List.mem_append.mp hr with h | h
    · exact b.rows _ (List.mem_of_mem_take h)
    · rcases List.mem_cons.mp h with h | h
      · subst h
        simp only [List.length_append, List.length_take, List.length_cons, List.length_drop]
        omega
      · exact b.rows _ (List.mem_of_mem_drop h)
  have hlen := withPl_len (j := j) (p := p) hi
  have hw : wid (withPl B i j p) = wid B := by
    have h1 := b.r1
    cases e : withPl B i j p with
    | nil => rw [e] at hlen; simp at hlen; omega
    | cons x r => exact rows x (by rw [e]; exact List.mem_cons_self ..)
  refine ⟨by rw [hlen]; exact b.r1, by rw [hlen]; exact b.r6, by rw [hw]; exact b.c1, by rw [hw]; exact b.c6, fun row hr => by rw [hw]; exact rows row hr, fun row hr c hc => ?_⟩
  unfold withPl at hr
  rcases List.mem_append.mp hr with h | h
  · exact b.cells _ (List.mem_of_mem_take h) c hc
  · rcases List.mem_cons.mp h with h | h
    · subst h
      have hm := List.mem_of_getElem? (bok_get hi)
      rcases List.mem_append.mp hc with h | h
      · exact b.cells _ hm c (List.mem_of_mem_take h)
      · rcases List.mem_cons.mp h with h | h
        · subst h; exact hp
        · exact b.cells _ hm c (List.mem_of_mem_drop h)
    · exact b.cells _ (List.mem_of_mem_drop h) c hc
theorem cell_in {B : Board} (b : BOk B) {i j : Nat} (hi : i < B.length) (hj : j < wid B) : InR (cellAt B i j).1 ∧ InR (cellAt B i j).2 :=
  b.cells _ (List.mem_of_getElem? (bok_get hi)) _ (List.mem_of_getElem? (bok_cell b hi hj))
def plc (B : Board) (line i j : Nat) : Cell := if line < B.length then (-1000, (cellAt B i j).2) else ((cellAt B i j).1, -1000)
theorem plc_in {B : Board} (b : BOk B) {line i j : Nat} (hi : i < B.length) (hj : j < wid B) : InR (plc B line i j).1 ∧ InR (plc B line i j).2 := by
  have h := cell_in b hi hj
  have h0 : InR (-1000) := ⟨by decide, by decide⟩
  unfold plc
  split
  · exact ⟨h0, h.2⟩
  · exact ⟨h.1, h0⟩
def chCell (B : Board) (line i j : Nat) : Nat := if line ∈ [i, j + B.length] then (if line ∈ endLot (withPl B i j (plc B line i j)) then 1 else 0) else 0
def chRow (B : Board) (line i : Nat) : Nat := ((List.range (wid B)).map (chCell B line i)).sum
def chAll (B : Board) (line : Nat) : Nat := ((List.range B.length).map (chRow B line)).sum
theorem sum_range_succ (f : Nat → Nat) (n : Nat) : ((List.range (n + 1)).map f).sum = ((List.range n).map f).sum + f n := by
  rw [List.range_succ, List.map_append, List.sum_append]
  simp
abbrev sp_count_changes : Sp := Sp2 (fun B line => BOk B ∧ line < nLines B) chAll
theorem c_count_changes (T : Txt K mg C) (C_need_board : Cal P w K mg base CX0 4 "need_board" sp_need_board) (C_need_line : Cal P w K mg base CX0 3 "need_line" sp_need_line) (C_last_of : Cal P w K mg base CX0 8 "last_of" sp_last_of) (C_with_place : Cal P w K mg base CX0 1 "with_place" sp_with_place) : Cal P w K mg base CX0 9 "count_changes" sp_count_changes := by
  refine cal0 T.d_count_changes sc_count_changes (fun _ _ _ _ _ _ us hl => match us, hl with | [_, _], _ => rfl) len2 (fun f cdv A outer s H vs Q E hr h => ?_)
  obtain ⟨v0, B, v1, line, rfl, r0, r1, ⟨b, hl⟩, q⟩ := h
  refine ⟨_, (pss_cons (ps_expr (pe_cal C_need_board hr (by decide) (by rfl) (pa_cons (pv 0) pa_nil)))
      (pss_cons (ps_expr (pe_cal C_need_line hr (by decide) (by rfl) (pa_cons (pv 0) (pa_cons (pv 1) pa_nil))))
      (pss_cons (ps_set (i := 2) sc_count_changes.nd rfl (by first | exact .inl rfl | exact .inr rfl) pe_int)
      (pss_cons (ps_for PassesOwn.never rfl (kpi_enum (K := K) (by rfl) T.f_enumerate (pa_cons (pv 0) pa_nil)) (kpg_tup (K := K) (n := 2) (pgs_cons (pg_name (i := 3) sc_count_changes.nd rfl (by first | exact .inl rfl | exact .inr rfl)) (pgs_cons (pg_name (i := 4) sc_count_changes.nd rfl (by first | exact .inl rfl | exact .inr rfl)) pgs_nil))) (pss_one (ps_for PassesOwn.never rfl (kpi_enum (K := K) (by rfl) T.f_enumerate (pa_cons (pv 4) pa_nil)) (kpg_tup (K := K) (n := 2) (pgs_cons (pg_name (i := 5) sc_count_changes.nd rfl (by first | exact .inl rfl | exact .inr rfl)) (pgs_cons (kpg_tup (K := K) (n := 2) (pgs_cons (pg_name (i := 6) sc_count_changes.nd rfl (by first | exact .inl rfl | exact .inr rfl)) (pgs_cons (pg_name (i := 7) sc_count_changes.nd rfl (by first | exact .inl rfl | exact .inr rfl)) pgs_nil))) pgs_nil))) (pss_one (ps_if (pt_cmpR (k_in (K := K)) (pv 1) (pe_tup (pa_cons (pv 3) (pa_cons (pe_op op_add (pv 5) (pe_callB (k_len (K := K)) (by rfl) T.f_len boot_len (pa_cons (pv 0) pa_nil))) pa_nil))) (by rfl)) (pss_cons (ps_set (i := 8) sc_count_changes.nd rfl (by first | exact .inl rfl | exact .inr rfl) (pe_ifExp (pt_cmpR op_lt (pv 1) (pe_callB (k_len (K := K)) (by rfl) T.f_len boot_len (pa_cons (pv 0) pa_nil)) (by rfl)) (pe_tup (pa_cons (pe_un un_neg pe_int) (pa_cons (pv 7) pa_nil))) (pe_tup (pa_cons (pv 6) (pa_cons (pe_un un_neg pe_int) pa_nil)))))
      (pss_one (ps_aug (i := 2) sc_count_changes.nd rfl (by first | exact .inl rfl | exact .inr rfl) (pe_ifExp (pt_cmpR (k_in (K := K)) (pv 1) (pe_cal C_last_of hr (by decide) (by rfl) (pa_cons (pe_cal C_with_place hr (by decide) (by rfl) (pa_cons (pv 0) (pa_cons (pv 3) (pa_cons (pv 5) (pa_cons (pv 8) pa_nil))))) pa_nil)) (by rfl)) pe_int pe_int) ip_add))) pss_nil)))))
      (pss_one (ps_ret (pv 2))))))), ?_⟩
  have h1 := b.r6
  have h2 := b.c6
  refine q_drop (ev_call1 (x := B) (ev_var rfl (by walk_at "rp")) b) fun H1 s1 => ?_
  refine q_drop (ev_call2 (x := B) (y := line) (ev_var rfl (by walk_at "rp")) (ev_var rfl (by walk_at "rp")) ⟨b, hl⟩) fun H2 s2 => ?_
  refine q_set (x := (0 : Nat)) (ev_nat rfl) fun u H3 s3 r3 => ?_
  have s03 : Same H H3 := s1.trans (s2.trans s3)
  cases (show u = V.int ((0 : Nat) : Int) from r3)
  refine q_for (src_E (xs := B) (ev_var rfl (by walk_at "rp")) m0_ok) fun H4 s4 => ⟨fun i σ' H' => (∃ a3 a4 a5 a6 a7 a8, σ' = [some v0, some v1, some (.int ((((List.range i).map (chRow B line)).sum : Nat) : Int)), a3, a4, a5, a6, a7, a8]) ∧ Same H4 H', ⟨⟨_, _, _, _, _, _, rfl⟩, Same.refl _⟩, fun i σ' H' h => same_b h.2, ?_, ?_⟩
  · rintro i x hx σ' H' ⟨⟨a3, a4, a5, a6, a7, a8, rfl⟩, t1⟩ v H5 s5 rv
    obtain ⟨ex, gx⟩ := enumD_get hx
    have hi : i < B.length := (List.getElem?_eq_some_iff.mp gx).1
    have hrow := bok_row b gx
    refine tg_two v H5 x rv _ ?_
    rintro σ2 ⟨w1, w2, rfl, q1, q2⟩
    rw [ex] at q1
    have s05 : Same H H5 := s03.trans (s4.trans (t1.trans s5))
    have r0' := Dat.mono s05 r0
    have r1' := Dat.mono s05 r1
    refine s_for (src_E (xs := x.2) (ev_var rfl (by walk_at "rp")) m0_ok) fun H6 s6 => ⟨fun j σ' H' => (∃ a5 a6 a7 a8, σ' = [some v0, some v1, some (.int ((((List.range i).map (chRow B line)).sum + ((List.range j).map (chCell B line i)).sum : Nat) : Int)), some w1, some w2, a5, a6, a7, a8]) ∧ Same H6 H', ⟨⟨_, _, _, _, rfl⟩, Same.refl _⟩, fun j σ' H' h => same_b h.2, ?_, ?_⟩
    · rintro j y hy σ' H' ⟨⟨a5, a6, a7, a8, rfl⟩, t2⟩ v' H7 s7 ry
      obtain ⟨ey, gy⟩ := enumD_get hy
      have hj : j < wid B := by rw [← hrow]; exact (List.getElem?_eq_some_iff.mp gy).1
      have ec : y.2 = cellAt B i j := by
        have g1 := bok_cell b hi hj
        have g2 : B.getD i [] = x.2 := Option.some.inj ((bok_get hi).symm.trans gx)
        rw [g2, gy] at g1
        exact Option.some.inj g1
      refine tg_three v' H7 y ry _ ?_
      rintro σ3 ⟨w3, w4, w5, rfl, q3, q4, q5⟩
      rw [ey] at q3
      rw [ec] at q4 q5
      have s67 : Same H6 H7 := t2.trans s7
      have r0'' := Dat.mono (s6.trans s67) r0'
      have r1'' := Dat.mono (s6.trans s67) r1'
      have q1' := Dat.mono (s6.trans s67) q1
      have eS : ((List.range (j + 1)).map (chCell B line i)).sum = ((List.range j).map (chCell B line i)).sum + chCell B line i j := sum_range_succ _ _
      refine s_if (evt_of (ev_inT (x := line) (xs := [i, j + B.length]) (ev_var rfl (by walk_at "rp")) (ev_tup (eva_cons (ev_var rfl (by walk_at "rp")) (eva_cons (ev_addN (a := j) (b := B.length) (ev_var rfl (by walk_at "rp")) (ek_lenT (xs := B) (ev_var rfl (by walk_at "rp")))) eva_nil)) (by show 2 ≤ 100000; decide)))) (fun e H8 s8 => ?_) (fun e H8 s8 => ?_)
      · have hin := of_decide_eq_true e
        refine q_set (x := plc B line i j) ((ev_if (x := ((-1000 : Int), (cellAt B i j).2)) (y := ((cellAt B i j).1, (-1000 : Int))) (evt_of (ev_ltN (a := line) (b := B.length) (ev_var rfl (by walk_at "rp")) (ek_lenT (xs := B) (ev_var rfl (by walk_at "rp"))))) (fun _ => ev_pair (ev_negI (a := 1000) ev_int) (ev_var rfl (by walk_at "rp"))) (fun _ => ev_pair (ev_var rfl (by walk_at "rp")) (ev_negI (a := 1000) ev_int))).eq ?_) fun w6 H9 s9 q6 => ?_
        · unfold plc
          by_cases z : line < B.length
          · rw [if_pos (decide_eq_true z), if_pos z]
          · rw [if_neg (by rw [decide_eq_false z]; decide), if_neg z]
        refine s_augN (b := chCell B line i j) rfl ((ev_if (x := (1 : Nat)) (y := 0) (evt_of (ev_inT (x := line) (xs := endLot (withPl B i j (plc B line i j))) (ev_var rfl (by walk_at "rp")) (ev_call1 (x := withPl B i j (plc B line i j)) (ev_call4 (x := B) (y := i) (z := j) (x4 := plc B line i j) (ev_var rfl (by walk_at "rp")) (ev_var rfl (by walk_at "rp")) (ev_var rfl (by walk_at "rp")) (ev_var rfl (by walk_at "rp")) ⟨b, hi, hj⟩) (bok_withPl b hi hj (plc_in b hi hj))))) (fun _ => ev_nat rfl) (fun _ => ev_nat rfl)).eq ?_) fun HA sA => ?_
        · unfold chCell
          rw [if_pos hin]
          by_cases z : line ∈ endLot (withPl B i j (plc B line i j))
          · rw [if_pos (decide_eq_true z), if_pos z]
          · rw [if_neg (by rw [decide_eq_false z]; decide), if_neg z]
        refine ⟨⟨some w3, some w4, some w5, some w6, ?_⟩, s67.trans (s8.trans (s9.trans sA))⟩
        rw [eS, ← Nat.add_assoc]
        rfl
      · have hin := of_decide_eq_false e
        refine ⟨⟨some w3, some w4, some w5, a8, ?_⟩, s67.trans s8⟩
        have e0 : chCell B line i j = 0 := by
          unfold chCell
          rw [if_neg hin]
        rw [eS, e0, Nat.add_zero]
        rfl
    · rintro σ' H' ⟨⟨a5, a6, a7, a8, rfl⟩, t2⟩
      have eS : ((List.range (i + 1)).map (chRow B line)).sum = ((List.range i).map (chRow B line)).sum + chRow B line i := sum_range_succ _ _
      refine ⟨⟨some w1, some w2, a5, a6, a7, a8, ?_⟩, t1.trans (s5.trans (s6.trans t2))⟩
      rw [eS, enumD_len, hrow]
      rfl
  · rintro σ' H' ⟨⟨a3, a4, a5, a6, a7, a8, rfl⟩, t1⟩
    refine s_ret (x := chAll B line) (ev_var rfl ?_) fun v H5 s5 r => q v H5 (s03.trans (s4.trans (t1.trans s5))) r
    rw [enumD_len]
    rfl
theorem bok_shown {B : Board} (b : BOk B) {lot : List Nat} (lo : LotOk B lot) : BOk (shownB B lot) := by
  obtain ⟨r, hr, nr⟩ := lo.row
  obtain ⟨c, hc1, hc2, nc⟩ := lo.col
  have rows : ∀ row ∈ shownB B lot, row.length = (colsLeft B lot).length := by
    intro row h
    obtain ⟨i, _, e⟩ := List.mem_map.mp h
    subst e
    rw [List.length_map]
  have hl : (shownB B lot).length = (rowsLeft B lot).length := by unfold shownB; rw [List.length_map]
  have hr1 : 1 ≤ (rowsLeft B lot).length := List.length_pos_iff.mpr (List.ne_nil_of_mem (mem_rows.mpr ⟨hr, nr⟩))
  have hc1' : 1 ≤ (colsLeft B lot).length := List.length_pos_iff.mpr (List.ne_nil_of_mem (mem_cols.mpr ⟨⟨hc1, hc2⟩, nc⟩))
  have hw : wid (shownB B lot) = (colsLeft B lot).length := by
    cases e : shownB B lot with
    | nil => rw [e] at hl; simp at hl; omega
    | cons x r => exact rows x (by rw [e]; exact List.mem_cons_self ..)
  refine ⟨by rw [hl]; exact hr1, by rw [hl]; exact rows_small b lot, by rw [hw]; exact hc1', by rw [hw]; exact cols_small b lot, fun row h => by rw [hw]; exact rows row h, fun row h p hp => ?_⟩
  obtain ⟨i, hi, e⟩ := List.mem_map.mp h
  subst e
  obtain ⟨j, hj, e⟩ := List.mem_map.mp hp
  subst e
  have g1 := (mem_rows.mp hi).1
  have g2 := (mem_cols.mp hj).1
  have g3 : nLines B = B.length + wid B := rfl
  exact cell_in b g1 (by omega)
abbrev sp_kept_board : Sp := Sp2 (fun B lot => BOk B ∧ LotOk B lot) (fun B lot => endLot (shownB B lot))
theorem c_kept_board (T : Txt K mg C) (C_need_board : Cal P w K mg base CX0 4 "need_board" sp_need_board) (C_need_lot : Cal P w K mg base CX0 4 "need_lot" sp_need_lot) (C_last_of : Cal P w K mg base CX0 8 "last_of" sp_last_of) (C_shown_of : Cal P w K mg base CX0 4 "shown_of" sp_shown_of) : Cal P w K mg base CX0 9 "kept_board" sp_kept_board := by
  refine cal0 T.d_kept_board sc_kept_board (fun _ _ _ _ _ _ us hl => match us, hl with | [_, _], _ => rfl) len2 (fun f cdv A outer s H vs Q E hr h => ?_)
  obtain ⟨v0, B, v1, lot, rfl, r0, r1, ⟨b, lo⟩, q⟩ := h
  refine ⟨_, (pss_cons (ps_expr (pe_cal C_need_board hr (by decide) (by rfl) (pa_cons (pv 0) pa_nil)))
      (pss_cons (ps_expr (pe_cal C_need_lot hr (by decide) (by rfl) (pa_cons (pv 0) (pa_cons (pv 1) pa_nil))))
      (pss_one (ps_ret (pe_cal C_last_of hr (by decide) (by rfl) (pa_cons (pe_cal C_shown_of hr (by decide) (by rfl) (pa_cons (pv 0) (pa_cons (pv 1) pa_nil))) pa_nil)))))), ?_⟩
  refine q_drop (ev_call1 (x := B) (ev_var rfl (by walk_at "rp")) b) fun H1 s1 => ?_
  refine q_drop (ev_call2 (x := B) (y := lot) (ev_var rfl (by walk_at "rp")) (ev_var rfl (by walk_at "rp")) ⟨b, lo⟩) fun H2 s2 => ?_
  exact s_ret (ev_call1 (x := shownB B lot) (ev_call2 (x := B) (y := lot) (ev_var rfl (by walk_at "rp")) (ev_var rfl (by walk_at "rp")) b) (bok_shown b lo)) fun v H3 s3 r => q v H3 (s1.trans (s2.trans s3)) r
def unl (B : Board) (lot : List Nat) (line : Nat) : List Int := if line < B.length then (colsLeft B lot).map (fun c => (cellAt B line (c - B.length)).2) else (rowsLeft B lot).map (fun r => (cellAt B r (line - B.length)).1)
def dup (B : Board) (lot : List Nat) (line : Nat) : Bool := decide (nSet (unl B lot line) < (unl B lot line).length)
def unlike (B : Board) (lot : List Nat) : Bool := (rowsLeft B lot ++ colsLeft B lot).all (fun l => !dup B lot l)
theorem unl_small {B : Board} (b : BOk B) (lot : List Nat) (line : Nat) : (unl B lot line).length ≤ 6 := by
  unfold unl
  split
  · rw [List.length_map]; exact cols_small b lot
  · rw [List.length_map]; exact rows_small b lot
abbrev sp_is_unlike : Sp := Sp2 (fun B lot => BOk B ∧ LotOk B lot) unlike
theorem c_is_unlike (T : Txt K mg C) (C_need_board : Cal P w K mg base CX0 4 "need_board" sp_need_board) (C_need_lot : Cal P w K mg base CX0 4 "need_lot" sp_need_lot) (C_left_of : Cal P w K mg base CX0 3 "left_of" sp_left_of) : Cal P w K mg base CX0 5 "is_unlike" sp_is_unlike := by
  refine cal0 T.d_is_unlike sc_is_unlike (fun _ _ _ _ _ _ us hl => match us, hl with | [_, _], _ => rfl) len2 (fun f cdv A outer s H vs Q E hr h => ?_)
  obtain ⟨v0, B, v1, lot, rfl, r0, r1, ⟨b, lo⟩, q⟩ := h
  refine ⟨_, (pss_cons (ps_expr (pe_cal C_need_board hr (by decide) (by rfl) (pa_cons (pv 0) pa_nil)))
      (pss_cons (ps_expr (pe_cal C_need_lot hr (by decide) (by rfl) (pa_cons (pv 0) (pa_cons (pv 1) pa_nil))))
      (pss_cons (ps_asg (pe_cal C_left_of hr (by decide) (by rfl) (pa_cons (pv 0) (pa_cons (pv 1) pa_nil))) (kpg_tup (K := K) (n := 2) (pgs_cons (pg_name (i := 3) sc_is_unlike.nd rfl (by first | exact .inl rfl | exact .inr rfl)) (pgs_cons (pg_name (i := 4) sc_is_unlike.nd rfl (by first | exact .inl rfl | exact .inr rfl)) pgs_nil))))
      (pss_cons (ps_for PassesOwn.never rfl (kpi_tup (K := K) (pe_tup (kpa_star (K := K) (pv 3) (kpa_star (K := K) (pv 4) pa_nil)))) (pg_name (i := 2) sc_is_unlike.nd rfl (by first | exact .inl rfl | exact .inr rfl)) (pss_cons (ps_if (pt_cmpR op_lt (pv 2) (pe_callB (k_len (K := K)) (by rfl) T.f_len boot_len (pa_cons (pv 0) pa_nil)) (by rfl)) (pss_one (ps_setLc (i := 5) (own := [("column", 6)]) rfl sc_is_unlike.nd rfl rfl (sw_true rfl rfl rfl (by decide +kernel)) (kpi_tup (K := K) (pv 4)) (blkOk_by (N := ["board", "lot", "line", "rows", "columns", "some", "column", "row"]) (sc := defScope s_is_unlike) (by decide +kernel)) (fun _ _ _ _ _ => (pg_name (i := 6) sc_is_unlike.nd rfl (by first | exact .inl rfl | exact .inr rfl))) (fun _ _ _ _ _ => pts_nil) (fun _ _ _ _ _ => (pe_ix (k_ixT (K := K)) (pe_ix (k_ixT (K := K)) (pe_ix (k_ixT (K := K)) (pv 0) (pv 2) (fun _ _ => rfl)) (pe_op op_sub (pv 6) (pe_callB (k_len (K := K)) (by rfl) T.f_len boot_len (pa_cons (pv 0) pa_nil))) (fun _ _ => rfl)) pe_int (fun _ _ => rfl))))) (pss_one (ps_setLc (i := 5) (own := [("row", 7)]) rfl sc_is_unlike.nd rfl rfl (sw_true rfl rfl rfl (by decide +kernel)) (kpi_tup (K := K) (pv 3)) (blkOk_by (N := ["board", "lot", "line", "rows", "columns", "some", "column", "row"]) (sc := defScope s_is_unlike) (by decide +kernel)) (fun _ _ _ _ _ => (pg_name (i := 7) sc_is_unlike.nd rfl (by first | exact .inl rfl | exact .inr rfl))) (fun _ _ _ _ _ => pts_nil) (fun _ _ _ _ _ => (pe_ix (k_ixT (K := K)) (pe_ix (k_ixT (K := K)) (pe_ix (k_ixT (K := K)) (pv 0) (pv 7) (fun _ _ => rfl)) (pe_op op_sub (pv 2) (pe_callB (k_len (K := K)) (by rfl) T.f_len boot_len (pa_cons (pv 0) pa_nil))) (fun _ _ => rfl)) pe_int (fun _ _ => rfl))))))
      (pss_one (ps_if (pt_cmpR op_lt (kpe_lenSet (K := K) (by rfl) T.f_len (by rfl) T.f_set (pv 5)) (pe_callB (k_len (K := K)) (by rfl) T.f_len boot_len (pa_cons (pv 5) pa_nil)) (by rfl)) (pss_one (ps_ret pe_bl)) pss_nil))))
      (pss_one (ps_ret pe_bl)))))), ?_⟩
  have h1 := rows_small b lot
  have h2 := cols_small b lot
  have g3 : nLines B = B.length + wid B := rfl
  refine q_drop (ev_call1 (x := B) (ev_var rfl (by walk_at "rp")) b) fun H1 s1 => ?_
  refine q_drop (ev_call2 (x := B) (y := lot) (ev_var rfl (by walk_at "rp")) (ev_var rfl (by walk_at "rp")) ⟨b, lo⟩) fun H2 s2 => ?_
  refine q_set2 (ev_call2 (x := B) (y := lot) (ev_var rfl (by walk_at "rp")) (ev_var rfl (by walk_at "rp")) b) fun vr vc H3 s3 r3 r4 => ?_
  have s03 : Same H H3 := s1.trans (s2.trans s3)
  refine q_for (M := M0) (src_T (xs := rowsLeft B lot ++ (colsLeft B lot ++ [])) (ev_tup (eva_starT (ev_var rfl (by walk_at "rp")) (eva_starT (ev_var rfl (by walk_at "rp")) eva_nil)) (by rw [List.length_append, List.append_nil]; omega)) m0_ok) fun H4 s4 => ⟨fun i σ' H' => (∃ a2 a5, σ' = [some v0, some v1, a2, some vr, some vc, a5, none, none]) ∧ Same H4 H' ∧ ((rowsLeft B lot ++ colsLeft B lot).take i).all (fun l => !dup B lot l) = true,
    ⟨⟨_, _, rfl⟩, Same.refl _, by rw [List.take_zero]; rfl⟩, fun i σ' H' h => same_b h.2.1, ?_, ?_⟩
  · rintro i l hx σ' H' ⟨⟨a2, a5, rfl⟩, t1, ta⟩ v H5 s5 rv
    rw [List.append_nil] at hx
    have hm := List.mem_of_getElem? hx
    have hln : l < nLines B := by
      rcases List.mem_append.mp hm with h | h
      · have := (mem_rows.mp h).1; omega
      · exact (mem_cols.mp h).1.2
    have s05 : Same H H5 := s03.trans (s4.trans (t1.trans s5))
    have s35 : Same H3 H5 := s4.trans (t1.trans s5)
    have r0' := Dat.mono s05 r0
    have r3' := Dat.mono s35 r3
    have r4' := Dat.mono s35 r4
    -- some = ..
    have main : ∀ (u : V) (H6 : Hp), Same H5 H6 → Dat.rep H6 u (Lst.mk (unl B lot l)) → tIfS (tTest (tOp (rI0 fun i j => .bl (decide (i < j))) (tLenSetA K (tVar 5)) (tCB (rLenK K) (tCons (tVar 5) tNil)))) (tRet (tC (.bl false))) tNext
        { nx := fun σ' H' => (∃ a2 a5, σ' = [some v0, some v1, a2, some vr, some vc, a5, none, none]) ∧ Same H4 H' ∧ ((rowsLeft B lot ++ colsLeft B lot).take (i + 1)).all (fun l => !dup B lot l) = true, rt := Q } [some v0, some v1, some v, some vr, some vc, some u, none, none] H6 := fun u H6 s6 ru => by
      have hz := unl_small b lot l
      refine s_if (evt_of (ev_ltN (a := nSet (unl B lot l)) (b := (unl B lot l).length) (ev_lenSet (ns := Lst.mk (unl B lot l)) (ev_var rfl (by walk_at "rp")) (by show (unl B lot l).length ≤ _; omega)) (ek_lenL (xs := Lst.mk (unl B lot l)) (ev_var rfl (by walk_at "rp"))))) (fun e H7 s7 => ?_) (fun e H7 s7 => ?_)
      · refine s_ret (ev_bl (b := false)) fun w' H8 s8 r => q w' H8 (s05.trans (s6.trans (s7.trans s8))) ?_
        have eu : unlike B lot = false := by
          unfold unlike
          refine List.all_eq_false.mpr ⟨l, hm, ?_⟩
          have : dup B lot l = true := e
          rw [this]
          decide
        show Dat.rep H8 w' (unlike B lot)
        rw [eu]
        exact r
      · refine ⟨⟨_, _, rfl⟩, t1.trans (s5.trans (s6.trans s7)), ?_⟩
        rw [take_snoc hx, List.all_append, ta]
        have : dup B lot l = false := e
        simp [this]
    refine q_if (evt_of (ev_ltN (a := l) (b := B.length) (ev_var rfl (by walk_at "rp")) (ek_lenT (xs := B) (ev_var rfl (by walk_at "rp"))))) (fun e H6 s6 => ?_) (fun e H6 s6 => ?_)
    · have hl := of_decide_eq_true e
      refine s_set (x := Lst.mk (unl B lot l)) ((ev_lc1m (fun c => (cellAt B l (c - B.length)).2) (src_T (xs := colsLeft B lot) (ev_var rfl (by walk_at "rp")) m0_ok) (by omega) (fun _ => rfl) fun c hc u H7 s7 ru => ?_).eq ?_) fun u H7 s7 ru => main u H7 (s6.trans s7) ru
      · have g2 := (mem_cols.mp hc).1
        exact ev_snd (ev_cell b hl (by omega) (ev_var rfl (by walk_at "rp")) (ev_var rfl (by walk_at "rp")) (ev_subN g2.1 (ev_var rfl (by walk_at "rp")) (ek_lenT (xs := B) (ev_var rfl (by walk_at "rp")))))
      · unfold unl
        rw [if_pos hl]
    · have hl := of_decide_eq_false e
      refine s_set (x := Lst.mk (unl B lot l)) ((ev_lc1m (fun r => (cellAt B r (l - B.length)).1) (src_T (xs := rowsLeft B lot) (ev_var rfl (by walk_at "rp")) m0_ok) (by omega) (fun _ => rfl) fun r hr u H7 s7 ru => ?_).eq ?_) fun u H7 s7 ru => main u H7 (s6.trans s7) ru
      · have g2 := (mem_rows.mp hr).1
        exact ev_fst (ev_cell b g2 (by omega) (ev_var rfl (by walk_at "rp")) (ev_var rfl (by walk_at "rp")) (ev_subN (by omega) (ev_var rfl (by walk_at "rp")) (ek_lenT (xs := B) (ev_var rfl (by walk_at "rp")))))
      · unfold unl
        rw [if_neg hl]
  · rintro σ' H' ⟨⟨a2, a5, rfl⟩, t1, ta⟩
    refine s_ret (ev_bl (b := true)) fun w' H5 s5 r => q w' H5 (s03.trans (s4.trans (t1.trans s5))) ?_
    have eu : unlike B lot = true := by
      rw [List.append_nil, List.take_length] at ta
      exact ta
    show Dat.rep H5 w' (unlike B lot)
    rw [eu]
    exact r
end
end SB
namespace SB
open PySem PySem.Spec PyProof.Rows L2 RZ StX
local macro_rules | `(tactic| walk_at "rp") => `(tactic| first | assumption | rfl | (refine Dat.mono (by assumption) ?_; walk_at "rp"))
section
variable {α β γ : Type} [Dat α] [Dat β] [Dat γ] {σ : L2.St} {H : Hp} {ta tb : TE} {tz : TS} {D : Ends} {K : PySem.W.Frag}
theorem rep_lst {a : Addr} {vs : List V} {xs : List α} (h : H a = some (.lst vs)) (p : Paired (Dat.rep H) vs xs) : Dat.rep H (.ref a) (Lst.mk xs) := ⟨a, vs, rfl, h, p⟩
theorem q_set2_new {i j : Nat} {x : α} (ha : Ev ta σ H x) (k : ∀ v p H1 H2, Same H H1 → Dat.rep H1 v x → H1 p = none → Same (upd H1 p (.lst [])) H2 → tz D ((σ.set i (some v)).set j (some (.ref p))) H2) :
    tSeq (tAsg (tTup (tCons ta (tCons (tLst tNil) tNil))) (gTup K 2 (gCons (gName i) (gCons (gName j) gNil)))) tz D σ H :=
  ha H (Same.refl H) _ fun v H1 s1 r1 => ⟨Nat.zero_le _, fun p np => ⟨by show 2 ≤ sizeLine; decide, fun T nT => ⟨T, [v, .ref p], rfl, SqT.of upd_same, rfl, v, [.ref p], rfl, .ref p, [], rfl, rfl, k v p H1 _ s1 r1 np (same_new nT)⟩⟩⟩
end
section
variable {P : Program} {w : World} {K : PySem.W.Frag} {mg : Str → Option Value} {base : Heap} {C : Addr}
abbrev sp_isL : Sp := Sp2 (fun _ _ : Bool => True) (fun a b => a == b)
theorem c_isL (T : Txt K mg C)  : Cal P w K mg base CX0 1 "_law_is" sp_isL := by
  refine cal0 T.d_isL sc_isL (fun _ _ _ _ _ _ us hl => match us, hl with | [_, _], _ => rfl) len2 (fun f cdv A outer s H vs Q E hr h => ?_)
  obtain ⟨v0, a, v1, b, rfl, r0, r1, _, q⟩ := h
  refine ⟨_, (pss_one (ps_ret (pe_and (pe_callB (k_isi (K := K)) (by rfl) T.f_isinstance boot_isinstance (pa_cons (pv 0) (pa_cons (pe_tyname (by rfl) T.f_bool boot_bool) pa_nil))) (pe_one (pe_cmpR op_eq (pv 0) (pv 1) (by rfl)))))), ?_⟩
  exact s_ret (ev_andV (ev_isi (x := a) (b := true) (ev_var rfl (by walk_at "rp")) (by decide +kernel)) fun _ => ev_eqB (a := a) (b := b) (ev_var rfl (by walk_at "rp")) (ev_var rfl (by walk_at "rp"))) q
abbrev sp_rowsL : Sp := Sp2 (fun B (_ : List Nat) => BOk B) (fun B lot => Lst.mk (rowsLeft B lot))
theorem c_rowsL (T : Txt K mg C)  : Cal P w K mg base CX0 1 "_law_rows" sp_rowsL := by
  refine cal0 T.d_rowsL sc_rowsL (fun _ _ _ _ _ _ us hl => match us, hl with | [_, _], _ => rfl) len2 (fun f cdv A outer s H vs Q E hr h => ?_)
  obtain ⟨v0, B, v1, lot, rfl, r0, r1, b, q⟩ := h
  refine ⟨_, (pss_one (ps_ret (pe_lc (own := [("_law_one", 2)]) rfl sc_rowsL.nd (pi_range1 (by rfl) T.f_range (pa_cons (pe_callB (k_len (K := K)) (by rfl) T.f_len boot_len (pa_cons (pv 0) pa_nil)) pa_nil)) (blkOk_by (N := ["_law_board_here", "_law_lot_here", "_law_one"]) (sc := defScope s_rowsL) (by decide +kernel)) (fun _ _ _ _ _ => (pg_name (i := 2) sc_rowsL.nd rfl (by first | exact .inl rfl | exact .inr rfl))) (fun _ _ _ _ _ => pts_one (pt_cmpR (k_notIn (K := K)) (pv 2) (pv 1) (by rfl))) (fun _ _ _ _ _ => (pv 2))))), ?_⟩
  have h1 := b.r6
  exact s_ret (ev_lc1f (outs lot) (src_R1 (n := B.length) (ek_lenT (xs := B) (ev_var rfl (by walk_at "rp"))) (by omega)) (by rw [List.length_range]; omega) (fun _ => rfl) (fun x hx v H1 s1 rv => evt_of (ev_notInT (x := x) (xs := lot) (ev_var rfl (by walk_at "rp")) (ev_var rfl (by walk_at "rp")))) (fun _ => rfl)) q
abbrev sp_columnsL : Sp := Sp2 (fun B (_ : List Nat) => BOk B) (fun B lot => Lst.mk (colsLeft B lot))
theorem c_columnsL (T : Txt K mg C)  : Cal P w K mg base CX0 1 "_law_columns" sp_columnsL := by
  refine cal0 T.d_columnsL sc_columnsL (fun _ _ _ _ _ _ us hl => match us, hl with | [_, _], _ => rfl) len2 (fun f cdv A outer s H vs Q E hr h => ?_)
  obtain ⟨v0, B, v1, lot, rfl, r0, r1, b, q⟩ := h
  refine ⟨_, (pss_one (ps_ret (pe_lc (own := [("_law_one", 2)]) rfl sc_columnsL.nd (pi_range2 (by rfl) T.f_range (pa_cons (pe_callB (k_len (K := K)) (by rfl) T.f_len boot_len (pa_cons (pv 0) pa_nil)) (pa_cons (pe_op op_add (pe_callB (k_len (K := K)) (by rfl) T.f_len boot_len (pa_cons (pv 0) pa_nil)) (pe_callB (k_len (K := K)) (by rfl) T.f_len boot_len (pa_cons (pe_ix (k_ixT (K := K)) (pv 0) pe_int (fun _ _ => rfl)) pa_nil))) pa_nil))) (blkOk_by (N := ["_law_board_here", "_law_lot_here", "_law_one"]) (sc := defScope s_columnsL) (by decide +kernel)) (fun _ _ _ _ _ => (pg_name (i := 2) sc_columnsL.nd rfl (by first | exact .inl rfl | exact .inr rfl))) (fun _ _ _ _ _ => pts_one (pt_cmpR (k_notIn (K := K)) (pv 2) (pv 1) (by rfl))) (fun _ _ _ _ _ => (pv 2))))), ?_⟩
  have h1 := b.r6
  have h2 := b.c6
  have ew : (B.headD []).length = wid B := rfl
  refine s_ret ((ev_lc1f (outs lot) (src_R2 (a := B.length) (b := B.length + (B.headD []).length) (ek_lenT (xs := B) (ev_var rfl (by walk_at "rp"))) (ev_addN (ek_lenT (xs := B) (ev_var rfl (by walk_at "rp"))) (ek_lenT (xs := B.headD []) (ev_ixT (xs := B) (i := 0) (ev_var rfl (by walk_at "rp")) (ev_nat rfl) (bok_head b)))) (by omega) (by omega)) (by rw [List.length_range']; omega) (fun _ => rfl) (fun x hx v H1 s1 rv => evt_of (ev_notInT (x := x) (xs := lot) (ev_var rfl (by walk_at "rp")) (ev_var rfl (by walk_at "rp")))) (fun _ => rfl)).eq ?_) q
  show Lst.mk _ = Lst.mk (colsLeft B lot)
  unfold colsLeft
  rw [Nat.add_sub_cancel_left]
  rfl
abbrev sp_numbersL : Sp := Sp3 (fun B (_ : List Nat) line => BOk B ∧ line < nLines B) (fun B lot line => Lst.mk (nums B lot line))
theorem c_numbersL (T : Txt K mg C) (C_rowsL : Cal P w K mg base CX0 1 "_law_rows" sp_rowsL) (C_columnsL : Cal P w K mg base CX0 1 "_law_columns" sp_columnsL) : Cal P w K mg base CX0 2 "_law_numbers" sp_numbersL := by
  refine cal0 T.d_numbersL sc_numbersL (fun _ _ _ _ _ _ us hl => match us, hl with | [_, _, _], _ => rfl) len3 (fun f cdv A outer s H vs Q E hr h => ?_)
  obtain ⟨v0, B, v1, lot, v2, line, rfl, r0, r1, r2, ⟨b, hn⟩, q⟩ := h
  refine ⟨_, (pss_cons (ps_if (pt_cmpR op_lt (pv 2) (pe_callB (k_len (K := K)) (by rfl) T.f_len boot_len (pa_cons (pv 0) pa_nil)) (by rfl)) (pss_one (ps_ret (pe_lc (own := [("_law_one", 3)]) rfl sc_numbersL.nd (kpi_list (K := K) (pe_cal C_columnsL hr (by decide) (by rfl) (pa_cons (pv 0) (pa_cons (pv 1) pa_nil)))) (blkOk_by (N := ["_law_board_here", "_law_lot_here", "_law_line", "_law_one"]) (sc := defScope s_numbersL) (by decide +kernel)) (fun _ _ _ _ _ => (pg_name (i := 3) sc_numbersL.nd rfl (by first | exact .inl rfl | exact .inr rfl))) (fun _ _ _ _ _ => pts_nil) (fun _ _ _ _ _ => (pe_ix (k_ixT (K := K)) (pe_ix (k_ixT (K := K)) (pe_ix (k_ixT (K := K)) (pv 0) (pv 2) (fun _ _ => rfl)) (pe_op op_sub (pv 3) (pe_callB (k_len (K := K)) (by rfl) T.f_len boot_len (pa_cons (pv 0) pa_nil))) (fun _ _ => rfl)) pe_int (fun _ _ => rfl)))))) pss_nil)
      (pss_one (ps_ret (pe_lc (own := [("_law_one", 3)]) rfl sc_numbersL.nd (kpi_list (K := K) (pe_cal C_rowsL hr (by decide) (by rfl) (pa_cons (pv 0) (pa_cons (pv 1) pa_nil)))) (blkOk_by (N := ["_law_board_here", "_law_lot_here", "_law_line", "_law_one"]) (sc := defScope s_numbersL) (by decide +kernel)) (fun _ _ _ _ _ => (pg_name (i := 3) sc_numbersL.nd rfl (by first | exact .inl rfl | exact .inr rfl))) (fun _ _ _ _ _ => pts_nil) (fun _ _ _ _ _ => (pe_ix (k_ixT (K := K)) (pe_ix (k_ixT (K := K)) (pe_ix (k_ixT (K := K)) (pv 0) (pv 3) (fun _ _ => rfl)) (pe_op op_sub (pv 2) (pe_callB (k_len (K := K)) (by rfl) T.f_len boot_len (pa_cons (pv 0) pa_nil))) (fun _ _ => rfl)) pe_int (fun _ _ => rfl))))))), ?_⟩
  have h1 := rows_small b lot
  have h2 := cols_small b lot
  have g3 : nLines B = B.length + wid B := rfl
  refine q_ifn (evt_of (ev_ltN (a := line) (b := B.length) (ev_var rfl (by walk_at "rp")) (ek_lenT (xs := B) (ev_var rfl (by walk_at "rp"))))) (fun e H2 s2 => ?_) (fun e H2 s2 => ?_)
  · have hl := of_decide_eq_true e
    refine s_ret ((ev_lc1m (fun c => (cellAt B line (c - B.length)).1) (src_L0 (xs := Lst.mk (colsLeft B lot)) (ev_call2 (x := B) (y := lot) (ev_var rfl (by walk_at "rp")) (ev_var rfl (by walk_at "rp")) b)) (by show (colsLeft B lot).length ≤ _; omega) (fun _ => rfl) fun c hc u H3 s3 ru => ?_).eq ?_) fun v H3 s3 r => q v H3 (s2.trans s3) r
    · have g2 := (mem_cols.mp hc).1
      exact ev_fst (ev_cell b hl (by omega) (ev_var rfl (by walk_at "rp")) (ev_var rfl (by walk_at "rp")) (ev_subN g2.1 (ev_var rfl (by walk_at "rp")) (ek_lenT (xs := B) (ev_var rfl (by walk_at "rp")))))
    · show _ = Lst.mk (nums B lot line)
      unfold nums
      rw [if_pos hl]
  · have hl := of_decide_eq_false e
    refine s_ret ((ev_lc1m (fun r => (cellAt B r (line - B.length)).2) (src_L0 (xs := Lst.mk (rowsLeft B lot)) (ev_call2 (x := B) (y := lot) (ev_var rfl (by walk_at "rp")) (ev_var rfl (by walk_at "rp")) b)) (by show (rowsLeft B lot).length ≤ _; omega) (fun _ => rfl) fun r hr u H3 s3 ru => ?_).eq ?_) fun v H3 s3 r => q v H3 (s2.trans s3) r
    · have g2 := (mem_rows.mp hr).1
      exact ev_snd (ev_cell b g2 (by omega) (ev_var rfl (by walk_at "rp")) (ev_var rfl (by walk_at "rp")) (ev_subN (by omega) (ev_var rfl (by walk_at "rp")) (ek_lenT (xs := B) (ev_var rfl (by walk_at "rp")))))
    · show _ = Lst.mk (nums B lot line)
      unfold nums
      rw [if_neg hl]
abbrev sp_overL : Sp := Sp3 (fun B (_ : List Nat) line => BOk B ∧ line < nLines B) (fun B lot line => Lst.mk (overs B lot line))
theorem side_small {B : Board} (b : BOk B) (lot : List Nat) (x : Nat) : (sideOf B lot x).length ≤ 6 := by
  unfold sideOf
  split
  · exact rows_small b lot
  · exact cols_small b lot
theorem getD_some {l : List Int} {i : Nat} (h : i < l.length) : l[i]? = some (l.getD i 0) := by
  rw [List.getD_eq_getElem?_getD, List.getElem?_eq_getElem h]
  rfl
theorem nums_len_eq {B : Board} {lot : List Nat} {x y : Nat} (h : sameSide B x y = true) : (nums B lot y).length = (nums B lot x).length := by
  rw [nums_eq, nums_eq, List.length_map, List.length_map, cross_side h]
theorem c_overL (T : Txt K mg C) (C_rowsL : Cal P w K mg base CX0 1 "_law_rows" sp_rowsL) (C_columnsL : Cal P w K mg base CX0 1 "_law_columns" sp_columnsL) (C_numbersL : Cal P w K mg base CX0 2 "_law_numbers" sp_numbersL) : Cal P w K mg base CX0 3 "_law_over" sp_overL := by
  refine cal0 T.d_overL sc_overL (fun _ _ _ _ _ _ us hl => match us, hl with | [_, _, _], _ => rfl) len3 (fun f cdv A outer s H vs Q E hr h => ?_)
  obtain ⟨v0, B, v1, lot, v2, x, rfl, r0, r1, r2, ⟨b, hx⟩, q⟩ := h
  refine ⟨_, (pss_cons (ps_set (i := 3) sc_overL.nd rfl (by first | exact .inl rfl | exact .inr rfl) (pe_ifExp (pt_cmpR op_lt (pv 2) (pe_callB (k_len (K := K)) (by rfl) T.f_len boot_len (pa_cons (pv 0) pa_nil)) (by rfl)) (pe_cal C_rowsL hr (by decide) (by rfl) (pa_cons (pv 0) (pa_cons (pv 1) pa_nil))) (pe_cal C_columnsL hr (by decide) (by rfl) (pa_cons (pv 0) (pa_cons (pv 1) pa_nil)))))
      (pss_cons (ps_asg (pe_tup (pa_cons (pe_cal C_numbersL hr (by decide) (by rfl) (pa_cons (pv 0) (pa_cons (pv 1) (pa_cons (pv 2) pa_nil)))) (pa_cons (pe_lst pa_nil) pa_nil))) (kpg_tup (K := K) (n := 2) (pgs_cons (pg_name (i := 5) sc_overL.nd rfl (by first | exact .inl rfl | exact .inr rfl)) (pgs_cons (pg_name (i := 6) sc_overL.nd rfl (by first | exact .inl rfl | exact .inr rfl)) pgs_nil))))
      (pss_cons (ps_for PassesOwn.never rfl (kpi_list (K := K) (pv 3)) (pg_name (i := 4) sc_overL.nd rfl (by first | exact .inl rfl | exact .inr rfl)) (pss_cons (ps_set (i := 7) sc_overL.nd rfl (by first | exact .inl rfl | exact .inr rfl) (pe_cal C_numbersL hr (by decide) (by rfl) (pa_cons (pv 0) (pa_cons (pv 1) (pa_cons (pv 4) pa_nil)))))
      (pss_one (ps_if (pt_cmpR (k_eqD (K := K) hr.units) (pe_lc (own := [("_law_at", 8)]) rfl sc_overL.nd (pi_range1 (by rfl) T.f_range (pa_cons (pe_callB (k_len (K := K)) (by rfl) T.f_len boot_len (pa_cons (pv 5) pa_nil)) pa_nil)) (blkOk_by (N := ["_law_board_here", "_law_lot_here", "_law_line", "_law_side", "_law_other", "_law_own", "_law_found", "_law_told", "_law_at"]) (sc := defScope s_overL) (by decide +kernel)) (fun _ _ _ _ _ => (pg_name (i := 8) sc_overL.nd rfl (by first | exact .inl rfl | exact .inr rfl))) (fun _ _ _ _ _ => pts_one (pt_cmpR op_le (pe_ix (k_ixL (K := K)) (pv 7) (pv 8) (fun _ _ => rfl)) (pe_ix (k_ixL (K := K)) (pv 5) (pv 8) (fun _ _ => rfl)) (by rfl))) (fun _ _ _ _ _ => (pv 8))) (pe_lst pa_nil) (by rfl)) (pss_one (ps_expr (kpe_bm (K := K) PySem.F.plainAttrs_list PySem.F.slot_list_append PySem.F.type_list_append mt_append (pv 6) (pa_cons (pv 4) pa_nil)))) pss_nil))))
      (pss_one (ps_ret (pv 6)))))), ?_⟩
  have h1 := side_small b lot x
  have h4 := nums_small b lot x
  have hpx : BOk B ∧ x < nLines B := ⟨b, hx⟩
  refine q_set (x := Lst.mk (sideOf B lot x)) ((ev_if (x := Lst.mk (rowsLeft B lot)) (y := Lst.mk (colsLeft B lot)) (evt_of (ev_ltN (a := x) (b := B.length) (ev_var rfl (by walk_at "rp")) (ek_lenT (xs := B) (ev_var rfl (by walk_at "rp"))))) (fun _ => ev_call2 (x := B) (y := lot) (ev_var rfl (by walk_at "rp")) (ev_var rfl (by walk_at "rp")) b) (fun _ => ev_call2 (x := B) (y := lot) (ev_var rfl (by walk_at "rp")) (ev_var rfl (by walk_at "rp")) b)).eq ?_) fun vs H1 s1 r3 => ?_
  · unfold sideOf
    by_cases z : x < B.length
    · rw [if_pos (decide_eq_true z), if_pos z]
    · rw [if_neg (by rw [decide_eq_false z]; decide), if_neg z]
  refine q_set2_new (x := Lst.mk (nums B lot x)) (ev_call3 (x := B) (y := lot) (z := x) (ev_var rfl (by walk_at "rp")) (ev_var rfl (by walk_at "rp")) (ev_var rfl (by walk_at "rp")) hpx) fun vo p H2 H3 s2 r4 np s3 => ?_
  have s12 : Same H H2 := s1.trans s2
  have s23 : Same H2 H3 := (same_new np).trans s3
  obtain ⟨a, ws, ea, ha, pa⟩ := r3
  subst ea
  have ha2 := s2 _ _ ha
  have nap : a ≠ p := ne_of_none ha2 np
  refine q_for (M := M1 p) (src_Lv (a := a) (vs := ws) (xs := sideOf B lot x) rfl (s23 _ _ ha2) (pmono (s2.trans s23) pa) nap (m1_ok (s3 _ _ upd_same))) fun H4 s4 => ?_
  refine ⟨fun i σ' H' => (∃ a3 a4, σ' = [some v0, some v1, some v2, some (.ref a), a3, some vo, some (.ref p), a4, none]) ∧ SameB (M1 p) H4 H' ∧ Same H2 H' ∧ H' p = some (.lst ((((((sideOf B lot x).take i).filter (fun o => decide (lows (nums B lot x) (nums B lot o) = [])))).map Int.ofNat).map V.int)),
    ⟨⟨_, _, rfl⟩, SameB.refl _, s23.trans s4, s4 _ _ (s3 _ _ upd_same)⟩, fun i σ' H' h => h.2.1, ?_, ?_⟩
  · rintro i o ho σ' H' ⟨⟨a3, a4, rfl⟩, t1, t2, t3⟩ v H5 s5 rv
    have s25 : Same H2 H5 := t2.trans s5
    have r0' := Dat.mono (s12.trans s25) r0
    have r1' := Dat.mono (s12.trans s25) r1
    have r4' := Dat.mono s25 r4
    obtain ⟨⟨hon, hos⟩, _⟩ := (mem_side hx).mp (List.mem_of_getElem? ho)
    have hlen := nums_len_eq (lot := lot) hos
    refine q_set (x := Lst.mk (nums B lot o)) (ev_call3 (x := B) (y := lot) (z := o) (ev_var rfl (by walk_at "rp")) (ev_var rfl (by walk_at "rp")) (ev_var rfl (by walk_at "rp")) ⟨b, hon⟩) fun vt H6 s6 rt => ?_
    have eT : ((((sideOf B lot x).take (i + 1)).filter (fun o => decide (lows (nums B lot x) (nums B lot o) = []))).map Int.ofNat).map V.int = ((((sideOf B lot x).take i).filter (fun o => decide (lows (nums B lot x) (nums B lot o) = []))).map Int.ofNat).map V.int ++ (([o].filter (fun o => decide (lows (nums B lot x) (nums B lot o) = []))).map Int.ofNat).map V.int := by
      rw [take_snoc ho, List.filter_append, List.map_append, List.map_append]
    refine s_if (evt_of (ev_eqNil (xs := Lst.mk (lows (nums B lot x) (nums B lot o))) (ev_lc1f (fun i => decide ((nums B lot o).getD i 0 ≤ (nums B lot x).getD i 0)) (src_R1 (n := (nums B lot x).length) (ek_lenL (xs := Lst.mk (nums B lot x)) (ev_var rfl (by walk_at "rp"))) (by omega)) (by rw [List.length_range]; omega) (fun _ => rfl)
      (fun j hj u H7 s7 ru => evt_of (ev_leI (a := (nums B lot o).getD j 0) (b := (nums B lot x).getD j 0) (ev_ixL (xs := Lst.mk (nums B lot o)) (i := j) (ev_var rfl (by walk_at "rp")) (ev_var rfl (by walk_at "rp")) (getD_some (by show j < (nums B lot o).length; have := List.mem_range.mp hj; omega))) (ev_ixL (xs := Lst.mk (nums B lot x)) (i := j) (ev_var rfl (by walk_at "rp")) (ev_var rfl (by walk_at "rp")) (getD_some (List.mem_range.mp hj))))) (fun _ => rfl)))) (fun e H7 s7 => ?_) (fun e H7 s7 => ?_)
    · have e1 : [o].filter (fun o => decide (lows (nums B lot x) (nums B lot o) = [])) = [o] := by rw [List.filter_cons]; exact if_pos e
      rw [e1] at eT
      have hl := List.length_filter_le (fun o => decide (lows (nums B lot x) (nums B lot o) = [])) ((sideOf B lot x).take i)
      rw [List.length_take] at hl
      refine s_app (x := o) rfl (s7 _ _ (s6 _ _ (s5 _ _ t3))) (ev_var rfl (by walk_at "rp")) (by rw [List.length_map, List.length_map]; omega) fun u H8 s8 ru => ?_
      have eu : u = V.int (o : Int) := ru
      subst eu
      exact ⟨⟨_, _, rfl⟩, (t1.trans (same_b (s5.trans (s6.trans (s7.trans s8))))).put rfl, same_mut (s25.trans (s6.trans (s7.trans s8))) np, by rw [eT]; exact upd_same⟩
    · have e1 : [o].filter (fun o => decide (lows (nums B lot x) (nums B lot o) = [])) = [] := by rw [List.filter_cons]; exact if_neg (fun z => by have := e.symm.trans z; cases this)
      rw [e1, List.map_nil, List.map_nil, List.append_nil] at eT
      exact ⟨⟨_, _, rfl⟩, t1.trans (same_b (s5.trans (s6.trans s7))), s25.trans (s6.trans s7), by rw [eT]; exact s7 _ _ (s6 _ _ (s5 _ _ t3))⟩
  · rintro σ' H' ⟨⟨a3, a4, rfl⟩, t1, t2, t3⟩
    rw [List.take_length] at t3
    exact s_ret (x := Lst.mk (overs B lot x)) (ev_var rfl (rep_lst (α := Nat) t3 (nats_p _))) fun v H8 s8 r => q v H8 (s12.trans (t2.trans s8)) r
abbrev sp_readyL : Sp := Sp2 (fun B (_ : List Nat) => BOk B) (fun B lot => Lst.mk (readys B lot))
theorem both_lt {B : Board} {lot : List Nat} {x : Nat} (h : x ∈ rowsLeft B lot ++ colsLeft B lot) : x < nLines B := by
  have g3 : nLines B = B.length + wid B := rfl
  rcases List.mem_append.mp h with h | h
  · have := (mem_rows.mp h).1; omega
  · exact (mem_cols.mp h).1.2
theorem c_readyL (T : Txt K mg C) (C_rowsL : Cal P w K mg base CX0 1 "_law_rows" sp_rowsL) (C_columnsL : Cal P w K mg base CX0 1 "_law_columns" sp_columnsL) (C_overL : Cal P w K mg base CX0 3 "_law_over" sp_overL) : Cal P w K mg base CX0 4 "_law_ready" sp_readyL := by
  refine cal0 T.d_readyL sc_readyL (fun _ _ _ _ _ _ us hl => match us, hl with | [_, _], _ => rfl) len2 (fun f cdv A outer s H vs Q E hr h => ?_)
  obtain ⟨v0, B, v1, lot, rfl, r0, r1, b, q⟩ := h
  refine ⟨_, (pss_one (ps_ret (pe_lc (own := [("_law_line", 2)]) rfl sc_readyL.nd (kpi_list (K := K) (pe_op op_cat (pe_cal C_rowsL hr (by decide) (by rfl) (pa_cons (pv 0) (pa_cons (pv 1) pa_nil))) (pe_cal C_columnsL hr (by decide) (by rfl) (pa_cons (pv 0) (pa_cons (pv 1) pa_nil))))) (blkOk_by (N := ["_law_board_here", "_law_lot_here", "_law_line"]) (sc := defScope s_readyL) (by decide +kernel)) (fun _ _ _ _ _ => (pg_name (i := 2) sc_readyL.nd rfl (by first | exact .inl rfl | exact .inr rfl))) (fun _ _ _ _ _ => pts_one (pt_cmpR (k_neD (K := K) hr.units) (pe_cal C_overL hr (by decide) (by rfl) (pa_cons (pv 0) (pa_cons (pv 1) (pa_cons (pv 2) pa_nil)))) (pe_lst pa_nil) (by rfl))) (fun _ _ _ _ _ => (pv 2))))), ?_⟩
  have h1 := rows_small b lot
  have h2 := cols_small b lot
  exact s_ret (ev_lc1f (fun l => !decide (overs B lot l = [])) (src_L0 (xs := Lst.mk (rowsLeft B lot ++ colsLeft B lot)) (ev_catL (xs := Lst.mk (rowsLeft B lot)) (ys := Lst.mk (colsLeft B lot)) (ev_call2 (x := B) (y := lot) (ev_var rfl (by walk_at "rp")) (ev_var rfl (by walk_at "rp")) b) (ev_call2 (x := B) (y := lot) (ev_var rfl (by walk_at "rp")) (ev_var rfl (by walk_at "rp")) b) (by show (rowsLeft B lot).length + (colsLeft B lot).length ≤ _; omega)))
    (by show (rowsLeft B lot ++ colsLeft B lot).length ≤ _; rw [List.length_append]; omega) (fun _ => rfl) (fun x hx v H1 s1 rv => evt_of (ev_neNil (xs := Lst.mk (overs B lot x)) (ev_call3 (x := B) (y := lot) (z := x) (ev_var rfl (by walk_at "rp")) (ev_var rfl (by walk_at "rp")) (ev_var rfl (by walk_at "rp")) ⟨b, both_lt hx⟩))) (fun _ => rfl)) q
abbrev sp_withL : Sp := Sp2 (fun (lot : List Nat) (_ : Nat) => lot.length ≤ 60) withLn
theorem c_withL (T : Txt K mg C)  : Cal P w K mg base CX0 1 "_law_with" sp_withL := by
  refine cal0 T.d_withL sc_withL (fun _ _ _ _ _ _ us hl => match us, hl with | [_, _], _ => rfl) len2 (fun f cdv A outer s H vs Q E hr h => ?_)
  obtain ⟨v0, lot, v1, x, rfl, r0, r1, hz, q⟩ := h
  refine ⟨_, (pss_one (ps_ret (kpe_tupleOf (K := K) (by rfl) T.f_tuple (pe_callB cr_sortedT (by rfl) T.f_sorted boot_sorted (pa_cons (pe_op (k_cat (K := K)) (pv 0) (pe_tup (pa_cons (pv 1) pa_nil))) pa_nil))))), ?_⟩
  have hl : (lot ++ [x]).length ≤ 61 := by rw [List.length_append]; show _ + 1 ≤ _; omega
  exact s_ret (ev_tupleOf (ev_sortedT (xs := lot ++ [x]) (ev_catT (xs := lot) (ys := [x]) (ev_var rfl (by walk_at "rp")) (ev_tup (eva_cons (ev_var rfl (by walk_at "rp")) eva_nil) (by show 1 ≤ 100000; decide)) (by show _ + 1 ≤ _; omega)) (by omega))) q
abbrev sp_endL : Sp := Sp1 BOk endLot
theorem endN_small {B : Board} (b : BOk B) (n : Nat) : (endN B n).length ≤ 12 := lot_small b (comes_ok b (endN_comes n))
theorem last_split {l : List Nat} {x : Nat} (h : l.getLast? = some x) : ∃ ys, l = ys ++ [x] := List.getLast?_eq_some_iff.mp h
theorem c_endL (T : Txt K mg C) (C_readyL : Cal P w K mg base CX0 4 "_law_ready" sp_readyL) (C_withL : Cal P w K mg base CX0 1 "_law_with" sp_withL) : Cal P w K mg base CX0 5 "_law_end" sp_endL := by
  refine cal0 T.d_endL sc_endL (fun _ _ _ _ _ _ us hl => match us, hl with | [_], _ => rfl) len1 (fun f cdv A outer s H vs Q E hr h => ?_)
  obtain ⟨v0, B, rfl, r0, b, q⟩ := h
  refine ⟨_, (pss_cons (ps_set (i := 1) sc_endL.nd rfl (by first | exact .inl rfl | exact .inr rfl) (pe_tup pa_nil))
      (pss_cons (ps_for PassesOwn.never rfl (pi_range1 (by rfl) T.f_range (pa_cons pe_int pa_nil)) (pg_name (i := 2) sc_endL.nd rfl (by first | exact .inl rfl | exact .inr rfl)) (pss_cons (ps_set (i := 3) sc_endL.nd rfl (by first | exact .inl rfl | exact .inr rfl) (pe_cal C_readyL hr (by decide) (by rfl) (pa_cons (pv 0) (pa_cons (pv 1) pa_nil))))
      (pss_one (ps_set (i := 1) sc_endL.nd rfl (by first | exact .inl rfl | exact .inr rfl) (pe_ifExp (pt_cmpR (k_neD (K := K) hr.units) (pv 3) (pe_lst pa_nil) (by rfl)) (pe_cal C_withL hr (by decide) (by rfl) (pa_cons (pv 1) (pa_cons (pe_ix (k_ixL (K := K)) (pv 3) (pe_un un_neg pe_int) (fun _ _ => rfl)) pa_nil))) (pv 1))))))
      (pss_one (ps_ret (pv 1))))), ?_⟩
  refine q_set (x := ([] : List Nat)) (ev_tup eva_nil (by decide)) fun v1 H1 s1 r1 => ?_
  refine q_for (M := M0) (src_R1 (n := 12) (ev_nat rfl) (by decide)) fun H2 s2 => ⟨fun i σ' H' => (∃ v a2 a3, σ' = [some v0, some v, a2, a3] ∧ Dat.rep H' v (endN B i)) ∧ Same H2 H', ⟨⟨_, _, _, rfl, Dat.mono s2 r1⟩, Same.refl _⟩, fun i σ' H' h => same_b h.2, ?_, ?_⟩
  · rintro i x hx σ' H' ⟨⟨v, a2, a3, rfl, rv⟩, t1⟩ u H3 s3 ru
    have r0' := Dat.mono (s1.trans (s2.trans (t1.trans s3))) r0
    have hz := endN_small b i
    refine q_set (x := Lst.mk (readys B (endN B i))) (ev_call2 (x := B) (y := endN B i) (ev_var rfl (by walk_at "rp")) (ev_var rfl (by walk_at "rp")) b) fun vs H4 s4 r4 => ?_
    refine s_set (x := endN B (i + 1)) ?_ fun v' H5 s5 r5 => ⟨⟨_, _, _, rfl, r5⟩, t1.trans (s3.trans (s4.trans s5))⟩
    show Ev _ _ _ (endStep B (endN B i))
    unfold endStep
    cases e : (readys B (endN B i)).getLast? with
    | none =>
      have e0 := List.getLast?_eq_none_iff.mp e
      refine (ev_if (x := ([] : List Nat)) (y := endN B i) (b := false) ((evt_of (ev_neNil (xs := Lst.mk (readys B (endN B i))) (ev_var rfl (by walk_at "rp")))).eq (by show (!decide (readys B (endN B i) = [])) = false; rw [e0]; rfl)) (fun z => by cases z) (fun _ => (ev_var rfl (by walk_at "rp")))).eq rfl
    | some l =>
      obtain ⟨ys, ey⟩ := last_split e
      refine (ev_if (x := withLn (endN B i) l) (y := endN B i) (b := true) ((evt_of (ev_neNil (xs := Lst.mk (readys B (endN B i))) (ev_var rfl (by walk_at "rp")))).eq (by show (!decide (readys B (endN B i) = [])) = true; rw [ey]; simp)) (fun _ => ev_call2 (x := endN B i) (y := l) (ev_var rfl (by walk_at "rp")) (ev_ixLast (xs := Lst.mk (readys B (endN B i))) (ev_var rfl (by walk_at "rp")) (ev_negI (a := 1) ev_int) ey) (by show (endN B i).length ≤ 60; omega)) (fun z => by cases z)).eq rfl
  · rintro σ' H' ⟨⟨v, a2, a3, rfl, rv⟩, t1⟩
    exact s_ret (x := endLot B) (ev_var rfl rv) fun v' H3 s3 r => q v' H3 (s1.trans (s2.trans (t1.trans s3))) r
abbrev sp_shownL : Sp := Sp2 (fun B (_ : List Nat) => BOk B) shownB
theorem c_shownL (T : Txt K mg C) (C_rowsL : Cal P w K mg base CX0 1 "_law_rows" sp_rowsL) (C_columnsL : Cal P w K mg base CX0 1 "_law_columns" sp_columnsL) : Cal P w K mg base CX0 2 "_law_shown" sp_shownL := by
  refine cal0 T.d_shownL sc_shownL (fun _ _ _ _ _ _ us hl => match us, hl with | [_, _], _ => rfl) len2 (fun f cdv A outer s H vs Q E hr h => ?_)
  obtain ⟨v0, B, v1, lot, rfl, r0, r1, b, q⟩ := h
  refine ⟨_, (pss_cons (ps_set (i := 2) sc_shownL.nd rfl (by first | exact .inl rfl | exact .inr rfl) (pe_callB (k_len (K := K)) (by rfl) T.f_len boot_len (pa_cons (pv 0) pa_nil)))
      (pss_one (ps_ret (kpe_tupleOf (K := K) (by rfl) T.f_tuple (pe_lc (own := [("_law_one", 3)]) rfl sc_shownL.nd (kpi_list (K := K) (pe_cal C_rowsL hr (by decide) (by rfl) (pa_cons (pv 0) (pa_cons (pv 1) pa_nil)))) (blkOk_by (N := ["_law_board_here", "_law_lot_here", "_law_high", "_law_one", "_law_at"]) (sc := defScope s_shownL) (by decide +kernel)) (fun _ _ _ _ _ => (pg_name (i := 3) sc_shownL.nd rfl (by first | exact .inl rfl | exact .inr rfl))) (fun _ _ _ _ _ => pts_nil) (fun _ _ _ _ _ => (kpe_tupleOf (K := K) (by rfl) T.f_tuple (pe_lc (own := [("_law_at", 4)]) rfl sc_shownL.nd (kpi_list (K := K) (pe_cal C_columnsL hr (by decide) (by rfl) (pa_cons (pv 0) (pa_cons (pv 1) pa_nil)))) (blkOk_by (N := ["_law_board_here", "_law_lot_here", "_law_high", "_law_one", "_law_at"]) (sc := relS _ (defScope s_shownL)) (by decide +kernel)) (fun _ _ _ _ _ => (pg_name (i := 4) sc_shownL.nd rfl (by first | exact .inl rfl | exact .inr rfl))) (fun _ _ _ _ _ => pts_nil) (fun _ _ _ _ _ => (pe_ix (k_ixT (K := K)) (pe_ix (k_ixT (K := K)) (pv 0) (pv 3) (fun _ _ => rfl)) (pe_op op_sub (pv 4) (pv 2)) (fun _ _ => rfl))))))))))), ?_⟩
  have h1 := rows_small b lot
  have h2 := cols_small b lot
  refine q_set (x := B.length) (ek_lenT (xs := B) (ev_var rfl (by walk_at "rp"))) fun vh H1 s1 rh => ?_
  refine s_ret (ev_tupleOf (ev_lc1m (fun r => (colsLeft B lot).map fun c => cellAt B r (c - B.length)) (src_L0 (xs := Lst.mk (rowsLeft B lot)) (ev_call2 (x := B) (y := lot) (ev_var rfl (by walk_at "rp")) (ev_var rfl (by walk_at "rp")) b)) (by show (rowsLeft B lot).length ≤ _; omega) (fun _ => rfl) fun r hr v H2 s2 rv =>
    ev_tupleOf (ev_lc1m (fun c => cellAt B r (c - B.length)) (src_L0 (xs := Lst.mk (colsLeft B lot)) (ev_call2 (x := B) (y := lot) (ev_var rfl (by walk_at "rp")) (ev_var rfl (by walk_at "rp")) b)) (by show (colsLeft B lot).length ≤ _; omega) (fun _ => rfl) fun c hc u H3 s3 ru => ?_))) fun v H2 s2 r => q v H2 (s1.trans s2) r
  have g1 := (mem_rows.mp hr).1
  have g2 := (mem_cols.mp hc).1
  have g3 : nLines B = B.length + wid B := rfl
  exact ev_cell b g1 (by omega) (ev_var rfl (by walk_at "rp")) (ev_var rfl (by walk_at "rp")) (ev_subN (a := c) (b := B.length) g2.1 (ev_var rfl (by walk_at "rp")) (ev_var rfl (by walk_at "rp")))
end
end SB
namespace SB
open PySem PySem.Spec PyProof.Rows L2 RZ StX
local macro_rules | `(tactic| walk_at "rp") => `(tactic| first | assumption | rfl | (refine Dat.mono (by assumption) ?_; walk_at "rp"))
/-! ### two values alike -/
structure Duo where
  n : Nat
  l : List Nat
instance : Dat Duo := ⟨fun H v p => ∃ a x y, v = .ref a ∧ H a = some (.lst [x, y]) ∧ Dat.rep H x p.n ∧ Dat.rep H y p.l, fun s ⟨a, x, y, e, h, r1, r2⟩ => ⟨a, x, y, e, s _ _ h, Dat.mono s r1, Dat.mono s r2⟩⟩
instance : Typ Duo := ⟨"list", fun {K H v x} ⟨a, _, _, e, h, _⟩ => by subst e; exact .base (.lst h)⟩
abbrev sp_alikeI : Sp := Sp2 (fun _ _ : Int => True) (fun a b => decide (a = b))
abbrev sp_alikeT : Sp := Sp2 (fun a b : List Nat => a.length ≤ 1000 ∧ b.length ≤ 1000) (fun a b => decide (a = b))
abbrev sp_alikeD : Sp := Sp2 (fun a b : Duo => a.l.length ≤ 1000 ∧ b.l.length ≤ 1000) (fun a b => decide (a.n = b.n) && decide (a.l = b.l))
def sp_alike2 : Sp := fun vs H Q E => sp_alikeI vs H Q E ∨ sp_alikeT vs H Q E
def sp_alikeL : Sp := fun vs H Q E => sp_alikeI vs H Q E ∨ sp_alikeD vs H Q E
section
variable {σ : L2.St} {H : Hp} {ta tb : TE} {K : PySem.W.Frag} {E : XK}
theorem ev_isNI {a : Int} (ha : Ev ta σ H a) : Ev (tOp (fun x y H Q => y = .non ∧ Q (.bl (decide (x = .non))) H) ta (tC .non)) σ H false := fun H0 s0 Q q => ha H0 s0 _ fun v H1 s1 r => ⟨rfl, q _ _ s1 (by cases (show v = .int a from r); rfl)⟩
theorem ev_alikeI {a b : Int} (ha : Ev ta σ H a) (hb : Ev tb σ H b) : Ev (tCall sp_alike2 [] E (tCons ta (tCons tb tNil))) σ H (decide (a = b)) := fun H0 s0 Q q =>
  ha H0 s0 _ fun v H1 s1 r1 => hb H1 (s0.trans s1) _ fun w H2 s2 r2 => .inl ⟨v, a, w, b, rfl, Dat.mono s2 r1, r2, trivial, fun v' H' s r => q v' H' ((s1.trans s2).trans s) r⟩
theorem ev_alikeT {a b : List Nat} (ha : Ev ta σ H a) (hb : Ev tb σ H b) (p : a.length ≤ 1000 ∧ b.length ≤ 1000) : Ev (tCall sp_alike2 [] E (tCons ta (tCons tb tNil))) σ H (decide (a = b)) := fun H0 s0 Q q =>
  ha H0 s0 _ fun v H1 s1 r1 => hb H1 (s0.trans s1) _ fun w H2 s2 r2 => .inr ⟨v, a, w, b, rfl, Dat.mono s2 r1, r2, p, fun v' H' s r => q v' H' ((s1.trans s2).trans s) r⟩
theorem ev_ixD0 {d : Duo} (ha : Ev ta σ H d) (hb : Ev tb σ H (0 : Nat)) : Ev (tOp (rIxL K) ta tb) σ H d.n := ev_op ha hb fun v w H1 _ ⟨a, x, y, e, h, r1, r2⟩ r3 Q q => ⟨a, [x, y], 0, x, e, r3, SqL.of h, atI_nat (j := 0) rfl, q _ _ (Same.refl _) r1⟩
theorem ev_ixD1 {d : Duo} (ha : Ev ta σ H d) (hb : Ev tb σ H (1 : Nat)) : Ev (tOp (rIxL K) ta tb) σ H d.l := ev_op ha hb fun v w H1 _ ⟨a, x, y, e, h, r1, r2⟩ r3 Q q => ⟨a, [x, y], 1, y, e, r3, SqL.of h, atI_nat (j := 1) rfl, q _ _ (Same.refl _) r2⟩
theorem ek_lenD {d : Duo} (ha : Ev ta σ H d) : Ev (tCB (rLenK K) (tCons ta tNil)) σ H (2 : Nat) := ev_b1 ha fun v H1 _ ⟨a, x, y, e, h, r1, r2⟩ Q q => ⟨a, [x, y], by rw [e], .inl (SqL.of h), q _ _ (Same.refl _) rfl⟩
theorem ev_duo {n : Nat} {l : List Nat} (ha : Ev ta σ H n) (hb : Ev tb σ H l) : Ev (tLst (tCons ta (tCons tb tNil))) σ H (Duo.mk n l) := fun H0 s0 Q q =>
  ha H0 s0 _ fun v H1 s1 r1 => hb H1 (s0.trans s1) _ fun w H2 s2 r2 => ⟨by show 2 ≤ sizeLine; decide, fun p np => q _ _ ((s1.trans s2).trans (same_new np)) ⟨p, v, w, rfl, upd_same, Dat.mono (same_new np) (Dat.mono s2 r1), Dat.mono (same_new np) r2⟩⟩
end
theorem getD_nat {l : List Nat} {i : Nat} (h : i < l.length) : l[i]? = some (l.getD i 0) := by
  rw [List.getD_eq_getElem?_getD, List.getElem?_eq_getElem h]
  rfl
theorem alike_nil {a b : List Nat} (h : a.length = b.length) : decide ((List.range b.length).filter (fun k => !decide ((a.getD k 0 : Int) = (b.getD k 0 : Int))) = []) = decide (a = b) := by
  refine decide_eq_decide.mpr ?_
  rw [List.filter_eq_nil_iff]
  constructor
  · intro hk
    refine List.ext_getElem h fun i h1 h2 => ?_
    have := hk i (List.mem_range.mpr h2)
    have e1 : a.getD i 0 = a[i] := by rw [List.getD_eq_getElem?_getD, List.getElem?_eq_getElem h1]; rfl
    have e2 : b.getD i 0 = b[i] := by rw [List.getD_eq_getElem?_getD, List.getElem?_eq_getElem h2]; rfl
    rw [e1, e2] at this
    have h3 : ((a[i] : Nat) : Int) = ((b[i] : Nat) : Int) := by simpa using this
    omega
  · intro e k _
    subst e
    simp
section
variable {P : Program} {w : World} {K : PySem.W.Frag} {mg : Str → Option Value} {base : Heap} {C : Addr}
theorem c_alike1 (T : Txt K mg C) : Cal P w K mg base CX0 1 "_law_alike" sp_alikeI := by
  refine cal0 T.d_alikeL sc_alikeL (fun _ _ _ _ _ _ us hl => match us, hl with | [_, _], _ => rfl) len2 (fun f cdv A outer s H vs Q E hr h => ?_)
  obtain ⟨v0, a, v1, b, rfl, r0, r1, _, q⟩ := h
  refine ⟨_, (pss_cons (ps_if (pt_val (pe_callB (k_isiT (K := K)) (by rfl) T.f_isinstance boot_isinstance (pa_cons (pv 1) (pa_cons (pe_tup (pa_cons (pe_tyname (by rfl) T.f_tuple boot_tuple) (pa_cons (pe_tyname (by rfl) T.f_list boot_list) pa_nil))) pa_nil)))) pss_never pss_nil)
      (pss_cons (ps_if (PW.pt (pw_or (pt_cmpR op_isN (pv 1) pe_non (by rfl)) (pw_or1 (pt_val (pe_callB (k_isi (K := K)) (by rfl) T.f_isinstance boot_isinstance (pa_cons (pv 1) (pa_cons (pe_tyname (by rfl) T.f_str boot_str) pa_nil))))))) (pss_one (ps_ret (pe_and (pe_cmpR op_eq (pv 0) (pv 1) (by rfl)) (pe_one (pe_cmpR op_eq (pe_callB (k_isi (K := K)) (by rfl) T.f_isinstance boot_isinstance (pa_cons (pv 0) (pa_cons (pe_tyname (by rfl) T.f_str boot_str) pa_nil))) (pe_callB (k_isi (K := K)) (by rfl) T.f_isinstance boot_isinstance (pa_cons (pv 1) (pa_cons (pe_tyname (by rfl) T.f_str boot_str) pa_nil))) (by rfl)))))) pss_nil)
      (pss_one (ps_ret (pe_and (pe_callB (k_isi (K := K)) (by rfl) T.f_isinstance boot_isinstance (pa_cons (pv 0) (pa_cons (pe_tyname (by rfl) T.f_int boot_int) pa_nil))) (pe_and (pe_cmpR op_eq (pe_callB (k_isi (K := K)) (by rfl) T.f_isinstance boot_isinstance (pa_cons (pv 0) (pa_cons (pe_tyname (by rfl) T.f_bool boot_bool) pa_nil))) (pe_callB (k_isi (K := K)) (by rfl) T.f_isinstance boot_isinstance (pa_cons (pv 1) (pa_cons (pe_tyname (by rfl) T.f_bool boot_bool) pa_nil))) (by rfl)) (pe_one (pe_cmpR op_eq (pv 0) (pv 1) (by rfl))))))))), ?_⟩
  refine q_pass ((evt_b (ev_isi2 (x := b) (b := false) (c := false) (ev_var rfl (by walk_at "rp")) (by decide +kernel) (by decide +kernel))).eq rfl) fun H1 s1 => ?_
  refine q_pass ((evt_or (evt_of (ev_isNI (a := b) (ev_var rfl (by walk_at "rp")))) fun _ => evt_b (ev_isi (x := b) (b := false) (ev_var rfl (by walk_at "rp")) (by decide +kernel))).eq rfl) fun H2 s2 => ?_
  exact s_ret ((ev_andV (ev_isi (x := a) (b := true) (ev_var rfl (by walk_at "rp")) (by decide +kernel)) fun _ => ev_andV (ev_eqB (ev_isi (x := a) (b := false) (ev_var rfl (by walk_at "rp")) (by decide +kernel)) (ev_isi (x := b) (b := false) (ev_var rfl (by walk_at "rp")) (by decide +kernel))) fun _ => ev_eqI (a := a) (b := b) (ev_var rfl (by walk_at "rp")) (ev_var rfl (by walk_at "rp"))).eq (by simp)) fun v H3 s3 r => q v H3 (s1.trans (s2.trans s3)) r
theorem c_alike2 (T : Txt K mg C) (C_alikeL : Cal P w K mg base CX0 1 "_law_alike" sp_alikeI) : Cal P w K mg base CX0 2 "_law_alike" sp_alike2 := by
  refine cal0 T.d_alikeL sc_alikeL (fun _ _ _ _ _ _ us hl => match us, hl with | [_, _], _ => rfl) (fun vs H Q E h => h.elim (len2 vs H Q E) (len2 vs H Q E)) (fun f cdv A outer s H vs Q E hr h => ?_)
  rcases h with h | h
  · obtain ⟨v0, a, v1, b, rfl, r0, r1, _, q⟩ := h
    refine ⟨_, (pss_cons (ps_if (pt_val (pe_callB (k_isiT (K := K)) (by rfl) T.f_isinstance boot_isinstance (pa_cons (pv 1) (pa_cons (pe_tup (pa_cons (pe_tyname (by rfl) T.f_tuple boot_tuple) (pa_cons (pe_tyname (by rfl) T.f_list boot_list) pa_nil))) pa_nil)))) pss_never pss_nil)
      (pss_cons (ps_if (PW.pt (pw_or (pt_cmpR op_isN (pv 1) pe_non (by rfl)) (pw_or1 (pt_val (pe_callB (k_isi (K := K)) (by rfl) T.f_isinstance boot_isinstance (pa_cons (pv 1) (pa_cons (pe_tyname (by rfl) T.f_str boot_str) pa_nil))))))) (pss_one (ps_ret (pe_and (pe_cmpR op_eq (pv 0) (pv 1) (by rfl)) (pe_one (pe_cmpR op_eq (pe_callB (k_isi (K := K)) (by rfl) T.f_isinstance boot_isinstance (pa_cons (pv 0) (pa_cons (pe_tyname (by rfl) T.f_str boot_str) pa_nil))) (pe_callB (k_isi (K := K)) (by rfl) T.f_isinstance boot_isinstance (pa_cons (pv 1) (pa_cons (pe_tyname (by rfl) T.f_str boot_str) pa_nil))) (by rfl)))))) pss_nil)
      (pss_one (ps_ret (pe_and (pe_callB (k_isi (K := K)) (by rfl) T.f_isinstance boot_isinstance (pa_cons (pv 0) (pa_cons (pe_tyname (by rfl) T.f_int boot_int) pa_nil))) (pe_and (pe_cmpR op_eq (pe_callB (k_isi (K := K)) (by rfl) T.f_isinstance boot_isinstance (pa_cons (pv 0) (pa_cons (pe_tyname (by rfl) T.f_bool boot_bool) pa_nil))) (pe_callB (k_isi (K := K)) (by rfl) T.f_isinstance boot_isinstance (pa_cons (pv 1) (pa_cons (pe_tyname (by rfl) T.f_bool boot_bool) pa_nil))) (by rfl)) (pe_one (pe_cmpR op_eq (pv 0) (pv 1) (by rfl))))))))), ?_⟩
    refine q_pass ((evt_b (ev_isi2 (x := b) (b := false) (c := false) (ev_var rfl (by walk_at "rp")) (by decide +kernel) (by decide +kernel))).eq rfl) fun H1 s1 => ?_
    refine q_pass ((evt_or (evt_of (ev_isNI (a := b) (ev_var rfl (by walk_at "rp")))) fun _ => evt_b (ev_isi (x := b) (b := false) (ev_var rfl (by walk_at "rp")) (by decide +kernel))).eq rfl) fun H2 s2 => ?_
    exact s_ret ((ev_andV (ev_isi (x := a) (b := true) (ev_var rfl (by walk_at "rp")) (by decide +kernel)) fun _ => ev_andV (ev_eqB (ev_isi (x := a) (b := false) (ev_var rfl (by walk_at "rp")) (by decide +kernel)) (ev_isi (x := b) (b := false) (ev_var rfl (by walk_at "rp")) (by decide +kernel))) fun _ => ev_eqI (a := a) (b := b) (ev_var rfl (by walk_at "rp")) (ev_var rfl (by walk_at "rp"))).eq (by simp)) fun v H3 s3 r => q v H3 (s1.trans (s2.trans s3)) r
  · obtain ⟨v0, a, v1, b, rfl, r0, r1, ⟨za, zb⟩, q⟩ := h
    refine ⟨_, (pss_cons (ps_if (pt_val (pe_callB (k_isiT (K := K)) (by rfl) T.f_isinstance boot_isinstance (pa_cons (pv 1) (pa_cons (pe_tup (pa_cons (pe_tyname (by rfl) T.f_tuple boot_tuple) (pa_cons (pe_tyname (by rfl) T.f_list boot_list) pa_nil))) pa_nil)))) (pss_cons (ps_if (PW.pt (pw_or (pt_not (pt_val (pe_callB (k_isiT (K := K)) (by rfl) T.f_isinstance boot_isinstance (pa_cons (pv 0) (pa_cons (pe_tup (pa_cons (pe_tyname (by rfl) T.f_tuple boot_tuple) (pa_cons (pe_tyname (by rfl) T.f_list boot_list) pa_nil))) pa_nil))))) (pw_or1 (pt_cmpR op_ne (pe_callB (k_isi (K := K)) (by rfl) T.f_isinstance boot_isinstance (pa_cons (pv 0) (pa_cons (pe_tyname (by rfl) T.f_list boot_list) pa_nil))) (pe_callB (k_isi (K := K)) (by rfl) T.f_isinstance boot_isinstance (pa_cons (pv 1) (pa_cons (pe_tyname (by rfl) T.f_list boot_list) pa_nil))) (by rfl))))) (pss_one (ps_ret pe_bl)) pss_nil)
      (pss_cons (ps_if (pt_cmpR op_ne (pe_callB (k_len (K := K)) (by rfl) T.f_len boot_len (pa_cons (pv 0) pa_nil)) (pe_callB (k_len (K := K)) (by rfl) T.f_len boot_len (pa_cons (pv 1) pa_nil)) (by rfl)) (pss_one (ps_ret pe_bl)) pss_nil)
      (pss_one (ps_ret (pe_cmpR (k_eqD (K := K) hr.units) (pe_lc (own := [("_law_k", 2)]) rfl sc_alikeL.nd (pi_range1 (by rfl) T.f_range (pa_cons (pe_callB (k_len (K := K)) (by rfl) T.f_len boot_len (pa_cons (pv 1) pa_nil)) pa_nil)) (blkOk_by (N := ["_law_found", "_law_due", "_law_k"]) (sc := defScope s_alikeL) (by decide +kernel)) (fun _ _ _ _ _ => (pg_name (i := 2) sc_alikeL.nd rfl (by first | exact .inl rfl | exact .inr rfl))) (fun _ _ _ _ _ => pts_one (pt_not (pt_val (pe_cal C_alikeL hr (by decide) (by rfl) (pa_cons (pe_ix (k_ixT (K := K)) (pv 0) (pv 2) (fun _ _ => rfl)) (pa_cons (pe_ix (k_ixT (K := K)) (pv 1) (pv 2) (fun _ _ => rfl)) pa_nil)))))) (fun _ _ _ _ _ => (pv 2))) (pe_lst pa_nil) (by rfl)))))) pss_nil)
      (pss_cons (ps_if (PW.pt (pw_or (pt_cmpR op_isN (pv 1) pe_non (by rfl)) (pw_or1 (pt_val (pe_callB (k_isi (K := K)) (by rfl) T.f_isinstance boot_isinstance (pa_cons (pv 1) (pa_cons (pe_tyname (by rfl) T.f_str boot_str) pa_nil))))))) (pss_one (ps_ret (pe_and (pe_cmpR op_eq (pv 0) (pv 1) (by rfl)) (pe_one (pe_cmpR op_eq (pe_callB (k_isi (K := K)) (by rfl) T.f_isinstance boot_isinstance (pa_cons (pv 0) (pa_cons (pe_tyname (by rfl) T.f_str boot_str) pa_nil))) (pe_callB (k_isi (K := K)) (by rfl) T.f_isinstance boot_isinstance (pa_cons (pv 1) (pa_cons (pe_tyname (by rfl) T.f_str boot_str) pa_nil))) (by rfl)))))) pss_nil)
      (pss_one (ps_ret (pe_and (pe_callB (k_isi (K := K)) (by rfl) T.f_isinstance boot_isinstance (pa_cons (pv 0) (pa_cons (pe_tyname (by rfl) T.f_int boot_int) pa_nil))) (pe_and (pe_cmpR op_eq (pe_callB (k_isi (K := K)) (by rfl) T.f_isinstance boot_isinstance (pa_cons (pv 0) (pa_cons (pe_tyname (by rfl) T.f_bool boot_bool) pa_nil))) (pe_callB (k_isi (K := K)) (by rfl) T.f_isinstance boot_isinstance (pa_cons (pv 1) (pa_cons (pe_tyname (by rfl) T.f_bool boot_bool) pa_nil))) (by rfl)) (pe_one (pe_cmpR op_eq (pv 0) (pv 1) (by rfl))))))))), ?_⟩
    refine q_if (b := true) ((evt_b (ev_isi2 (x := b) (b := true) (c := false) (ev_var rfl (by walk_at "rp")) (by decide +kernel) (by decide +kernel))).eq rfl) (fun _ H1 s1 => ?_) (fun z => by cases z)
    refine q_pass ((evt_or (evt_not (evt_b (ev_isi2 (x := a) (b := true) (c := false) (ev_var rfl (by walk_at "rp")) (by decide +kernel) (by decide +kernel)))) fun _ => evt_of (ev_neB (ev_isi (x := a) (b := false) (ev_var rfl (by walk_at "rp")) (by decide +kernel)) (ev_isi (x := b) (b := false) (ev_var rfl (by walk_at "rp")) (by decide +kernel)))).eq rfl) fun H2 s2 => ?_
    refine q_ifn (evt_of (ev_neN (ek_lenT (xs := a) (ev_var rfl (by walk_at "rp"))) (ek_lenT (xs := b) (ev_var rfl (by walk_at "rp"))))) (fun e H3 s3 => ?_) (fun e H3 s3 => ?_)
    · refine s_ret (ev_bl (b := false)) fun v H4 s4 r => q v H4 (s1.trans (s2.trans (s3.trans s4))) ?_
      have hne : a ≠ b := fun z => by
        subst z
        simp at e
      show Dat.rep H4 v (decide (a = b))
      rw [decide_eq_false hne]
      exact r
    · have hl : a.length = b.length := by simpa using e
      exact s_ret ((ev_eqNil (xs := Lst.mk ((List.range b.length).filter (fun k => !decide ((a.getD k 0 : Int) = (b.getD k 0 : Int))))) (ev_lc1f (fun k => !decide ((a.getD k 0 : Int) = (b.getD k 0 : Int))) (src_R1 (n := b.length) (ek_lenT (xs := b) (ev_var rfl (by walk_at "rp"))) (by omega)) (by rw [List.length_range]; omega) (fun _ => rfl)
        (fun k hk u H4 s4 ru => evt_not (evt_b (ev_call2 (x := (a.getD k 0 : Int)) (y := (b.getD k 0 : Int)) (ev_cast (ev_ixT (xs := a) (i := k) (ev_var rfl (by walk_at "rp")) (ev_var rfl (by walk_at "rp")) (getD_nat (by have := List.mem_range.mp hk; omega)))) (ev_cast (ev_ixT (xs := b) (i := k) (ev_var rfl (by walk_at "rp")) (ev_var rfl (by walk_at "rp")) (getD_nat (List.mem_range.mp hk)))) trivial))) (fun _ => rfl))).eq (alike_nil hl)) fun v H4 s4 r => q v H4 (s1.trans (s2.trans (s3.trans s4))) r
theorem c_alikeL (T : Txt K mg C) (C_alikeL : Cal P w K mg base CX0 2 "_law_alike" sp_alike2) : Cal P w K mg base CX0 3 "_law_alike" sp_alikeL := by
  refine cal0 T.d_alikeL sc_alikeL (fun _ _ _ _ _ _ us hl => match us, hl with | [_, _], _ => rfl) (fun vs H Q E h => h.elim (len2 vs H Q E) (len2 vs H Q E)) (fun f cdv A outer s H vs Q E hr h => ?_)
  rcases h with h | h
  · obtain ⟨v0, a, v1, b, rfl, r0, r1, _, q⟩ := h
    refine ⟨_, (pss_cons (ps_if (pt_val (pe_callB (k_isiT (K := K)) (by rfl) T.f_isinstance boot_isinstance (pa_cons (pv 1) (pa_cons (pe_tup (pa_cons (pe_tyname (by rfl) T.f_tuple boot_tuple) (pa_cons (pe_tyname (by rfl) T.f_list boot_list) pa_nil))) pa_nil)))) pss_never pss_nil)
      (pss_cons (ps_if (PW.pt (pw_or (pt_cmpR op_isN (pv 1) pe_non (by rfl)) (pw_or1 (pt_val (pe_callB (k_isi (K := K)) (by rfl) T.f_isinstance boot_isinstance (pa_cons (pv 1) (pa_cons (pe_tyname (by rfl) T.f_str boot_str) pa_nil))))))) (pss_one (ps_ret (pe_and (pe_cmpR op_eq (pv 0) (pv 1) (by rfl)) (pe_one (pe_cmpR op_eq (pe_callB (k_isi (K := K)) (by rfl) T.f_isinstance boot_isinstance (pa_cons (pv 0) (pa_cons (pe_tyname (by rfl) T.f_str boot_str) pa_nil))) (pe_callB (k_isi (K := K)) (by rfl) T.f_isinstance boot_isinstance (pa_cons (pv 1) (pa_cons (pe_tyname (by rfl) T.f_str boot_str) pa_nil))) (by rfl)))))) pss_nil)
      (pss_one (ps_ret (pe_and (pe_callB (k_isi (K := K)) (by rfl) T.f_isinstance boot_isinstance (pa_cons (pv 0) (pa_cons (pe_tyname (by rfl) T.f_int boot_int) pa_nil))) (pe_and (pe_cmpR op_eq (pe_callB (k_isi (K := K)) (by rfl) T.f_isinstance boot_isinstance (pa_cons (pv 0) (pa_cons (pe_tyname (by rfl) T.f_bool boot_bool) pa_nil))) (pe_callB (k_isi (K := K)) (by rfl) T.f_isinstance boot_isinstance (pa_cons (pv 1) (pa_cons (pe_tyname (by rfl) T.f_bool boot_bool) pa_nil))) (by rfl)) (pe_one (pe_cmpR op_eq (pv 0) (pv 1) (by rfl))))))))), ?_⟩
    refine q_pass ((evt_b (ev_isi2 (x := b) (b := false) (c := false) (ev_var rfl (by walk_at "rp")) (by decide +kernel) (by decide +kernel))).eq rfl) fun H1 s1 => ?_
    refine q_pass ((evt_or (evt_of (ev_isNI (a := b) (ev_var rfl (by walk_at "rp")))) fun _ => evt_b (ev_isi (x := b) (b := false) (ev_var rfl (by walk_at "rp")) (by decide +kernel))).eq rfl) fun H2 s2 => ?_
    exact s_ret ((ev_andV (ev_isi (x := a) (b := true) (ev_var rfl (by walk_at "rp")) (by decide +kernel)) fun _ => ev_andV (ev_eqB (ev_isi (x := a) (b := false) (ev_var rfl (by walk_at "rp")) (by decide +kernel)) (ev_isi (x := b) (b := false) (ev_var rfl (by walk_at "rp")) (by decide +kernel))) fun _ => ev_eqI (a := a) (b := b) (ev_var rfl (by walk_at "rp")) (ev_var rfl (by walk_at "rp"))).eq (by simp)) fun v H3 s3 r => q v H3 (s1.trans (s2.trans s3)) r
  · obtain ⟨v0, a, v1, b, rfl, r0, r1, ⟨za, zb⟩, q⟩ := h
    refine ⟨_, (pss_cons (ps_if (pt_val (pe_callB (k_isiT (K := K)) (by rfl) T.f_isinstance boot_isinstance (pa_cons (pv 1) (pa_cons (pe_tup (pa_cons (pe_tyname (by rfl) T.f_tuple boot_tuple) (pa_cons (pe_tyname (by rfl) T.f_list boot_list) pa_nil))) pa_nil)))) (pss_cons (ps_if (PW.pt (pw_or (pt_not (pt_val (pe_callB (k_isiT (K := K)) (by rfl) T.f_isinstance boot_isinstance (pa_cons (pv 0) (pa_cons (pe_tup (pa_cons (pe_tyname (by rfl) T.f_tuple boot_tuple) (pa_cons (pe_tyname (by rfl) T.f_list boot_list) pa_nil))) pa_nil))))) (pw_or1 (pt_cmpR op_ne (pe_callB (k_isi (K := K)) (by rfl) T.f_isinstance boot_isinstance (pa_cons (pv 0) (pa_cons (pe_tyname (by rfl) T.f_list boot_list) pa_nil))) (pe_callB (k_isi (K := K)) (by rfl) T.f_isinstance boot_isinstance (pa_cons (pv 1) (pa_cons (pe_tyname (by rfl) T.f_list boot_list) pa_nil))) (by rfl))))) (pss_one (ps_ret pe_bl)) pss_nil)
      (pss_cons (ps_if (pt_cmpR op_ne (pe_callB (k_len (K := K)) (by rfl) T.f_len boot_len (pa_cons (pv 0) pa_nil)) (pe_callB (k_len (K := K)) (by rfl) T.f_len boot_len (pa_cons (pv 1) pa_nil)) (by rfl)) (pss_one (ps_ret pe_bl)) pss_nil)
      (pss_one (ps_ret (pe_cmpR (k_eqD (K := K) hr.units) (pe_lc (own := [("_law_k", 2)]) rfl sc_alikeL.nd (pi_range1 (by rfl) T.f_range (pa_cons (pe_callB (k_len (K := K)) (by rfl) T.f_len boot_len (pa_cons (pv 1) pa_nil)) pa_nil)) (blkOk_by (N := ["_law_found", "_law_due", "_law_k"]) (sc := defScope s_alikeL) (by decide +kernel)) (fun _ _ _ _ _ => (pg_name (i := 2) sc_alikeL.nd rfl (by first | exact .inl rfl | exact .inr rfl))) (fun _ _ _ _ _ => pts_one (pt_not (pt_val (pe_cal C_alikeL hr (by decide) (by rfl) (pa_cons (pe_ix (k_ixL (K := K)) (pv 0) (pv 2) (fun _ _ => rfl)) (pa_cons (pe_ix (k_ixL (K := K)) (pv 1) (pv 2) (fun _ _ => rfl)) pa_nil)))))) (fun _ _ _ _ _ => (pv 2))) (pe_lst pa_nil) (by rfl)))))) pss_nil)
      (pss_cons (ps_if (PW.pt (pw_or (pt_cmpR op_isN (pv 1) pe_non (by rfl)) (pw_or1 (pt_val (pe_callB (k_isi (K := K)) (by rfl) T.f_isinstance boot_isinstance (pa_cons (pv 1) (pa_cons (pe_tyname (by rfl) T.f_str boot_str) pa_nil))))))) (pss_one (ps_ret (pe_and (pe_cmpR op_eq (pv 0) (pv 1) (by rfl)) (pe_one (pe_cmpR op_eq (pe_callB (k_isi (K := K)) (by rfl) T.f_isinstance boot_isinstance (pa_cons (pv 0) (pa_cons (pe_tyname (by rfl) T.f_str boot_str) pa_nil))) (pe_callB (k_isi (K := K)) (by rfl) T.f_isinstance boot_isinstance (pa_cons (pv 1) (pa_cons (pe_tyname (by rfl) T.f_str boot_str) pa_nil))) (by rfl)))))) pss_nil)
      (pss_one (ps_ret (pe_and (pe_callB (k_isi (K := K)) (by rfl) T.f_isinstance boot_isinstance (pa_cons (pv 0) (pa_cons (pe_tyname (by rfl) T.f_int boot_int) pa_nil))) (pe_and (pe_cmpR op_eq (pe_callB (k_isi (K := K)) (by rfl) T.f_isinstance boot_isinstance (pa_cons (pv 0) (pa_cons (pe_tyname (by rfl) T.f_bool boot_bool) pa_nil))) (pe_callB (k_isi (K := K)) (by rfl) T.f_isinstance boot_isinstance (pa_cons (pv 1) (pa_cons (pe_tyname (by rfl) T.f_bool boot_bool) pa_nil))) (by rfl)) (pe_one (pe_cmpR op_eq (pv 0) (pv 1) (by rfl))))))))), ?_⟩
    refine q_if (b := true) ((evt_b (ev_isi2 (x := b) (b := false) (c := true) (ev_var rfl (by walk_at "rp")) (by decide +kernel) (by decide +kernel))).eq rfl) (fun _ H1 s1 => ?_) (fun z => by cases z)
    refine q_pass ((evt_or (evt_not (evt_b (ev_isi2 (x := a) (b := false) (c := true) (ev_var rfl (by walk_at "rp")) (by decide +kernel) (by decide +kernel)))) fun _ => evt_of (ev_neB (ev_isi (x := a) (b := true) (ev_var rfl (by walk_at "rp")) (by decide +kernel)) (ev_isi (x := b) (b := true) (ev_var rfl (by walk_at "rp")) (by decide +kernel)))).eq rfl) fun H2 s2 => ?_
    refine q_pass ((evt_of (ev_neN (ek_lenD (d := a) (ev_var rfl (by walk_at "rp"))) (ek_lenD (d := b) (ev_var rfl (by walk_at "rp"))))).eq rfl) fun H3 s3 => ?_
    refine s_ret ((ev_eqNil (xs := Lst.mk ((List.range 2).filter (fun k => if k = 0 then !decide ((a.n : Int) = (b.n : Int)) else !decide (a.l = b.l)))) (ev_lc1f (fun k => if k = 0 then !decide ((a.n : Int) = (b.n : Int)) else !decide (a.l = b.l)) (src_R1 (n := 2) (ek_lenD (d := b) (ev_var rfl (by walk_at "rp"))) (by decide)) (by decide) (fun _ => rfl)
      (fun k hk u H4 s4 ru => ?_) (fun _ => rfl))).eq ?_) fun v H4 s4 r => q v H4 (s1.trans (s2.trans (s3.trans s4))) r
    · have hk2 := List.mem_range.mp hk
      rcases (show k = 0 ∨ k = 1 by omega) with e | e
      · subst e
        exact (evt_not (evt_b (ev_alikeI (a := (a.n : Int)) (b := (b.n : Int)) (ev_cast (ev_ixD0 (d := a) (ev_var rfl (by walk_at "rp")) (ev_var rfl (by walk_at "rp")))) (ev_cast (ev_ixD0 (d := b) (ev_var rfl (by walk_at "rp")) (ev_var rfl (by walk_at "rp"))))))).eq rfl
      · subst e
        exact (evt_not (evt_b (ev_alikeT (a := a.l) (b := b.l) (ev_ixD1 (d := a) (ev_var rfl (by walk_at "rp")) (ev_var rfl (by walk_at "rp"))) (ev_ixD1 (d := b) (ev_var rfl (by walk_at "rp")) (ev_var rfl (by walk_at "rp"))) ⟨za, zb⟩))).eq rfl
    · show decide ((List.range 2).filter (fun k => if k = 0 then !decide ((a.n : Int) = (b.n : Int)) else !decide (a.l = b.l)) = []) = (decide (a.n = b.n) && decide (a.l = b.l))
      have e0 : decide ((a.n : Int) = (b.n : Int)) = decide (a.n = b.n) := dec_eq _ _
      rw [show List.range 2 = [0, 1] from rfl, List.filter_cons, List.filter_cons, List.filter_nil, if_pos rfl, if_neg (show ¬ (1 : Nat) = 0 by decide), e0]
      cases decide (a.n = b.n) <;> cases decide (a.l = b.l) <;> rfl
end
end SB
namespace SB
open PySem PySem.Spec PyProof.Rows L2 RZ StX
local macro_rules | `(tactic| walk_at "rp") => `(tactic| first | assumption | rfl | (refine Dat.mono (by assumption) ?_; walk_at "rp"))
/-! ### the row of draws -/
def Rw (K : PySem.W.Frag) (H : Hp) (r S : Addr) (ns : List Int) : Prop := ∃ c s k : Int, H r = some (.lst [.ref S, .int c, .int s, .int k]) ∧ SqL K H S (ns.map V.int) ∧ 0 ≤ c ∧ 0 ≤ s ∧ s < 2147483647
section
variable {K : PySem.W.Frag} {H H' : Hp} {r S : Addr} {ns : List Int} {σ : L2.St} {ta tb tc : TE} {E : XK} {Q : VK}
theorem sq_put {a : Addr} {xs l : List V} {o : HO} (h : SqL K H a xs) (hr : H r = some (.lst l)) (d : l ≠ xs) : SqL K (upd H r o) a xs := by
  rcases h with (h | ⟨ob, h⟩) | h
  · have ne : a ≠ r := ne_of h hr (by intro z; exact d (HO.lst.inj z).symm)
    exact .inl (.inl (by rw [upd_ne ne]; exact h))
  · have ne : a ≠ r := ne_of h hr (by intro z; cases z)
    exact .inl (.inr ⟨ob, by rw [upd_ne ne]; exact h⟩)
  · exact .inr h
theorem row_ne {l : List V} (ms : List Int) : (V.ref S :: l) ≠ ms.map V.int := by
  cases ms with
  | nil => intro z; cases z
  | cons x r => intro z; cases z
theorem Rw.same (w : Rw K H r S ns) (s : Same H H') : Rw K H' r S ns := by
  obtain ⟨c, sd, k, h1, h2, h3⟩ := w
  exact ⟨c, sd, k, s _ _ h1, s.seq h2, h3⟩
theorem Rw.mok (w : Rw K H r S ns) : MOk (M1 r) H := by
  obtain ⟨c, sd, k, h1, h2, h3⟩ := w
  exact m1_ok h1
theorem Rw.tx (w : Rw K H r S ns) (s : SameB (M1 r) H H') : TupX H H' := w.mok.tx (Same.refl _) s
/-- a list of numbers is not the row -/
theorem Rw.ne (w : Rw K H r S ns) {a : Addr} {ms : List Int} (h : H a = some (.lst (ms.map V.int))) : a ≠ r := by
  obtain ⟨c, sd, k, h1, h2, h3⟩ := w
  exact ne_of h h1 (by intro z; exact row_ne ms (HO.lst.inj z).symm)
theorem ev_row {i j : Nat} {xs : List V} {z : Int} (hi : σ[i]? = some (some (.ref r))) (h : H r = some (.lst xs)) (hj : xs[j]? = some (.int z)) : Ev (tOp (rIxL K) (tVar i) (tC (.int (j : Int)))) σ H z :=
  fun H1 s1 Q q => ⟨_, hi, r, xs, (j : Int), .int z, rfl, rfl, SqL.of (s1 _ _ h), atI_nat hj, q _ _ (Same.refl _) rfl⟩
theorem ev_scr {i m : Nat} {xs : List V} {z : Int} (hi : σ[i]? = some (some (.ref r))) (h : H r = some (.lst xs)) (h0 : xs[0]? = some (.ref S)) (hS : SqL K H S (ns.map V.int)) (hb : Ev tb σ H m) (hz : ns[m]? = some z) :
    Ev (tOp (rIxL K) (tOp (rIxL K) (tVar i) (tC (.int 0))) tb) σ H z :=
  fun H1 s1 Q q => ⟨_, hi, r, xs, 0, .ref S, rfl, rfl, SqL.of (s1 _ _ h), atI_nat (j := 0) h0, hb H1 s1 _ fun v H2 s2 rv => ⟨S, _, (m : Int), .int z, rfl, rv, (s1.trans s2).seq hS, atI_nat (by rw [List.getElem?_map, hz]; rfl), q _ _ s2 rfl⟩⟩
theorem ev_scrLen {i : Nat} {xs : List V} (hi : σ[i]? = some (some (.ref r))) (h : H r = some (.lst xs)) (h0 : xs[0]? = some (.ref S)) (hS : SqL K H S (ns.map V.int)) :
    Ev (tCB (rLenK K) (tCons (tOp (rIxL K) (tVar i) (tC (.int 0))) tNil)) σ H ((ns.length : Nat) : Int) :=
  fun H1 s1 Q q => ⟨_, hi, r, xs, 0, .ref S, rfl, rfl, SqL.of (s1 _ _ h), atI_nat (j := 0) h0, S, _, rfl, .inl (s1.seq hS), by rw [List.length_map]; exact q _ _ (Same.refl _) rfl⟩
theorem ev_modI {a b : Int} (h : 0 < b) (ha : Ev ta σ H a) (hb : Ev tb σ H b) : Ev (tOp (rI (fun _ j => 0 < j) fun i j => .int (i % j)) ta tb) σ H (a % b) := ev_op ha hb fun v w H1 _ r1 r2 Q q => ⟨a, b, r1, r2, h, q _ _ (Same.refl _) rfl⟩
theorem ev_divI {a b : Int} (h : 0 < b ∧ b < 1073741824) (ha : Ev ta σ H a) (hb : Ev tb σ H b) : Ev (tOp (rI CDiv fun i j => .int (i / j)) ta tb) σ H (a / b) := ev_op ha hb fun v w H1 _ r1 r2 Q q => ⟨a, b, r1, r2, h, q _ _ (Same.refl _) rfl⟩
theorem ev_mulI {a b : Int} (h : -(2 ^ 64) < a ∧ a < 2 ^ 64) (ha : Ev ta σ H a) (hb : Ev tb σ H b) : Ev (tOp (rI CMul fun i j => .int (i * j)) ta tb) σ H (a * b) := ev_op ha hb fun v w H1 _ r1 r2 Q q => ⟨a, b, r1, r2, .inl h, q _ _ (Same.refl _) rfl⟩
theorem ev_powI {a b : Int} (h : 0 ≤ b ∧ b ≤ 1000000 ∧ a.natAbs < 2 ^ 64) (ha : Ev ta σ H a) (hb : Ev tb σ H b) : Ev (tOp (rI CPow fun i j => .int (i ^ j.toNat)) ta tb) σ H (a ^ b.toNat) := ev_op ha hb fun v w H1 _ r1 r2 Q q => ⟨a, b, r1, r2, h, q _ _ (Same.refl _) rfl⟩
theorem ev_intI {a : Int} (ha : Ev ta σ H a) : Ev (tCB (fun xs H Q => (∃ i, xs = [.int i] ∧ Q (.int i) H) ∨ ∃ k, xs = [.bl k] ∧ Q (.int (if k then 1 else 0)) H) (tCons ta tNil)) σ H a := ev_b1 ha fun v H1 _ r Q q => .inl ⟨a, by rw [show v = V.int a from r], q _ _ (Same.refl _) rfl⟩
theorem q_store {i j : Nat} {xs : List V} {z : Int} {tz : TS} {D : Ends} (he : Ev ta σ H z) (hi : σ[i]? = some (some (.ref r))) (h : H r = some (.lst xs)) (hj : j < xs.length) (k : ∀ H1, Same H H1 → tz D σ (upd H1 r (.lst (xs.set j (.int z))))) : tSeq (tAsg ta (gSub (tVar i) (tC (.int (j : Int))) rSetL)) tz D σ H :=
  he H (Same.refl _) _ fun v H1 s1 rv => ⟨_, hi, r, xs, (j : Int), j, rfl, rfl, s1 _ _ h, by unfold ixN; rw [if_pos (Int.natCast_nonneg j), if_pos (by omega)]; rfl, by
    have ev : v = V.int z := rv
    subst ev
    exact k H1 s1⟩
theorem s_store {i j : Nat} {xs : List V} {z : Int} {D : Ends} (he : Ev ta σ H z) (hi : σ[i]? = some (some (.ref r))) (h : H r = some (.lst xs)) (hj : j < xs.length) (k : ∀ H1, Same H H1 → D.nx σ (upd H1 r (.lst (xs.set j (.int z))))) : tAsg ta (gSub (tVar i) (tC (.int (j : Int))) rSetL) D σ H :=
  he H (Same.refl _) _ fun v H1 s1 rv => ⟨_, hi, r, xs, (j : Int), j, rfl, rfl, s1 _ _ h, by unfold ixN; rw [if_pos (Int.natCast_nonneg j), if_pos (by omega)]; rfl, by
    have ev : v = V.int z := rv
    subst ev
    exact k H1 s1⟩
theorem draw_fin (z : Int) {many : Nat} (h : 0 < many) : ∃ t : Nat, t < many ∧ z % (many : Int) = (t : Int) := by
  have h1 := Int.emod_nonneg z (b := (many : Int)) (by omega)
  have h2 := Int.emod_lt_of_pos z (b := (many : Int)) (by omega)
  exact ⟨(z % (many : Int)).toNat, by omega, by omega⟩
end
def sp_takenL (K : PySem.W.Frag) : Sp := fun vs H Q _ => ∃ r S ns v1, ∃ many : Nat, vs = [.ref r, v1] ∧ Rw K H r S ns ∧ Dat.rep H v1 many ∧ 0 < many ∧ many < 1000 ∧ ∀ (t : Nat) H', t < many → SameB (M1 r) H H' → Rw K H' r S ns → Q (.int (t : Int)) H'
section
variable {P : Program} {w : World} {K : PySem.W.Frag} {mg : Str → Option Value} {base : Heap} {C : Addr}
theorem c_takenL (T : Txt K mg C)  : Cal P w K mg base CX0 1 "_law_taken" (sp_takenL K) := by
  refine cal0 T.d_takenL sc_takenL (fun _ _ _ _ _ _ us hl => match us, hl with | [_, _], _ => rfl) (by rintro vs H Q E ⟨r, S, ns, v1, many, rfl, _⟩; rfl) (fun f cdv A outer s H vs Q E hr h => ?_)
  obtain ⟨r, S, ns, v1, many, rfl, ⟨c, sd, k, hr0, hS, hc, hs0, hs1⟩, r1, hm0, hm1, q⟩ := h
  refine ⟨_, (pss_cons (ps_if (pt_cmpR op_gt (pe_ix (k_ixL (K := K)) (pv 0) pe_int (fun _ _ => rfl)) pe_int (by rfl)) (pss_cons (ps_set (i := 3) sc_takenL.nd rfl (by first | exact .inl rfl | exact .inr rfl) (pe_op op_mod (pe_callTy call_int1 (by rfl) T.f_int boot_int (pa_cons (pe_ix (k_ixL (K := K)) (pv 0) pe_int (fun _ _ => rfl)) pa_nil)) (pv 1)))
      (pss_cons (ps_asg (pe_op op_fdiv (pe_ix (k_ixL (K := K)) (pv 0) pe_int (fun _ _ => rfl)) (pv 1)) (pg_sub (pv 0) pe_int set_list))
      (pss_one (ps_ret (pv 3))))) pss_nil)
      (pss_cons (ps_asg (pe_op op_add (pe_ix (k_ixL (K := K)) (pv 0) pe_int (fun _ _ => rfl)) pe_int) (pg_sub (pv 0) pe_int set_list))
      (pss_cons (ps_if (pt_cmpR op_gt (pe_ix (k_ixL (K := K)) (pv 0) pe_int (fun _ _ => rfl)) (pe_callB (k_len (K := K)) (by rfl) T.f_len boot_len (pa_cons (pe_ix (k_ixL (K := K)) (pv 0) pe_int (fun _ _ => rfl)) pa_nil)) (by rfl)) (pss_cons (ps_asg (pe_op op_mod (pe_callTy call_int1 (by rfl) T.f_int boot_int (pa_cons (pe_op op_add (pe_op op_mul (pe_ix (k_ixL (K := K)) (pv 0) pe_int (fun _ _ => rfl)) pe_int) pe_int) pa_nil)) pe_int) (pg_sub (pv 0) pe_int set_list))
      (pss_one (ps_ret (pe_op op_mod (pe_callTy call_int1 (by rfl) T.f_int boot_int (pa_cons (pe_op op_fdiv (pe_ix (k_ixL (K := K)) (pv 0) pe_int (fun _ _ => rfl)) pe_int) pa_nil)) (pv 1))))) pss_nil)
      (pss_cons (ps_set (i := 2) sc_takenL.nd rfl (by first | exact .inl rfl | exact .inr rfl) (pe_ix (k_ixL (K := K)) (pe_ix (k_ixL (K := K)) (pv 0) pe_int (fun _ _ => rfl)) (pe_op op_sub (pe_ix (k_ixL (K := K)) (pv 0) pe_int (fun _ _ => rfl)) pe_int) (fun _ _ => rfl)))
      (pss_cons (ps_asg (pe_op op_mod (pe_callTy call_int1 (by rfl) T.f_int boot_int (pa_cons (pe_op op_add (pe_op op_add (pe_op op_mul (pe_ix (k_ixL (K := K)) (pv 0) pe_int (fun _ _ => rfl)) pe_int) (pv 2)) pe_int) pa_nil)) pe_int) (pg_sub (pv 0) pe_int set_list))
      (pss_cons (ps_if (pt_cmpR op_ge (pv 2) (pe_op op_pow pe_int pe_int) (by rfl)) (pss_one (ps_asg (pe_op op_fdiv (pv 2) (pv 1)) (pg_sub (pv 0) pe_int set_list))) pss_nil)
      (pss_one (ps_ret (pe_op op_mod (pe_callTy call_int1 (by rfl) T.f_int boot_int (pa_cons (pv 2) pa_nil)) (pv 1)))))))))), ?_⟩
  have rm : ∀ {H1}, Same H H1 → Dat.rep H1 v1 many := fun s => Dat.mono s r1
  refine q_ifn (evt_of (ev_gtI (a := k) (b := 0) (ev_row (j := 3) (r := r) rfl hr0 rfl) ev_int)) (fun e H1 s1 => ?_) (fun e H1 s1 => ?_)
  · have hr1 := s1 _ _ hr0
    refine q_set (x := k % (many : Int)) (ev_modI (by omega) (ev_intI (ev_row (j := 3) (r := r) rfl hr1 rfl)) (ev_cast (ev_var (x := many) rfl (rm s1)))) fun v H2 s2 rv => ?_
    refine q_store (j := 3) (ev_divI (by omega) (ev_row (j := 3) (r := r) rfl (s2 _ _ hr1) rfl) (ev_cast (ev_var (x := many) rfl (rm (s1.trans s2))))) rfl (s2 _ _ hr1) (by show 3 < 4; decide) fun H3 s3 => ?_
    obtain ⟨t, ht, et⟩ := draw_fin k hm0
    refine s_ret (x := k % (many : Int)) (ev_var rfl rv) fun v' H4 s4 r => ?_
    have s13 : Same H H3 := s1.trans (s2.trans s3)
    have ev : v' = V.int (t : Int) := by rw [← et]; exact r
    subst ev
    refine q t H4 ht (SameB.trans ((same_b s13).put rfl) (same_b s4)) (Rw.same ?_ s4)
    exact ⟨c, sd, k / (many : Int), upd_same, sq_put (s13.seq hS) (s13 _ _ hr0) (row_ne _), hc, hs0, hs1⟩
  · have hr1 := s1 _ _ hr0
    refine q_store (j := 1) (ev_addI (a := c) (b := 1) (ev_row (j := 1) (r := r) rfl hr1 rfl) ev_int) rfl hr1 (by show 1 < 4; decide) fun H2 s2 => ?_
    have s02 : Same H H2 := s1.trans s2
    have b2 : SameB (M1 r) H (upd H2 r (.lst [.ref S, .int (c + 1), .int sd, .int k])) := (same_b s02).put rfl
    have hS2 : SqL K (upd H2 r (.lst [.ref S, .int (c + 1), .int sd, .int k])) S (ns.map V.int) := sq_put (s02.seq hS) (s02 _ _ hr0) (row_ne _)
    have rm2 : Dat.rep (upd H2 r (.lst [.ref S, .int (c + 1), .int sd, .int k])) v1 many := r1
    show tSeq _ _ _ _ (upd H2 r (.lst [.ref S, .int (c + 1), .int sd, .int k]))
    generalize hH3 : upd H2 r (.lst [.ref S, .int (c + 1), .int sd, .int k]) = H3 at b2 hS2 rm2 ⊢
    have hr3 : H3 r = some (.lst [.ref S, .int (c + 1), .int sd, .int k]) := by rw [← hH3]; exact upd_same
    clear hH3
    refine q_ifn (evt_of (ev_gtI (a := c + 1) (b := (ns.length : Int)) (ev_row (j := 1) (r := r) rfl hr3 rfl) (ev_scrLen rfl hr3 rfl hS2))) (fun e2 H4 s4 => ?_) (fun e2 H4 s4 => ?_)
    · have hr4 := s4 _ _ hr3
      refine q_store (j := 2) (ev_modI (a := sd * 48271 + 11) (b := 2147483647) (by decide) (ev_intI (ev_addI (ev_mulI (by omega) (ev_row (j := 2) (r := r) rfl hr4 rfl) ev_int) ev_int)) ev_int) rfl hr4 (by show 2 < 4; decide) fun H5 s5 => ?_
      have h1 := Int.emod_nonneg (sd * 48271 + 11) (b := 2147483647) (by decide)
      have h2 := Int.emod_lt_of_pos (sd * 48271 + 11) (b := 2147483647) (by decide)
      show tRet _ _ _ (upd H5 r (.lst [.ref S, .int (c + 1), .int ((sd * 48271 + 11) % 2147483647), .int k]))
      obtain ⟨t, ht, et⟩ := draw_fin ((sd * 48271 + 11) % 2147483647 / 7) hm0
      refine s_ret (x := (sd * 48271 + 11) % 2147483647 / 7 % (many : Int)) (ev_modI (by omega) (ev_intI (ev_divI (by decide) (ev_row (j := 2) (r := r) rfl upd_same rfl) ev_int)) (ev_cast (ev_var (x := many) rfl r1))) fun v' H6 s6 rr => ?_
      have ev : v' = V.int (t : Int) := by rw [← et]; exact rr
      subst ev
      have s35 : Same H3 H5 := s4.trans s5
      refine q t H6 ht (SameB.trans ((b2.trans (same_b s35)).put rfl) (same_b s6)) (Rw.same ?_ s6)
      exact ⟨c + 1, _, k, upd_same, sq_put (s35.seq hS2) (s35 _ _ hr3) (row_ne _), by omega, h1, h2⟩
    · have hr4 := s4 _ _ hr3
      have hS4 := s4.seq hS2
      have hlt : c.toNat < ns.length := by
        have := of_decide_eq_false e2
        omega
      have hget : ns[c.toNat]? = some ns[c.toNat] := List.getElem?_eq_getElem hlt
      generalize ns[c.toNat] = z at hget
      refine q_set (x := z) (ev_scr (m := c.toNat) rfl hr4 rfl hS4 (fun H1 s Q q => (ev_subI (a := c + 1) (b := 1) (ev_row (j := 1) (r := r) rfl hr4 rfl) ev_int) H1 s Q fun v H2 s2 rv => q v H2 s2 (by
        have e1 : v = V.int (c + 1 - 1) := rv
        rw [e1]
        show V.int _ = V.int _
        congr 1
        omega)) hget) fun v H5 s5 rv => ?_
      have hr5 := s5 _ _ hr4
      refine q_store (j := 2) (ev_modI (a := sd * 48271 + z + 11) (b := 2147483647) (by decide) (ev_intI (ev_addI (ev_addI (ev_mulI (by omega) (ev_row (j := 2) (r := r) rfl hr5 rfl) ev_int) (ev_var (x := z) rfl rv)) ev_int)) ev_int) rfl hr5 (by show 2 < 4; decide) fun H6 s6 => ?_
      have h1 := Int.emod_nonneg (sd * 48271 + z + 11) (b := 2147483647) (by decide)
      have h2 := Int.emod_lt_of_pos (sd * 48271 + z + 11) (b := 2147483647) (by decide)
      have s36 : Same H3 H6 := s4.trans (s5.trans s6)
      have b6 : SameB (M1 r) H (upd H6 r (.lst [.ref S, .int (c + 1), .int ((sd * 48271 + z + 11) % 2147483647), .int k])) := (b2.trans (same_b s36)).put rfl
      have hS6 : SqL K (upd H6 r (.lst [.ref S, .int (c + 1), .int ((sd * 48271 + z + 11) % 2147483647), .int k])) S (ns.map V.int) := sq_put (s36.seq hS2) (s36 _ _ hr3) (row_ne _)
      show tSeq _ _ _ _ (upd H6 r (.lst [.ref S, .int (c + 1), .int ((sd * 48271 + z + 11) % 2147483647), .int k]))
      generalize hH7 : upd H6 r (.lst [.ref S, .int (c + 1), .int ((sd * 48271 + z + 11) % 2147483647), .int k]) = H7 at b6 hS6 ⊢
      have hr7 : H7 r = some (.lst [.ref S, .int (c + 1), .int ((sd * 48271 + z + 11) % 2147483647), .int k]) := by rw [← hH7]; exact upd_same
      clear hH7
      obtain ⟨t, ht, et⟩ := draw_fin z hm0
      refine q_if (evt_of (ev_geI (a := z) (b := 10 ^ (18 : Int).toNat) (ev_var rfl rv) (ev_powI (by decide) ev_int ev_int))) (fun e3 H8 s8 => ?_) (fun e3 H8 s8 => ?_)
      · have hr8 := s8 _ _ hr7
        refine s_store (j := 3) (ev_divI (a := z) (b := (many : Int)) (by omega) (ev_var rfl rv) (ev_cast (ev_var (x := many) rfl r1))) rfl hr8 (by show 3 < 4; decide) fun H9 s9 => ?_
        dsimp only [tNext]
        refine s_ret (x := z % (many : Int)) (ev_modI (by omega) (ev_intI (ev_var (x := z) rfl rv)) (ev_cast (ev_var (x := many) rfl r1))) fun v' HA sA rr => ?_
        have ev : v' = V.int (t : Int) := by rw [← et]; exact rr
        subst ev
        have s79 : Same H7 H9 := s8.trans s9
        refine q t HA ht (SameB.trans ((b6.trans (same_b s79)).put rfl) (same_b sA)) (Rw.same ?_ sA)
        exact ⟨c + 1, _, z / (many : Int), upd_same, sq_put (s79.seq hS6) (s79 _ _ hr7) (row_ne _), by omega, h1, h2⟩
      · dsimp only [tNext]
        refine s_ret (x := z % (many : Int)) (ev_modI (by omega) (ev_intI (ev_var (x := z) rfl rv)) (ev_cast (ev_var (x := many) rfl r1))) fun v' HA sA rr => ?_
        have ev : v' = V.int (t : Int) := by rw [← et]; exact rr
        subst ev
        refine q t HA ht (b6.trans (same_b (s8.trans sA))) (Rw.same ?_ (s8.trans sA))
        exact ⟨c + 1, _, k, hr7, hS6, by omega, h1, h2⟩
def sp_pickL (K : PySem.W.Frag) : Sp := fun vs H Q _ => ∃ r S ns v1, ∃ xs : List Nat, vs = [.ref r, v1] ∧ Rw K H r S ns ∧ Dat.rep H v1 (Lst.mk xs) ∧ xs ≠ [] ∧ xs.length ≤ 100 ∧ ∀ x ∈ xs, ∀ H', SameB (M1 r) H H' → Rw K H' r S ns → Q (.int (x : Int)) H'
theorem w_taken {r S : Addr} {ns : List Int} {i : Nat} {σ : L2.St} {H : Hp} {Q : VK} {tb : TE} {many : Nat} {E : XK} (hi : σ[i]? = some (some (.ref r))) (w : Rw K H r S ns) (hb : Ev tb σ H many) (h0 : 0 < many) (h1 : many < 1000)
    (q : ∀ (t : Nat) H', t < many → SameB (M1 r) H H' → Rw K H' r S ns → Q (.int (t : Int)) H') : tCall (sp_takenL K) [] E (tCons (tVar i) (tCons tb tNil)) σ H Q :=
  ⟨.ref r, hi, hb H (Same.refl _) _ fun v H1 s1 rv => ⟨r, S, ns, v, many, rfl, w.same s1, rv, h0, h1, fun t H' ht sB w' => q t H' ht ((same_b s1).trans sB) w'⟩⟩
theorem w_pick {r S : Addr} {ns : List Int} {i : Nat} {σ : L2.St} {H : Hp} {Q : VK} {tb : TE} {xs : List Nat} {E : XK} (hi : σ[i]? = some (some (.ref r))) (w : Rw K H r S ns) (hb : Ev tb σ H (Lst.mk xs)) (h0 : xs ≠ []) (h1 : xs.length ≤ 100)
    (q : ∀ x ∈ xs, ∀ H', SameB (M1 r) H H' → Rw K H' r S ns → Q (.int (x : Int)) H') : tCall (sp_pickL K) [] E (tCons (tVar i) (tCons tb tNil)) σ H Q :=
  ⟨.ref r, hi, hb H (Same.refl _) _ fun v H1 s1 rv => ⟨r, S, ns, v, xs, rfl, w.same s1, rv, h0, h1, fun x hx H' sB w' => q x hx H' ((same_b s1).trans sB) w'⟩⟩
theorem c_pickL (T : Txt K mg C) (C_takenL : Cal P w K mg base CX0 1 "_law_taken" (sp_takenL K)) : Cal P w K mg base CX0 2 "_law_pick" (sp_pickL K) := by
  refine cal0 T.d_pickL sc_pickL (fun _ _ _ _ _ _ us hl => match us, hl with | [_, _], _ => rfl) (by rintro vs H Q E ⟨r, S, ns, v1, xs, rfl, _⟩; rfl) (fun f cdv A outer s H vs Q E hr h => ?_)
  obtain ⟨r, S, ns, v1, xs, rfl, wr, r1, h0, hz, q⟩ := h
  refine ⟨_, (pss_one (ps_ret (pe_ix (k_ixL (K := K)) (pv 1) (pe_cal C_takenL hr (by decide) (by rfl) (pa_cons (pv 0) (pa_cons (pe_callB (k_len (K := K)) (by rfl) T.f_len boot_len (pa_cons (pv 1) pa_nil)) pa_nil))) (fun _ _ => rfl)))), ?_⟩
  obtain ⟨a, ws, ea, ha, pa⟩ := id r1
  subst ea
  have hne : a ≠ r := by
    have h' := ha
    rw [p_nats pa] at h'
    exact wr.ne h'
  refine ⟨.ref a, rfl, ?_⟩
  refine w_taken (r := r) (S := S) (ns := ns) (many := xs.length) rfl wr (ek_lenL (xs := Lst.mk xs) (ev_var rfl r1)) (List.length_pos_iff.mpr h0) (by omega) fun t H' ht sB w' => ?_
  have hx : xs[t]? = some xs[t] := List.getElem?_eq_getElem ht
  obtain ⟨u, hu, ru⟩ := p_get pa hx
  refine ⟨a, ws, (t : Int), u, rfl, rfl, SqL.of (sB _ _ hne ha), atI_nat hu, ?_⟩
  have eu : u = V.int (xs[t] : Int) := ru
  rw [eu]
  exact q _ (List.getElem_mem ht) H' sB w'
end
end SB
namespace SB
open PySem PySem.Spec PyProof.Rows L2 RZ StX
local macro_rules | `(tactic| walk_at "rp") => `(tactic| first | assumption | rfl | (refine Dat.mono (by assumption) ?_; walk_at "rp"))
section
variable {K : PySem.W.Frag} {H H' : Hp} {r S : Addr} {ns : List Int} {σ : L2.St} {ta tb tc : TE} {tu tz : TS} {D : Ends} {E : XK} {Q : VK}
theorem sq_b {a : Addr} {xs l : List V} (h : SqL K H a xs) (hr : H r = some (.lst l)) (d : l ≠ xs) (s : SameB (M1 r) H H') : SqL K H' a xs := by
  rcases h with (h | ⟨ob, h⟩) | h
  · exact .inl (.inl (s _ _ (ne_of h hr (by intro z; exact d (HO.lst.inj z).symm)) h))
  · exact .inl (.inr ⟨ob, s _ _ (ne_of h hr (by intro z; cases z)) h⟩)
  · exact .inr h
theorem Rw.put {H3 : Hp} (w : Rw K H r S ns) (b : SameB (M1 r) H H') (w3 : Rw K H3 r S ns) (e : H' r = H3 r) : Rw K H' r S ns := by
  obtain ⟨c, sd, k, h1, h2, h3⟩ := w
  obtain ⟨c', sd', k', g1, g2, g3⟩ := w3
  exact ⟨c', sd', k', e.trans g1, sq_b h2 h1 (row_ne _) b, g3⟩
theorem Rw.there (w : Rw K H r S ns) : ∃ l, H r = some (.lst l) := by
  obtain ⟨c, sd, k, h1, _⟩ := w
  exact ⟨_, h1⟩
theorem cutJ {Mid : L2.St → Hp → Prop} (h : (∀ σ' H', Mid σ' H' → tz D σ' H') → tSeq tu tz D σ H) (k : ∀ σ' H', Mid σ' H' → tz D σ' H') : tSeq tu tz D σ H := h k
theorem w_add {i x : Nat} {many : Nat} (ha : Ev ta σ H x) (hi : σ[i]? = some (some (.ref r))) (w : Rw K H r S ns) (hb : Ev tb σ H many) (h0 : 0 < many) (h1 : many < 1000)
    (q : ∀ (t : Nat) H', t < many → SameB (M1 r) H H' → Rw K H' r S ns → Q (.int ((x + t : Nat) : Int)) H') : tOp (rI0 fun i j => .int (i + j)) ta (tCall (sp_takenL K) [] E (tCons (tVar i) (tCons tb tNil))) σ H Q :=
  ha H (Same.refl _) _ fun v H1 s1 rv => w_taken hi (w.same s1) (hb.mono s1) h0 h1 fun t H2 ht sB w' => ⟨(x : Int), (t : Int), rv, rfl, by
    have k := q t H2 ht ((same_b s1).trans sB) w'
    rw [Int.natCast_add] at k
    exact k⟩
theorem none_b {p : Addr} (s : SameB (M1 r) H H') (h : H' p = none) (n : p ≠ r) : H p = none := by
  cases e : H p with
  | none => rfl
  | some o => exact absurd ((s p o n e).symm.trans h) (by intro z; cases z)
theorem sb_mut {M : Addr → Prop} {p : Addr} {o : HO} (s : SameB M H H') (h : H p = none) : SameB M H (upd H' p o) := fun a u n e => by
  rw [upd_ne (ne_of_none e h)]
  exact s a u n e
theorem nats_ne {b : List Nat} (h : 1 ≤ b.length) : HO.lst ((b.map Int.ofNat).map V.int) ≠ HO.lst [] := by
  intro z
  have := HO.lst.inj z
  cases b with
  | nil => exact absurd h (by decide)
  | cons x r => cases this
/-- [2 * taken(row, 4) for one in first] -/
theorem lc_taken {a : Addr} {vs0 : List V} {jv kv : Nat} (h8 : σ[jv]? = some (some (.ref a))) (ha : H a = some (.lst vs0)) (hz : vs0.length ≤ 1000) (nar : a ≠ r) (w : Rw K H r S ns) (h0 : ∀ v, ((wipe σ [kv]).set kv (some v))[0]? = some (some (.ref r)))
    (hw : ∀ v, wipe ((wipe σ [kv]).set kv (some v)) [kv] = wipe σ [kv]) (q : ∀ p (ms : List Nat) H', ms.length = vs0.length → (∀ m ∈ ms, m ≤ 6) → H p = none → SameB (M1 r) H H' → Rw K H' r S ns → H' p = some (.lst ((ms.map Int.ofNat).map V.int)) → Q (.ref p) H') :
    tLc (iList K (tVar jv)) (gName kv) tYes (tOp (rI CMul fun i j => .int (i * j)) (tC (.int 2)) (tCall (sp_takenL K) [] E (tCons (tVar 0) (tCons (tC (.int 4)) tNil)))) [kv] σ H Q :=
  ⟨.ref a, h8, a, rfl, ⟨vs0, SqL.of ha⟩, fun D hD => lc_it (walk_list (K := K) (a := a) (xs := vs0)) (fun i H' => SameB (M1 r) H H' ∧ Rw K H' r S ns ∧ ∃ ms : List Nat, ms.length = i ∧ (∀ m ∈ ms, m ≤ 6) ∧ H' D = some (.lst ((ms.map Int.ofNat).map V.int)))
    ⟨same_b (same_new hD), w.same (same_new hD), [], rfl, (fun m h => nomatch h), upd_same⟩ (fun i H' _ h => SqL.of (h.1 _ _ nar ha)) (fun i x H1 H2 hi h hy => by
      obtain ⟨b1, w1, ms, hl, hb, hd⟩ := h
      obtain ⟨e1, e2⟩ := hy
      subst e1
      have nDr : D ≠ r := w1.ne hd
      refine ⟨hw x, ?_⟩
      unfold tYes
      refine iteT ?_
      refine w_taken (many := 4) (h0 x) w1 (ev_nat rfl) (by decide) (by decide) fun t H3 ht sB w3 => ?_
      refine ⟨2, (t : Int), rfl, rfl, .inl ⟨by decide, by decide⟩, _, sB _ _ nDr hd, ?_, ?_, ?_, ms ++ [2 * t], ?_, ?_, ?_⟩
      · rw [List.length_map, List.length_map]
        exact szl (by omega)
      · exact fun a o n e => by
          rw [upd_ne (ne_of_none e hD)]
          exact (b1.trans sB) a o n e
      · exact w.put (fun a o n e => by
          rw [upd_ne (ne_of_none e hD)]
          exact (b1.trans sB) a o n e) w3 (upd_ne (Ne.symm nDr))
      · rw [List.length_append, hl]; rfl
      · intro m hm
        rcases List.mem_append.mp hm with h | h
        · exact hb m h
        · rw [List.mem_singleton] at h; omega
      · rw [upd_same, List.map_append, List.map_append]; rfl) (fun H' h => by
      obtain ⟨b1, w1, ms, hl, hb, hd⟩ := h
      exact q D ms H' hl hb hD b1 w1 hd)⟩
theorem s_lc_taken {a : Addr} {vs0 : List V} {jv kv : Nat} (h8 : σ[jv]? = some (some (.ref a))) (ha : H a = some (.lst vs0)) (hz : vs0.length ≤ 1000) (nar : a ≠ r) (w : Rw K H r S ns) (h0 : ∀ v, ((wipe σ [kv]).set kv (some v))[0]? = some (some (.ref r)))
    (hw : ∀ v, wipe ((wipe σ [kv]).set kv (some v)) [kv] = wipe σ [kv]) {i : Nat} (q : ∀ p (ms : List Nat) H', ms.length = vs0.length → (∀ m ∈ ms, m ≤ 6) → H p = none → SameB (M1 r) H H' → Rw K H' r S ns → H' p = some (.lst ((ms.map Int.ofNat).map V.int)) → D.nx (σ.set i (some (.ref p))) H') :
    tAsg (tLc (iList K (tVar jv)) (gName kv) tYes (tOp (rI CMul fun i j => .int (i * j)) (tC (.int 2)) (tCall (sp_takenL K) [] E (tCons (tVar 0) (tCons (tC (.int 4)) tNil)))) [kv]) (gName i) D σ H := lc_taken h8 ha hz nar w h0 hw q
theorem q_lc_taken {a : Addr} {vs0 : List V} {jv kv : Nat} (h8 : σ[jv]? = some (some (.ref a))) (ha : H a = some (.lst vs0)) (hz : vs0.length ≤ 1000) (nar : a ≠ r) (w : Rw K H r S ns) (h0 : ∀ v, ((wipe σ [kv]).set kv (some v))[0]? = some (some (.ref r)))
    (hw : ∀ v, wipe ((wipe σ [kv]).set kv (some v)) [kv] = wipe σ [kv]) {i : Nat} (q : ∀ p (ms : List Nat) H', ms.length = vs0.length → (∀ m ∈ ms, m ≤ 6) → H p = none → SameB (M1 r) H H' → Rw K H' r S ns → H' p = some (.lst ((ms.map Int.ofNat).map V.int)) → tz D (σ.set i (some (.ref p))) H') :
    tSeq (tAsg (tLc (iList K (tVar jv)) (gName kv) tYes (tOp (rI CMul fun i j => .int (i * j)) (tC (.int 2)) (tCall (sp_takenL K) [] E (tCons (tVar 0) (tCons (tC (.int 4)) tNil)))) [kv]) (gName i)) tz D σ H := s_lc_taken (D := { D with nx := tz D }) h8 ha hz nar w h0 hw q
end
def sp_boardL (K : PySem.W.Frag) : Sp := fun vs H Q _ => ∃ r S ns, vs = [.ref r, .int 4, .int 4, .int 4] ∧ Rw K H r S ns ∧ ∀ (B : Board) v H', BOk B → SameB (M1 r) H H' → Rw K H' r S ns → Dat.rep H' v B → Q v H'
section
variable {P : Program} {w : World} {K : PySem.W.Frag} {mg : Str → Option Value} {base : Heap} {C : Addr}
/-- a row of the board so far -/
def CellsOk (cs : List Cell) : Prop := ∀ c ∈ cs, InR c.1 ∧ InR c.2
theorem small_in {f t : Nat} (hf : f ≤ 6) (ht : t < 4) : InR ((f + t : Nat) : Int) ∧ InR (((f + t : Nat) : Int) - 1) := by
  unfold InR
  omega
theorem getD_le {l : List Nat} {i : Nat} (h : ∀ m ∈ l, m ≤ 6) : l.getD i 0 ≤ 6 := by
  rw [List.getD_eq_getElem?_getD]
  cases e : l[i]? with
  | none => exact Nat.zero_le _
  | some m => exact h m (List.mem_of_getElem? e)
theorem getD_someN {l : List Nat} {i : Nat} (h : i < l.length) : l[i]? = some (l.getD i 0) := by
  rw [List.getD_eq_getElem?_getD, List.getElem?_eq_getElem h]
  rfl
structure Bld (K : PySem.W.Frag) (r S : Addr) (ns : List Int) (H H' : Hp) (p1 p2 : Addr) (b1 b2 : List Nat) : Prop where
  sb : SameB (M1 r) H H'
  rw : Rw K H' r S ns
  h1 : H' p1 = some (.lst ((b1.map Int.ofNat).map V.int))
  h2 : H' p2 = some (.lst ((b2.map Int.ofNat).map V.int))
theorem Bld.go {r S : Addr} {ns : List Int} {H H' H2 : Hp} {p1 p2 : Addr} {b1 b2 : List Nat} (g : Bld K r S ns H H' p1 p2 b1 b2) (s : SameB (M1 r) H' H2) (w : Rw K H2 r S ns) : Bld K r S ns H H2 p1 p2 b1 b2 :=
  ⟨g.sb.trans s, w, s _ _ (g.rw.ne g.h1) g.h1, s _ _ (g.rw.ne g.h2) g.h2⟩
theorem Bld.same {r S : Addr} {ns : List Int} {H H' H2 : Hp} {p1 p2 : Addr} {b1 b2 : List Nat} (g : Bld K r S ns H H' p1 p2 b1 b2) (s : Same H' H2) : Bld K r S ns H H2 p1 p2 b1 b2 := g.go (same_b s) (g.rw.same s)
theorem Bld.upd {r S : Addr} {ns : List Int} {H H' : Hp} {p1 p2 p : Addr} {b1 b2 : List Nat} {o : HO} (g : Bld K r S ns H H' p1 p2 b1 b2) (w0 : Rw K H r S ns) (n0 : H p = none) (nr : p ≠ r) (n1 : p ≠ p1) (n2 : p ≠ p2) : Bld K r S ns H (L2.upd H' p o) p1 p2 b1 b2 := by
  have e : ∀ a, a ≠ p → L2.upd H' p o a = H' a := fun a h => upd_ne h
  exact ⟨sb_mut g.sb n0, w0.put (sb_mut g.sb n0) g.rw (e _ (Ne.symm nr)), (e _ (Ne.symm n1)).trans g.h1, (e _ (Ne.symm n2)).trans g.h2⟩
theorem bok_built {rows : Board} {h w : Nat} (eh : rows.length = h) (h1 : 1 ≤ h) (h2 : h ≤ 4) (w1 : 1 ≤ w) (w2 : w ≤ 4) (hr : ∀ row ∈ rows, row.length = w ∧ CellsOk row) : BOk rows := by
  have ew : wid rows = w := by
    cases rows with
    | nil => simp at eh; omega
    | cons x t => exact (hr x (List.mem_cons_self ..)).1
  exact ⟨by omega, by omega, by omega, by omega, fun row h => by rw [ew]; exact (hr row h).1, fun row h p hp => (hr row h).2 p hp⟩
theorem c_boardL (T : Txt K mg C) (C_takenL : Cal P w K mg base CX0 1 "_law_taken" (sp_takenL K)) : Cal P w K mg base CX0 2 "_law_board" (sp_boardL K) := by
  refine cal0 T.d_boardL sc_boardL (fun _ _ _ _ _ _ us hl => match us, hl with | [_, _, _, _], _ => rfl) (by rintro vs H Q E ⟨r, S, ns, rfl, _⟩; rfl) (fun f cdv A outer s H vs Q E hr h => ?_)
  obtain ⟨r, S, ns, rfl, wr, q⟩ := h
  refine ⟨_, (pss_cons (ps_par3 (i := 5) (j := 6) (l := 7) rfl sc_boardL.nd rfl rfl rfl (by decide) (by decide) (by decide) rfl rfl rfl (pa_cons (pe_op op_add pe_int (pe_cal C_takenL hr (by decide) (by rfl) (pa_cons (pv 0) (pa_cons (pv 1) pa_nil)))) (pa_cons (pe_op op_add pe_int (pe_cal C_takenL hr (by decide) (by rfl) (pa_cons (pv 0) (pa_cons (pv 2) pa_nil)))) (pa_cons (pe_lst pa_nil) pa_nil))) (by rfl))
      (pss_cons (ps_par (i := 8) (j := 9) rfl sc_boardL.nd rfl rfl (by decide) rfl rfl (pa_cons (pe_op op_rep (pe_lst (pa_cons pe_int pa_nil)) (pv 5)) (pa_cons (pe_op op_rep (pe_lst (pa_cons pe_int pa_nil)) (pv 6)) pa_nil)) (by rfl))
      (pss_cons (ps_if (pt_cmpR op_gt (pe_cal C_takenL hr (by decide) (by rfl) (pa_cons (pv 0) (pa_cons pe_int pa_nil))) pe_int (by rfl)) (pss_cons (ps_setLc (i := 8) (own := [("_law_one", 4)]) rfl sc_boardL.nd rfl rfl (sw_true rfl rfl rfl (by decide +kernel)) (kpi_list (K := K) (pv 8)) (blkOk_by (N := ["_law_row", "_law_rows_here", "_law_columns_here", "_law_many", "_law_one", "_law_high", "_law_wide", "_law_found", "_law_first", "_law_second", "_law_told", "_law_at"]) (sc := defScope s_boardL) (by decide +kernel)) (fun _ _ _ _ _ => (pg_name (i := 4) sc_boardL.nd rfl (by first | exact .inl rfl | exact .inr rfl))) (fun _ _ _ _ _ => pts_nil) (fun _ _ _ _ _ => (pe_op op_mul pe_int (pe_cal C_takenL hr (by decide) (by rfl) (pa_cons (pv 0) (pa_cons pe_int pa_nil))))))
      (pss_one (ps_setLc (i := 9) (own := [("_law_one", 4)]) rfl sc_boardL.nd rfl rfl (sw_true rfl rfl rfl (by decide +kernel)) (kpi_list (K := K) (pv 9)) (blkOk_by (N := ["_law_row", "_law_rows_here", "_law_columns_here", "_law_many", "_law_one", "_law_high", "_law_wide", "_law_found", "_law_first", "_law_second", "_law_told", "_law_at"]) (sc := defScope s_boardL) (by decide +kernel)) (fun _ _ _ _ _ => (pg_name (i := 4) sc_boardL.nd rfl (by first | exact .inl rfl | exact .inr rfl))) (fun _ _ _ _ _ => pts_nil) (fun _ _ _ _ _ => (pe_op op_mul pe_int (pe_cal C_takenL hr (by decide) (by rfl) (pa_cons (pv 0) (pa_cons pe_int pa_nil)))))))) pss_nil)
      (pss_cons (ps_for PassesOwn.never rfl (pi_range1 (by rfl) T.f_range (pa_cons (pv 5) pa_nil)) (pg_name (i := 4) sc_boardL.nd rfl (by first | exact .inl rfl | exact .inr rfl)) (pss_cons (ps_set (i := 10) sc_boardL.nd rfl (by first | exact .inl rfl | exact .inr rfl) (pe_lst pa_nil))
      (pss_cons (ps_for PassesOwn.never rfl (pi_range1 (by rfl) T.f_range (pa_cons (pv 6) pa_nil)) (pg_name (i := 11) sc_boardL.nd rfl (by first | exact .inl rfl | exact .inr rfl)) (pss_one (ps_expr (kpe_bm (K := K) PySem.F.plainAttrs_list PySem.F.slot_list_append PySem.F.type_list_append mt_append (pv 10) (pa_cons (pe_tup (pa_cons (pe_op op_add (pe_ix (k_ixL (K := K)) (pv 8) (pv 4) (fun _ _ => rfl)) (pe_cal C_takenL hr (by decide) (by rfl) (pa_cons (pv 0) (pa_cons (pv 3) pa_nil)))) (pa_cons (pe_op op_sub (pe_op op_add (pe_ix (k_ixL (K := K)) (pv 9) (pv 11) (fun _ _ => rfl)) (pe_cal C_takenL hr (by decide) (by rfl) (pa_cons (pv 0) (pa_cons (pv 3) pa_nil)))) pe_int) pa_nil))) pa_nil)))))
      (pss_one (ps_expr (kpe_bm (K := K) PySem.F.plainAttrs_list PySem.F.slot_list_append PySem.F.type_list_append mt_append (pv 7) (pa_cons (kpe_tupleOf (K := K) (by rfl) T.f_tuple (pv 10)) pa_nil)))))))
      (pss_one (ps_ret (kpe_tupleOf (K := K) (by rfl) T.f_tuple (pv 7)))))))), ?_⟩
  dsimp only [tSeq, tPar3, tCons, tNil]
  refine w_add (x := 1) (many := 4) (ev_nat rfl) rfl wr (ev_var rfl rfl) (by decide) (by decide) fun t1 H1 ht1 b1 w1 => ?_
  refine w_add (x := 1) (many := 4) (ev_nat rfl) rfl w1 (ev_var rfl rfl) (by decide) (by decide) fun t2 H2 ht2 b2 w2 => ?_
  refine ⟨Nat.zero_le _, fun pf nf => ⟨_, _, _, rfl, ?_⟩⟩
  have b02 : SameB (M1 r) H H2 := b1.trans b2
  have nfr : pf ≠ r := by
    obtain ⟨l, hl⟩ := w2.there
    exact Ne.symm (ne_of_none hl nf)
  have nf0 : H pf = none := none_b b02 nf nfr
  have bX : SameB (M1 r) H (upd H2 pf (.lst [])) := sb_mut b02 nf0
  have wX : Rw K (upd H2 pf (.lst [])) r S ns := w2.same (same_new nf)
  have hfX : (upd H2 pf (.lst [])) pf = some (.lst []) := upd_same
  generalize (upd H2 pf (.lst [])) = H3 at bX wX hfX ⊢
  generalize eh : 1 + t1 = h
  generalize ew : 1 + t2 = wd
  have h1 : 1 ≤ h ∧ h ≤ 4 := by omega
  have h2 : 1 ≤ wd ∧ wd ≤ 4 := by omega
  refine q_par (x := Lst.mk (List.replicate h (0 : Nat))) (y := Lst.mk (List.replicate wd (0 : Nat))) (ev_rep0 (n := h) (ev_var rfl rfl) (by omega)) (ev_rep0 (n := wd) (ev_var rfl rfl) (by omega)) ?_
  rintro v1 v2 H4 s4 ⟨p1, l1, rfl, g1, g2⟩ ⟨p2, l2, rfl, g3, g4⟩
  rw [p_nats g2] at g1
  rw [p_nats g4] at g3
  clear g2 g4 l1 l2
  refine cutJ (Mid := fun σ' H' => ∃ c1 c2 p1 p2 a4, σ' = [some (.ref r), some (.int 4), some (.int 4), some (.int 4), a4, some (.int (h : Int)), some (.int (wd : Int)), some (.ref pf), some (.ref p1), some (.ref p2), none, none] ∧
    c1.length = h ∧ c2.length = wd ∧ (∀ m ∈ c1, m ≤ 6) ∧ (∀ m ∈ c2, m ≤ 6) ∧ Bld K r S ns H H' p1 p2 c1 c2 ∧ H' pf = some (.lst [])) (fun k => ?_) ?_
  · have G : Bld K r S ns H H4 p1 p2 (List.replicate h 0) (List.replicate wd 0) := ⟨bX.trans (same_b s4), wX.same s4, g1, g3⟩
    have hf4 := s4 _ _ hfX
    refine w_taken (many := 3) rfl G.rw (ev_nat rfl) (by decide) (by decide) fun t H5 ht b5 w5 => ⟨_, _, rfl, rfl, _, rfl, ?_⟩
    have G5 := G.go b5 w5
    have hf5 := b5 _ _ nfr hf4
    cases decide ((0 : Int) < (t : Int)) with
    | false =>
      refine iteF ?_
      exact k _ _ ⟨_, _, p1, p2, _, rfl, List.length_replicate .., List.length_replicate .., (fun m hm => by rw [(List.mem_replicate.mp hm).2]; exact Nat.zero_le _), (fun m hm => by rw [(List.mem_replicate.mp hm).2]; exact Nat.zero_le _), G5, hf5⟩
    | true =>
      refine iteT ?_
      refine q_lc_taken (kv := 4) (a := p1) rfl G5.h1 (by rw [List.length_map, List.length_map, List.length_replicate]; omega) (G5.rw.ne G5.h1) G5.rw (fun _ => by rfl) (fun _ => by rfl) fun q1 m1 H6 e1 l1 n1 b6 w6 hq1 => ?_
      have G6 := G5.go b6 w6
      have hf6 := b6 _ _ nfr hf5
      refine s_lc_taken (kv := 4) (a := p2) rfl G6.h2 (by rw [List.length_map, List.length_map, List.length_replicate]; omega) (G6.rw.ne G6.h2) G6.rw (fun _ => by rfl) (fun _ => by rfl) fun q2 m2 H7 e2 l2 n2 b7 w7 hq2 => ?_
      have G7 := G6.go b7 w7
      have hf7 := b7 _ _ nfr hf6
      rw [List.length_map, List.length_map, List.length_replicate] at e1 e2
      exact k _ _ ⟨m1, m2, q1, q2, _, rfl, e1, e2, l1, l2, ⟨G7.sb, G7.rw, b7 _ _ (w6.ne hq1) hq1, hq2⟩, hf7⟩
  · rintro σ' H' ⟨c1, c2, p1, p2, a4, rfl, e1, e2, l1, l2, G, hf⟩
    have nf1 : pf ≠ p1 := ne_of hf G.h1 (nats_ne (by omega)).symm
    have nf2 : pf ≠ p2 := ne_of hf G.h2 (nats_ne (by omega)).symm
    refine q_for (M := fun _ => True) (src_R1 (n := h) (ev_var rfl rfl) (by omega)) fun H5 s5 => ⟨fun i σ' H' => ∃ a4 a10 a11 fl rows, σ' = [some (.ref r), some (.int 4), some (.int 4), some (.int 4), a4, some (.int (h : Int)), some (.int (wd : Int)), some (.ref pf), some (.ref p1), some (.ref p2), a10, a11] ∧ Bld K r S ns H H' p1 p2 c1 c2 ∧
      H' pf = some (.lst fl) ∧ Paired (Dat.rep H') fl (rows : Board) ∧ rows.length = i ∧ ∀ row ∈ rows, row.length = wd ∧ CellsOk row, ⟨_, _, _, [], [], rfl, G.same s5, s5 _ _ hf, .nil, rfl, fun _ z => nomatch z⟩, fun _ _ _ _ _ _ n _ => absurd trivial n, ?_, ?_⟩
    · rintro i x hx σ' H6 ⟨a4, a10, a11, fl, rows, rfl, G6, hf6, pr6, er, hr⟩ v H7 s7 rv
      obtain ⟨hi, ex⟩ := List.getElem?_eq_some_iff.mp hx
      rw [List.getElem_range] at ex
      rw [List.length_range] at hi
      subst ex
      have ev : v = V.int (i : Int) := rv
      subst ev
      refine q_set_new fun pt nt => ?_
      have G7 := G6.same s7
      have hf7 := s7 _ _ hf6
      have pr7 := pmono s7 pr6
      have ntr : pt ≠ r := by
        obtain ⟨l, hl⟩ := G7.rw.there
        exact Ne.symm (ne_of_none hl nt)
      have nt0 : H pt = none := none_b G7.sb nt ntr
      have ntf : pt ≠ pf := Ne.symm (ne_of_none hf7 nt)
      have nt1 : pt ≠ p1 := Ne.symm (ne_of_none G7.h1 nt)
      have nt2 : pt ≠ p2 := Ne.symm (ne_of_none G7.h2 nt)
      have G8 := G7.same (same_new (o := .lst []) nt)
      have hf8 := same_new (o := .lst []) nt _ _ hf7
      have pr8 := pmono (same_new (o := .lst []) nt) pr7
      have ht8 : (upd H7 pt (.lst [])) pt = some (.lst []) := upd_same
      refine q_for (M := fun _ => True) (src_R1 (n := wd) (ev_var rfl rfl) (by omega)) fun H9 s9 => ⟨fun j σ' H' => ∃ a11 tl cs, σ' = [some (.ref r), some (.int 4), some (.int 4), some (.int 4), some (.int (i : Int)), some (.int (h : Int)), some (.int (wd : Int)), some (.ref pf), some (.ref p1), some (.ref p2), some (.ref pt), a11] ∧ Bld K r S ns H H' p1 p2 c1 c2 ∧
        H' pf = some (.lst fl) ∧ Paired (Dat.rep H') fl (rows : Board) ∧ H' pt = some (.lst tl) ∧ Paired (Dat.rep H') tl (cs : Row) ∧ cs.length = j ∧ CellsOk cs, ⟨_, [], [], rfl, G8.same s9, s9 _ _ hf8, pmono s9 pr8, s9 _ _ ht8, .nil, rfl, fun _ z => nomatch z⟩, fun _ _ _ _ _ _ n _ => absurd trivial n, ?_, ?_⟩
      · rintro j x hx σ' HA ⟨a11, tl, cs, rfl, GA, hfA, prA, htA, ptA, ec, hc⟩ v HB sB rv
        obtain ⟨hj, ex⟩ := List.getElem?_eq_some_iff.mp hx
        rw [List.getElem_range] at ex
        rw [List.length_range] at hj
        subst ex
        have ev : v = V.int (j : Int) := rv
        subst ev
        have GB := GA.same sB
        refine ⟨_, rfl, .inl ⟨rfl, _, SqL.of (sB _ _ htA)⟩, ?_⟩
        refine w_add (x := c1.getD i 0) (many := 4) (ev_ixL (xs := Lst.mk c1) (i := i) (ev_var rfl (rep_lst (α := Nat) GB.h1 (nats_p c1))) (ev_var rfl rfl) (getD_someN (by show i < c1.length; omega))) rfl GB.rw (ev_var rfl rfl) (by decide) (by decide) fun ta HC hta bC wC => ?_
        have GC := GB.go bC wC
        refine w_add (x := c2.getD j 0) (many := 4) (ev_ixL (xs := Lst.mk c2) (i := j) (ev_var rfl (rep_lst (α := Nat) GC.h2 (nats_p c2))) (ev_var rfl rfl) (getD_someN (by show j < c2.length; omega))) rfl GC.rw (ev_var rfl rfl) (by decide) (by decide) fun tb HD htb bD wD => ?_
        have GD := GC.go bD wD
        have tX : TupX HA HD := fun a vs e => (bC.trans bD) a _ (GB.rw.mok.nt (Same.refl _) (sB _ _ e)) (sB _ _ e)
        refine ⟨_, _, rfl, rfl, by show 2 ≤ sizeLine; decide, fun pp np => ⟨pt, tl, _, rfl, rfl, ?_, ?_, ?_⟩⟩
        · exact same_new np _ _ ((bC.trans bD) _ _ ntr (sB _ _ htA))
        · rw [p_len ptA]
          exact szl (by omega)
        · have htD := (bC.trans bD) _ _ ntr (sB _ _ htA)
          have hfD := (bC.trans bD) _ _ nfr (sB _ _ hfA)
          have GE := GD.same (same_new (o := .tup [.int ((c1.getD i 0 + ta : Nat) : Int), .int (((c2.getD j 0 + tb : Nat) : Int) - 1)]) np)
          have tU := tup_upd (o := .lst (tl ++ [.ref pp])) (same_new (o := .tup [.int ((c1.getD i 0 + ta : Nat) : Int), .int (((c2.getD j 0 + tb : Nat) : Int) - 1)]) np _ _ htD)
          have nn := small_in (getD_le l1 (i := i)) hta
          have nn2 := small_in (getD_le l2 (i := j)) htb
          refine ⟨_, tl ++ [.ref pp], cs ++ [(((c1.getD i 0 + ta : Nat) : Int), ((c2.getD j 0 + tb : Nat) : Int) - 1)], rfl, GE.upd wr nt0 ntr nt1 nt2, ?_, ptx tU (pmono (same_new np) (ptx tX prA)), upd_same, ?_, ?_, ?_⟩
          · rw [upd_ne (Ne.symm ntf)]
            exact same_new np _ _ hfD
          · refine p_app (ptx tU (pmono (same_new np) (ptx tX ptA))) (.cons ?_ .nil)
            exact ⟨pp, _, _, rfl, tU _ _ upd_same, rfl, rfl⟩
          · rw [List.length_append, ec]; rfl
          · intro c hcm
            rcases List.mem_append.mp hcm with z | z
            · exact hc c z
            · rw [List.mem_singleton] at z
              subst z
              exact ⟨nn.1, nn2.2⟩
      · rintro σ' HA ⟨a11, tl, cs, rfl, GA, hfA, prA, htA, ptA, ec, hc⟩
        rw [List.length_range] at ec
        refine s_app (x := cs) rfl hfA (ev_tupleOf (xs := Lst.mk cs) (ev_var rfl (rep_lst htA ptA))) (by rw [p_len prA]; omega) fun v HB sB rv => ?_
        have GB := GA.same sB
        have tU := tup_upd (o := .lst (fl ++ [v])) (sB _ _ hfA)
        refine ⟨_, _, _, fl ++ [v], rows ++ [cs], rfl, GB.upd wr nf0 nfr nf1 nf2, upd_same, p_app (ptx tU (pmono sB prA)) (.cons (DatT.tx tU rv) .nil), ?_, ?_⟩
        · rw [List.length_append, er]; rfl
        · intro row hrow
          rcases List.mem_append.mp hrow with z | z
          · exact hr row z
          · rw [List.mem_singleton] at z
            subst z
            exact ⟨ec, hc⟩
    · rintro σ' H6 ⟨a4, a10, a11, fl, rows, rfl, G6, hf6, pr6, er, hr⟩
      rw [List.length_range] at er
      refine s_ret (x := rows) (ev_tupleOf (xs := Lst.mk rows) (ev_var rfl (rep_lst hf6 pr6))) fun v H7 s7 rv => q rows v H7 (bok_built er h1.1 h1.2 h2.1 h2.2 hr) (G6.sb.trans (same_b s7)) (G6.rw.same s7) rv
end
end SB
namespace SB
open PySem PySem.Spec PyProof.Rows L2 RZ StX
local macro_rules | `(tactic| walk_at "rp") => `(tactic| first | assumption | rfl | (refine Dat.mono (by assumption) ?_; walk_at "rp"))
section
variable {α β : Type} [Dat α] [Dat β] {σ : L2.St} {H : Hp} {ta tb : TE} {D : Ends}
theorem s_par {i j : Nat} {x : α} {y : β} (ha : Ev ta σ H x) (hb : Ev tb σ H y) (k : ∀ v w H1, Same H H1 → Dat.rep H1 v x → Dat.rep H1 w y → D.nx ((σ.set i (some v)).set j (some w)) H1) : tPar i j (tCons ta (tCons tb tNil)) D σ H :=
  ha H (Same.refl H) _ fun v H1 s1 r1 => hb H1 s1 _ fun w H2 s2 r2 => ⟨v, w, rfl, k v w H2 (s1.trans s2) (Dat.mono s2 r1) r2⟩
end
theorem readys_small {B : Board} (b : BOk B) (lot : List Nat) : (readys B lot).length ≤ 12 := by
  have h1 := rows_small b lot
  have h2 := cols_small b lot
  have h3 := List.length_filter_le (fun l => !decide (overs B lot l = [])) (rowsLeft B lot ++ colsLeft B lot)
  rw [List.length_append] at h3
  unfold readys
  omega
/-- what is found stands: a row is left, and a column -/
theorem lot_found {B : Board} {fd : List Nat} (up : fd.Pairwise (· < ·)) (lt : ∀ x ∈ fd, x < nLines B) (h1 : (fd.filter (fun x => decide (x < B.length))).length ≠ B.length) (h2 : fd.length - (fd.filter (fun x => decide (x < B.length))).length ≠ wid B) : LotOk B fd := by
  have e0 : (fd.filter (fun x => decide (x < B.length))).length + (fd.filter (fun x => !decide (x < B.length))).length = fd.length := by
    clear up lt h1 h2
    induction fd with
    | nil => rfl
    | cons a r ih =>
      by_cases q : a < B.length
      · simp only [List.filter_cons, decide_eq_true q, Bool.not_true, Bool.false_eq_true, if_true, if_false, List.length_cons]
        omega
      · simp only [List.filter_cons, decide_eq_false q, Bool.not_false, Bool.false_eq_true, if_true, if_false, List.length_cons]
        omega
  refine ⟨up, lt, ?_, ?_⟩
  · refine Classical.byContradiction fun z => h1 ?_
    have hall : ∀ r, r < B.length → r ∈ fd := fun r hr => Classical.byContradiction fun n => z ⟨r, hr, n⟩
    have e : fd.filter (fun x => decide (x < B.length)) = List.range B.length := by
      refine ssorted_ext (up.sublist List.filter_sublist) (range_lt _) fun x => ?_
      rw [List.mem_filter, List.mem_range, decide_eq_true_eq]
      exact ⟨fun h => h.2, fun h => ⟨hall x h, h⟩⟩
    rw [e, List.length_range]
  · refine Classical.byContradiction fun z => h2 ?_
    have hall : ∀ c, B.length ≤ c → c < nLines B → c ∈ fd := fun c hc hc2 => Classical.byContradiction fun n => z ⟨c, hc, hc2, n⟩
    have e : fd.filter (fun x => !decide (x < B.length)) = List.range' B.length (wid B) := by
      refine ssorted_ext (up.sublist List.filter_sublist) (List.pairwise_lt_range' (s := B.length) (n := wid B)) fun x => ?_
      simp only [List.mem_filter, List.mem_range'_1, Bool.not_eq_true', decide_eq_false_iff_not]
      constructor
      · rintro ⟨h, h'⟩
        have := lt x h
        unfold nLines at this
        exact ⟨by omega, this⟩
      · rintro ⟨h, h'⟩
        exact ⟨hall x h h', by omega⟩
    have e2 := congrArg List.length e
    rw [List.length_range'] at e2
    omega
def sp_drawnL (K : PySem.W.Frag) : Sp := fun vs H Q _ => ∃ r S ns v1 B v2, ∃ many : Nat, vs = [.ref r, v1, v2] ∧ Rw K H r S ns ∧ Dat.rep H v1 B ∧ Dat.rep H v2 many ∧ BOk B ∧ many ≤ 10 ∧
  ∀ (fd lot : List Nat) v H', Comes B lot → SameB (M1 r) H H' → Rw K H' r S ns → Dat.rep H' v (fd, lot) → Q v H'
def sp_lotL (K : PySem.W.Frag) : Sp := fun vs H Q _ => ∃ r S ns v1 B, vs = [.ref r, v1] ∧ Rw K H r S ns ∧ Dat.rep H v1 B ∧ BOk B ∧
  ∀ (lot : List Nat) v H', LotOk B lot → SameB (M1 r) H H' → Rw K H' r S ns → Dat.rep H' v lot → Q v H'
section
variable {P : Program} {w : World} {K : PySem.W.Frag} {mg : Str → Option Value} {base : Heap} {C : Addr}
theorem c_drawnL (T : Txt K mg C) (C_readyL : Cal P w K mg base CX0 4 "_law_ready" sp_readyL) (C_pickL : Cal P w K mg base CX0 2 "_law_pick" (sp_pickL K)) (C_withL : Cal P w K mg base CX0 1 "_law_with" sp_withL) : Cal P w K mg base CX0 5 "_law_drawn" (sp_drawnL K) := by
  refine cal0 T.d_drawnL sc_drawnL (fun _ _ _ _ _ _ us hl => match us, hl with | [_, _, _], _ => rfl) (by rintro vs H Q E ⟨r, S, ns, v1, B, v2, many, rfl, _⟩; rfl) (fun f cdv A outer s H vs Q E hr h => ?_)
  obtain ⟨r, S, ns, v1, B, v2, many, rfl, wr, r1, r2, b, hm, q⟩ := h
  refine ⟨_, (pss_cons (ps_asg (pe_tup (pa_cons (pe_tup pa_nil) (pa_cons (pe_tup pa_nil) pa_nil))) (kpg_tup (K := K) (n := 2) (pgs_cons (pg_name (i := 4) sc_drawnL.nd rfl (by first | exact .inl rfl | exact .inr rfl)) (pgs_cons (pg_name (i := 5) sc_drawnL.nd rfl (by first | exact .inl rfl | exact .inr rfl)) pgs_nil))))
      (pss_cons (ps_for PassesOwn.never rfl (pi_range1 (by rfl) T.f_range (pa_cons (pv 2) pa_nil)) (pg_name (i := 3) sc_drawnL.nd rfl (by first | exact .inl rfl | exact .inr rfl)) (pss_cons (ps_set (i := 6) sc_drawnL.nd rfl (by first | exact .inl rfl | exact .inr rfl) (pe_cal C_readyL hr (by decide) (by rfl) (pa_cons (pv 1) (pa_cons (pv 4) pa_nil))))
      (pss_one (ps_if (pt_cmpR (k_neD (K := K) hr.units) (pv 6) (pe_lst pa_nil) (by rfl)) (pss_cons (ps_set (i := 7) sc_drawnL.nd rfl (by first | exact .inl rfl | exact .inr rfl) (pe_cal C_pickL hr (by decide) (by rfl) (pa_cons (pv 0) (pa_cons (pv 6) pa_nil))))
      (pss_one (ps_par (i := 4) (j := 5) rfl sc_drawnL.nd rfl rfl (by decide) rfl rfl (pa_cons (pe_cal C_withL hr (by decide) (by rfl) (pa_cons (pv 4) (pa_cons (pv 7) pa_nil))) (pa_cons (pe_op (k_cat (K := K)) (pv 5) (pe_tup (pa_cons (pv 7) pa_nil))) pa_nil)) (by rfl)))) pss_nil))))
      (pss_one (ps_ret (pe_tup (pa_cons (pv 5) (pa_cons (pv 4) pa_nil))))))), ?_⟩
  have h1 := b.r6
  refine q_set2 (x := ([] : List Nat)) (y := ([] : List Nat)) (ev_pair (ev_tup eva_nil (by decide)) (ev_tup eva_nil (by decide))) fun u1 u2 H1 s1 r3 r4 => ?_
  refine q_for (M := M1 r) (src_R1 (n := many) (ev_var rfl (by walk_at "rp")) (by omega)) fun H2 s2 => ⟨fun i σ' H' => (∃ vl vf lot fd a3 a6 a7, σ' = [some (.ref r), some v1, some v2, a3, some vl, some vf, a6, a7] ∧ Dat.rep H' vl lot ∧ Dat.rep H' vf fd ∧ Comes B lot ∧ (fd : List Nat).length ≤ i) ∧ SameB (M1 r) H2 H' ∧ Rw K H' r S ns,
    ⟨⟨_, _, [], [], _, _, _, rfl, Dat.mono s2 r3, Dat.mono s2 r4, .nil, Nat.le_refl _⟩, SameB.refl _, wr.same (s1.trans s2)⟩, fun i σ' H' h => h.2.1, ?_, ?_⟩
  · rintro i x hx σ' H3 ⟨⟨vl, vf, lot, fd, a3, a6, a7, rfl, rl, rf, hc, hf⟩, b3, w3⟩ v H4 s4 rv
    have hi : i < many := by
      have := (List.getElem?_eq_some_iff.mp hx).1
      rw [List.length_range] at this
      exact this
    have lo := comes_ok b hc
    have hl := lot_small b lo
    have w2 := wr.same (s1.trans s2)
    have r1' : Dat.rep H4 v1 B := Dat.mono s4 (DatT.tx (w2.tx b3) (Dat.mono (s1.trans s2) r1))
    refine q_set (x := Lst.mk (readys B lot)) (ev_call2 (x := B) (y := lot) (ev_var rfl (by walk_at "rp")) (ev_var rfl (by walk_at "rp")) b) fun vs H5 s5 r5 => ?_
    refine s_if (evt_of (ev_neNil (xs := Lst.mk (readys B lot)) (ev_var rfl (by walk_at "rp")))) (fun e H6 s6 => ?_) (fun e H6 s6 => ?_)
    · have hne : readys B lot ≠ [] := by
        have := e
        simpa using this
      have w6 := w3.same (s4.trans (s5.trans s6))
      have rl6 := Dat.mono (s4.trans (s5.trans s6)) rl
      have rf6 := Dat.mono (s4.trans (s5.trans s6)) rf
      refine w_pick (xs := readys B lot) rfl w6 (ev_var rfl (Dat.mono s6 r5)) hne (by have := readys_small b lot; omega) fun x hx H7 b7 w7 => ?_
      obtain ⟨⟨hx1, hx2⟩, hx3⟩ := mem_readys.mp hx
      have rl7 : Dat.rep H7 vl lot := DatT.tx (w6.tx b7) rl6
      have rf7 : Dat.rep H7 vf fd := DatT.tx (w6.tx b7) rf6
      refine s_par (x := withLn lot x) (y := fd ++ [x]) (ev_call2 (x := lot) (y := x) (ev_var rfl (by walk_at "rp")) (ev_var rfl rfl) (by omega)) (ev_catT (xs := fd) (ys := [x]) (ev_var rfl (by walk_at "rp")) (ev_tup (eva_cons (ev_var rfl rfl) eva_nil) (by show 1 ≤ 100000; decide)) (by show _ + 1 ≤ _; omega)) fun y1 y2 H8 s8 q1 q2 => ?_
      exact ⟨⟨_, _, _, _, _, _, _, rfl, q1, q2, .step hc hx2 hx1 hx3, by rw [List.length_append]; show _ + 1 ≤ _; omega⟩, (b3.trans (same_b (s4.trans (s5.trans s6)))).trans (b7.trans (same_b s8)), w7.same s8⟩
    · exact ⟨⟨_, _, _, _, _, _, _, rfl, Dat.mono (s4.trans (s5.trans s6)) rl, Dat.mono (s4.trans (s5.trans s6)) rf, hc, by omega⟩, b3.trans (same_b (s4.trans (s5.trans s6))), w3.same (s4.trans (s5.trans s6))⟩
  · rintro σ' H3 ⟨⟨vl, vf, lot, fd, a3, a6, a7, rfl, rl, rf, hc, hf⟩, b3, w3⟩
    exact s_ret (x := (fd, lot)) (ev_pair (ev_var rfl (by walk_at "rp")) (ev_var rfl (by walk_at "rp"))) fun v H4 s4 r => q fd lot v H4 hc ((same_b (s1.trans s2)).trans (b3.trans (same_b s4))) (w3.same s4) r
theorem c_lotL (T : Txt K mg C) (C_takenL : Cal P w K mg base CX0 1 "_law_taken" (sp_takenL K)) (C_drawnL : Cal P w K mg base CX0 5 "_law_drawn" (sp_drawnL K)) : Cal P w K mg base CX0 6 "_law_lot" (sp_lotL K) := by
  refine cal0 T.d_lotL sc_lotL (fun _ _ _ _ _ _ us hl => match us, hl with | [_, _], _ => rfl) (by rintro vs H Q E ⟨r, S, ns, v1, B, rfl, _⟩; rfl) (fun f cdv A outer s H vs Q E hr h => ?_)
  obtain ⟨r, S, ns, v1, B, rfl, wr, r1, b, q⟩ := h
  refine ⟨_, (pss_cons (ps_if (pt_cmpR op_eq (pe_cal C_takenL hr (by decide) (by rfl) (pa_cons (pv 0) (pa_cons pe_int pa_nil))) pe_int (by rfl)) (pss_one (ps_ret (pe_ix (k_ixT (K := K)) (pe_cal C_drawnL hr (by decide) (by rfl) (pa_cons (pv 0) (pa_cons (pv 1) (pa_cons (pe_cal C_takenL hr (by decide) (by rfl) (pa_cons (pv 0) (pa_cons pe_int pa_nil))) pa_nil)))) pe_int (fun _ _ => rfl)))) pss_nil)
      (pss_cons (ps_asg (pe_tup (pa_cons (pe_callB (k_len (K := K)) (by rfl) T.f_len boot_len (pa_cons (pv 1) pa_nil)) (pa_cons (pe_callB (k_len (K := K)) (by rfl) T.f_len boot_len (pa_cons (pe_ix (k_ixT (K := K)) (pv 1) pe_int (fun _ _ => rfl)) pa_nil)) (pa_cons (pe_tup pa_nil) pa_nil)))) (kpg_tup (K := K) (n := 3) (pgs_cons (pg_name (i := 4) sc_lotL.nd rfl (by first | exact .inl rfl | exact .inr rfl)) (pgs_cons (pg_name (i := 5) sc_lotL.nd rfl (by first | exact .inl rfl | exact .inr rfl)) (pgs_cons (pg_name (i := 6) sc_lotL.nd rfl (by first | exact .inl rfl | exact .inr rfl)) pgs_nil)))))
      (pss_cons (ps_for PassesOwn.never rfl (pi_range1 (by rfl) T.f_range (pa_cons (pe_op op_add (pv 4) (pv 5)) pa_nil)) (pg_name (i := 2) sc_lotL.nd rfl (by first | exact .inl rfl | exact .inr rfl)) (pss_one (ps_if (pt_cmpR op_eq (pe_cal C_takenL hr (by decide) (by rfl) (pa_cons (pv 0) (pa_cons pe_int pa_nil))) pe_int (by rfl)) (pss_one (ps_set (i := 6) sc_lotL.nd rfl (by first | exact .inl rfl | exact .inr rfl) (pe_op (k_cat (K := K)) (pv 6) (pe_tup (pa_cons (pv 2) pa_nil))))) pss_nil)))
      (pss_cons (ps_setLc (i := 3) (own := [("_law_line", 2)]) rfl sc_lotL.nd rfl rfl (sw_true rfl rfl rfl (by decide +kernel)) (kpi_tup (K := K) (pv 6)) (blkOk_by (N := ["_law_row", "_law_board_here", "_law_line", "_law_rows_here", "_law_high", "_law_wide", "_law_found"]) (sc := defScope s_lotL) (by decide +kernel)) (fun _ _ _ _ _ => (pg_name (i := 2) sc_lotL.nd rfl (by first | exact .inl rfl | exact .inr rfl))) (fun _ _ _ _ _ => pts_one (pt_cmpR op_lt (pv 2) (pv 4) (by rfl))) (fun _ _ _ _ _ => (pv 2)))
      (pss_cons (ps_if (PW.pt (pw_or (pt_cmpR op_eq (pe_callB (k_len (K := K)) (by rfl) T.f_len boot_len (pa_cons (pv 3) pa_nil)) (pv 4) (by rfl)) (pw_or1 (pt_cmpR op_eq (pe_op op_sub (pe_callB (k_len (K := K)) (by rfl) T.f_len boot_len (pa_cons (pv 6) pa_nil)) (pe_callB (k_len (K := K)) (by rfl) T.f_len boot_len (pa_cons (pv 3) pa_nil))) (pv 5) (by rfl))))) (pss_one (ps_ret (pe_tup pa_nil))) pss_nil)
      (pss_one (ps_ret (pv 6)))))))), ?_⟩
  have g1 := b.r6
  have g2 := b.c6
  have g3 : nLines B = B.length + wid B := rfl
  refine w_taken (many := 2) rfl wr (ev_nat rfl) (by decide) (by decide) fun t H1 ht b1 w1 => ⟨rfl, _, rfl, ?_⟩
  have r1' : Dat.rep H1 v1 B := DatT.tx (wr.tx b1) r1
  cases decide (V.int (t : Int) = V.int 0) with
  | true =>
    refine iteT ?_
    refine ⟨.ref r, rfl, v1, rfl, ?_⟩
    refine w_taken (many := 6) rfl w1 (ev_nat rfl) (by decide) (by decide) fun t2 H2 ht2 b2 w2 => ⟨r, S, ns, v1, B, _, t2, rfl, w2, DatT.tx (w1.tx b2) r1', rfl, b, by omega, fun fd lot v H3 hc b3 w3 r3 => ?_⟩
    exact ev_snd (K := K) (p := (fd, lot)) (ta := fun _ H Q => Q v H) (σ := []) (H := H3) (fun H4 s4 Q4 q4 => q4 v H4 (Same.refl _) (Dat.mono s4 r3)) H3 (Same.refl _) Q fun u H4 s4 r4 => q lot u H4 (comes_ok b hc) (b1.trans (b2.trans (b3.trans (same_b s4)))) (w3.same s4) r4
  | false =>
    refine iteF ?_
    refine q_set3 (x := B.length) (y := wid B) (z := ([] : List Nat)) (ek_lenT (xs := B) (ev_var rfl (by walk_at "rp"))) (ek_lenT (xs := B.headD []) (ev_ixT (xs := B) (i := 0) (ev_var rfl (by walk_at "rp")) (ev_nat rfl) (bok_head b))) (ev_tup eva_nil (by decide)) fun vh vw vz H2 s2 rh rw rz => ?_
    refine q_for (M := M1 r) (src_R1 (n := B.length + wid B) (ev_addN (ev_var rfl (by walk_at "rp")) (ev_var rfl (by walk_at "rp"))) (by omega)) fun H3 s3 => ⟨fun i σ' H' => (∃ vf fd a2, σ' = [some (.ref r), some v1, a2, none, some vh, some vw, some vf] ∧ Dat.rep H' vf fd ∧ (fd : List Nat).Pairwise (· < ·) ∧ (∀ x ∈ fd, x < i) ∧ fd.length ≤ i) ∧ SameB (M1 r) H3 H' ∧ Rw K H' r S ns,
      ⟨⟨_, [], _, rfl, Dat.mono s3 rz, .nil, (fun _ z => nomatch z), Nat.le_refl _⟩, SameB.refl _, w1.same (s2.trans s3)⟩, fun i σ' H' h => h.2.1, ?_, ?_⟩
    · rintro i x hx σ' H4 ⟨⟨vf, fd, a2, rfl, rf, up, lt, hl⟩, b4, w4⟩ v H5 s5 rv
      obtain ⟨hi, ex⟩ := List.getElem?_eq_some_iff.mp hx
      rw [List.getElem_range] at ex
      rw [List.length_range] at hi
      subst ex
      have w5 := w4.same s5
      refine w_taken (many := 3) rfl w5 (ev_nat rfl) (by decide) (by decide) fun t3 H6 ht3 b6 w6 => ⟨rfl, _, rfl, ?_⟩
      have rf6 : Dat.rep H6 vf fd := DatT.tx (w5.tx b6) (Dat.mono s5 rf)
      have rv6 : Dat.rep H6 v i := rv
      cases decide (V.int (t3 : Int) = V.int 0) with
      | true =>
        refine iteT ?_
        refine s_set (x := fd ++ [i]) (ev_catT (xs := fd) (ys := [i]) (ev_var rfl (by walk_at "rp")) (ev_tup (eva_cons (ev_var rfl (by walk_at "rp")) eva_nil) (by show 1 ≤ 100000; decide)) (by show _ + 1 ≤ _; omega)) fun vf' H7 s7 r7 => ?_
        refine ⟨⟨_, fd ++ [i], _, rfl, r7, ?_, ?_, by rw [List.length_append]; show _ + 1 ≤ _; omega⟩, b4.trans ((same_b s5).trans (b6.trans (same_b s7))), w6.same s7⟩
        · rw [List.pairwise_append]
          refine ⟨up, List.pairwise_singleton .., fun a ha c hc => ?_⟩
          rw [List.mem_singleton] at hc
          have := lt a ha
          omega
        · intro z hz
          rcases List.mem_append.mp hz with h | h
          · have := lt z h; omega
          · rw [List.mem_singleton] at h; omega
      | false =>
        refine iteF ?_
        exact ⟨⟨_, fd, _, rfl, rf6, up, fun z hz => by have := lt z hz; omega, by omega⟩, b4.trans ((same_b s5).trans b6), w6⟩
    · rintro σ' H4 ⟨⟨vf, fd, a2, rfl, rf, up, lt, hl⟩, b4, w4⟩
      rw [List.length_range] at lt hl
      have rh4 : Dat.rep H4 vh B.length := rh
      have rw4 : Dat.rep H4 vw (wid B) := rw
      have hle := List.length_filter_le (fun x => decide (x < B.length)) fd
      have b04 : SameB (M1 r) H H4 := b1.trans ((same_b (s2.trans s3)).trans b4)
      refine q_set (x := Lst.mk (fd.filter (fun x => decide (x < B.length)))) (ev_lc1f (fun x => decide (x < B.length)) (src_T (xs := fd) (ev_var rfl (by walk_at "rp")) m0_ok) (by omega) (fun _ => rfl) (fun x hx v H5 s5 rv => evt_of (ev_ltN (a := x) (b := B.length) (ev_var rfl (by walk_at "rp")) (ev_var rfl (by walk_at "rp")))) (fun _ => rfl)) fun vr H5 s5 r5 => ?_
      refine q_ifn (evt_or (evt_of (ev_eqN (a := (fd.filter (fun x => decide (x < B.length))).length) (b := B.length) (ek_lenL (xs := Lst.mk (fd.filter (fun x => decide (x < B.length)))) (ev_var rfl (by walk_at "rp"))) (ev_var rfl (by walk_at "rp")))) fun _ => evt_of (ev_eqN (b := wid B) (ev_subN hle (ek_lenT (xs := fd) (ev_var rfl (by walk_at "rp"))) (ek_lenL (xs := Lst.mk (fd.filter (fun x => decide (x < B.length)))) (ev_var rfl (by walk_at "rp")))) (ev_var rfl (by walk_at "rp")))) (fun e H6 s6 => ?_) (fun e H6 s6 => ?_)
      · exact s_ret (x := ([] : List Nat)) (ev_tup eva_nil (by decide)) fun v H7 s7 r => q [] v H7 (comes_ok b .nil) (b04.trans (same_b (s5.trans (s6.trans s7)))) (w4.same (s5.trans (s6.trans s7))) r
      · refine s_ret (x := fd) (ev_var rfl (by walk_at "rp")) fun v H7 s7 r => q fd v H7 ?_ (b04.trans (same_b (s5.trans (s6.trans s7)))) (w4.same (s5.trans (s6.trans s7))) r
        have e' := Bool.or_eq_false_iff.mp e
        exact lot_found up lt (of_decide_eq_false e'.1) (of_decide_eq_false e'.2)
end
end SB
namespace SB
open PySem PySem.Spec PyProof.Rows L2 RZ StX
local macro_rules | `(tactic| walk_at "rp") => `(tactic| first | assumption | rfl | (refine Dat.mono (by assumption) ?_; walk_at "rp"))
/-! ### the law's ways and the program's -/
theorem cols_up {B : Board} {lot : List Nat} : (colsLeft B lot).Pairwise (· < ·) := (List.pairwise_lt_range' (s := B.length) (n := wid B)).sublist List.filter_sublist
theorem side_up {B : Board} {lot : List Nat} {x : Nat} : (sideOf B lot x).Pairwise (· < ·) := by
  unfold sideOf
  split
  · exact rows_up
  · exact cols_up
def mates (B : Board) (lot : List Nat) (x : Nat) : List Nat := (sideOf B lot x).filter (fun o => !decide (o = x))
theorem others_eq {B : Board} {lot : List Nat} {x : Nat} (hx : x < nLines B) : others B lot x = mates B lot x := by
  unfold others mates linesOf
  refine ssorted_ext ((range_lt _).sublist List.filter_sublist) (side_up.sublist List.filter_sublist) fun y => ?_
  rw [List.mem_filter, List.mem_filter, mem_side hx, List.mem_range, Bool.and_eq_true, mem_outs, List.mem_append, List.mem_singleton]
  simp only [Bool.not_eq_true', decide_eq_false_iff_not, not_or]
  constructor
  · rintro ⟨h1, ⟨h2, h3⟩, h4⟩
    exact ⟨⟨⟨h1, h4⟩, h2⟩, h3⟩
  · rintro ⟨⟨⟨h1, h4⟩, h2⟩, h3⟩
    exact ⟨h1, ⟨h2, h3⟩, h4⟩
theorem zip_range {own told : List Int} (h : told.length = own.length) : own.zip told = (List.range own.length).map (fun i => (own.getD i 0, told.getD i 0)) := by
  refine List.ext_getElem (by rw [List.length_zip, List.length_map, List.length_range]; omega) fun i h1 h2 => ?_
  rw [List.length_map, List.length_range] at h2
  rw [List.getElem_zip, List.getElem_map, List.getElem_range]
  have e1 : own.getD i 0 = own[i] := by rw [List.getD_eq_getElem?_getD, List.getElem?_eq_getElem h2]; rfl
  have e2 : told.getD i 0 = told[i]'(by omega) := by rw [List.getD_eq_getElem?_getD, List.getElem?_eq_getElem (by omega)]; rfl
  rw [e1, e2]
theorem fall_eq {B : Board} {lot : List Nat} {x o : Nat} (h : sameSide B x o = true) : fallCnt B lot x o = (lows (nums B lot x) (nums B lot o)).length := by
  unfold fallCnt lows
  rw [zip_range (nums_len_eq h), List.filter_map, List.length_map]
  rfl
theorem mates_side {B : Board} {lot : List Nat} {x o : Nat} (hx : x < nLines B) (h : o ∈ mates B lot x) : o < nLines B ∧ sameSide B x o = true ∧ o ∉ lot := by
  have h1 := (mem_side hx).mp (List.mem_filter.mp h).1
  exact ⟨h1.1.1, h1.1.2, h1.2⟩
def cnts (B : Board) (lot : List Nat) (x : Nat) (l : List Nat) : List Int := l.map fun o => ((lows (nums B lot x) (nums B lot o)).length : Int)
theorem ftf_eq {B : Board} {lot : List Nat} {x : Nat} (hx : x < nLines B) : ftf B lot x = minI (cnts B lot x (mates B lot x)) := by
  unfold ftf cnts
  rw [others_eq hx]
  congr 1
  refine List.map_congr_left fun o ho => ?_
  rw [fall_eq (mates_side hx ho).2.1]
def leads (own told : List Int) : List Int := (List.range own.length).map fun i => told.getD i 0 - own.getD i 0
theorem lead_eq {B : Board} {lot : List Nat} {x y : Nat} (h : sameSide B x y = true) : leadV B lot x y = minI (leads (nums B lot x) (nums B lot y)) := by
  unfold leadV leads
  rw [zip_range (nums_len_eq h), List.map_map]
  rfl
theorem withPl_eq (B : Board) (i j : Nat) (p : Cell) : (B.take i ++ [((B.getD i []).take j ++ [p]) ++ (B.getD i []).drop (j + 1)]) ++ B.drop (i + 1) = withPl B i j p := by
  unfold withPl
  simp
theorem nil_all {l : List Nat} {p : Nat → Bool} : decide (l.filter p = []) = l.all (fun x => !p x) := by
  rw [show l.all (fun x => !p x) = !l.any p by rw [List.not_any_eq_all_not], filter_any, Bool.not_not]
theorem unlike_eq (B : Board) (lot : List Nat) : (unlike B lot == decide ((rowsLeft B lot).filter (dup B lot) ++ (colsLeft B lot).filter (dup B lot) = [])) = true := by
  rw [← List.filter_append, nil_all]
  exact beq_self_eq_true _
theorem lot_both {B : Board} {lot : List Nat} {x : Nat} (h : x ∈ rowsLeft B lot ++ colsLeft B lot) : x ∉ lot := by
  rcases List.mem_append.mp h with h | h
  · exact (mem_rows.mp h).2
  · exact (mem_cols.mp h).2
theorem both_ne {B : Board} {lot : List Nat} (lo : LotOk B lot) : rowsLeft B lot ++ colsLeft B lot ≠ [] := by
  obtain ⟨r, h1, h2⟩ := lo.row
  exact List.ne_nil_of_mem (List.mem_append.mpr (.inl (mem_rows.mpr ⟨h1, h2⟩)))
theorem mates_small {B : Board} (b : BOk B) (lot : List Nat) (x : Nat) : (mates B lot x).length ≤ 6 := Nat.le_trans (List.length_filter_le _ _) (side_small b lot x)
/-! ### what stands while the law goes on -/
structure Fx (K : PySem.W.Frag) (r S : Addr) (ns : List Int) (B : Board) (lot : List Nat) (vB vl : V) (ar ac : Addr) (H : Hp) : Prop where
  rw : Rw K H r S ns
  rB : Dat.rep H vB B
  rl : Dat.rep H vl lot
  hr : H ar = some (.lst (((rowsLeft B lot).map Int.ofNat).map V.int))
  hc : H ac = some (.lst (((colsLeft B lot).map Int.ofNat).map V.int))
section
variable {K : PySem.W.Frag} {r S : Addr} {ns : List Int} {B : Board} {lot : List Nat} {vB vl : V} {ar ac : Addr} {H H' : Hp}
theorem Fx.go (F : Fx K r S ns B lot vB vl ar ac H) (s : SameB (M1 r) H H') (w : Rw K H' r S ns) : Fx K r S ns B lot vB vl ar ac H' :=
  ⟨w, DatT.tx (F.rw.tx s) F.rB, DatT.tx (F.rw.tx s) F.rl, s _ _ (F.rw.ne F.hr) F.hr, s _ _ (F.rw.ne F.hc) F.hc⟩
theorem Fx.same (F : Fx K r S ns B lot vB vl ar ac H) (s : Same H H') : Fx K r S ns B lot vB vl ar ac H' := F.go (same_b s) (F.rw.same s)
theorem Fx.rr (F : Fx K r S ns B lot vB vl ar ac H) : Dat.rep H (.ref ar) (Lst.mk (rowsLeft B lot)) := rep_lst (α := Nat) F.hr (nats_p _)
theorem Fx.rc (F : Fx K r S ns B lot vB vl ar ac H) : Dat.rep H (.ref ac) (Lst.mk (colsLeft B lot)) := rep_lst (α := Nat) F.hc (nats_p _)
end
section
variable {σ : L2.St} {H : Hp} {ta tb : TE} {E : XK}
theorem ev_alikeLI {a b : Int} (ha : Ev ta σ H a) (hb : Ev tb σ H b) : Ev (tCall sp_alikeL [] E (tCons ta (tCons tb tNil))) σ H (decide (a = b)) := fun H0 s0 Q q =>
  ha H0 s0 _ fun v H1 s1 r1 => hb H1 (s0.trans s1) _ fun w H2 s2 r2 => .inl ⟨v, a, w, b, rfl, Dat.mono s2 r1, r2, trivial, fun v' H' s r => q v' H' ((s1.trans s2).trans s) r⟩
theorem ev_alikeLD {a b : Duo} (ha : Ev ta σ H a) (hb : Ev tb σ H b) (p : a.l.length ≤ 1000 ∧ b.l.length ≤ 1000) : Ev (tCall sp_alikeL [] E (tCons ta (tCons tb tNil))) σ H (decide (a.n = b.n) && decide (a.l = b.l)) := fun H0 s0 Q q =>
  ha H0 s0 _ fun v H1 s1 r1 => hb H1 (s0.trans s1) _ fun w H2 s2 r2 => .inr ⟨v, a, w, b, rfl, Dat.mono s2 r1, r2, p, fun v' H' s r => q v' H' ((s1.trans s2).trans s) r⟩
end
end SB
namespace SB
open PySem PySem.Spec PyProof.Rows L2 RZ StX
local macro_rules | `(tactic| walk_at "rp") => `(tactic| first | assumption | rfl | (refine Dat.mono (by assumption) ?_; walk_at "rp"))
/-! ### the two tries -/
def ts_alone : Addr → Value → Option Addr → TS := fun _ _ _ => tAsg (tC (.str "alone")) (gName 17)
def t_try1 (K : PySem.W.Frag) (C : Addr) : TS := fun D σ H =>
  tSeq (tAsg (tLst tNil) (gName 18))
    (tSeq (tFor (iList K (tVar 3)) (gName 19)
      (tSeq (tAsg (tCall sp_numbersL [] E0 (tCons (tVar 2) (tCons (tVar 13) (tCons (tVar 19) tNil)))) (gName 20))
        (tDrop (tBM K "list" rAppend (tVar 18) (tCons (tCB (rLenK K) (tCons (tLc (iRng1 (tCons (tCB (rLenK K) (tCons (tVar 4) tNil)) tNil)) (gName 10)
          (tTest (tOp (rI0 fun i j => V.bl (decide (i ≤ j))) (tOp (rIxL K) (tVar 20) (tVar 10)) (tOp (rIxL K) (tVar 4) (tVar 10)))) (tC (.int 1)) [10]) tNil)) tNil)))))
      (tIfS (tNot (tB (tCall sp_alikeL [] E0 (tCons (tCallS (sp_fewest_to_fall C) (WE (wAs K (.ref C) 5 ts_alone (fun _ _ _ _ => False) D)) (tCons (tVar 2) (tCons (tVar 13) (tCons (tVar 16) tNil))))
        (tCons (tCB (rMin K) (tCons (tVar 18) tNil)) tNil))))) (tRet (tC (.bl false))) tNext)) D σ H
def t_try2 (K : PySem.W.Frag) (C : Addr) : TS := fun D σ H =>
  tSeq (tAsg (tCall sp_numbersL [] E0 (tCons (tVar 2) (tCons (tVar 13) (tCons (tVar 19) tNil)))) (gName 20))
    (tIfS (tNot (tB (tCall sp_alikeL [] E0 (tCons (tCallS (sp_lead C) (WE (wAs K (.ref C) 5 ts_alone (fun _ _ _ _ => False) D)) (tCons (tVar 2) (tCons (tVar 13) (tCons (tVar 16) (tCons (tVar 19) tNil)))))
      (tCons (tCB (rMin K) (tCons (tLc (iRng1 (tCons (tCB (rLenK K) (tCons (tVar 4) tNil)) tNil)) (gName 10) tYes
        (tOp (rI0 fun i j => V.int (i - j)) (tOp (rIxL K) (tVar 20) (tVar 10)) (tOp (rIxL K) (tVar 4) (tVar 10))) [10]) tNil)) tNil))))) (tRet (tC (.bl false))) tNext) D σ H
section
variable {K : PySem.W.Frag} {C : Addr} {r S : Addr} {ns : List Int} {B : Board} {lot : List Nat} {vB vl vh vw : V} {a ar ac as ao : Addr} {line : Nat} {H : Hp} {D : Ends}
/-- the slots while the law goes on -/
def slots (a r : Addr) (vB : V) (as ao : Addr) (x6 x7 x9 : Option V) (vh vw vl : V) (ar ac : Addr) (line : Nat) (wd : Str) (x18 x19 x20 : Option V) : L2.St :=
  [some (.ref a), some (.ref r), some vB, some (.ref as), some (.ref ao), none, x6, x7, none, x9, none, some vh, some vw, some vl, some (.ref ar), some (.ref ac), some (.int (line : Int)), some (.str wd), x18, x19, x20, none, none, none]
theorem law_try1 (eC : PySem.W.exmOne K (.ref C) (.ref C) = some true) (b : BOk B) (lo : LotOk B lot) (hx : line < nLines B) (nx : line ∉ lot) (F : Fx K r S ns B lot vB vl ar ac H)
    (has : H as = some (.lst (((mates B lot line).map Int.ofNat).map V.int))) (hao : H ao = some (.lst ((nums B lot line).map V.int)))
    (k : ∀ (wd : Str) x18 x19 x20 H', Same H H' → (wd == ("" : Str)) = !decide (mates B lot line = []) → D.nx (slots a r vB as ao none none none vh vw vl ar ac line wd x18 x19 x20) H') :
    t_try1 K C D (slots a r vB as ao none none none vh vw vl ar ac line "" none none none) H := by
  have h4 := nums_small b lot line
  have h5 := mates_small b lot line
  refine q_set_new fun pc nc => ?_
  have s1 : Same H (upd H pc (.lst [])) := same_new (o := .lst []) nc
  have nac : as ≠ pc := ne_of_none has nc
  refine q_for (M := M1 pc) (src_Lv (a := as) (vs := ((mates B lot line).map Int.ofNat).map V.int) (xs := mates B lot line) rfl (s1 _ _ has) (nats_p _) nac (m1_ok upd_same)) fun H2 s2 => ?_
  refine ⟨fun i σ' H' => (∃ x19 x20, σ' = slots a r vB as ao none none none vh vw vl ar ac line "" (some (.ref pc)) x19 x20) ∧ SameB (M1 pc) H2 H' ∧ Same H H' ∧ H' pc = some (.lst ((cnts B lot line ((mates B lot line).take i)).map V.int)),
    ⟨⟨_, _, rfl⟩, SameB.refl _, s1.trans s2, s2 _ _ upd_same⟩, fun i σ' H' h => h.2.1, ?_, ?_⟩
  · rintro i o ho σ' H' ⟨⟨x19, x20, rfl⟩, t1, t2, t3⟩ v H5 s5 rv
    obtain ⟨hon, hos, _⟩ := mates_side hx (List.mem_of_getElem? ho)
    have hlen := nums_len_eq (lot := lot) hos
    have F5 := F.same (t2.trans s5)
    have hao5 : Dat.rep H5 (.ref ao) (Lst.mk (nums B lot line)) := rep_lst ((t2.trans s5) _ _ hao) (ints_p _)
    refine q_set (x := Lst.mk (nums B lot o)) (ev_call3 (x := B) (y := lot) (z := o) (ev_var rfl F5.rB) (ev_var rfl F5.rl) (ev_var rfl rv) ⟨b, hon⟩) fun vt H6 s6 rt => ?_
    have e1 : cnts B lot line ((mates B lot line).take (i + 1)) = cnts B lot line ((mates B lot line).take i) ++ [((lows (nums B lot line) (nums B lot o)).length : Int)] := by
      unfold cnts
      rw [take_snoc ho, List.map_append]
      rfl
    refine s_app (x := (lows (nums B lot line) (nums B lot o)).length) rfl (s6 _ _ (s5 _ _ t3)) ((ek_lenL (xs := Lst.mk ((lows (nums B lot line) (nums B lot o)).map fun _ => (1 : Nat))) (ev_lc1 (fun i => decide ((nums B lot o).getD i 0 ≤ (nums B lot line).getD i 0)) (fun _ => (1 : Nat)) (src_R1 (n := (nums B lot line).length) (ek_lenL (xs := Lst.mk (nums B lot line)) (ev_var rfl (by walk_at "rp"))) (by omega)) (by rw [List.length_range]; omega) (fun _ => rfl)
      (fun j hj u H7 s7 ru => evt_of (ev_leI (a := (nums B lot o).getD j 0) (b := (nums B lot line).getD j 0) (ev_ixL (xs := Lst.mk (nums B lot o)) (i := j) (ev_var rfl (by walk_at "rp")) (ev_var rfl (by walk_at "rp")) (getD_some (by show j < (nums B lot o).length; have := List.mem_range.mp hj; omega))) (ev_ixL (xs := Lst.mk (nums B lot line)) (i := j) (ev_var rfl (by walk_at "rp")) (ev_var rfl (by walk_at "rp")) (getD_some (List.mem_range.mp hj)))))
      (fun j hj _ u H7 s7 ru => ev_nat rfl))).eq (by show (List.map _ _).length = _; rw [List.length_map])) (by unfold cnts; rw [List.length_map, List.length_map, List.length_take]; omega) fun u H8 s8 ru => ?_
    have eu : u = V.int ((lows (nums B lot line) (nums B lot o)).length : Int) := ru
    subst eu
    refine ⟨⟨_, _, rfl⟩, (t1.trans (same_b (s5.trans (s6.trans s8)))).put rfl, same_mut (t2.trans (s5.trans (s6.trans s8))) nc, ?_⟩
    rw [e1, List.map_append]
    exact upd_same
  · rintro σ' H' ⟨⟨x19, x20, rfl⟩, t1, t2, t3⟩
    rw [List.take_length] at t3
    have F5 := F.same t2
    refine ⟨vB, rfl, vl, rfl, _, rfl, vB, B, vl, lot, _, line, rfl, F5.rB, F5.rl, rfl, ⟨b, lo, hx, nx⟩, fun ho v H6 s6 rv => ?_, fun ho H6 s6 => ?_⟩
    · rw [others_eq hx] at ho
      refine ev_min (K := K) (ns := Lst.mk (cnts B lot line (mates B lot line))) (ev_var rfl (rep_lst (s6 _ _ t3) (ints_p _))) (by show cnts _ _ _ _ ≠ []; unfold cnts; intro z; exact ho (List.map_eq_nil_iff.mp z)) H6 (Same.refl _) _ fun v2 H7 s7 r7 => ?_
      refine .inl ⟨v, ftf B lot line, v2, minI (cnts B lot line (mates B lot line)), rfl, rv, r7, trivial, fun v3 H8 s8 r8 => ⟨true, (show v3 = _ from r8).trans (congrArg V.bl (decide_eq_true (ftf_eq hx))), ?_⟩⟩
      refine iteF ?_
      exact k _ _ _ _ H8 (t2.trans (s6.trans (s7.trans s8))) (by rw [decide_eq_false ho]; rfl)
    · rw [others_eq hx] at ho
      refine ⟨true, eC, fun _ ae na => ?_, fun z => by cases z⟩
      exact k _ _ _ _ H6 (t2.trans s6) (by rw [decide_eq_true ho]; decide)
theorem law_try2 (eC : PySem.W.exmOne K (.ref C) (.ref C) = some true) (b : BOk B) (lo : LotOk B lot) (hx : line < nLines B) (nx : line ∉ lot) {other : Nat} (hy : other < nLines B) (ny : other ∉ lot) (F : Fx K r S ns B lot vB vl ar ac H)
    (hao : H ao = some (.lst ((nums B lot line).map V.int))) {x6 x18 x20 : Option V}
    (k : ∀ (wd : Str) x20 H', Same H H' → (wd == ("" : Str)) = sameSide B line other → D.nx (slots a r vB as ao x6 none none vh vw vl ar ac line wd x18 (some (.int (other : Int))) x20) H') :
    t_try2 K C D (slots a r vB as ao x6 none none vh vw vl ar ac line "" x18 (some (.int (other : Int))) x20) H := by
  have h4 := nums_small b lot line
  have hao0 : Dat.rep H (.ref ao) (Lst.mk (nums B lot line)) := rep_lst hao (ints_p _)
  refine q_set (x := Lst.mk (nums B lot other)) (ev_call3 (x := B) (y := lot) (z := other) (ev_var rfl F.rB) (ev_var rfl F.rl) (ev_var rfl rfl) ⟨b, hy⟩) fun vt H1 s1 rt => ?_
  have F1 := F.same s1
  refine ⟨vB, rfl, vl, rfl, _, rfl, _, rfl, vB, B, vl, lot, _, line, _, other, rfl, F1.rB, F1.rl, rfl, rfl, ⟨b, lo, ⟨hx, nx⟩, hy, ny⟩, fun ho v H6 s6 rv => ?_, fun ho H6 s6 => ?_⟩
  · have hlen := nums_len_eq (lot := lot) ho
    refine ev_min (K := K) (ns := Lst.mk (leads (nums B lot line) (nums B lot other))) (ev_lc1m (fun i => (nums B lot other).getD i 0 - (nums B lot line).getD i 0) (src_R1 (n := (nums B lot line).length) (ek_lenL (xs := Lst.mk (nums B lot line)) (ev_var rfl (by walk_at "rp"))) (by omega)) (by rw [List.length_range]; omega) (fun _ => rfl)
      (fun j hj u H7 s7 ru => ev_subI (a := (nums B lot other).getD j 0) (b := (nums B lot line).getD j 0) (ev_ixL (xs := Lst.mk (nums B lot other)) (i := j) (ev_var rfl (by walk_at "rp")) (ev_var rfl (by walk_at "rp")) (getD_some (by show j < (nums B lot other).length; have := List.mem_range.mp hj; omega))) (ev_ixL (xs := Lst.mk (nums B lot line)) (i := j) (ev_var rfl (by walk_at "rp")) (ev_var rfl (by walk_at "rp")) (getD_some (List.mem_range.mp hj))))) (by
        show leads _ _ ≠ []
        unfold leads
        intro z
        have z2 := List.map_eq_nil_iff.mp z
        have z3 := nums_ne lo line
        cases e : nums B lot line with
        | nil => exact z3 e
        | cons y t => rw [e, List.length_cons, List.range_succ] at z2; simp at z2) H6 (Same.refl _) _ fun v2 H7 s7 r7 => ?_
    refine .inl ⟨v, leadV B lot line other, v2, minI (leads (nums B lot line) (nums B lot other)), rfl, rv, r7, trivial, fun v3 H8 s8 r8 => ⟨true, (show v3 = _ from r8).trans (congrArg V.bl (decide_eq_true (lead_eq ho))), ?_⟩⟩
    refine iteF ?_
    exact k _ _ H8 (s1.trans (s6.trans (s7.trans s8))) (by rw [ho]; rfl)
  · refine ⟨true, eC, fun _ ae na => ?_, fun z => by cases z⟩
    exact k _ _ H6 (s1.trans s6) (by rw [ho]; decide)
end
end SB
namespace SB
open PySem PySem.Spec PyProof.Rows L2 RZ StX
local macro_rules | `(tactic| walk_at "rp") => `(tactic| first | assumption | rfl | (refine Dat.mono (by assumption) ?_; walk_at "rp"))
/-! ### the law's loops behind the tries -/
def t_many (K : PySem.W.Frag) : TS :=
  tFor (iRng1 (tCons (tVar 11) tNil)) (gName 8) (tFor (iRng1 (tCons (tVar 12) tNil)) (gName 10)
    (tIfS (tTest (tOp (rIn K false) (tVar 16) (tLst (tCons (tVar 8) (tCons (tOp (rI0 fun i j => V.int (i + j)) (tVar 10) (tVar 11)) tNil)))))
      (tSeq (tAsg (tIf (tTest (tOp (rI0 fun i j => V.bl (decide (i < j))) (tVar 16) (tVar 11)))
          (tTup (tCons (tUn (rU fun i => V.int (-i)) (tC (.int 1000))) (tCons (tOp (rIxT K) (tOp (rIxT K) (tOp (rIxT K) (tVar 2) (tVar 8)) (tVar 10)) (tC (.int 1))) tNil)))
          (tTup (tCons (tOp (rIxT K) (tOp (rIxT K) (tOp (rIxT K) (tVar 2) (tVar 8)) (tVar 10)) (tC (.int 0))) (tCons (tUn (rU fun i => V.int (-i)) (tC (.int 1000))) tNil)))) (gName 22))
        (tSeq (tAsg (tOp (rCatA K) (tOp (rCatA K) (tSl (rSlA K) (tVar 2) tNoPart (tPart (tVar 8)))
            (tTup (tCons (tOp (rCatA K) (tOp (rCatA K) (tSl (rSlA K) (tOp (rIxT K) (tVar 2) (tVar 8)) tNoPart (tPart (tVar 10))) (tTup (tCons (tVar 22) tNil)))
              (tSl (rSlA K) (tOp (rIxT K) (tVar 2) (tVar 8)) (tPart (tOp (rI0 fun i j => V.int (i + j)) (tVar 10) (tC (.int 1)))) tNoPart)) tNil)))
            (tSl (rSlA K) (tVar 2) (tPart (tOp (rI0 fun i j => V.int (i + j)) (tVar 8) (tC (.int 1)))) tNoPart)) (gName 23))
          (tAsg (tOp (rI0 fun i j => V.int (i + j)) (tVar 7) (tIf (tTest (tOp (rIn K false) (tVar 16) (tCall sp_endL [] E0 (tCons (tVar 23) tNil)))) (tC (.int 1)) (tC (.int 0)))) (gName 7))))
      tNext))
def t_same (K : PySem.W.Frag) : TS :=
  tSeq (tAsg (tLst tNil) (gName 9))
    (tSeq (tFor (iList K (tVar 14)) (gName 8)
        (tSeq (tAsg (tLc (iList K (tVar 15)) (gName 10) tYes (tOp (rIxT K) (tOp (rIxT K) (tOp (rIxT K) (tVar 2) (tVar 8)) (tOp (rI0 fun i j => V.int (i - j)) (tVar 10) (tVar 11))) (tC (.int 1))) [10]) (gName 21))
          (tAsg (tOp rCat (tVar 9) (tIf (tTest (tOp (rI0 fun i j => V.bl (decide (i < j))) (tLenSetA K (tVar 21)) (tCB (rLenK K) (tCons (tVar 21) tNil)))) (tLst (tCons (tVar 8) tNil)) (tLst tNil))) (gName 9))))
      (tSeq (tFor (iList K (tVar 15)) (gName 10)
          (tSeq (tAsg (tLc (iList K (tVar 14)) (gName 8) tYes (tOp (rIxT K) (tOp (rIxT K) (tOp (rIxT K) (tVar 2) (tVar 8)) (tOp (rI0 fun i j => V.int (i - j)) (tVar 10) (tVar 11))) (tC (.int 0))) [8]) (gName 21))
            (tAsg (tOp rCat (tVar 9) (tIf (tTest (tOp (rI0 fun i j => V.bl (decide (i < j))) (tLenSetA K (tVar 21)) (tCB (rLenK K) (tCons (tVar 21) tNil)))) (tLst (tCons (tVar 10) tNil)) (tLst tNil))) (gName 9))))
        (tRet (tCall sp_isL [] E0 (tCons (tCall sp_is_unlike [] E0 (tCons (tVar 2) (tCons (tVar 13) tNil))) (tCons (tOp (rEqD K) (tVar 9) (tLst tNil)) tNil))))))
def slots2 (a r : Addr) (vB : V) (as ao : Addr) (x6 x7 x8 x9 x10 : Option V) (vh vw vl : V) (ar ac : Addr) (line : Nat) (x17 x18 x19 x20 x21 x22 x23 : Option V) : L2.St :=
  [some (.ref a), some (.ref r), some vB, some (.ref as), some (.ref ao), none, x6, x7, x8, x9, x10, some vh, some vw, some vl, some (.ref ar), some (.ref ac), some (.int (line : Int)), x17, x18, x19, x20, x21, x22, x23]
section
variable {K : PySem.W.Frag} {C : Addr} {r S : Addr} {ns : List Int} {B : Board} {lot : List Nat} {vB vl vh vw : V} {a ar ac as ao : Addr} {line : Nat} {H : Hp} {D : Ends} {x6 x8 x9 x10 x17 x18 x19 x20 x21 x22 x23 : Option V}
theorem law_many (b : BOk B) (F : Fx K r S ns B lot vB vl ar ac H) (rh : ∀ H : Hp, Dat.rep H vh B.length) (rw' : ∀ H : Hp, Dat.rep H vw (wid B))
    (k : ∀ x8 x10 x22 x23 H', Same H H' → D.nx (slots2 a r vB as ao x6 (some (.int (chAll B line : Int))) x8 x9 x10 vh vw vl ar ac line x17 x18 x19 x20 x21 x22 x23) H') :
    t_many K D (slots2 a r vB as ao x6 (some (.int 0)) x8 x9 x10 vh vw vl ar ac line x17 x18 x19 x20 x21 x22 x23) H := by
  have h1 := b.r6
  have h2 := b.c6
  refine s_for (M := M0) (src_R1 (n := B.length) (ev_var rfl (rh _)) (by omega)) fun H4 s4 => ⟨fun i σ' H' => (∃ x8 x10 x22 x23, σ' = slots2 a r vB as ao x6 (some (.int ((((List.range i).map (chRow B line)).sum : Nat) : Int))) x8 x9 x10 vh vw vl ar ac line x17 x18 x19 x20 x21 x22 x23) ∧ Same H4 H', ⟨⟨_, _, _, _, rfl⟩, Same.refl _⟩, fun i σ' H' h => same_b h.2, ?_, ?_⟩
  · rintro i x hx σ' H' ⟨⟨y8, y10, y22, y23, rfl⟩, t1⟩ v H5 s5 rv
    obtain ⟨hi, ex⟩ := List.getElem?_eq_some_iff.mp hx
    rw [List.getElem_range] at ex
    rw [List.length_range] at hi
    subst ex
    have ev : v = V.int (i : Int) := rv
    subst ev
    have s05 : Same H H5 := s4.trans (t1.trans s5)
    refine s_for (M := M0) (src_R1 (n := wid B) (ev_var rfl (rw' _)) (by omega)) fun H6 s6 => ⟨fun j σ' H' => (∃ x10 x22 x23, σ' = slots2 a r vB as ao x6 (some (.int ((((List.range i).map (chRow B line)).sum + ((List.range j).map (chCell B line i)).sum : Nat) : Int))) (some (.int (i : Int))) x9 x10 vh vw vl ar ac line x17 x18 x19 x20 x21 x22 x23) ∧ Same H6 H', ⟨⟨_, _, _, rfl⟩, Same.refl _⟩, fun j σ' H' h => same_b h.2, ?_, ?_⟩
    · rintro j y hy σ' H' ⟨⟨z10, z22, z23, rfl⟩, t2⟩ v' H7 s7 ry
      obtain ⟨hj, ey⟩ := List.getElem?_eq_some_iff.mp hy
      rw [List.getElem_range] at ey
      rw [List.length_range] at hj
      subst ey
      have ev : v' = V.int (j : Int) := ry
      subst ev
      have s67 : Same H6 H7 := t2.trans s7
      have rB := (F.same (s05.trans (s6.trans s67))).rB
      have ri : ∀ H : Hp, Dat.rep H (V.int (i : Int)) i := fun _ => rfl
      have rj : ∀ H : Hp, Dat.rep H (V.int (j : Int)) j := fun _ => rfl
      have rn : ∀ H : Hp, Dat.rep H (V.int (line : Int)) line := fun _ => rfl
      have hlr := bok_row b (bok_get hi)
      have eS : ((List.range (j + 1)).map (chCell B line i)).sum = ((List.range j).map (chCell B line i)).sum + chCell B line i j := sum_range_succ _ _
      refine s_if (evt_of (ev_inL (x := line) (xs := Lst.mk [i, j + B.length]) (ev_var rfl (rn _)) (ev_lst (eva_cons (ev_var rfl (ri _)) (eva_cons (ev_addN (a := j) (b := B.length) (ev_var rfl (rj _)) (ev_var rfl (rh _))) eva_nil)) (by show 2 ≤ 100000; decide)))) (fun e H8 s8 => ?_) (fun e H8 s8 => ?_)
      · have hin := of_decide_eq_true e
        have rB8 := Dat.mono s8 rB
        refine q_set (x := plc B line i j) ((ev_if (x := ((-1000 : Int), (cellAt B i j).2)) (y := ((cellAt B i j).1, (-1000 : Int))) (evt_of (ev_ltN (a := line) (b := B.length) (ev_var rfl (rn _)) (ev_var rfl (rh _)))) (fun _ => ev_pair (ev_negI (a := 1000) ev_int) (ev_snd (ev_cell b hi hj (ev_var rfl rB8) (ev_var rfl (ri _)) (ev_var rfl (rj _))))) (fun _ => ev_pair (ev_fst (ev_cell b hi hj (ev_var rfl rB8) (ev_var rfl (ri _)) (ev_var rfl (rj _)))) (ev_negI (a := 1000) ev_int))).eq ?_) fun w6 H9 s9 q6 => ?_
        · unfold plc
          by_cases z : line < B.length
          · rw [if_pos (decide_eq_true z), if_pos z]
          · rw [if_neg (by rw [decide_eq_false z]; decide), if_neg z]
        have rB9 := Dat.mono s9 rB8
        refine q_set (x := withPl B i j (plc B line i j)) ((ev_catT (xs := B.take i ++ [((B.getD i []).take j ++ [plc B line i j]) ++ (B.getD i []).drop (j + 1)]) (ys := B.drop (i + 1))
          (ev_catT (xs := B.take i) (ys := [((B.getD i []).take j ++ [plc B line i j]) ++ (B.getD i []).drop (j + 1)]) (ev_slTo (xs := B) (n := i) (ev_var rfl rB9) (ev_var rfl (ri _)))
            (ev_tup (eva_cons (ev_catT (xs := (B.getD i []).take j ++ [plc B line i j]) (ys := (B.getD i []).drop (j + 1)) (ev_catT (xs := (B.getD i []).take j) (ys := [plc B line i j]) (ev_slTo (n := j) (ev_ixT (xs := B) (i := i) (ev_var rfl rB9) (ev_var rfl (ri _)) (bok_get hi)) (ev_var rfl (rj _))) (ev_tup (eva_cons (ev_var rfl q6) eva_nil) (by show 1 ≤ 100000; decide)) ?_)
              (ev_slFrom (n := j + 1) (ev_ixT (xs := B) (i := i) (ev_var rfl rB9) (ev_var rfl (ri _)) (bok_get hi)) (ev_addN (a := j) (b := 1) (ev_var rfl (rj _)) (ev_nat rfl))) ?_) eva_nil) (by show 1 ≤ 100000; decide)) ?_)
          (ev_slFrom (xs := B) (n := i + 1) (ev_var rfl rB9) (ev_addN (a := i) (b := 1) (ev_var rfl (ri _)) (ev_nat rfl))) ?_).eq (withPl_eq B i j _)) fun w7 HA sA q7 => ?_
        · simp only [List.length_take, List.length_cons, List.length_nil]
          omega
        · simp only [List.length_append, List.length_take, List.length_cons, List.length_drop, List.length_nil]
          omega
        · simp only [List.length_take, List.length_cons, List.length_nil]
          omega
        · simp only [List.length_append, List.length_take, List.length_cons, List.length_drop, List.length_nil]
          omega
        refine s_set (x := ((List.range i).map (chRow B line)).sum + ((List.range j).map (chCell B line i)).sum + chCell B line i j) (ev_addN (a := ((List.range i).map (chRow B line)).sum + ((List.range j).map (chCell B line i)).sum) (b := chCell B line i j) (ev_var rfl rfl) ((ev_if (x := (1 : Nat)) (y := 0) (evt_of (ev_inT (x := line) (xs := endLot (withPl B i j (plc B line i j))) (ev_var rfl (rn _)) (ev_call1 (x := withPl B i j (plc B line i j)) (ev_var rfl q7) (bok_withPl b hi hj (plc_in b hi hj))))) (fun _ => ev_nat rfl) (fun _ => ev_nat rfl)).eq ?_)) fun w8 HB sB' q8 => ?_
        · unfold chCell
          rw [if_pos hin]
          by_cases z : line ∈ endLot (withPl B i j (plc B line i j))
          · rw [if_pos (decide_eq_true z), if_pos z]
          · rw [if_neg (by rw [decide_eq_false z]; decide), if_neg z]
        have ev8 : w8 = V.int ((((List.range i).map (chRow B line)).sum + ((List.range j).map (chCell B line i)).sum + chCell B line i j : Nat) : Int) := q8
        subst ev8
        refine ⟨⟨some (.int (j : Int)), some w6, some w7, ?_⟩, s67.trans (s8.trans (s9.trans (sA.trans sB')))⟩
        rw [eS, ← Nat.add_assoc]
        rfl
      · have hin := of_decide_eq_false e
        refine ⟨⟨some (.int (j : Int)), z22, z23, ?_⟩, s67.trans s8⟩
        have e0 : chCell B line i j = 0 := by
          unfold chCell
          rw [if_neg hin]
        rw [eS, e0, Nat.add_zero]
        rfl
    · rintro σ' H' ⟨⟨z10, z22, z23, rfl⟩, t2⟩
      have eS : ((List.range (i + 1)).map (chRow B line)).sum = ((List.range i).map (chRow B line)).sum + chRow B line i := sum_range_succ _ _
      refine ⟨⟨some (.int (i : Int)), z10, z22, z23, ?_⟩, t1.trans (s5.trans (s6.trans t2))⟩
      rw [eS, List.length_range]
      rfl
  · rintro σ' H' ⟨⟨y8, y10, y22, y23, rfl⟩, t1⟩
    rw [List.length_range]
    exact k y8 y10 y22 y23 H' (s4.trans t1)
theorem law_same (b : BOk B) (lo : LotOk B lot) (F : Fx K r S ns B lot vB vl ar ac H) (rh : ∀ H : Hp, Dat.rep H vh B.length) {x7 : Option V} (k : ∀ H', D.rt (.bl true) H') :
    t_same K D (slots2 a r vB as ao x6 x7 x8 x9 x10 vh vw vl ar ac line x17 x18 x19 x20 x21 x22 x23) H := by
  have h1 := rows_small b lot
  have h2 := cols_small b lot
  have g3 : nLines B = B.length + wid B := rfl
  refine q_set (x := Lst.mk ([] : List Nat)) (ev_lst eva_nil (by decide)) fun v9 H1 s1 r9 => ?_
  have F1 := F.same s1
  refine q_for (M := M0) (src_Lv (xs := rowsLeft B lot) (a := ar) rfl F1.hr (nats_p _) (fun z => z) m0_ok) fun H2 s2 => ⟨fun i σ' H' => (∃ x8 y9 x21, σ' = slots2 a r vB as ao x6 x7 x8 (some y9) x10 vh vw vl ar ac line x17 x18 x19 x20 x21 x22 x23 ∧ Dat.rep H' y9 (Lst.mk (((rowsLeft B lot).take i).filter (dup B lot)))) ∧ Same H2 H',
    ⟨⟨_, _, _, rfl, Dat.mono s2 r9⟩, Same.refl _⟩, fun i σ' H' h => same_b h.2, ?_, ?_⟩
  · rintro i l hl σ' H' ⟨⟨y8, y9, y21, rfl, ry9⟩, t1⟩ v H5 s5 rv
    have F5 := F1.same (s2.trans (t1.trans s5))
    have hm := List.mem_of_getElem? hl
    have hlt := (mem_rows.mp hm).1
    have eu : unl B lot l = (colsLeft B lot).map (fun c => (cellAt B l (c - B.length)).2) := by unfold unl; rw [if_pos hlt]
    have hz := unl_small b lot l
    refine q_set (x := Lst.mk (unl B lot l)) ((ev_lc1m (fun c => (cellAt B l (c - B.length)).2) (src_L0 (xs := Lst.mk (colsLeft B lot)) (ev_var rfl F5.rc)) (by show (colsLeft B lot).length ≤ _; omega) (fun _ => rfl) fun c hc u H6 s6 ru => ?_).eq (by rw [eu])) fun v21 H6 s6 r21 => ?_
    · have g2 := (mem_cols.mp hc).1
      exact ev_snd (ev_cell b hlt (by omega) (ev_var rfl (Dat.mono s6 F5.rB)) (ev_var rfl (Dat.mono s6 rv)) (ev_subN g2.1 (ev_var rfl ru) (ev_var rfl (rh _))))
    have hlen := List.length_filter_le (dup B lot) ((rowsLeft B lot).take i)
    rw [List.length_take] at hlen
    refine s_set (x := Lst.mk (((rowsLeft B lot).take (i + 1)).filter (dup B lot))) ((ev_catL (xs := Lst.mk (((rowsLeft B lot).take i).filter (dup B lot))) (ys := if dup B lot l = true then Lst.mk [l] else Lst.mk []) (ev_var rfl (Dat.mono (s5.trans s6) ry9))
      (ev_if (evt_of (ev_ltN (a := nSet (unl B lot l)) (b := (unl B lot l).length) (ev_lenSet (ns := Lst.mk (unl B lot l)) (ev_var rfl r21) (by show (unl B lot l).length ≤ _; omega)) (ek_lenL (xs := Lst.mk (unl B lot l)) (ev_var rfl r21)))) (fun _ => ev_lst (eva_cons (ev_var rfl (Dat.mono s6 rv)) eva_nil) (by show 1 ≤ 100000; decide)) (fun _ => ev_lst eva_nil (by decide))) ?_).eq ?_) fun w9 H7 s7 q9 => ?_
    · show (((rowsLeft B lot).take i).filter (dup B lot)).length + _ ≤ _
      split
      · show _ + 1 ≤ _; omega
      · show _ + 0 ≤ _; omega
    · rw [take_snoc hl, List.filter_append]
      show Lst.mk (_ ++ _) = Lst.mk (_ ++ _)
      cases e : dup B lot l with
      | true => rw [if_pos rfl, List.filter_cons, if_pos e]; rfl
      | false => rw [if_neg (by decide), List.filter_cons, if_neg (by rw [e]; decide)]; rfl
    exact ⟨⟨_, _, _, rfl, q9⟩, t1.trans (s5.trans (s6.trans s7))⟩
  · rintro σ' H' ⟨⟨y8, y9, y21, rfl, ry9⟩, t1⟩
    rw [List.take_length] at ry9
    have F2 := F1.same (s2.trans t1)
    refine q_for (M := M0) (src_Lv (xs := colsLeft B lot) (a := ac) rfl F2.hc (nats_p _) (fun z => z) m0_ok) fun H3 s3 => ⟨fun i σ' H' => (∃ x10 y9 x21, σ' = slots2 a r vB as ao x6 x7 y8 (some y9) x10 vh vw vl ar ac line x17 x18 x19 x20 x21 x22 x23 ∧ Dat.rep H' y9 (Lst.mk ((rowsLeft B lot).filter (dup B lot) ++ ((colsLeft B lot).take i).filter (dup B lot)))) ∧ Same H3 H',
      ⟨⟨_, _, _, rfl, by rw [List.take_zero, List.filter_nil, List.append_nil]; exact Dat.mono s3 ry9⟩, Same.refl _⟩, fun i σ' H' h => same_b h.2, ?_, ?_⟩
    · rintro i l hl σ' H' ⟨⟨z10, z9, z21, rfl, rz9⟩, t3⟩ v H5 s5 rv
      have F5 := F2.same (s3.trans (t3.trans s5))
      have hm := List.mem_of_getElem? hl
      have hlt := (mem_cols.mp hm).1
      have eu : unl B lot l = (rowsLeft B lot).map (fun r => (cellAt B r (l - B.length)).1) := by unfold unl; rw [if_neg (by omega)]
      have hz := unl_small b lot l
      refine q_set (x := Lst.mk (unl B lot l)) ((ev_lc1m (fun r => (cellAt B r (l - B.length)).1) (src_L0 (xs := Lst.mk (rowsLeft B lot)) (ev_var rfl F5.rr)) (by show (rowsLeft B lot).length ≤ _; omega) (fun _ => rfl) fun c hc u H6 s6 ru => ?_).eq (by rw [eu])) fun v21 H6 s6 r21 => ?_
      · have g2 := (mem_rows.mp hc).1
        exact ev_fst (ev_cell b g2 (by omega) (ev_var rfl (Dat.mono s6 F5.rB)) (ev_var rfl ru) (ev_subN hlt.1 (ev_var rfl (Dat.mono s6 rv)) (ev_var rfl (rh _))))
      have hlen := List.length_filter_le (dup B lot) ((colsLeft B lot).take i)
      rw [List.length_take] at hlen
      have hlen2 := List.length_filter_le (dup B lot) (rowsLeft B lot)
      refine s_set (x := Lst.mk ((rowsLeft B lot).filter (dup B lot) ++ ((colsLeft B lot).take (i + 1)).filter (dup B lot))) ((ev_catL (xs := Lst.mk ((rowsLeft B lot).filter (dup B lot) ++ ((colsLeft B lot).take i).filter (dup B lot))) (ys := if dup B lot l = true then Lst.mk [l] else Lst.mk []) (ev_var rfl (Dat.mono (s5.trans s6) rz9))
        (ev_if (evt_of (ev_ltN (a := nSet (unl B lot l)) (b := (unl B lot l).length) (ev_lenSet (ns := Lst.mk (unl B lot l)) (ev_var rfl r21) (by show (unl B lot l).length ≤ _; omega)) (ek_lenL (xs := Lst.mk (unl B lot l)) (ev_var rfl r21)))) (fun _ => ev_lst (eva_cons (ev_var rfl (Dat.mono s6 rv)) eva_nil) (by show 1 ≤ 100000; decide)) (fun _ => ev_lst eva_nil (by decide))) ?_).eq ?_) fun w9 H7 s7 q9 => ?_
      · show ((rowsLeft B lot).filter (dup B lot) ++ ((colsLeft B lot).take i).filter (dup B lot)).length + _ ≤ _
        rw [List.length_append]
        split
        · show _ + 1 ≤ _; omega
        · show _ + 0 ≤ _; omega
      · rw [take_snoc hl, List.filter_append, ← List.append_assoc]
        show Lst.mk (_ ++ _) = Lst.mk (_ ++ _)
        cases e : dup B lot l with
        | true => rw [if_pos rfl, List.filter_cons, if_pos e]; rfl
        | false => rw [if_neg (by decide), List.filter_cons, if_neg (by rw [e]; decide)]; rfl
      exact ⟨⟨_, _, _, rfl, q9⟩, t3.trans (s5.trans (s6.trans s7))⟩
    · rintro σ' H' ⟨⟨z10, z9, z21, rfl, rz9⟩, t3⟩
      rw [List.take_length] at rz9
      have F3 := F2.same (s3.trans t3)
      have hp : BOk B ∧ LotOk B lot := ⟨b, lo⟩
      refine s_ret ((ev_call2 (x := unlike B lot) (y := decide ((rowsLeft B lot).filter (dup B lot) ++ (colsLeft B lot).filter (dup B lot) = [])) (ev_call2 (x := B) (y := lot) (ev_var rfl F3.rB) (ev_var rfl F3.rl) hp) (ev_eqNil (xs := Lst.mk ((rowsLeft B lot).filter (dup B lot) ++ (colsLeft B lot).filter (dup B lot))) (ev_var rfl rz9)) trivial).eq (unlike_eq B lot)) fun v H7 s7 rv => ?_
      have ev : v = V.bl true := rv
      subst ev
      exact k H7
end
end SB
namespace SB
open PySem PySem.Spec PyProof.Rows L2 RZ StX
local macro_rules | `(tactic| walk_at "rp") => `(tactic| first | assumption | rfl | (refine Dat.mono (by assumption) ?_; walk_at "rp"))
def spLaw (K : PySem.W.Frag) : Sp := fun vs H Q _ => ∃ (a : Addr) (ns : List Int), vs = [.ref a] ∧ SqL K H a (ns.map V.int) ∧ ∀ H', Q (.bl true) H'
section
variable {P : Program} {w : World} {K : PySem.W.Frag} {mg : Str → Option Value} {base : Heap} {C : Addr}
theorem ok_law (T : Txt K mg C) (C_boardL : Cal P w K mg base CX0 2 "_law_board" (sp_boardL K)) (C_numbersL : Cal P w K mg base CX0 2 "_law_numbers" sp_numbersL) (C_overL : Cal P w K mg base CX0 3 "_law_over" sp_overL) (C_isL : Cal P w K mg base CX0 1 "_law_is" sp_isL) (C_lotL : Cal P w K mg base CX0 6 "_law_lot" (sp_lotL K)) (C_rowsL : Cal P w K mg base CX0 1 "_law_rows" sp_rowsL) (C_columnsL : Cal P w K mg base CX0 1 "_law_columns" sp_columnsL) (C_pickL : Cal P w K mg base CX0 2 "_law_pick" (sp_pickL K)) (C_alikeL : Cal P w K mg base CX0 3 "_law_alike" sp_alikeL) (C_is_unlike : Cal P w K mg base CX0 5 "is_unlike" sp_is_unlike) (C_fewest_to_stand : Cal P w K mg base CX0 7 "fewest_to_stand" sp_fewest_to_stand) (C_fewest_to_fall : Cal P w K mg base (L2.CX P w) 5 "fewest_to_fall" (sp_fewest_to_fall C)) (C_lead : Cal P w K mg base (L2.CX P w) 5 "lead" (sp_lead C)) (C_count_changes : Cal P w K mg base CX0 9 "count_changes" sp_count_changes) (C_kept_board : Cal P w K mg base CX0 9 "kept_board" sp_kept_board) (C_endL : Cal P w K mg base CX0 5 "_law_end" sp_endL) (C_shownL : Cal P w K mg base CX0 2 "_law_shown" sp_shownL) {f : Addr} {fd : FuncData} (F : FunD K "law" "law" (defArgs s_law) (defBody s_law) (defScope s_law) [] [] f fd) : FnOk P w K mg base CX0 10 f fd ["_law_script"] (spLaw K) := by
  refine F.ok sc_law (by rintro vs H Q E ⟨a, ns, rfl, _⟩; rfl) (fun cdv A outer s H vs Q E hr h => ?_)
  suffices hs : ∃ t, PSs (cxOf CX0 P w K mg base _ "law" (defScope s_law) f cdv A outer s H E).nox (defBody s_law) t ∧ t { nx := fun _ H' => Q .non H', rt := Q } (L2.start _ vs) H by
    obtain ⟨t, h1, h2⟩ := hs
    exact ⟨t, h1.nox, h2⟩
  obtain ⟨a, ns, rfl, hS, q⟩ := h
  refine ⟨_, (pss_cons (ps_set (i := 1) sc_law.nd rfl (by first | exact .inl rfl | exact .inr rfl) (pe_lst (pa_cons (pv 0) (pa_cons pe_int (pa_cons pe_int (pa_cons pe_int pa_nil))))))
      (pss_cons (ps_set (i := 2) sc_law.nd rfl (by first | exact .inl rfl | exact .inr rfl) (pe_cal C_boardL hr (by decide) (by rfl) (pa_cons (pv 1) (pa_cons pe_int (pa_cons pe_int (pa_cons pe_int pa_nil))))))
      (pss_cons (ps_asg (pe_tup (pa_cons (pe_callB (k_len (K := K)) (by rfl) T.f_len boot_len (pa_cons (pv 2) pa_nil)) (pa_cons (pe_callB (k_len (K := K)) (by rfl) T.f_len boot_len (pa_cons (pe_ix (k_ixT (K := K)) (pv 2) pe_int (fun _ _ => rfl)) pa_nil)) (pa_cons (pe_cal C_lotL hr (by decide) (by rfl) (pa_cons (pv 1) (pa_cons (pv 2) pa_nil))) pa_nil)))) (kpg_tup (K := K) (n := 3) (pgs_cons (pg_name (i := 11) sc_law.nd rfl (by first | exact .inl rfl | exact .inr rfl)) (pgs_cons (pg_name (i := 12) sc_law.nd rfl (by first | exact .inl rfl | exact .inr rfl)) (pgs_cons (pg_name (i := 13) sc_law.nd rfl (by first | exact .inl rfl | exact .inr rfl)) pgs_nil)))))
      (pss_cons (ps_par (i := 14) (j := 15) rfl sc_law.nd rfl rfl (by decide) rfl rfl (pa_cons (pe_cal C_rowsL hr (by decide) (by rfl) (pa_cons (pv 2) (pa_cons (pv 13) pa_nil))) (pa_cons (pe_cal C_columnsL hr (by decide) (by rfl) (pa_cons (pv 2) (pa_cons (pv 13) pa_nil))) pa_nil)) (by rfl))
      (pss_cons (ps_asg (pe_tup (pa_cons (pe_cal C_pickL hr (by decide) (by rfl) (pa_cons (pv 1) (pa_cons (pe_op op_cat (pv 14) (pv 15)) pa_nil))) (pa_cons pe_str pa_nil))) (kpg_tup (K := K) (n := 2) (pgs_cons (pg_name (i := 16) sc_law.nd rfl (by first | exact .inl rfl | exact .inr rfl)) (pgs_cons (pg_name (i := 17) sc_law.nd rfl (by first | exact .inl rfl | exact .inr rfl)) pgs_nil))))
      (pss_cons (ps_setLc (i := 3) (own := [("_law_one", 8)]) rfl sc_law.nd rfl rfl (sw_true rfl rfl rfl (by decide +kernel)) (kpi_list (K := K) (pe_ifExp (pt_cmpR op_lt (pv 16) (pv 11) (by rfl)) (pv 14) (pv 15))) (blkOk_by (N := ["_law_script", "_law_row", "_law_board_here", "_law_side", "_law_own", "e", "_law_over_here", "_law_many", "_law_one", "_law_same", "_law_at", "_law_high", "_law_wide", "_law_lot_here", "_law_rows_here", "_law_columns_here", "_law_line", "_law_word", "_law_counts", "_law_other", "_law_told", "_law_numbers_here", "_law_place", "_law_new"]) (sc := defScope s_law) (by decide +kernel)) (fun _ _ _ _ _ => (pg_name (i := 8) sc_law.nd rfl (by first | exact .inl rfl | exact .inr rfl))) (fun _ _ _ _ _ => pts_one (pt_cmpR op_ne (pv 8) (pv 16) (by rfl))) (fun _ _ _ _ _ => (pv 8)))
      (pss_cons (ps_set (i := 4) sc_law.nd rfl (by first | exact .inl rfl | exact .inr rfl) (pe_cal C_numbersL hr (by decide) (by rfl) (pa_cons (pv 2) (pa_cons (pv 13) (pa_cons (pv 16) pa_nil)))))
      (pss_cons (ps_try_as (i := 5) rfl rfl sc_law.nd rfl rfl ⟨rfl, by decide, .inl T.gC⟩ takes0
      (fun W pn xe tk hpo => (pss_cons (ps_set (i := 18) sc_law.nd rfl (by first | exact .inl rfl | exact .inr rfl) (pe_lst pa_nil))
      (pss_cons (ps_for hpo rfl (kpi_list (K := K) (pv 3)) (pg_name (i := 19) sc_law.nd rfl (by first | exact .inl rfl | exact .inr rfl)) (pss_cons (ps_set (i := 20) sc_law.nd rfl (by first | exact .inl rfl | exact .inr rfl) (pe_cal C_numbersL hr (by decide) (by rfl) (pa_cons (pv 2) (pa_cons (pv 13) (pa_cons (pv 19) pa_nil)))))
      (pss_one (ps_expr (kpe_bm (K := K) PySem.F.plainAttrs_list PySem.F.slot_list_append PySem.F.type_list_append mt_append (pv 18) (pa_cons (pe_callB (k_len (K := K)) (by rfl) T.f_len boot_len (pa_cons (pe_lc (own := [("_law_at", 10)]) rfl sc_law.nd (pi_range1 (by rfl) T.f_range (pa_cons (pe_callB (k_len (K := K)) (by rfl) T.f_len boot_len (pa_cons (pv 4) pa_nil)) pa_nil)) (blkOk_by (N := ["_law_script", "_law_row", "_law_board_here", "_law_side", "_law_own", "e", "_law_over_here", "_law_many", "_law_one", "_law_same", "_law_at", "_law_high", "_law_wide", "_law_lot_here", "_law_rows_here", "_law_columns_here", "_law_line", "_law_word", "_law_counts", "_law_other", "_law_told", "_law_numbers_here", "_law_place", "_law_new"]) (sc := defScope s_law) (by decide +kernel)) (fun _ _ _ _ _ => (pg_name (i := 10) sc_law.nd rfl (by first | exact .inl rfl | exact .inr rfl))) (fun _ _ _ _ _ => pts_one (pt_cmpR op_le (pe_ix (k_ixL (K := K)) (pv 20) (pv 10) (fun _ _ => rfl)) (pe_ix (k_ixL (K := K)) (pv 4) (pv 10) (fun _ _ => rfl)) (by rfl))) (fun _ _ _ _ _ => pe_int)) pa_nil)) pa_nil))))))
      (pss_one (ps_if (pt_not (pt_val (pe_cal C_alikeL hr (by decide) (by rfl) (pa_cons (pe_calS C_fewest_to_fall (fun σ => passAt tk σ) hr (by decide) (by rfl) (pa_cons (pv 2) (pa_cons (pv 13) (pa_cons (pv 16) pa_nil)))) (pa_cons (pe_callB (k_min (K := K)) (by rfl) T.f_min boot_min (pa_cons (pv 18) pa_nil)) pa_nil))))) (pss_one (ps_ret pe_bl)) pss_nil)))))
      (fun a oe cls d pn hz hf => (pss_one (ps_set (i := 17) sc_law.nd rfl (by first | exact .inl rfl | exact .inr rfl) pe_str))))
      (pss_cons (ps_set (i := 6) sc_law.nd rfl (by first | exact .inl rfl | exact .inr rfl) (pe_cal C_overL hr (by decide) (by rfl) (pa_cons (pv 2) (pa_cons (pv 13) (pa_cons (pv 16) pa_nil)))))
      (pss_cons (ps_if (pt_cmpR op_ne (pe_cmpR op_eq (pv 17) pe_str (by rfl)) (pe_cmpR (k_neD (K := K) hr.units) (pv 3) (pe_lst pa_nil) (by rfl)) (by rfl)) (pss_one (ps_ret pe_bl)) pss_nil)
      (pss_cons (ps_if (pt_not (pt_val (pe_cal C_alikeL hr (by decide) (by rfl) (pa_cons (pe_cal C_fewest_to_stand hr (by decide) (by rfl) (pa_cons (pv 2) (pa_cons (pv 13) (pa_cons (pv 16) pa_nil)))) (pa_cons (pe_ifExp (pt_cmpR (k_neD (K := K) hr.units) (pv 6) (pe_lst pa_nil) (by rfl)) pe_int pe_int) pa_nil))))) (pss_one (ps_ret pe_bl)) pss_nil)
      (pss_cons (ps_par (i := 19) (j := 17) rfl sc_law.nd rfl rfl (by decide) rfl rfl (pa_cons (pe_cal C_pickL hr (by decide) (by rfl) (pa_cons (pv 1) (pa_cons (pe_op op_cat (pv 14) (pv 15)) pa_nil))) (pa_cons pe_str pa_nil)) (by rfl))
      (pss_cons (ps_try_as (i := 5) rfl rfl sc_law.nd rfl rfl ⟨rfl, by decide, .inl T.gC⟩ takes0
      (fun W pn xe tk hpo => (pss_cons (ps_set (i := 20) sc_law.nd rfl (by first | exact .inl rfl | exact .inr rfl) (pe_cal C_numbersL hr (by decide) (by rfl) (pa_cons (pv 2) (pa_cons (pv 13) (pa_cons (pv 19) pa_nil)))))
      (pss_one (ps_if (pt_not (pt_val (pe_cal C_alikeL hr (by decide) (by rfl) (pa_cons (pe_calS C_lead (fun σ => passAt tk σ) hr (by decide) (by rfl) (pa_cons (pv 2) (pa_cons (pv 13) (pa_cons (pv 16) (pa_cons (pv 19) pa_nil))))) (pa_cons (pe_callB (k_min (K := K)) (by rfl) T.f_min boot_min (pa_cons (pe_lc (own := [("_law_at", 10)]) rfl sc_law.nd (pi_range1 (by rfl) T.f_range (pa_cons (pe_callB (k_len (K := K)) (by rfl) T.f_len boot_len (pa_cons (pv 4) pa_nil)) pa_nil)) (blkOk_by (N := ["_law_script", "_law_row", "_law_board_here", "_law_side", "_law_own", "e", "_law_over_here", "_law_many", "_law_one", "_law_same", "_law_at", "_law_high", "_law_wide", "_law_lot_here", "_law_rows_here", "_law_columns_here", "_law_line", "_law_word", "_law_counts", "_law_other", "_law_told", "_law_numbers_here", "_law_place", "_law_new"]) (sc := defScope s_law) (by decide +kernel)) (fun _ _ _ _ _ => (pg_name (i := 10) sc_law.nd rfl (by first | exact .inl rfl | exact .inr rfl))) (fun _ _ _ _ _ => pts_nil) (fun _ _ _ _ _ => (pe_op op_sub (pe_ix (k_ixL (K := K)) (pv 20) (pv 10) (fun _ _ => rfl)) (pe_ix (k_ixL (K := K)) (pv 4) (pv 10) (fun _ _ => rfl))))) pa_nil)) pa_nil))))) (pss_one (ps_ret pe_bl)) pss_nil))))
      (fun a oe cls d pn hz hf => (pss_one (ps_set (i := 17) sc_law.nd rfl (by first | exact .inl rfl | exact .inr rfl) pe_str))))
      (pss_cons (ps_if (pt_cmpR op_ne (pe_cmpR op_eq (pv 17) pe_str (by rfl)) (pe_cmpR op_eq (pe_cmpR op_lt (pv 16) (pv 11) (by rfl)) (pe_cmpR op_lt (pv 19) (pv 11) (by rfl)) (by rfl)) (by rfl)) (pss_one (ps_ret pe_bl)) pss_nil)
      (pss_cons (ps_set (i := 7) sc_law.nd rfl (by first | exact .inl rfl | exact .inr rfl) pe_int)
      (pss_cons (ps_for PassesOwn.never rfl (pi_range1 (by rfl) T.f_range (pa_cons (pv 11) pa_nil)) (pg_name (i := 8) sc_law.nd rfl (by first | exact .inl rfl | exact .inr rfl)) (pss_one (ps_for PassesOwn.never rfl (pi_range1 (by rfl) T.f_range (pa_cons (pv 12) pa_nil)) (pg_name (i := 10) sc_law.nd rfl (by first | exact .inl rfl | exact .inr rfl)) (pss_one (ps_if (pt_cmpR (k_in (K := K)) (pv 16) (pe_lst (pa_cons (pv 8) (pa_cons (pe_op op_add (pv 10) (pv 11)) pa_nil))) (by rfl)) (pss_cons (ps_set (i := 22) sc_law.nd rfl (by first | exact .inl rfl | exact .inr rfl) (pe_ifExp (pt_cmpR op_lt (pv 16) (pv 11) (by rfl)) (pe_tup (pa_cons (pe_un un_neg pe_int) (pa_cons (pe_ix (k_ixT (K := K)) (pe_ix (k_ixT (K := K)) (pe_ix (k_ixT (K := K)) (pv 2) (pv 8) (fun _ _ => rfl)) (pv 10) (fun _ _ => rfl)) pe_int (fun _ _ => rfl)) pa_nil))) (pe_tup (pa_cons (pe_ix (k_ixT (K := K)) (pe_ix (k_ixT (K := K)) (pe_ix (k_ixT (K := K)) (pv 2) (pv 8) (fun _ _ => rfl)) (pv 10) (fun _ _ => rfl)) pe_int (fun _ _ => rfl)) (pa_cons (pe_un un_neg pe_int) pa_nil)))))
      (pss_cons (ps_set (i := 23) sc_law.nd rfl (by first | exact .inl rfl | exact .inr rfl) (pe_op (k_cat (K := K)) (pe_op (k_cat (K := K)) (pe_slice (k_sl (K := K)) (pv 2) po_none (po_some (pv 8))) (pe_tup (pa_cons (pe_op (k_cat (K := K)) (pe_op (k_cat (K := K)) (pe_slice (k_sl (K := K)) (pe_ix (k_ixT (K := K)) (pv 2) (pv 8) (fun _ _ => rfl)) po_none (po_some (pv 10))) (pe_tup (pa_cons (pv 22) pa_nil))) (pe_slice (k_sl (K := K)) (pe_ix (k_ixT (K := K)) (pv 2) (pv 8) (fun _ _ => rfl)) (po_some (pe_op op_add (pv 10) pe_int)) po_none)) pa_nil))) (pe_slice (k_sl (K := K)) (pv 2) (po_some (pe_op op_add (pv 8) pe_int)) po_none)))
      (pss_one (ps_set (i := 7) sc_law.nd rfl (by first | exact .inl rfl | exact .inr rfl) (pe_op op_add (pv 7) (pe_ifExp (pt_cmpR (k_in (K := K)) (pv 16) (pe_cal C_endL hr (by decide) (by rfl) (pa_cons (pv 23) pa_nil)) (by rfl)) pe_int pe_int)))))) pss_nil)))))
      (pss_cons (ps_if (pt_not (pt_val (pe_cal C_alikeL hr (by decide) (by rfl) (pa_cons (pe_lst (pa_cons (pe_cal C_count_changes hr (by decide) (by rfl) (pa_cons (pv 2) (pa_cons (pv 16) pa_nil))) (pa_cons (pe_cal C_kept_board hr (by decide) (by rfl) (pa_cons (pv 2) (pa_cons (pv 13) pa_nil))) pa_nil))) (pa_cons (pe_lst (pa_cons (pv 7) (pa_cons (pe_cal C_endL hr (by decide) (by rfl) (pa_cons (pe_cal C_shownL hr (by decide) (by rfl) (pa_cons (pv 2) (pa_cons (pv 13) pa_nil))) pa_nil)) pa_nil))) pa_nil))))) (pss_one (ps_ret pe_bl)) pss_nil)
      (pss_cons (ps_set (i := 9) sc_law.nd rfl (by first | exact .inl rfl | exact .inr rfl) (pe_lst pa_nil))
      (pss_cons (ps_for PassesOwn.never rfl (kpi_list (K := K) (pv 14)) (pg_name (i := 8) sc_law.nd rfl (by first | exact .inl rfl | exact .inr rfl)) (pss_cons (ps_setLc (i := 21) (own := [("_law_at", 10)]) rfl sc_law.nd rfl rfl (sw_true rfl rfl rfl (by decide +kernel)) (kpi_list (K := K) (pv 15)) (blkOk_by (N := ["_law_script", "_law_row", "_law_board_here", "_law_side", "_law_own", "e", "_law_over_here", "_law_many", "_law_one", "_law_same", "_law_at", "_law_high", "_law_wide", "_law_lot_here", "_law_rows_here", "_law_columns_here", "_law_line", "_law_word", "_law_counts", "_law_other", "_law_told", "_law_numbers_here", "_law_place", "_law_new"]) (sc := defScope s_law) (by decide +kernel)) (fun _ _ _ _ _ => (pg_name (i := 10) sc_law.nd rfl (by first | exact .inl rfl | exact .inr rfl))) (fun _ _ _ _ _ => pts_nil) (fun _ _ _ _ _ => (pe_ix (k_ixT (K := K)) (pe_ix (k_ixT (K := K)) (pe_ix (k_ixT (K := K)) (pv 2) (pv 8) (fun _ _ => rfl)) (pe_op op_sub (pv 10) (pv 11)) (fun _ _ => rfl)) pe_int (fun _ _ => rfl))))
      (pss_one (ps_set (i := 9) sc_law.nd rfl (by first | exact .inl rfl | exact .inr rfl) (pe_op op_cat (pv 9) (pe_ifExp (pt_cmpR op_lt (kpe_lenSet (K := K) (by rfl) T.f_len (by rfl) T.f_set (pv 21)) (pe_callB (k_len (K := K)) (by rfl) T.f_len boot_len (pa_cons (pv 21) pa_nil)) (by rfl)) (pe_lst (pa_cons (pv 8) pa_nil)) (pe_lst pa_nil)))))))
      (pss_cons (ps_for PassesOwn.never rfl (kpi_list (K := K) (pv 15)) (pg_name (i := 10) sc_law.nd rfl (by first | exact .inl rfl | exact .inr rfl)) (pss_cons (ps_setLc (i := 21) (own := [("_law_one", 8)]) rfl sc_law.nd rfl rfl (sw_true rfl rfl rfl (by decide +kernel)) (kpi_list (K := K) (pv 14)) (blkOk_by (N := ["_law_script", "_law_row", "_law_board_here", "_law_side", "_law_own", "e", "_law_over_here", "_law_many", "_law_one", "_law_same", "_law_at", "_law_high", "_law_wide", "_law_lot_here", "_law_rows_here", "_law_columns_here", "_law_line", "_law_word", "_law_counts", "_law_other", "_law_told", "_law_numbers_here", "_law_place", "_law_new"]) (sc := defScope s_law) (by decide +kernel)) (fun _ _ _ _ _ => (pg_name (i := 8) sc_law.nd rfl (by first | exact .inl rfl | exact .inr rfl))) (fun _ _ _ _ _ => pts_nil) (fun _ _ _ _ _ => (pe_ix (k_ixT (K := K)) (pe_ix (k_ixT (K := K)) (pe_ix (k_ixT (K := K)) (pv 2) (pv 8) (fun _ _ => rfl)) (pe_op op_sub (pv 10) (pv 11)) (fun _ _ => rfl)) pe_int (fun _ _ => rfl))))
      (pss_one (ps_set (i := 9) sc_law.nd rfl (by first | exact .inl rfl | exact .inr rfl) (pe_op op_cat (pv 9) (pe_ifExp (pt_cmpR op_lt (kpe_lenSet (K := K) (by rfl) T.f_len (by rfl) T.f_set (pv 21)) (pe_callB (k_len (K := K)) (by rfl) T.f_len boot_len (pa_cons (pv 21) pa_nil)) (by rfl)) (pe_lst (pa_cons (pv 10) pa_nil)) (pe_lst pa_nil)))))))
      (pss_one (ps_ret (pe_cal C_isL hr (by decide) (by rfl) (pa_cons (pe_cal C_is_unlike hr (by decide) (by rfl) (pa_cons (pv 2) (pa_cons (pv 13) pa_nil))) (pa_cons (pe_cmpR (k_eqD (K := K) hr.units) (pv 9) (pe_lst pa_nil) (by rfl)) pa_nil))))))))))))))))))))))))), ?_⟩
  -- the row
  refine ⟨.ref a, rfl, by show 4 ≤ sizeLine; decide, fun r nr => ?_⟩
  have w0 : Rw K (upd H r (.lst [.ref a, .int 0, .int 5219, .int 0])) r a ns := ⟨0, 5219, 0, upd_same, (same_new nr).seq hS, by decide, by decide, by decide⟩
  generalize (upd H r (.lst [.ref a, .int 0, .int 5219, .int 0])) = H0 at w0 ⊢
  -- the board
  refine ⟨.ref r, rfl, r, a, ns, rfl, w0, fun B vB H1 b _ w1 rB1 => ?_⟩
  have g6 := b.r6
  have c6 := b.c6
  have hN : nLines B = B.length + wid B := rfl
  -- its height, its width, the lot
  refine ek_lenT (xs := B) (ev_var rfl rB1) H1 (Same.refl _) _ fun vh H2 s2 rh => ?_
  refine ek_lenT (xs := B.headD []) (ev_ixT (xs := B) (i := 0) (ev_var rfl (Dat.mono s2 rB1)) (ev_nat rfl) (bok_head b)) H2 (Same.refl _) _ fun vw H3 s3 rw3 => ?_
  refine ⟨.ref r, rfl, vB, rfl, r, a, ns, vB, B, rfl, w1.same (s2.trans s3), Dat.mono (s2.trans s3) rB1, b, fun lot vl H4 lo b4 w4 rl4 => ?_⟩
  refine ⟨by show 3 ≤ sizeLine; decide, fun pT nT => ⟨pT, [vh, vw, vl], rfl, SqT.of upd_same, rfl, vh, [vw, vl], rfl, vw, [vl], rfl, vl, [], rfl, rfl, ?_⟩⟩
  have rB4 : Dat.rep (upd H4 pT (.tup [vh, vw, vl])) vB B := Dat.mono (same_new nT) (DatT.tx ((w1.same (s2.trans s3)).tx b4) (Dat.mono (s2.trans s3) rB1))
  have rl5 : Dat.rep (upd H4 pT (.tup [vh, vw, vl])) vl lot := Dat.mono (same_new nT) rl4
  have w5 : Rw K (upd H4 pT (.tup [vh, vw, vl])) r a ns := w4.same (same_new nT)
  have rh5 : ∀ H : Hp, Dat.rep H vh B.length := fun _ => rh
  have rw5 : ∀ H : Hp, Dat.rep H vw (wid B) := fun _ => rw3
  generalize (upd H4 pT (.tup [vh, vw, vl])) = H5 at rB4 rl5 w5 ⊢
  have h1 := rows_small b lot
  have h2 := cols_small b lot
  -- rows, columns
  refine q_par (ev_call2 (x := B) (y := lot) (ev_var rfl rB4) (ev_var rfl rl5) b) (ev_call2 (x := B) (y := lot) (ev_var rfl rB4) (ev_var rfl rl5) b) ?_
  rintro _ _ H6 s6 ⟨ar, lr, rfl, har, pr⟩ ⟨ac, lc, rfl, hac, pc⟩
  rw [p_nats pr] at har
  rw [p_nats pc] at hac
  have F6 : Fx K r a ns B lot vB vl ar ac H6 := ⟨w5.same s6, Dat.mono s6 rB4, Dat.mono s6 rl5, har, hac⟩
  clear rB4 rl5 w5 har hac pr pc
  -- the line
  refine w_pick (xs := rowsLeft B lot ++ colsLeft B lot) rfl F6.rw (ev_catL (xs := Lst.mk (rowsLeft B lot)) (ys := Lst.mk (colsLeft B lot)) (ev_var rfl F6.rr) (ev_var rfl F6.rc) (by show (rowsLeft B lot).length + (colsLeft B lot).length ≤ _; omega)) (both_ne lo) (by rw [List.length_append]; omega) fun line hline H7 b7 w7 => ?_
  have F7 := F6.go b7 w7
  have hx := both_lt hline
  have nx := lot_both hline
  refine ⟨by show 2 ≤ sizeLine; decide, fun pT nT => ⟨pT, [.int (line : Int), .str ""], rfl, SqT.of upd_same, rfl, _, [_], rfl, _, [], rfl, rfl, ?_⟩⟩
  have F8 := F7.same (same_new (o := .tup [.int (line : Int), .str ""]) nT)
  generalize (upd H7 pT (.tup [.int (line : Int), .str ""])) = H8 at F8 ⊢
  clear F6 F7 w7 b7
  have rx : ∀ H : Hp, Dat.rep H (V.int (line : Int)) line := fun _ => rfl
  -- its side
  refine q_set (x := Lst.mk (mates B lot line)) (ev_lc1f (fun o => !decide (o = line)) (src_L0 (xs := Lst.mk (sideOf B lot line)) ((ev_if (x := Lst.mk (rowsLeft B lot)) (y := Lst.mk (colsLeft B lot)) (evt_of (ev_ltN (a := line) (b := B.length) (ev_var rfl (rx _)) (ev_var rfl (rh5 _)))) (fun _ => ev_var rfl F8.rr) (fun _ => ev_var rfl F8.rc)).eq ?_)) (by show (sideOf B lot line).length ≤ _; have := side_small b lot line; omega) (fun _ => rfl)
    (fun o ho v H9 s9 rv => evt_of (ev_neN (a := o) (b := line) (ev_var rfl rv) (ev_var rfl (rx _)))) (fun _ => rfl)) ?_
  · unfold sideOf
    by_cases z : line < B.length
    · rw [if_pos (decide_eq_true z), if_pos z]
    · rw [if_neg (by rw [decide_eq_false z]; decide), if_neg z]
  rintro _ H9 s9 ⟨as, ls, rfl, has, ps⟩
  rw [p_nats ps] at has
  clear ps
  have F9 := F8.same s9
  -- its numbers
  refine q_set (x := Lst.mk (nums B lot line)) (ev_call3 (x := B) (y := lot) (z := line) (ev_var rfl F9.rB) (ev_var rfl F9.rl) (ev_var rfl (rx _)) ⟨b, hx⟩) ?_
  rintro _ HA sA ⟨ao, lo', rfl, hao, po⟩
  rw [p_ints po] at hao
  clear po
  have FA := F9.same sA
  have hasA := sA _ _ has
  clear F8 F9 has
  have h4 := nums_small b lot line
  have h5 := mates_small b lot line
  -- the first try
  refine law_try1 (D := { nx := _, rt := _, bk := _, ct := _ }) (a := a) T.eC b lo hx nx FA hasA hao fun wd x18 x19 x20 HB sB ewd => ?_
  have FB := FA.same sB
  have hasB := sB _ _ hasA
  have haoB := sB _ _ hao
  -- who is over it
  have hpc : BOk B ∧ line < nLines B := ⟨b, hx⟩
  refine q_set (ev_call3 (x := B) (y := lot) (z := line) (ev_var rfl FB.rB) (ev_var rfl FB.rl) (ev_var rfl (rx _)) hpc) fun vo HC sC ro => ?_
  have FC := FB.same sC
  refine q_pass ((evt_of (ev_neB (ev_eqS (a := wd) (b := "") (ev_var rfl rfl) ev_str) (ev_neNil (xs := Lst.mk (mates B lot line)) (ev_var rfl (rep_lst (α := Nat) (sC _ _ hasB) (nats_p _)))))).eq (by show (!((wd == ("" : Str)) == !decide (mates B lot line = []))) = false; rw [ewd]; simp)) fun HD sD => ?_
  have FD := FC.same sD
  have hp : BOk B ∧ LotOk B lot ∧ line < nLines B ∧ line ∉ lot := ⟨b, lo, hx, nx⟩
  refine q_pass ((evt_not (evt_b (ev_alikeLI (ev_cast (ev_call3 (x := B) (y := lot) (z := line) (ev_var rfl FD.rB) (ev_var rfl FD.rl) (ev_var rfl (rx _)) hp)) (ev_if (x := (1 : Int)) (y := 0) (evt_of (ev_neNil (xs := Lst.mk (overs B lot line)) (ev_var rfl (Dat.mono sD ro)))) (fun _ => ev_int) (fun _ => ev_int))))).eq ?_) fun HE sE => ?_
  · show (!decide (((if canFall B lot line = true then (1 : Nat) else 0 : Nat) : Int) = if (!decide (overs B lot line = [])) = true then (1 : Int) else 0)) = false
    rw [canFall_overs lo hx]
    cases decide (overs B lot line = []) <;> rfl
  have FE := FD.same sE
  -- the other line
  refine w_pick (xs := rowsLeft B lot ++ colsLeft B lot) rfl FE.rw (ev_catL (xs := Lst.mk (rowsLeft B lot)) (ys := Lst.mk (colsLeft B lot)) (ev_var rfl FE.rr) (ev_var rfl FE.rc) (by show (rowsLeft B lot).length + (colsLeft B lot).length ≤ _; omega)) (both_ne lo) (by rw [List.length_append]; omega) fun other hother HF bF wF => ⟨_, _, rfl, ?_⟩
  have FF := FE.go bF wF
  have hy := both_lt hother
  have ny := lot_both hother
  have haoF : HF ao = some (.lst ((nums B lot line).map V.int)) := bF _ _ (FE.rw.ne ((sC.trans (sD.trans sE)) _ _ haoB)) ((sC.trans (sD.trans sE)) _ _ haoB)
  -- the second try
  refine law_try2 (D := { nx := _, rt := _, bk := _, ct := _ }) (a := a) (r := r) (as := as) (vh := vh) (vw := vw) (x6 := some vo) T.eC b lo hx nx hy ny FF haoF fun wd2 y20 HG sG ewd2 => ?_
  have FG := FF.same sG
  have ry : ∀ H : Hp, Dat.rep H (V.int (other : Int)) other := fun _ => rfl
  refine q_pass ((evt_of (ev_neB (ev_eqS (a := wd2) (b := "") (ev_var rfl rfl) ev_str) (ev_eqB (ev_ltN (a := line) (b := B.length) (ev_var rfl (rx _)) (ev_var rfl (rh5 _))) (ev_ltN (a := other) (b := B.length) (ev_var rfl (ry _)) (ev_var rfl (rh5 _)))))).eq (by show (!((wd2 == ("" : Str)) == sameSide B line other)) = false; rw [ewd2]; simp)) fun HH sH => ?_
  have FH := FG.same sH
  -- the changes
  refine q_set (x := (0 : Nat)) (ev_nat rfl) fun v7 HI sI r7 => ?_
  have FI := FH.same sI
  cases (show v7 = V.int 0 from r7)
  refine law_many (D := { nx := _, rt := _, bk := _, ct := _ }) (a := a) (r := r) (as := as) (ao := ao) (vh := vh) (vw := vw) b FI rh5 rw5 fun y8 y10 y22 y23 HJ sJ => ?_
  have FJ := FI.same sJ
  have hpl : BOk B ∧ LotOk B lot := ⟨b, lo⟩
  have z1 : (endLot (shownB B lot)).length ≤ 1000 := Nat.le_trans (endN_small (bok_shown b lo) 12) (by decide)
  refine q_pass ((evt_not (evt_b (ev_alikeLD (a := Duo.mk (chAll B line) (endLot (shownB B lot))) (b := Duo.mk (chAll B line) (endLot (shownB B lot))) (ev_duo (ev_call2 (x := B) (y := line) (ev_var rfl FJ.rB) (ev_var rfl (rx _)) hpc) (ev_call2 (x := B) (y := lot) (ev_var rfl FJ.rB) (ev_var rfl FJ.rl) hpl))
    (ev_duo (ev_var rfl rfl) (ev_call1 (x := shownB B lot) (ev_call2 (x := B) (y := lot) (ev_var rfl FJ.rB) (ev_var rfl FJ.rl) b) (bok_shown b lo))) ⟨z1, z1⟩))).eq (by simp)) fun HK sK => ?_
  have FK := FJ.same sK
  exact law_same (D := { nx := _, rt := _, bk := _, ct := _ }) (a := a) (r := r) (as := as) (ao := ao) (vh := vh) (vw := vw) b lo FK rh5 q
end
end SB
namespace SB
open PySem PySem.Spec PyProof.Rows L2 RZ StX
/-! ### the head -/
def fn0 : List He.DefD := [⟨("is_int", none), "is_int", "is_int", defArgs s_is_int, defBody s_is_int, defScope s_is_int, [], []⟩, ⟨("is_from", none), "is_from", "is_from", defArgs s_is_from, defBody s_is_from, defScope s_is_from, [], []⟩, ⟨("is_place", none), "is_place", "is_place", defArgs s_is_place, defBody s_is_place, defScope s_is_place, [], []⟩, ⟨("need_board", none), "need_board", "need_board", defArgs s_need_board, defBody s_need_board, defScope s_need_board, [], []⟩, ⟨("sides", none), "sides", "sides", defArgs s_sides, defBody s_sides, defScope s_sides, [], []⟩, ⟨("lines_of", none), "lines_of", "lines_of", defArgs s_lines_of, defBody s_lines_of, defScope s_lines_of, [], []⟩, ⟨("is_lot", none), "is_lot", "is_lot", defArgs s_is_lot, defBody s_is_lot, defScope s_is_lot, [], []⟩, ⟨("need_lot", none), "need_lot", "need_lot", defArgs s_need_lot, defBody s_need_lot, defScope s_need_lot, [], []⟩, ⟨("need_line", none), "need_line", "need_line", defArgs s_need_line, defBody s_need_line, defScope s_need_line, [], []⟩, ⟨("left_of", none), "left_of", "left_of", defArgs s_left_of, defBody s_left_of, defScope s_left_of, [], []⟩, ⟨("shown_of", none), "shown_of", "shown_of", defArgs s_shown_of, defBody s_shown_of, defScope s_shown_of, [], []⟩, ⟨("numbers", none), "numbers", "numbers", defArgs s_numbers, defBody s_numbers, defScope s_numbers, [], []⟩, ⟨("same_side", none), "same_side", "same_side", defArgs s_same_side, defBody s_same_side, defScope s_same_side, [], []⟩, ⟨("is_greater", none), "is_greater", "is_greater", defArgs s_is_greater, defBody s_is_greater, defScope s_is_greater, [], []⟩, ⟨("can_fall", none), "can_fall", "can_fall", defArgs s_can_fall, defBody s_can_fall, defScope s_can_fall, [], []⟩]
def fn1 : List He.DefD := [⟨("with_line", none), "with_line", "with_line", defArgs s_with_line, defBody s_with_line, defScope s_with_line, [], []⟩, ⟨("closure", none), "closure", "closure", defArgs s_closure, defBody s_closure, defScope s_closure, [], []⟩, ⟨("last_of", none), "last_of", "last_of", defArgs s_last_of, defBody s_last_of, defScope s_last_of, [], []⟩, ⟨("need_two", none), "need_two", "need_two", defArgs s_need_two, defBody s_need_two, defScope s_need_two, [], []⟩, ⟨("fewest_to_fall", none), "fewest_to_fall", "fewest_to_fall", defArgs s_fewest_to_fall, defBody s_fewest_to_fall, defScope s_fewest_to_fall, [], []⟩, ⟨("need_standing", none), "need_standing", "need_standing", defArgs s_need_standing, defBody s_need_standing, defScope s_need_standing, [], []⟩, ⟨("fewest_to_stand", none), "fewest_to_stand", "fewest_to_stand", defArgs s_fewest_to_stand, defBody s_fewest_to_stand, defScope s_fewest_to_stand, [], []⟩, ⟨("lead", none), "lead", "lead", defArgs s_lead, defBody s_lead, defScope s_lead, [], []⟩, ⟨("with_place", none), "with_place", "with_place", defArgs s_with_place, defBody s_with_place, defScope s_with_place, [], []⟩, ⟨("count_changes", none), "count_changes", "count_changes", defArgs s_count_changes, defBody s_count_changes, defScope s_count_changes, [], []⟩, ⟨("kept_board", none), "kept_board", "kept_board", defArgs s_kept_board, defBody s_kept_board, defScope s_kept_board, [], []⟩, ⟨("is_unlike", none), "is_unlike", "is_unlike", defArgs s_is_unlike, defBody s_is_unlike, defScope s_is_unlike, [], []⟩, ⟨("_law_taken", none), "_law_taken", "_law_taken", defArgs s_takenL, defBody s_takenL, defScope s_takenL, [], []⟩, ⟨("_law_pick", none), "_law_pick", "_law_pick", defArgs s_pickL, defBody s_pickL, defScope s_pickL, [], []⟩, ⟨("_law_alike", none), "_law_alike", "_law_alike", defArgs s_alikeL, defBody s_alikeL, defScope s_alikeL, [], []⟩]
def fn2 : List He.DefD := [⟨("_law_is", none), "_law_is", "_law_is", defArgs s_isL, defBody s_isL, defScope s_isL, [], []⟩, ⟨("_law_board", none), "_law_board", "_law_board", defArgs s_boardL, defBody s_boardL, defScope s_boardL, [], []⟩, ⟨("_law_rows", none), "_law_rows", "_law_rows", defArgs s_rowsL, defBody s_rowsL, defScope s_rowsL, [], []⟩, ⟨("_law_columns", none), "_law_columns", "_law_columns", defArgs s_columnsL, defBody s_columnsL, defScope s_columnsL, [], []⟩, ⟨("_law_numbers", none), "_law_numbers", "_law_numbers", defArgs s_numbersL, defBody s_numbersL, defScope s_numbersL, [], []⟩, ⟨("_law_over", none), "_law_over", "_law_over", defArgs s_overL, defBody s_overL, defScope s_overL, [], []⟩, ⟨("_law_ready", none), "_law_ready", "_law_ready", defArgs s_readyL, defBody s_readyL, defScope s_readyL, [], []⟩, ⟨("_law_with", none), "_law_with", "_law_with", defArgs s_withL, defBody s_withL, defScope s_withL, [], []⟩, ⟨("_law_drawn", none), "_law_drawn", "_law_drawn", defArgs s_drawnL, defBody s_drawnL, defScope s_drawnL, [], []⟩, ⟨("_law_lot", none), "_law_lot", "_law_lot", defArgs s_lotL, defBody s_lotL, defScope s_lotL, [], []⟩, ⟨("_law_end", none), "_law_end", "_law_end", defArgs s_endL, defBody s_endL, defScope s_endL, [], []⟩, ⟨("_law_shown", none), "_law_shown", "_law_shown", defArgs s_shownL, defBody s_shownL, defScope s_shownL, [], []⟩, ⟨("law", none), "law", "law", defArgs s_law, defBody s_law, defScope s_law, [], []⟩]
def fn : List He.DefD := fn0 ++ fn1 ++ fn2
def fa0 : List He.Fa := [.glo "is_int", .glo "is_from", .glo "is_place", .glo "need_board", .glo "sides", .glo "lines_of", .glo "is_lot", .glo "need_lot", .glo "need_line", .glo "left_of", .glo "shown_of", .glo "numbers", .glo "same_side", .glo "is_greater", .glo "can_fall"]
def fa1 : List He.Fa := [.glo "with_line", .glo "closure", .glo "last_of", .glo "need_two", .glo "fewest_to_fall", .glo "need_standing", .glo "fewest_to_stand", .glo "lead", .glo "with_place", .glo "count_changes", .glo "kept_board", .glo "is_unlike", .glo "_law_taken", .glo "_law_pick", .glo "_law_alike"]
def fa2 : List He.Fa := [.glo "_law_is", .glo "_law_board", .glo "_law_rows", .glo "_law_columns", .glo "_law_numbers", .glo "_law_over", .glo "_law_ready", .glo "_law_with", .glo "_law_drawn", .glo "_law_lot", .glo "_law_end", .glo "_law_shown", .glo "law", .free "isinstance", .free "int"]
def fa3 : List He.Fa := [.free "bool", .free "tuple", .free "list", .free "str", .free "len", .free "all", .free "any", .free "range", .free "sum", .free "zip", .free "enumerate", .free "sorted", .free "min", .free "set", .int "MOST_SIDE" 6]
def fa4 : List He.Fa := [.int "MOST_VALUE" 1000, .glo "AloneOnSide", .exc "AloneOnSide", .exm "AloneOnSide" "AloneOnSide" true]
def fa : List He.Fa := fa0 ++ fa1 ++ fa2 ++ fa3 ++ fa4
def names0 : List PySem.Str := ["is_int", "is_from", "is_place", "need_board", "sides", "lines_of", "is_lot", "need_lot", "need_line", "left_of", "shown_of", "numbers", "same_side", "is_greater", "can_fall"]
def names1 : List PySem.Str := ["with_line", "closure", "last_of", "need_two", "fewest_to_fall", "need_standing", "fewest_to_stand", "lead", "with_place", "count_changes", "kept_board", "is_unlike", "_law_taken", "_law_pick", "_law_alike"]
def names2 : List PySem.Str := ["_law_is", "_law_board", "_law_rows", "_law_columns", "_law_numbers", "_law_over", "_law_ready", "_law_with", "_law_drawn", "_law_lot", "_law_end", "_law_shown", "BoardError", "BadBoard", "BadLot"]
def names3 : List PySem.Str := ["BadLine", "AloneOnSide", "MOST_SIDE", "MOST_VALUE"]
def names : List PySem.Str := names0 ++ names1 ++ names2 ++ names3
abbrev R : PySem.W.OpenRow := PySem.W.OpenLaw.row PySem.Challenge.rw_struckboards_k19_whole_changes
abbrev hk : PySem.W.Hook := He.hookD 5 fa fn
def ob (s : PySem.W.SharedT) : He.AlD := He.obsDG 5 fa fn (HandSHeadRun.getT s)
theorem ob_eq (s : PySem.W.SharedT) : ob s = hk.obs s.abs := He.obsDG_eq (HandSHeadRun.getT_eq s)
theorem run (w : World) : HandSHeadRun.RunEq R (PySem.W.view R.prog [55]) hk ob 3000 names w := by
  intro os
  kernel_rfl
theorem int_of {K : PySem.W.Frag} {h : Heap} {mg : Str → Option Value} {x : Str} {i : Int} (X : K.In h) (G : h.Ns mainGlobals mg) (c : (He.Fa.int x i).ok K = true) : ∃ u, mg x = some u ∧ RelV (.int i) u := by
  obtain ⟨t, e⟩ := He.int_ok X G c
  exact ⟨_, e, t, rfl⟩
theorem txt_ok {K : PySem.W.Frag} {h : Heap} {mg : Str → Option Value} (X : K.In h) (G : h.Ns mainGlobals mg) (c : He.SaysD fa fn K) : Txt K mg (He.ga K "AloneOnSide") := by
  obtain ⟨xC, kC, bC, tC⟩ := He.exc_ok (c.fact 62 (f := .exc "AloneOnSide") rfl)
  constructor
  case side => exact int_of X G (c.fact 59 (f := .int "MOST_SIDE" 6) rfl)
  case most => exact int_of X G (c.fact 60 (f := .int "MOST_VALUE" 1000) rfl)
  case gC => exact He.glo_ok X G (c.fact 61 (f := .glo "AloneOnSide") rfl)
  case xC => exact xC
  case kC => exact kC
  case bC => exact bC
  case tC => exact tC
  case eC => exact He.exm_ok (c.fact 63 (f := .exm "AloneOnSide" "AloneOnSide" true) rfl)
  case f_isinstance => exact He.free_ok X G (c.fact 43 (f := .free "isinstance") rfl)
  case f_int => exact He.free_ok X G (c.fact 44 (f := .free "int") rfl)
  case f_bool => exact He.free_ok X G (c.fact 45 (f := .free "bool") rfl)
  case f_tuple => exact He.free_ok X G (c.fact 46 (f := .free "tuple") rfl)
  case f_list => exact He.free_ok X G (c.fact 47 (f := .free "list") rfl)
  case f_str => exact He.free_ok X G (c.fact 48 (f := .free "str") rfl)
  case f_len => exact He.free_ok X G (c.fact 49 (f := .free "len") rfl)
  case f_all => exact He.free_ok X G (c.fact 50 (f := .free "all") rfl)
  case f_any => exact He.free_ok X G (c.fact 51 (f := .free "any") rfl)
  case f_range => exact He.free_ok X G (c.fact 52 (f := .free "range") rfl)
  case f_sum => exact He.free_ok X G (c.fact 53 (f := .free "sum") rfl)
  case f_zip => exact He.free_ok X G (c.fact 54 (f := .free "zip") rfl)
  case f_enumerate => exact He.free_ok X G (c.fact 55 (f := .free "enumerate") rfl)
  case f_sorted => exact He.free_ok X G (c.fact 56 (f := .free "sorted") rfl)
  case f_min => exact He.free_ok X G (c.fact 57 (f := .free "min") rfl)
  case f_set => exact He.free_ok X G (c.fact 58 (f := .free "set") rfl)
  case d_is_int => exact ⟨by obtain ⟨fd, F⟩ := c.def_ 0 rfl; exact ⟨_, fd, F, He.glo_ok X G (c.fact 0 (f := .glo "is_int") rfl)⟩⟩
  case d_is_from => exact ⟨by obtain ⟨fd, F⟩ := c.def_ 1 rfl; exact ⟨_, fd, F, He.glo_ok X G (c.fact 1 (f := .glo "is_from") rfl)⟩⟩
  case d_is_place => exact ⟨by obtain ⟨fd, F⟩ := c.def_ 2 rfl; exact ⟨_, fd, F, He.glo_ok X G (c.fact 2 (f := .glo "is_place") rfl)⟩⟩
  case d_need_board => exact ⟨by obtain ⟨fd, F⟩ := c.def_ 3 rfl; exact ⟨_, fd, F, He.glo_ok X G (c.fact 3 (f := .glo "need_board") rfl)⟩⟩
  case d_sides => exact ⟨by obtain ⟨fd, F⟩ := c.def_ 4 rfl; exact ⟨_, fd, F, He.glo_ok X G (c.fact 4 (f := .glo "sides") rfl)⟩⟩
  case d_lines_of => exact ⟨by obtain ⟨fd, F⟩ := c.def_ 5 rfl; exact ⟨_, fd, F, He.glo_ok X G (c.fact 5 (f := .glo "lines_of") rfl)⟩⟩
  case d_is_lot => exact ⟨by obtain ⟨fd, F⟩ := c.def_ 6 rfl; exact ⟨_, fd, F, He.glo_ok X G (c.fact 6 (f := .glo "is_lot") rfl)⟩⟩
  case d_need_lot => exact ⟨by obtain ⟨fd, F⟩ := c.def_ 7 rfl; exact ⟨_, fd, F, He.glo_ok X G (c.fact 7 (f := .glo "need_lot") rfl)⟩⟩
  case d_need_line => exact ⟨by obtain ⟨fd, F⟩ := c.def_ 8 rfl; exact ⟨_, fd, F, He.glo_ok X G (c.fact 8 (f := .glo "need_line") rfl)⟩⟩
  case d_left_of => exact ⟨by obtain ⟨fd, F⟩ := c.def_ 9 rfl; exact ⟨_, fd, F, He.glo_ok X G (c.fact 9 (f := .glo "left_of") rfl)⟩⟩
  case d_shown_of => exact ⟨by obtain ⟨fd, F⟩ := c.def_ 10 rfl; exact ⟨_, fd, F, He.glo_ok X G (c.fact 10 (f := .glo "shown_of") rfl)⟩⟩
  case d_numbers => exact ⟨by obtain ⟨fd, F⟩ := c.def_ 11 rfl; exact ⟨_, fd, F, He.glo_ok X G (c.fact 11 (f := .glo "numbers") rfl)⟩⟩
  case d_same_side => exact ⟨by obtain ⟨fd, F⟩ := c.def_ 12 rfl; exact ⟨_, fd, F, He.glo_ok X G (c.fact 12 (f := .glo "same_side") rfl)⟩⟩
  case d_is_greater => exact ⟨by obtain ⟨fd, F⟩ := c.def_ 13 rfl; exact ⟨_, fd, F, He.glo_ok X G (c.fact 13 (f := .glo "is_greater") rfl)⟩⟩
  case d_can_fall => exact ⟨by obtain ⟨fd, F⟩ := c.def_ 14 rfl; exact ⟨_, fd, F, He.glo_ok X G (c.fact 14 (f := .glo "can_fall") rfl)⟩⟩
  case d_with_line => exact ⟨by obtain ⟨fd, F⟩ := c.def_ 15 rfl; exact ⟨_, fd, F, He.glo_ok X G (c.fact 15 (f := .glo "with_line") rfl)⟩⟩
  case d_closure => exact ⟨by obtain ⟨fd, F⟩ := c.def_ 16 rfl; exact ⟨_, fd, F, He.glo_ok X G (c.fact 16 (f := .glo "closure") rfl)⟩⟩
  case d_last_of => exact ⟨by obtain ⟨fd, F⟩ := c.def_ 17 rfl; exact ⟨_, fd, F, He.glo_ok X G (c.fact 17 (f := .glo "last_of") rfl)⟩⟩
  case d_need_two => exact ⟨by obtain ⟨fd, F⟩ := c.def_ 18 rfl; exact ⟨_, fd, F, He.glo_ok X G (c.fact 18 (f := .glo "need_two") rfl)⟩⟩
  case d_fewest_to_fall => exact ⟨by obtain ⟨fd, F⟩ := c.def_ 19 rfl; exact ⟨_, fd, F, He.glo_ok X G (c.fact 19 (f := .glo "fewest_to_fall") rfl)⟩⟩
  case d_need_standing => exact ⟨by obtain ⟨fd, F⟩ := c.def_ 20 rfl; exact ⟨_, fd, F, He.glo_ok X G (c.fact 20 (f := .glo "need_standing") rfl)⟩⟩
  case d_fewest_to_stand => exact ⟨by obtain ⟨fd, F⟩ := c.def_ 21 rfl; exact ⟨_, fd, F, He.glo_ok X G (c.fact 21 (f := .glo "fewest_to_stand") rfl)⟩⟩
  case d_lead => exact ⟨by obtain ⟨fd, F⟩ := c.def_ 22 rfl; exact ⟨_, fd, F, He.glo_ok X G (c.fact 22 (f := .glo "lead") rfl)⟩⟩
  case d_with_place => exact ⟨by obtain ⟨fd, F⟩ := c.def_ 23 rfl; exact ⟨_, fd, F, He.glo_ok X G (c.fact 23 (f := .glo "with_place") rfl)⟩⟩
  case d_count_changes => exact ⟨by obtain ⟨fd, F⟩ := c.def_ 24 rfl; exact ⟨_, fd, F, He.glo_ok X G (c.fact 24 (f := .glo "count_changes") rfl)⟩⟩
  case d_kept_board => exact ⟨by obtain ⟨fd, F⟩ := c.def_ 25 rfl; exact ⟨_, fd, F, He.glo_ok X G (c.fact 25 (f := .glo "kept_board") rfl)⟩⟩
  case d_is_unlike => exact ⟨by obtain ⟨fd, F⟩ := c.def_ 26 rfl; exact ⟨_, fd, F, He.glo_ok X G (c.fact 26 (f := .glo "is_unlike") rfl)⟩⟩
  case d_takenL => exact ⟨by obtain ⟨fd, F⟩ := c.def_ 27 rfl; exact ⟨_, fd, F, He.glo_ok X G (c.fact 27 (f := .glo "_law_taken") rfl)⟩⟩
  case d_pickL => exact ⟨by obtain ⟨fd, F⟩ := c.def_ 28 rfl; exact ⟨_, fd, F, He.glo_ok X G (c.fact 28 (f := .glo "_law_pick") rfl)⟩⟩
  case d_alikeL => exact ⟨by obtain ⟨fd, F⟩ := c.def_ 29 rfl; exact ⟨_, fd, F, He.glo_ok X G (c.fact 29 (f := .glo "_law_alike") rfl)⟩⟩
  case d_isL => exact ⟨by obtain ⟨fd, F⟩ := c.def_ 30 rfl; exact ⟨_, fd, F, He.glo_ok X G (c.fact 30 (f := .glo "_law_is") rfl)⟩⟩
  case d_boardL => exact ⟨by obtain ⟨fd, F⟩ := c.def_ 31 rfl; exact ⟨_, fd, F, He.glo_ok X G (c.fact 31 (f := .glo "_law_board") rfl)⟩⟩
  case d_rowsL => exact ⟨by obtain ⟨fd, F⟩ := c.def_ 32 rfl; exact ⟨_, fd, F, He.glo_ok X G (c.fact 32 (f := .glo "_law_rows") rfl)⟩⟩
  case d_columnsL => exact ⟨by obtain ⟨fd, F⟩ := c.def_ 33 rfl; exact ⟨_, fd, F, He.glo_ok X G (c.fact 33 (f := .glo "_law_columns") rfl)⟩⟩
  case d_numbersL => exact ⟨by obtain ⟨fd, F⟩ := c.def_ 34 rfl; exact ⟨_, fd, F, He.glo_ok X G (c.fact 34 (f := .glo "_law_numbers") rfl)⟩⟩
  case d_overL => exact ⟨by obtain ⟨fd, F⟩ := c.def_ 35 rfl; exact ⟨_, fd, F, He.glo_ok X G (c.fact 35 (f := .glo "_law_over") rfl)⟩⟩
  case d_readyL => exact ⟨by obtain ⟨fd, F⟩ := c.def_ 36 rfl; exact ⟨_, fd, F, He.glo_ok X G (c.fact 36 (f := .glo "_law_ready") rfl)⟩⟩
  case d_withL => exact ⟨by obtain ⟨fd, F⟩ := c.def_ 37 rfl; exact ⟨_, fd, F, He.glo_ok X G (c.fact 37 (f := .glo "_law_with") rfl)⟩⟩
  case d_drawnL => exact ⟨by obtain ⟨fd, F⟩ := c.def_ 38 rfl; exact ⟨_, fd, F, He.glo_ok X G (c.fact 38 (f := .glo "_law_drawn") rfl)⟩⟩
  case d_lotL => exact ⟨by obtain ⟨fd, F⟩ := c.def_ 39 rfl; exact ⟨_, fd, F, He.glo_ok X G (c.fact 39 (f := .glo "_law_lot") rfl)⟩⟩
  case d_endL => exact ⟨by obtain ⟨fd, F⟩ := c.def_ 40 rfl; exact ⟨_, fd, F, He.glo_ok X G (c.fact 40 (f := .glo "_law_end") rfl)⟩⟩
  case d_shownL => exact ⟨by obtain ⟨fd, F⟩ := c.def_ 41 rfl; exact ⟨_, fd, F, He.glo_ok X G (c.fact 41 (f := .glo "_law_shown") rfl)⟩⟩
  case d_law => exact ⟨by obtain ⟨fd, F⟩ := c.def_ 42 rfl; exact ⟨_, fd, F, He.glo_ok X G (c.fact 42 (f := .glo "law") rfl)⟩⟩
theorem facts {P : Program} {w : World} {K : PySem.W.Frag} {h : Heap} {mg : Str → Option Value} {f : Addr} (X : K.In h) (G : h.Ns mainGlobals mg) (hfa : mg ("law" : Str) = some (.ref f)) (c : He.SaysD fa fn K) :
    ∃ fd : FuncData, (∀ (s : Shared) (v : Value), BindsTo s fd ⟨[v], []⟩ [("_law_script", v)]) ∧ ∀ base : Heap, K.In base → base.Ns mainGlobals mg → FnOk P w K mg base CX0 10 f fd ["_law_script"] (spLaw K) := by
  obtain ⟨fd, F⟩ := c.def_ 42 rfl
  have e := hfa.symm.trans (He.glo_ok X G (c.fact 42 (f := .glo "law") rfl))
  cases e
  have b := FunD.bindsA (ps := ["_law_script"]) F fun _ _ _ _ _ _ us hl => match us, hl with | [_], _ => rfl
  refine ⟨fd, fun s v => b s [v] rfl, fun base _ _ => ?_⟩
  have T := txt_ok X G c
  generalize He.ga K "AloneOnSide" = C at T
  have C_is_int : Cal P w K mg base CX0 1 "is_int" sp_is_int := c_is_int T 
  have C_is_from : Cal P w K mg base CX0 2 "is_from" sp_is_from := c_is_from T C_is_int
  have C_is_place : Cal P w K mg base CX0 3 "is_place" sp_is_place := c_is_place T C_is_from
  have C_need_board : Cal P w K mg base CX0 4 "need_board" sp_need_board := c_need_board T C_is_place
  have C_sides : Cal P w K mg base CX0 1 "sides" sp_sides := c_sides T 
  have C_lines_of : Cal P w K mg base CX0 2 "lines_of" sp_lines_of := c_lines_of T C_sides
  have C_is_lot : Cal P w K mg base CX0 3 "is_lot" sp_is_lot := c_is_lot T C_is_from C_sides
  have C_need_lot : Cal P w K mg base CX0 4 "need_lot" sp_need_lot := c_need_lot T C_is_lot
  have C_need_line : Cal P w K mg base CX0 3 "need_line" sp_need_line := c_need_line T C_is_from C_sides
  have C_left_of : Cal P w K mg base CX0 3 "left_of" sp_left_of := c_left_of T C_lines_of
  have C_shown_of : Cal P w K mg base CX0 4 "shown_of" sp_shown_of := c_shown_of T C_left_of
  have C_numbers : Cal P w K mg base CX0 4 "numbers" sp_numbers := c_numbers T C_left_of
  have C_same_side : Cal P w K mg base CX0 1 "same_side" sp_same_side := c_same_side T 
  have C_is_greater : Cal P w K mg base CX0 5 "is_greater" sp_is_greater := c_is_greater T C_same_side C_numbers
  have C_can_fall : Cal P w K mg base CX0 6 "can_fall" sp_can_fall := c_can_fall T C_is_greater C_lines_of
  have C_with_line : Cal P w K mg base CX0 1 "with_line" sp_with_line := c_with_line T 
  have C_closure : Cal P w K mg base CX0 7 "closure" sp_closure := c_closure T C_can_fall C_with_line
  have C_last_of : Cal P w K mg base CX0 8 "last_of" sp_last_of := c_last_of T C_closure C_lines_of
  have C_need_two : Cal P w K mg base (L2.CX P w) 3 "need_two" (sp_need_two C) := c_need_two T C_same_side C_lines_of
  have C_need_standing : Cal P w K mg base CX0 4 "need_standing" sp_need_standing := c_need_standing T C_need_line
  have C_fewest_to_fall : Cal P w K mg base (L2.CX P w) 5 "fewest_to_fall" (sp_fewest_to_fall C) := c_fewest_to_fall T C_need_board C_need_lot C_need_standing C_need_two C_lines_of C_numbers C_same_side
  have C_fewest_to_stand : Cal P w K mg base CX0 7 "fewest_to_stand" sp_fewest_to_stand := c_fewest_to_stand T C_need_board C_need_lot C_need_standing C_can_fall
  have C_lead : Cal P w K mg base (L2.CX P w) 5 "lead" (sp_lead C) := c_lead T C_need_board C_need_lot C_need_standing C_same_side C_numbers
  have C_with_place : Cal P w K mg base CX0 1 "with_place" sp_with_place := c_with_place T 
  have C_count_changes : Cal P w K mg base CX0 9 "count_changes" sp_count_changes := c_count_changes T C_need_board C_need_line C_last_of C_with_place
  have C_kept_board : Cal P w K mg base CX0 9 "kept_board" sp_kept_board := c_kept_board T C_need_board C_need_lot C_last_of C_shown_of
  have C_is_unlike : Cal P w K mg base CX0 5 "is_unlike" sp_is_unlike := c_is_unlike T C_need_board C_need_lot C_left_of
  have C_takenL : Cal P w K mg base CX0 1 "_law_taken" (sp_takenL K) := c_takenL T 
  have C_pickL : Cal P w K mg base CX0 2 "_law_pick" (sp_pickL K) := c_pickL T C_takenL
  have A1 := c_alike1 (P := P) (w := w) (base := base) T
  have A2 := c_alike2 T A1
  have C_alikeL := c_alikeL T A2
  have C_isL : Cal P w K mg base CX0 1 "_law_is" sp_isL := c_isL T 
  have C_boardL : Cal P w K mg base CX0 2 "_law_board" (sp_boardL K) := c_boardL T C_takenL
  have C_rowsL : Cal P w K mg base CX0 1 "_law_rows" sp_rowsL := c_rowsL T 
  have C_columnsL : Cal P w K mg base CX0 1 "_law_columns" sp_columnsL := c_columnsL T 
  have C_numbersL : Cal P w K mg base CX0 2 "_law_numbers" sp_numbersL := c_numbersL T C_rowsL C_columnsL
  have C_overL : Cal P w K mg base CX0 3 "_law_over" sp_overL := c_overL T C_rowsL C_columnsL C_numbersL
  have C_readyL : Cal P w K mg base CX0 4 "_law_ready" sp_readyL := c_readyL T C_rowsL C_columnsL C_overL
  have C_withL : Cal P w K mg base CX0 1 "_law_with" sp_withL := c_withL T 
  have C_drawnL : Cal P w K mg base CX0 5 "_law_drawn" (sp_drawnL K) := c_drawnL T C_readyL C_pickL C_withL
  have C_lotL : Cal P w K mg base CX0 6 "_law_lot" (sp_lotL K) := c_lotL T C_takenL C_drawnL
  have C_endL : Cal P w K mg base CX0 5 "_law_end" sp_endL := c_endL T C_readyL C_withL
  have C_shownL : Cal P w K mg base CX0 2 "_law_shown" sp_shownL := c_shownL T C_rowsL C_columnsL
  exact ok_law T C_boardL C_numbersL C_overL C_isL C_lotL C_rowsL C_columnsL C_pickL C_alikeL C_is_unlike C_fewest_to_stand C_fewest_to_fall C_lead C_count_changes C_kept_board C_endL C_shownL F
end SB
open PySem PySem.W PySem.Calls PyProof.Rows
theorem PySem.Challenge.cw_struckboards_k19_whole_changes_holds : PySem.Challenge.rw_struckboards_k19_whole_changes.Holds := by
  w_on; o_law
  refine HandSHeadRun.head_any (r := OpenLaw.row PySem.Challenge.rw_struckboards_k19_whole_changes) (q := view (OpenLaw.row PySem.Challenge.rw_struckboards_k19_whole_changes).prog [55]) (H := SB.hk) (ob := SB.ob) (M := 3000) (loose := SB.names) (d := HandSHeadRun.topDef (OpenLaw.row PySem.Challenge.rw_struckboards_k19_whole_changes).prog 55) (kwd := []) SB.ob_eq
    (by kernel_rfl) (fun s => by kernel_rfl) SB.run (by kernel_rfl) (by kernel_rfl) (by kernel_rfl) (by rfl) (by first | assumption | decide +kernel) (by decide +kernel) ⟨rfl, rfl, rfl, rfl, rfl, by decide +kernel⟩ ?hw ?hc
  case hw => w_witness2
  case hc =>
    refine L2.walk_ofE (l := PySem.Challenge.rw_struckboards_k19_whole_changes) (n := 63) (k := 10) (x := "_law_script") (CX := L2.CX0) rfl (by decide) (by kernel_rfl) ⟨rfl, by decide, by decide⟩ ?F (fun _ _ _ _ z => z)
    intro w mg fa h Y G hmg0
    obtain ⟨K, KX, c⟩ := Y
    have hmg : mg ("law" : PySem.Str) = some (.ref fa) := by
      have e : (HandSHeadRun.topDef (OpenLaw.row PySem.Challenge.rw_struckboards_k19_whole_changes).prog 55).name = ("law" : PySem.Str) := by kernel_rfl
      rw [← e]
      exact hmg0
    obtain ⟨fd, hb, hF⟩ := SB.facts (P := (PySem.Challenge.rw_struckboards_k19_whole_changes).prog) (w := w) KX G hmg c
    exact ⟨K, fd, SB.spLaw K, KX, hb, fun H a ns hl _ hS => ⟨a, ns, rfl, hS, fun _ => rfl⟩, hF⟩
