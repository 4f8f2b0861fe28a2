import PyProof.Rows.All
import Wide.All
import OpenK.AllK
import Wide.FinOn
import HandS.ForMost
import HandS.Deep
import HandS.Defaults
import HandS.IsInst
import HandS.Conv
import HandS.Small
import HandS.Flow
import HandS.HeadHook1
import HandS.HeadHook2
import HandS.Style
import HandS.Exc
import HandS.ExcInit
import HandS.ExcField
import HandS.TryOnly
import HandS.CallLocal
import HandS.CallSlots
import HandS.WordsExc
import HandS.Head0
import HandS.Head1
import HandS.Head2
import HandS.HeadEnd
import HandS.HeadHook3
import HandS.HeadHook4
import PySem.Challenge.RW_helpedcalls_k08_whole_programs
import HandS.ExcSuper
import KE.KExcSuper
import HandS.Walk
import HandS.ExcOwn
import HandS.Comp
import HandS.More
import KE.SortData
import PyProof.EqAt
import PyProof.EqKinds
import PyProof.TupleCall
import HandS.Base
import HandS.Call
import HandS.List
import HandS.Set
import HandS.SetFor
import HandS.Strs
import PyProof.Rows.SortShellAny
import PyProof.InstEq
set_option Elab.async false
set_option linter.all false
set_option maxRecDepth 100000
set_option maxHeartbeats 2000000
/-! The layer of this proof: a region S of things that never change, in a heap H that holds mutable things beside it; what an expression gives, as data (PyData) in the region. -/
namespace Zb
open PySem PySem.Spec PyProof.Rows L2

/-! ### region and heap -/
/-- from region S in heap H to S' in H'; M may have changed -/
structure Go (M : Addr → Prop) (S H S' H' : Hp) : Prop where
  s : Same S S'
  i : Same S' H'
  h : ∀ b o, ¬ M b → H b = some o → H' b = some o
  t : ∀ b, H b ≠ none → H' b ≠ none
  n : ∀ b, S b = none → S' b ≠ none → H b = none
abbrev M0 : Addr → Prop := fun _ => False
abbrev G0 : Hp → Hp → Hp → Hp → Prop := Go M0
section
variable {M M' : Addr → Prop} {S H S1 H1 S2 H2 S' H' : Hp} {p : Addr} {o : HO}
theorem Go.refl (i : Same S H) : Go M S H S H := ⟨Same.refl S, i, fun _ _ _ e => e, fun _ e => e, fun _ e n => absurd e n⟩
theorem Go.trans (a : Go M S H S1 H1) (b : Go M S1 H1 S2 H2) : Go M S H S2 H2 :=
  ⟨a.s.trans b.s, b.i, fun c o m e => b.h c o m (a.h c o m e), fun c e => b.t c (a.t c e), fun c e n => by
    by_cases q : S1 c = none
    · have z := b.n c q n
      by_cases y : H c = none
      · exact y
      · exact absurd z (a.t c y)
    · exact a.n c e q⟩
theorem Go.weak (a : Go M S H S' H') (h : ∀ b, M b → M' b) : Go M' S H S' H' := ⟨a.s, a.i, fun b o m e => a.h b o (fun z => m (h b z)) e, a.t, a.n⟩
theorem Go.g (a : G0 S H S' H') : Go M S H S' H' := a.weak fun _ z => z.elim
theorem Go.same (a : G0 S H S' H') : Same H H' := fun b o e => a.h b o (fun z => z) e
theorem Go.at_ (a : Go M S H S' H') {b : Addr} {u : HO} (m : ¬ M b) (e : H b = some u) : H' b = some u := a.h b u m e
/-- the region may be left as it was -/
theorem Go.keep (a : Go M S H S' H') : Go M S H S H' := ⟨Same.refl S, a.s.trans a.i, a.h, a.t, fun _ e n => absurd e n⟩
theorem ne_none_of {a b : Addr} {H : Hp} {u : HO} (h : H a = some u) (h' : H b = none) : a ≠ b := ne_of_none h h'
theorem Go.new (i : Same S H) (hp : H p = none) : G0 S H (upd S p o) (upd H p o) := by
  have sp : S p = none := i.free hp
  refine ⟨fun b u e => ?_, fun b u e => ?_, fun b u _ e => ?_, fun b e => ?_, fun b e n => ?_⟩
  · rw [upd_ne (ne_of_none e sp)]; exact e
  · by_cases hb : b = p
    · rw [hb, upd_same] at e; rw [hb, upd_same]; exact e
    · rw [upd_ne hb] at e; rw [upd_ne hb]; exact i b u e
  · rw [upd_ne (ne_of_none e hp)]; exact e
  · by_cases hb : b = p
    · rw [hb, upd_same]; exact Option.some_ne_none _
    · rw [upd_ne hb]; exact e
  · by_cases hb : b = p
    · rw [hb]; exact hp
    · rw [upd_ne hb] at n; exact absurd e n
theorem Go.mut (a : Go M S H S1 H1) (hs : S1 p = none) (hm : M p ∨ H p = none) : Go M S H S1 (upd H1 p o) := by
  refine ⟨a.s, fun b u e => ?_, fun b u m e => ?_, fun b e => ?_, a.n⟩
  · rw [upd_ne (ne_of_none e hs)]; exact a.i b u e
  · have nb : b ≠ p := fun z => by
      subst z
      rcases hm with y | y
      · exact m y
      · rw [y] at e; cases e
    rw [upd_ne nb]; exact a.h b u m e
  · by_cases hb : b = p
    · rw [hb, upd_same]; exact Option.some_ne_none _
    · rw [upd_ne hb]; exact a.t b e
theorem Go.newM (i : Same S H) (hp : H p = none) : G0 S H S (upd H p o) := (Go.refl i).mut (i.free hp) (.inr hp)
theorem Go.frz (a : Go M S H S1 H1) (hs : S1 p = none) (h0 : H p = none) (hp : H1 p = some o) : Go M S H (upd S1 p o) H1 := by
  refine ⟨fun b u e => ?_, fun b u e => ?_, a.h, a.t, fun b e n => ?_⟩
  · have q := a.s b u e
    rw [upd_ne (ne_of_none q hs)]; exact q
  · by_cases hb : b = p
    · rw [hb, upd_same] at e; rw [hb, hp]; exact e
    · rw [upd_ne hb] at e; exact a.i b u e
  · by_cases hb : b = p
    · rw [hb]; exact h0
    · rw [upd_ne hb] at n; exact a.n b e n
/-- a thing outside the region stays there -/
theorem Go.out (a : Go M S H S' H') (hs : S p = none) (hp : H p ≠ none) : S' p = none := by
  by_cases q : S' p = none
  · exact q
  · exact absurd (a.n p hs q) hp
theorem Go.fresh (a : Go M S H S' H') (hp : H' p = none) : H p = none := by
  by_cases q : H p = none
  · exact q
  · exact absurd hp (a.t p q)
/-- the union of what was known and what has come -/
def join (S1 S' : Hp) : Hp := fun b => match S1 b with
  | some o => some o
  | none => S' b
theorem Go.join (a : G0 S H S' H') (e : Same S S1) (i : Same S1 H) : G0 S1 H (join S1 S') H' ∧ Same S' (Zb.join S1 S') := by
  have hh := a.same
  refine ⟨⟨fun b u q => ?_, fun b u q => ?_, a.h, a.t, fun b q n => ?_⟩, fun b u q => ?_⟩
  · show (match S1 b with | some o => some o | none => S' b) = some u
    rw [q]
  · have q' : (match S1 b with | some o => some o | none => S' b) = some u := q
    cases z : S1 b with
    | some v =>
      rw [z] at q'
      have y : v = u := Option.some.inj q'
      rw [← y]
      exact hh b v (i b v z)
    | none =>
      rw [z] at q'
      exact a.i b u q'
  · have n' : (match S1 b with | some o => some o | none => S' b) ≠ none := n
    rw [q] at n'
    refine a.n b ?_ n'
    exact e.free q
  · show (match S1 b with | some o => some o | none => S' b) = some u
    cases z : S1 b with
    | none => exact q
    | some v =>
      have y1 := hh b v (i b v z)
      have y2 := a.i b u q
      rw [y1] at y2
      exact y2
end

/-! ### data in a region -/
theorem rd_same {S S' : Hp} {a : Addr} {u : HO} (e : Same S S') (h : Rd S a u) : Rd S' a u := by
  rcases h with h | ⟨o, h⟩
  · exact .inl (e _ _ h)
  · exact .inr ⟨o, e _ _ h⟩
theorem sqL_same {K : PySem.W.Frag} {S S' : Hp} {a : Addr} {xs : List V} (e : Same S S') (h : SqL K S a xs) : SqL K S' a xs := by
  rcases h with h | h
  · exact .inl (rd_same e h)
  · exact .inr h
theorem sqT_same {K : PySem.W.Frag} {S S' : Hp} {a : Addr} {xs : List V} (e : Same S S') (h : SqT K S a xs) : SqT K S' a xs := by
  rcases h with h | h
  · exact .inl (rd_same e h)
  · exact .inr h
mutual
theorem dp_same' {K : PySem.W.Frag} {S S' : Hp} (e : Same S S') : ∀ (d : PyData) (v : V), Dp K S v d → Dp K S' v d
  | .none, _, h => by cases h; exact .non
  | .bool b, _, h => by cases h; exact .bl b
  | .int i, _, h => by cases h; exact .int i
  | .str x, _, h => by cases h; exact .str x
  | .list ds, _, h => by
    cases h with
    | lst q a => exact .lst (sqL_same e q) (dpAll_same' e ds _ a)
  | .tuple ds, _, h => by
    cases h with
    | tup q a => exact .tup (sqT_same e q) (dpAll_same' e ds _ a)
  | .dict _, _, h => by cases h
theorem dpAll_same' {K : PySem.W.Frag} {S S' : Hp} (e : Same S S') : ∀ (ds : List PyData) (vs : List V), DpAll K S vs ds → DpAll K S' vs ds
  | [], _, h => by cases h; exact .nil
  | d :: ds, _, h => by
    cases h with
    | cons a b => exact .cons (dp_same' e d _ a) (dpAll_same' e ds _ b)
end
section
variable {K : PySem.W.Frag} {S S' H : Hp} {v : V} {vs ws : List V} {d : PyData} {ds es : List PyData}
theorem dp_same (e : Same S S') (h : Dp K S v d) : Dp K S' v d := dp_same' e d v h
theorem dpAll_same (e : Same S S') (h : DpAll K S vs ds) : DpAll K S' vs ds := dpAll_same' e ds vs h
theorem dp_none (h : Dp K S v .none) : v = .non := by cases h; rfl
theorem dp_bool {b : Bool} (h : Dp K S v (.bool b)) : v = .bl b := by cases h; rfl
theorem dp_int {i : Int} (h : Dp K S v (.int i)) : v = .int i := by cases h; rfl
theorem dp_str {x : Str} (h : Dp K S v (.str x)) : v = .str x := by cases h; rfl
theorem dp_list (h : Dp K S v (.list ds)) : ∃ a xs, v = .ref a ∧ SqL K S a xs ∧ DpAll K S xs ds := by
  cases h with
  | lst q a => exact ⟨_, _, rfl, q, a⟩
theorem dp_tuple (h : Dp K S v (.tuple ds)) : ∃ a xs, v = .ref a ∧ SqT K S a xs ∧ DpAll K S xs ds := by
  cases h with
  | tup q a => exact ⟨_, _, rfl, q, a⟩
theorem dpAll_nil (h : DpAll K S vs []) : vs = [] := by cases h; rfl
theorem dpAll_cons (h : DpAll K S vs (d :: ds)) : ∃ v us, vs = v :: us ∧ Dp K S v d ∧ DpAll K S us ds := by
  cases h with
  | cons a b => exact ⟨_, _, rfl, a, b⟩
theorem dpAll_len : ∀ {vs : List V} {ds : List PyData}, DpAll K S vs ds → vs.length = ds.length
  | _, _, .nil => rfl
  | _, _, .cons _ b => by rw [List.length_cons, List.length_cons, dpAll_len b]
theorem dpAll_append : ∀ {vs ws : List V} {ds es : List PyData}, DpAll K S vs ds → DpAll K S ws es → DpAll K S (vs ++ ws) (ds ++ es)
  | _, _, _, _, .nil, h => h
  | _, _, _, _, .cons a b, h => .cons a (dpAll_append b h)
theorem dpAll_at : ∀ {vs : List V} {ds : List PyData} {i : Nat} {d : PyData}, DpAll K S vs ds → ds[i]? = some d → ∃ v, vs[i]? = some v ∧ Dp K S v d
  | _, _, _, _, .nil, h => by simp at h
  | _, _, 0, _, .cons a _, h => by
    simp at h
    subst h
    exact ⟨_, rfl, a⟩
  | _, _, i + 1, _, .cons _ b, h => dpAll_at (i := i) b (by simpa using h)
theorem dpAll_of : ∀ {vs : List V} {ds : List PyData} {i : Nat} {v : V}, DpAll K S vs ds → vs[i]? = some v → ∃ d, ds[i]? = some d ∧ Dp K S v d
  | _, _, _, _, .nil, h => by simp at h
  | _, _, 0, _, .cons a _, h => by
    simp at h
    subst h
    exact ⟨_, rfl, a⟩
  | _, _, i + 1, _, .cons _ b, h => dpAll_of (i := i) b (by simpa using h)
theorem dpAll_take : ∀ (n : Nat) {vs : List V} {ds : List PyData}, DpAll K S vs ds → DpAll K S (vs.take n) (ds.take n)
  | 0, _, _, _ => .nil
  | _ + 1, _, _, .nil => .nil
  | n + 1, _, _, .cons a b => .cons a (dpAll_take n b)
theorem dpAll_drop : ∀ (n : Nat) {vs : List V} {ds : List PyData}, DpAll K S vs ds → DpAll K S (vs.drop n) (ds.drop n)
  | 0, _, _, h => h
  | _ + 1, _, _, .nil => .nil
  | n + 1, _, _, .cons _ b => dpAll_drop n b
theorem dpAll_strs : ∀ (l : List Str), DpAll K S (l.map V.str) (l.map PyData.str)
  | [] => .nil
  | x :: r => .cons (.str x) (dpAll_strs r)
theorem dpAll_ints : ∀ (l : List Int), DpAll K S (l.map V.int) (l.map PyData.int)
  | [] => .nil
  | x :: r => .cons (.int x) (dpAll_ints r)
theorem strs_dpAll : ∀ {l : List Str} {vs : List V}, DpAll K S vs (l.map PyData.str) → vs = l.map V.str
  | [], _, h => dpAll_nil h
  | x :: r, _, h => by
    obtain ⟨v, us, rfl, a, b⟩ := dpAll_cons h
    rw [dp_str a, strs_dpAll b]
    rfl
theorem ints_dpAll : ∀ {l : List Int} {vs : List V}, DpAll K S vs (l.map PyData.int) → vs = l.map V.int
  | [], _, h => dpAll_nil h
  | x :: r, _, h => by
    obtain ⟨v, us, rfl, a, b⟩ := dpAll_cons h
    rw [dp_int a, ints_dpAll b]
    rfl
theorem bools_dpAll : ∀ {l : List Bool} {vs : List V}, DpAll K S vs (l.map PyData.bool) → vs = l.map V.bl
  | [], _, h => dpAll_nil h
  | x :: r, _, h => by
    obtain ⟨v, us, rfl, a, b⟩ := dpAll_cons h
    rw [dp_bool a, bools_dpAll b]
    rfl
end

theorem lz {n : Nat} (m : Nat) (e : n = m) (h : m ≤ 100000 := by decide) : n ≤ sizeLine := by
  rw [e]
  exact Nat.le_trans h (by decide)
/-! ### what an expression gives -/
def EvD (K : PySem.W.Frag) (te : TE) (σ : L2.St) (S : Hp) (d : PyData) : Prop := ∀ H, Same S H → ∀ Q : VK, (∀ v S' H', G0 S H S' H' → Dp K S' v d → Q v H') → te σ H Q
def EvT (tt : TT) (σ : L2.St) (S : Hp) (b : Bool) : Prop := ∀ H, Same S H → ∀ Q : Bool → Hp → Prop, (∀ H', G0 S H S H' → Q b H') → tt σ H Q
def EvA (K : PySem.W.Frag) (ta : TA) (σ : L2.St) (S : Hp) (ds : List PyData) : Prop := ∀ H, Same S H → ∀ Q : List V → Hp → Prop, (∀ vs S' H', G0 S H S' H' → DpAll K S' vs ds → Q vs H') → ta σ H Q
/-- an operation on two values -/
def RvD (K : PySem.W.Frag) (r : R2) (S : Hp) (x y z : PyData) : Prop := ∀ S1, Same S S1 → ∀ u v, Dp K S1 u x → Dp K S1 v y → ∀ H, Same S1 H → ∀ Q : VK, (∀ w S' H', G0 S1 H S' H' → Dp K S' w z → Q w H') → r u v H Q
/-- on one; on a list of values -/
def RuD (K : PySem.W.Frag) (r : V → Hp → VK → Prop) (S : Hp) (x z : PyData) : Prop := ∀ S1, Same S S1 → ∀ u, Dp K S1 u x → ∀ H, Same S1 H → ∀ Q : VK, (∀ w S' H', G0 S1 H S' H' → Dp K S' w z → Q w H') → r u H Q
def RcD (K : PySem.W.Frag) (r : List V → Hp → VK → Prop) (S : Hp) (xs : List PyData) (z : PyData) : Prop := ∀ S1, Same S S1 → ∀ us, DpAll K S1 us xs → ∀ H, Same S1 H → ∀ Q : VK, (∀ w S' H', G0 S1 H S' H' → Dp K S' w z → Q w H') → r us H Q
section
variable {K : PySem.W.Frag} {σ : L2.St} {S S1 H : Hp} {te ta tb tc : TE} {tt t u : TT} {tA tr : TA} {d x y z : PyData} {v : V} {ds : List PyData} {r r' : R2} {b : Bool}
theorem EvD.mono (e : Same S S1) (h : EvD K te σ S d) : EvD K te σ S1 d := fun H i Q q => h H (e.trans i) Q fun v S' H' g p => by
  obtain ⟨g1, g2⟩ := g.join e i
  exact q v _ H' g1 (dp_same g2 p)
theorem EvA.mono (e : Same S S1) (h : EvA K tA σ S ds) : EvA K tA σ S1 ds := fun H i Q q => h H (e.trans i) Q fun v S' H' g p => by
  obtain ⟨g1, g2⟩ := g.join e i
  exact q v _ H' g1 (dpAll_same g2 p)
theorem EvT.mono (e : Same S S1) (h : EvT tt σ S b) : EvT tt σ S1 b := fun H i Q q => h H (e.trans i) Q fun H' g => q H' ⟨Same.refl _, fun c o z => g.same c o (i c o z), g.h, g.t, fun _ a n => absurd a n⟩
theorem ev_is (h : EvD K te σ S x) (e : x = y) : EvD K te σ S y := e ▸ h
theorem et_is {b' : Bool} (h : EvT tt σ S b) (e : b = b') : EvT tt σ S b' := e ▸ h
theorem ev_var {i : Nat} {v : V} (h : σ[i]? = some (some v)) (p : Dp K S v d) : EvD K (tVar i) σ S d := fun H i Q q => ⟨v, h, q v S H (Go.refl i) p⟩
theorem ev_c (p : Dp K S v d) : EvD K (tC v) σ S d := fun H i Q q => q v S H (Go.refl i) p
theorem ev_op (hr : RvD K r S x y z) (ha : EvD K ta σ S x) (hb : EvD K tb σ S y) : EvD K (tOp r ta tb) σ S z := fun H i Q q =>
  ha H i _ fun u S1 H1 g1 p1 => (hb.mono g1.s) H1 g1.i _ fun w S2 H2 g2 p2 => hr S2 (g1.s.trans g2.s) u w (dp_same g2.s p1) p2 H2 g2.i Q fun c S3 H3 g3 p3 => q c S3 H3 ((g1.trans g2).trans g3) p3
theorem ev_un {r : V → Hp → VK → Prop} (hr : RuD K r S x z) (ha : EvD K ta σ S x) : EvD K (tUn r ta) σ S z := fun H i Q q =>
  ha H i _ fun u S1 H1 g1 p1 => hr S1 g1.s u p1 H1 g1.i Q fun c S3 H3 g3 p3 => q c S3 H3 (g1.trans g3) p3
theorem ea_nil : EvA K tNil σ S [] := fun H i Q q => q [] S H (Go.refl i) .nil
theorem ea_cons (ha : EvD K ta σ S x) (hr : EvA K tr σ S ds) : EvA K (tCons ta tr) σ S (x :: ds) := fun H i Q q =>
  ha H i _ fun u S1 H1 g1 p1 => (hr.mono g1.s) H1 g1.i _ fun us S2 H2 g2 p2 => q (u :: us) S2 H2 (g1.trans g2) (.cons (dp_same g2.s p1) p2)
theorem ea_one (ha : EvD K ta σ S x) : EvA K (tCons ta tNil) σ S [x] := ea_cons ha ea_nil
theorem ev_cb {r : List V → Hp → VK → Prop} (hr : RcD K r S ds z) (ha : EvA K tA σ S ds) : EvD K (tCB r tA) σ S z := fun H i Q q =>
  ha H i _ fun us S1 H1 g1 p1 => hr S1 g1.s us p1 H1 g1.i Q fun c S3 H3 g3 p3 => q c S3 H3 (g1.trans g3) p3
theorem ev_tup (ha : EvA K tA σ S ds) (hl : ds.length ≤ sizeLine) : EvD K (tTup tA) σ S (.tuple ds) := fun H i Q q =>
  ha H i _ fun us S1 H1 g1 p1 => ⟨by rw [dpAll_len p1]; exact hl, fun p hp => q (.ref p) _ _ (g1.trans (Go.new g1.i hp)) (.tup (SqT.of upd_same) (dpAll_same (Go.new (o := .tup us) g1.i hp).s p1))⟩
theorem ev_lst (ha : EvA K tA σ S ds) (hl : ds.length ≤ sizeLine) : EvD K (tLst tA) σ S (.list ds) := fun H i Q q =>
  ha H i _ fun us S1 H1 g1 p1 => ⟨by rw [dpAll_len p1]; exact hl, fun p hp => q (.ref p) _ _ (g1.trans (Go.new g1.i hp)) (.lst (SqL.of upd_same) (dpAll_same (Go.new (o := .lst us) g1.i hp).s p1))⟩
/-! tests -/
theorem et_val (h : EvD K te σ S (.bool b)) : EvT (tTest te) σ S b := fun H i Q q => h H i _ fun v S1 H1 g p => ⟨b, dp_bool p, q H1 g.keep⟩
theorem et_B (h : EvD K te σ S (.bool b)) : EvT (tB te) σ S b := fun H i Q q => h H i _ fun v S1 H1 g p => ⟨b, dp_bool p, q H1 g.keep⟩
theorem et_truth (h : EvD K te σ S (.bool b)) : EvT (fun σ H Q => te σ H fun x H' => ∃ k, TruV K x H' k ∧ Q k H') σ S b := fun H i Q q => h H i _ fun v S1 H1 g p => by
  refine ⟨b, ?_, q H1 g.keep⟩
  rw [dp_bool p]
  exact rfl
theorem et_and {a c : Bool} (h1 : EvT t σ S a) (h2 : a = true → EvT u σ S c) : EvT (tAnd t u) σ S (a && c) := fun H i Q q => h1 H i _ fun H1 g => by
  cases a with
  | true =>
    show u σ H1 Q
    exact h2 rfl H1 g.i Q fun H2 g2 => q H2 (g.trans g2)
  | false => exact q H1 g
theorem et_or {a c : Bool} (h1 : EvT t σ S a) (h2 : a = false → EvT u σ S c) : EvT (tOr t u) σ S (a || c) := fun H i Q q => h1 H i _ fun H1 g => by
  cases a with
  | true => exact q H1 g
  | false =>
    show u σ H1 Q
    exact h2 rfl H1 g.i Q fun H2 g2 => q H2 (g.trans g2)
theorem et_not {a : Bool} (h : EvT t σ S a) : EvT (tNot t) σ S (!a) := fun H i Q q => h H i _ fun H1 g => q H1 g
theorem ev_and {a c : Bool} (h1 : EvD K ta σ S (.bool a)) (h2 : a = true → EvD K tb σ S (.bool c)) : EvD K (tAndV ta tb) σ S (.bool (a && c)) := fun H i Q q => h1 H i _ fun v S1 H1 g p => ⟨a, dp_bool p, by
  cases a with
  | true =>
    show tb σ H1 Q
    exact (h2 rfl).mono g.s H1 g.i Q fun w S2 H2 g2 p2 => q w S2 H2 (g.trans g2) p2
  | false => exact q (.bl false) S1 H1 g (.bl false)⟩
theorem ev_or {a c : Bool} (h1 : EvD K ta σ S (.bool a)) (h2 : a = false → EvD K tb σ S (.bool c)) : EvD K (tOrV ta tb) σ S (.bool (a || c)) := fun H i Q q => h1 H i _ fun v S1 H1 g p => ⟨a, dp_bool p, by
  cases a with
  | true => exact q (.bl true) S1 H1 g (.bl true)
  | false =>
    show tb σ H1 Q
    exact (h2 rfl).mono g.s H1 g.i Q fun w S2 H2 g2 p2 => q w S2 H2 (g.trans g2) p2⟩
theorem ev_not {a : Bool} (h : EvD K ta σ S (.bool a)) : EvD K (tNotV ta) σ S (.bool (!a)) := fun H i Q q => h H i _ fun v S1 H1 g p => ⟨a, dp_bool p, q _ S1 H1 g (.bl _)⟩
theorem ev_if {b : Bool} (h : EvT t σ S b) (h1 : b = true → EvD K ta σ S d) (h2 : b = false → EvD K tb σ S d) : EvD K (tIf t ta tb) σ S d := fun H i Q q => h H i _ fun H1 g => by
  cases b with
  | true =>
    show ta σ H1 Q
    exact h1 rfl H1 g.i Q fun w S2 H2 g2 p2 => q w S2 H2 (g.trans g2) p2
  | false =>
    show tb σ H1 Q
    exact h2 rfl H1 g.i Q fun w S2 H2 g2 p2 => q w S2 H2 (g.trans g2) p2
end
end Zb
set_option Elab.async false
set_option linter.all false
set_option maxRecDepth 100000
set_option maxHeartbeats 2000000
/-! The layer, further: operators, subscripts, slices, built-ins, comprehensions, calls, statements. -/
namespace Zb
open PySem PySem.Spec PyProof.Rows L2

section
variable {K : PySem.W.Frag} {σ : L2.St} {S S1 H : Hp} {te ta tb tc : TE} {tt t u : TT} {tA tr : TA} {d x y z : PyData} {v : V} {ds es : List PyData} {r r' : R2} {b : Bool}
/-! ### operators -/
theorem rv_eqs {a c : Str} : RvD K rEq S (.str a) (.str c) (.bool (decide (a = c))) := fun S1 _ u v p q H i Q k => by
  rw [dp_str p, dp_str q]
  have e : decide (V.str a = V.str c) = decide (a = c) := decide_eq_decide.mpr ⟨fun h => V.str.inj h, fun h => h ▸ rfl⟩
  exact ⟨rfl, by rw [e]; exact k _ S1 H (Go.refl i) (.bl _)⟩
theorem rv_nes {a c : Str} : RvD K rNe S (.str a) (.str c) (.bool (!decide (a = c))) := fun S1 _ u v p q H i Q k => by
  rw [dp_str p, dp_str q]
  have e : decide (V.str a = V.str c) = decide (a = c) := decide_eq_decide.mpr ⟨fun h => V.str.inj h, fun h => h ▸ rfl⟩
  exact ⟨rfl, by rw [e]; exact k _ S1 H (Go.refl i) (.bl _)⟩
theorem rv_eqi {a c : Int} : RvD K rEq S (.int a) (.int c) (.bool (decide (a = c))) := fun S1 _ u v p q H i Q k => by
  rw [dp_int p, dp_int q]
  have e : decide (V.int a = V.int c) = decide (a = c) := decide_eq_decide.mpr ⟨fun h => V.int.inj h, fun h => h ▸ rfl⟩
  exact ⟨rfl, by rw [e]; exact k _ S1 H (Go.refl i) (.bl _)⟩
theorem rv_nei {a c : Int} : RvD K rNe S (.int a) (.int c) (.bool (!decide (a = c))) := fun S1 _ u v p q H i Q k => by
  rw [dp_int p, dp_int q]
  have e : decide (V.int a = V.int c) = decide (a = c) := decide_eq_decide.mpr ⟨fun h => V.int.inj h, fun h => h ▸ rfl⟩
  exact ⟨rfl, by rw [e]; exact k _ S1 H (Go.refl i) (.bl _)⟩
theorem rv_eqb {a c : Bool} : RvD K rEq S (.bool a) (.bool c) (.bool (decide (a = c))) := fun S1 _ u v p q H i Q k => by
  rw [dp_bool p, dp_bool q]
  have e : decide (V.bl a = V.bl c) = decide (a = c) := decide_eq_decide.mpr ⟨fun h => V.bl.inj h, fun h => h ▸ rfl⟩
  exact ⟨rfl, by rw [e]; exact k _ S1 H (Go.refl i) (.bl _)⟩
theorem rv_neb {a c : Bool} : RvD K rNe S (.bool a) (.bool c) (.bool (!decide (a = c))) := fun S1 _ u v p q H i Q k => by
  rw [dp_bool p, dp_bool q]
  have e : decide (V.bl a = V.bl c) = decide (a = c) := decide_eq_decide.mpr ⟨fun h => V.bl.inj h, fun h => h ▸ rfl⟩
  exact ⟨rfl, by rw [e]; exact k _ S1 H (Go.refl i) (.bl _)⟩
theorem rv_I0 {g : Int → Int → V} {a c : Int} (h : ∀ S, Dp K S (g a c) z) : RvD K (rI0 g) S (.int a) (.int c) z := fun S1 _ u v p q H i Q k => by
  rw [dp_int p, dp_int q]
  exact ⟨a, c, rfl, rfl, k _ S1 H (Go.refl i) (h S1)⟩
theorem rv_add {a c : Int} : RvD K (rI0 fun i j => .int (i + j)) S (.int a) (.int c) (.int (a + c)) := rv_I0 fun _ => .int _
theorem rv_sub {a c : Int} : RvD K (rI0 fun i j => .int (i - j)) S (.int a) (.int c) (.int (a - c)) := rv_I0 fun _ => .int _
theorem rv_lt {a c : Int} : RvD K (rI0 fun i j => .bl (decide (i < j))) S (.int a) (.int c) (.bool (decide (a < c))) := rv_I0 fun _ => .bl _
theorem rv_le {a c : Int} : RvD K (rI0 fun i j => .bl (decide (i ≤ j))) S (.int a) (.int c) (.bool (decide (a ≤ c))) := rv_I0 fun _ => .bl _
theorem rv_gt {a c : Int} : RvD K (rI0 fun i j => .bl (decide (j < i))) S (.int a) (.int c) (.bool (decide (a > c))) := rv_I0 fun _ => .bl _
theorem rv_ge {a c : Int} : RvD K (rI0 fun i j => .bl (decide (j ≤ i))) S (.int a) (.int c) (.bool (decide (a ≥ c))) := rv_I0 fun _ => .bl _
theorem rv_I {C : Int → Int → Prop} {g : Int → Int → Int} {a c : Int} (h : C a c) : RvD K (rI C fun i j => .int (g i j)) S (.int a) (.int c) (.int (g a c)) := fun S1 _ u v p q H i Q k => by
  rw [dp_int p, dp_int q]
  exact ⟨a, c, rfl, rfl, h, k _ S1 H (Go.refl i) (.int _)⟩
theorem rv_cat {a c : Str} (h : a.length + c.length ≤ sizeLine) : RvD K (fun x y H Q => ∃ i j, x = .str i ∧ y = .str j ∧ i.length + j.length ≤ sizeLine ∧ Q (.str (i ++ j)) H) S (.str a) (.str c) (.str (a ++ c)) := fun S1 _ u v p q H i Q k => by
  rw [dp_str p, dp_str q]
  exact ⟨a, c, rfl, rfl, h, k _ S1 H (Go.refl i) (.str _)⟩
/-- == of data -/
theorem rv_eqD (hx : SeqAt.shaped x = true) (hy : SeqAt.shaped y = true) : RvD K (rEqD K) S x y (.bool (PyData.eqv x y)) := fun S1 _ u v p q H i Q k =>
  ⟨x, y, dp_same i p, dp_same i q, hx, hy, k _ S1 H (Go.refl i) (.bl _)⟩
theorem rv_neD (hx : SeqAt.shaped x = true) (hy : SeqAt.shaped y = true) : RvD K (rNeD K) S x y (.bool (!PyData.eqv x y)) := fun S1 _ u v p q H i Q k =>
  ⟨x, y, dp_same i p, dp_same i q, hx, hy, k _ S1 H (Go.refl i) (.bl _)⟩
theorem rv_inD (hx : SeqAt.shaped x = true) (hy : SeqAt.shaped (.list ds) = true) : RvD K (rInD K) S x (.list ds) (.bool (ds.any fun z => PyData.eqv z x)) := fun S1 _ u v p q H i Q k =>
  ⟨x, ds, dp_same i p, dp_same i q, hx, hy, k _ S1 H (Go.refl i) (.bl _)⟩
theorem rv_ninD (hx : SeqAt.shaped x = true) (hy : SeqAt.shaped (.list ds) = true) : RvD K (rNotInD K) S x (.list ds) (.bool (!ds.any fun z => PyData.eqv z x)) := fun S1 _ u v p q H i Q k =>
  ⟨x, ds, dp_same i p, dp_same i q, hx, hy, k _ S1 H (Go.refl i) (.bl _)⟩
/-- is None -/
theorem rv_isN {r : Bool} (h : ∀ S v, Dp K S v x → decide (v = .non) = r) : RvD K (fun x y H Q => y = .non ∧ Q (.bl (decide (x = .non))) H) S x .none (.bool r) := fun S1 _ u v p q H i Q k => by
  refine ⟨dp_none q, ?_⟩
  rw [h S1 u p]
  exact k _ S1 H (Go.refl i) (.bl _)
theorem rv_notN {r : Bool} (h : ∀ S v, Dp K S v x → decide (v = .non) = r) : RvD K (fun x y H Q => y = .non ∧ Q (.bl (!decide (x = .non))) H) S x .none (.bool (!r)) := fun S1 _ u v p q H i Q k => by
  refine ⟨dp_none q, ?_⟩
  rw [h S1 u p]
  exact k _ S1 H (Go.refl i) (.bl _)
def isNone : PyData → Bool
  | .none => true
  | _ => false
theorem dp_isNone {S : Hp} {v : V} {d : PyData} (h : Dp K S v d) : decide (v = .non) = isNone d := by
  cases h <;> rfl
theorem rv_isNone : RvD K (fun x y H Q => y = .non ∧ Q (.bl (decide (x = .non))) H) S x .none (.bool (isNone x)) := rv_isN fun _ _ p => dp_isNone p
theorem rv_notNone : RvD K (fun x y H Q => y = .non ∧ Q (.bl (!decide (x = .non))) H) S x .none (.bool (!isNone x)) := rv_notN fun _ _ p => dp_isNone p
/-- flat data in a list, a tuple of flat data -/
theorem flat_strs (l : List Str) : (l.map V.str).all flatV = true := by
  induction l with
  | nil => rfl
  | cons a l ih => rw [List.map_cons, List.all_cons, ih]; rfl
theorem flat_ints (l : List Int) : (l.map V.int).all flatV = true := by
  induction l with
  | nil => rfl
  | cons a l ih => rw [List.map_cons, List.all_cons, ih]; rfl
theorem inV_strs (a : Str) (l : List Str) : inV (.str a) (l.map V.str) = decide (a ∈ l) := by
  unfold inV
  induction l with
  | nil => rfl
  | cons c l ih =>
    rw [List.map_cons, List.any_cons, ih]
    have e : eqV (.str c) (.str a) = (c == a) := rfl
    rw [e, Bool.eq_iff_iff]
    simp only [Bool.or_eq_true, beq_iff_eq, decide_eq_true_eq, List.mem_cons]
    exact or_congr eq_comm Iff.rfl
theorem inV_ints (a : Int) (l : List Int) : inV (.int a) (l.map V.int) = decide (a ∈ l) := by
  unfold inV
  induction l with
  | nil => rfl
  | cons c l ih =>
    rw [List.map_cons, List.any_cons, ih]
    have e : eqV (.int c) (.int a) = (c == a) := rfl
    rw [e, Bool.eq_iff_iff]
    simp only [Bool.or_eq_true, beq_iff_eq, decide_eq_true_eq, List.mem_cons]
    exact or_congr eq_comm Iff.rfl
theorem seq_of {v : V} (h : Dp K S v (.list ds) ∨ Dp K S v (.tuple ds)) : ∃ a xs, v = .ref a ∧ (SqL K S a xs ∨ SqT K S a xs) ∧ DpAll K S xs ds := by
  rcases h with h | h
  · obtain ⟨a, xs, e, q, p⟩ := dp_list h
    exact ⟨a, xs, e, .inl q, p⟩
  · obtain ⟨a, xs, e, q, p⟩ := dp_tuple h
    exact ⟨a, xs, e, .inr q, p⟩
theorem sq_same {S S' : Hp} {a : Addr} {xs : List V} (e : Same S S') (h : SqL K S a xs ∨ SqT K S a xs) : SqL K S' a xs ∨ SqT K S' a xs := h.imp (sqL_same e) (sqT_same e)
theorem rv_inStrs {neg : Bool} {a : Str} {l : List Str} (hy : y = .list (l.map .str) ∨ y = .tuple (l.map .str)) : RvD K (rIn K neg) S (.str a) y (.bool (if neg = true then !decide (a ∈ l) else decide (a ∈ l))) := fun S1 _ u v p q H i Q k => by
  obtain ⟨c, xs, rfl, hs, ha⟩ := seq_of (ds := l.map .str) (v := v) (hy.imp (fun e => e ▸ q) (fun e => e ▸ q))
  rw [dp_str p]
  rw [strs_dpAll ha] at hs
  refine ⟨c, _, rfl, sq_same i hs, rfl, flat_strs l, ?_⟩
  rw [inV_strs]
  exact k _ S1 H (Go.refl i) (.bl _)
theorem rv_inInts {neg : Bool} {a : Int} {l : List Int} (hy : y = .list (l.map .int) ∨ y = .tuple (l.map .int)) : RvD K (rIn K neg) S (.int a) y (.bool (if neg = true then !decide (a ∈ l) else decide (a ∈ l))) := fun S1 _ u v p q H i Q k => by
  obtain ⟨c, xs, rfl, hs, ha⟩ := seq_of (ds := l.map .int) (v := v) (hy.imp (fun e => e ▸ q) (fun e => e ▸ q))
  rw [dp_int p]
  rw [ints_dpAll ha] at hs
  refine ⟨c, _, rfl, sq_same i hs, rfl, flat_ints l, ?_⟩
  rw [inV_ints]
  exact k _ S1 H (Go.refl i) (.bl _)
theorem rv_inS {a : Str} {l : List Str} (hy : y = .list (l.map .str) ∨ y = .tuple (l.map .str)) : RvD K (rIn K false) S (.str a) y (.bool (decide (a ∈ l))) := rv_inStrs hy
theorem rv_ninS {a : Str} {l : List Str} (hy : y = .list (l.map .str) ∨ y = .tuple (l.map .str)) : RvD K (rIn K true) S (.str a) y (.bool (!decide (a ∈ l))) := rv_inStrs hy
theorem rv_inI {a : Int} {l : List Int} (hy : y = .list (l.map .int) ∨ y = .tuple (l.map .int)) : RvD K (rIn K false) S (.int a) y (.bool (decide (a ∈ l))) := rv_inInts hy
theorem rv_ninI {a : Int} {l : List Int} (hy : y = .list (l.map .int) ∨ y = .tuple (l.map .int)) : RvD K (rIn K true) S (.int a) y (.bool (!decide (a ∈ l))) := rv_inInts hy
/-- one sign in a text -/
theorem rv_sign {c : Nat} {w : Str} : RvD K (fun x y H Q => ∃ (c : Nat) (z : Str), x = .str ⟨#[c]⟩ ∧ y = .str z ∧ Q (.bl (decide (c ∈ z.cps.toList))) H) S (.str ⟨#[c]⟩) (.str w) (.bool (decide (c ∈ w.cps.toList))) := fun S1 _ u v p q H i Q k => by
  rw [dp_str p, dp_str q]
  exact ⟨c, w, rfl, rfl, k _ S1 H (Go.refl i) (.bl _)⟩
theorem rv_nsign {c : Nat} {w : Str} : RvD K (fun x y H Q => ∃ (c : Nat) (z : Str), x = .str ⟨#[c]⟩ ∧ y = .str z ∧ Q (.bl (!decide (c ∈ z.cps.toList))) H) S (.str ⟨#[c]⟩) (.str w) (.bool (!decide (c ∈ w.cps.toList))) := fun S1 _ u v p q H i Q k => by
  rw [dp_str p, dp_str q]
  exact ⟨c, w, rfl, rfl, k _ S1 H (Go.refl i) (.bl _)⟩
/-! ### subscripts, slices -/
theorem at_data {vs : List V} {i : Int} (p : DpAll K S vs ds) (h : atI ds i = some d) : ∃ v, atI vs i = some v ∧ Dp K S v d := by
  unfold atI at h ⊢
  rw [dpAll_len p]
  cases e : ixN ds.length i with
  | none => rw [e] at h; cases h
  | some j =>
    rw [e] at h
    exact dpAll_at p h
theorem rv_ixL {i : Int} (h : atI ds i = some d) : RvD K (rIxL K) S (.list ds) (.int i) d := fun S1 _ u v p q H j Q k => by
  obtain ⟨a, xs, rfl, hs, ha⟩ := dp_list p
  obtain ⟨w, hw, pw⟩ := at_data ha h
  rw [dp_int q]
  exact ⟨a, xs, i, w, rfl, rfl, sqL_same j hs, hw, k w S1 H (Go.refl j) pw⟩
theorem rv_ixT {i : Int} (h : atI ds i = some d) : RvD K (rIxT K) S (.tuple ds) (.int i) d := fun S1 _ u v p q H j Q k => by
  obtain ⟨a, xs, rfl, hs, ha⟩ := dp_tuple p
  obtain ⟨w, hw, pw⟩ := at_data ha h
  rw [dp_int q]
  exact ⟨a, xs, i, w, rfl, rfl, sqT_same j hs, hw, k w S1 H (Go.refl j) pw⟩
def EvO (to : TO) (σ : L2.St) (S : Hp) (o : Option Int) : Prop := ∀ H, Same S H → ∀ Q : Option Int → Hp → Prop, (∀ S' H', G0 S H S' H' → Q o H') → to σ H Q
theorem eo_none : EvO tNoPart σ S none := fun H i Q q => q S H (Go.refl i)
theorem eo_some {i : Int} (h : EvD K te σ S (.int i)) : EvO (tPart te) σ S (some i) := fun H j Q q => h H j _ fun v S1 H1 g p => ⟨i, dp_int p, q S1 H1 g⟩
theorem EvO.mono {to : TO} {o : Option Int} (e : Same S S1) (h : EvO to σ S o) : EvO to σ S1 o := fun H i Q q => h H (e.trans i) Q fun S' H' g => q _ H' (g.join e i).1
def cutD (xs : List PyData) (lo hi : Option Int) : List PyData := (xs.drop (HT.sIx xs.length 0 lo)).take (HT.sIx xs.length xs.length hi - HT.sIx xs.length 0 lo)
theorem cut_data {vs : List V} {lo hi : Option Int} (p : DpAll K S vs ds) : DpAll K S (cutV vs lo hi) (cutD ds lo hi) := by
  unfold cutV cutD
  rw [dpAll_len p]
  exact dpAll_take _ (dpAll_drop _ p)
theorem ev_slL {tl th : TO} {lo hi : Option Int} (h : EvD K te σ S (.list ds)) (hl : EvO tl σ S lo) (hu : EvO th σ S hi) : EvD K (tSl (rSlL K) te tl th) σ S (.list (cutD ds lo hi)) := fun H i Q q =>
  h H i _ fun v S1 H1 g1 p1 => (hl.mono g1.s) H1 g1.i _ fun S2 H2 g2 => (hu.mono (g1.s.trans g2.s)) H2 g2.i _ fun S3 H3 g3 => by
    obtain ⟨a, xs, rfl, hs, ha⟩ := dp_list p1
    refine ⟨a, xs, rfl, sqL_same (g2.s.trans (g3.s.trans g3.i)) hs, fun p hp => q (.ref p) _ _ (((g1.trans g2).trans g3).trans (Go.new g3.i hp)) (.lst (SqL.of upd_same) ?_)⟩
    exact dpAll_same (g2.s.trans (g3.s.trans (Go.new (o := .lst (cutV xs lo hi)) g3.i hp).s)) (cut_data ha)
theorem ev_slS {tl th : TO} {lo hi : Option Int} {w : Str} (h : EvD K te σ S (.str w)) (hl : EvO tl σ S lo) (hu : EvO th σ S hi) (hz : w.length ≤ sizeLine) : EvD K (tSl rSlS te tl th) σ S (.str (cutS w lo hi)) := fun H i Q q =>
  h H i _ fun v S1 H1 g1 p1 => (hl.mono g1.s) H1 g1.i _ fun S2 H2 g2 => (hu.mono (g1.s.trans g2.s)) H2 g2.i _ fun S3 H3 g3 =>
    ⟨w, dp_str p1, hz, q _ S3 H3 ((g1.trans g2).trans g3) (.str _)⟩
/-! ### built-ins -/
def lenD : PyData → Nat
  | .str w => w.length
  | .list ds => ds.length
  | .tuple ds => ds.length
  | _ => 0
/-- len(x) -/
theorem rc_len (h : (∃ w, x = .str w ∧ w.length ≤ sizeLine) ∨ (∃ ds, x = .list ds) ∨ ∃ ds, x = .tuple ds) : RcD K (fun xs H Q => ∃ x n, xs = [x] ∧ LenV K x H n ∧ Q (.int n) H) S [x] (.int (lenD x : Nat)) := fun S1 _ us p H i Q k => by
  obtain ⟨v, r, rfl, pv, pr⟩ := dpAll_cons p
  rw [dpAll_nil pr]
  refine ⟨v, lenD x, rfl, ?_, k _ S1 H (Go.refl i) (.int _)⟩
  rcases h with ⟨w, rfl, hz⟩ | ⟨ds, rfl⟩ | ⟨ds, rfl⟩
  · rw [dp_str pv]
    exact ⟨hz, rfl⟩
  · obtain ⟨a, xs, rfl, hs, ha⟩ := dp_list pv
    exact .inl ⟨xs, sqL_same i hs, (dpAll_len ha).symm⟩
  · obtain ⟨a, xs, rfl, hs, ha⟩ := dp_tuple pv
    exact .inr ⟨xs, sqT_same i hs, (dpAll_len ha).symm⟩
theorem rc_lenL : RcD K (fun xs H Q => ∃ x n, xs = [x] ∧ LenV K x H n ∧ Q (.int n) H) S [.list ds] (.int (ds.length : Nat)) := rc_len (.inr (.inl ⟨_, rfl⟩))
theorem rc_lenT : RcD K (fun xs H Q => ∃ x n, xs = [x] ∧ LenV K x H n ∧ Q (.int n) H) S [.tuple ds] (.int (ds.length : Nat)) := rc_len (.inr (.inr ⟨_, rfl⟩))
theorem rc_lenS {w : Str} (h : w.length ≤ sizeLine) : RcD K (fun xs H Q => ∃ x n, xs = [x] ∧ LenV K x H n ∧ Q (.int n) H) S [.str w] (.int (w.length : Nat)) := rc_len (.inl ⟨_, rfl, h⟩)
/-- int(digits) -/
theorem rc_intS {w : Str} {n : Int} (h : PySem.intText? w = some n) (hz : w.length ≤ 640) : RcD K (fun xs H Q => ∃ a n, xs = [.str a] ∧ PySem.intText? a = some n ∧ a.length ≤ 640 ∧ Q (.int n) H) S [.str w] (.int n) := fun S1 _ us p H i Q k => by
  obtain ⟨v, r, rfl, pv, pr⟩ := dpAll_cons p
  rw [dpAll_nil pr, dp_str pv]
  exact ⟨w, n, rfl, h, hz, k _ S1 H (Go.refl i) (.int _)⟩
/-- int(an int), int(a bool) -/
theorem rc_int1 {n : Int} : RcD K (fun xs H Q => (∃ i, xs = [.int i] ∧ Q (.int i) H) ∨ ∃ k, xs = [.bl k] ∧ Q (.int (if k then 1 else 0)) H) S [.int n] (.int n) := fun S1 _ us p H i Q k => by
  obtain ⟨v, r, rfl, pv, pr⟩ := dpAll_cons p
  rw [dpAll_nil pr, dp_int pv]
  exact .inl ⟨n, rfl, k _ S1 H (Go.refl i) (.int _)⟩
theorem rc_int1b {n : Bool} : RcD K (fun xs H Q => (∃ i, xs = [.int i] ∧ Q (.int i) H) ∨ ∃ k, xs = [.bl k] ∧ Q (.int (if k then 1 else 0)) H) S [.bool n] (.int (if n = true then 1 else 0)) := fun S1 _ us p H i Q k => by
  obtain ⟨v, r, rfl, pv, pr⟩ := dpAll_cons p
  rw [dpAll_nil pr, dp_bool pv]
  exact .inr ⟨n, rfl, k _ S1 H (Go.refl i) (.int _)⟩
/-- tuple(a list), tuple(a tuple) -/
theorem rc_tupleL : RcD K (fun xs H Q => ∃ p ys, xs = [.ref p] ∧ ((SqL K H p ys ∧ ∀ l, H l = none → Q (.ref l) (upd H l (.tup ys))) ∨ (SqT K H p ys ∧ Q (.ref p) H))) S [.list ds] (.tuple ds) := fun S1 _ us p H i Q k => by
  obtain ⟨v, r, rfl, pv, pr⟩ := dpAll_cons p
  rw [dpAll_nil pr]
  obtain ⟨a, xs, rfl, hs, ha⟩ := dp_list pv
  refine ⟨a, xs, rfl, .inl ⟨sqL_same i hs, fun l hl => k (.ref l) _ _ (Go.new i hl) (.tup (SqT.of upd_same) ?_)⟩⟩
  exact dpAll_same (Go.new (o := .tup xs) i hl).s ha
/-- all(a list of bools) -/
theorem rc_all {l : List Bool} : RcD K (rAll K) S [.list (l.map .bool)] (.bool (l.all id)) := fun S1 _ us p H i Q k => by
  obtain ⟨v, r, rfl, pv, pr⟩ := dpAll_cons p
  rw [dpAll_nil pr]
  obtain ⟨a, xs, rfl, hs, ha⟩ := dp_list pv
  rw [bools_dpAll ha] at hs
  exact ⟨a, l, rfl, sqL_same i hs, k _ S1 H (Go.refl i) (.bl _)⟩
/-! isinstance -/
def tyD : PyData → String
  | .none => "NoneType"
  | .bool _ => "bool"
  | .int _ => "int"
  | .str _ => "str"
  | .list _ => "list"
  | .tuple _ => "tuple"
  | .dict _ => "dict"
theorem tyX_of {H : Hp} {v : V} (i : Same S H) (p : Dp K S v d) : TyX K H v (.type (tyD d)) := by
  cases p with
  | non => exact .base .non
  | bl b => exact .base (.bl b)
  | int j => exact .base (.int j)
  | str z => exact .base (.str z)
  | lst q a =>
    rcases sqL_same i q with (q | ⟨o, q⟩) | ⟨o, its, n, hk, hc, _⟩
    · exact .base (.lst q)
    · exact .base (.frz q)
    · exact .kList hk hc
  | tup q a =>
    rcases sqT_same i q with (q | ⟨o, q⟩) | ⟨o, its, n, hk, hc, _⟩
    · exact .base (.tup q)
    · exact .fTuple q
    · exact .kTuple hk hc
theorem ev_isi {n : String} {b : Bool} (h : EvD K te σ S d) (e : kitB (tyD d) n = some b) : EvD K (tCB (rIsi K) (tCons te (tCons (tC (.ty n)) tNil))) σ S (.bool b) := fun H i Q q => h H i _ fun v S1 H1 g p =>
  ⟨v, .ty n, _, .type n, b, rfl, .ty n, tyX_of g.i p, kit_ty e, q _ S1 H1 g (.bl b)⟩
theorem ev_isi2 {n m : String} {a b : Bool} (h : EvD K te σ S d) (e1 : kitB (tyD d) n = some a) (e2 : kitB (tyD d) m = some b) : EvD K (tCB (rIsiT K) (tCons te (tCons (tTup (tCons (tC (.ty n)) (tCons (tC (.ty m)) tNil))) tNil))) σ S (.bool (a || b)) := fun H i Q q => h H i _ fun v S1 H1 g p => by
  refine ⟨by show 2 ≤ sizeLine; decide, fun c hc => ?_⟩
  have hk : PySem.W.kitAny K (.type (tyD d)) [.type n, .type m] = some (a || b) := by
    refine kitAny_cons (kit_ty e1) (fun z => ?_) (fun z => by rw [z]; rfl)
    refine kitAny_cons (kit_ty e2) (fun y => ?_) (fun y => by rw [y, Bool.or_true])
    rw [z, y]
    exact kitAny_nil
  have g2 : G0 S1 H1 S1 (upd H1 c (.tup [.ty n, .ty m])) := Go.newM g.i hc
  exact ⟨v, c, [.ty n, .ty m], _, [.type n, .type m], _, rfl, upd_same, .cons (.ty n) (.cons (.ty m) .nil), tyX_of g2.i p, hk, q _ S1 _ (g.trans g2) (.bl _)⟩
/-! split, join -/
theorem ev_split {w sep : Str} (h : EvD K te σ S (.str w)) (h2 : EvD K ta σ S (.str sep)) (h0 : (sep.length == 0) = false) (hz : w.length + 2 ≤ sizeLine) :
    EvD K (tM1 (fun x xs H Q => ∃ a b, x = .str a ∧ xs = [.str b] ∧ (b.length == 0) = false ∧ a.length + 2 ≤ sizeLine ∧ rNewStrs (Txt.split a b) H Q) te ta) σ S (.list ((Txt.split w sep).map .str)) := fun H i Q q =>
  h H i _ fun v S1 H1 g1 p1 => ⟨⟨w, dp_str p1⟩, (h2.mono g1.s) H1 g1.i _ fun u S2 H2 g2 p2 => by
    rw [dp_str p2, dp_str p1]
    refine ⟨w, sep, rfl, rfl, h0, hz, fun p hp => q (.ref p) _ _ ((g1.trans g2).trans (Go.new g2.i hp)) (.lst (SqL.of upd_same) (dpAll_strs _))⟩⟩
theorem ev_join {sep : Str} {l : List Str} (h : EvD K te σ S (.str sep)) (h2 : EvD K ta σ S (.list (l.map .str))) (hz : (l.map (·.length)).sum + l.length * sep.length ≤ 16777216) :
    EvD K (tM1 (fun x xs H Q => ∃ a p, ∃ ys : List Str, x = .str a ∧ xs = [.ref p] ∧ (SqL K H p (ys.map V.str) ∨ SqT K H p (ys.map V.str)) ∧ (ys.map (·.length)).sum + ys.length * a.length ≤ 16777216 ∧ Q (.str (Txt.join a ys)) H) te ta) σ S (.str (Txt.join sep l)) := fun H i Q q =>
  h H i _ fun v S1 H1 g1 p1 => ⟨⟨sep, dp_str p1⟩, (h2.mono g1.s) H1 g1.i _ fun u S2 H2 g2 p2 => by
    rw [dp_str p1]
    obtain ⟨a, xs, rfl, hs, ha⟩ := dp_list p2
    rw [strs_dpAll ha] at hs
    exact ⟨sep, a, l, rfl, rfl, .inl (sqL_same g2.i hs), hz, q _ S2 H2 (g1.trans g2) (.str _)⟩⟩
theorem ev_isdigit {w : Str} (h : EvD K te σ S (.str w)) : EvD K (tM0 (fun x xs H Q => ∃ a, x = .str a ∧ xs = [] ∧ True ∧ Q (.bl (Txt.isdigit a)) H) te) σ S (.bool (Txt.isdigit w)) := fun H i Q q =>
  h H i _ fun v S1 H1 g1 p1 => by
    rw [dp_str p1]
    exact ⟨⟨w, rfl⟩, w, rfl, rfl, trivial, q _ S1 H1 g1 (.bl _)⟩
/-! chains -/
theorem ev_chain {b1 b2 : Bool} (h1 : RvD K r S x y (.bool b1)) (h2 : b1 = true → RvD K r' S y z (.bool b2)) (ha : EvD K ta σ S x) (hb : EvD K tb σ S y) (hc : EvD K tc σ S z) : EvD K (tChain r r' ta tb tc) σ S (.bool (b1 && b2)) := fun H i Q q =>
  ha H i _ fun u S1 H1 g1 p1 => (hb.mono g1.s) H1 g1.i _ fun w S2 H2 g2 p2 => h1 S2 (g1.s.trans g2.s) u w (dp_same g2.s p1) p2 H2 g2.i _ fun c S3 H3 g3 p3 => ⟨b1, dp_bool p3, by
    cases b1 with
    | false => exact q (.bl false) S3 H3 ((g1.trans g2).trans g3) (.bl false)
    | true =>
      show tc σ H3 _
      have s3 := (g1.s.trans g2.s).trans g3.s
      exact (hc.mono s3) H3 g3.i _ fun e S4 H4 g4 p4 => h2 rfl S4 (s3.trans g4.s) w e (dp_same (g3.s.trans g4.s) p2) p4 H4 g4.i Q fun c S5 H5 g5 p5 => q c S5 H5 ((((g1.trans g2).trans g3).trans g4).trans g5) p5⟩
end

/-! == [], != [] -/
def rEqNil (K : PySem.W.Frag) (neg : Bool) : R2 := fun x y H Q => ∃ p q xs, x = .ref p ∧ y = .ref q ∧ SqL K H p xs ∧ SqL K H q [] ∧ Q (.bl (if neg = true then !xs.isEmpty else xs.isEmpty)) H
theorem op_eqNil {X : Cx} (hu : X.A.units < cLine) : OpR X (compareOp .Eq) (rEqNil X.K false) := by
  intro pins s σ H x y v u Q I rx ry h
  obtain ⟨p, q, xs, rfl, rfl, hp, hq, k⟩ := h
  cases rx
  cases ry
  obtain ⟨its, rv, pl, _⟩ := I.list hp
  obtain ⟨its2, rv2, pl2, _⟩ := I.list hq
  cases rv2
  cases rv with
  | nil => exact SeqAt.eq_listAt (e := fun _ => true) pl.isList pl2.isList rfl hu (fun j h1 _ => absurd h1 (Nat.not_lt_zero j)) ⟨.bl true, H, I, rfl, k⟩
  | cons r t => exact SeqAt.eq_list_lengthsAt pl.isList pl2.isList (by simp) hu ⟨.bl false, H, I, rfl, k⟩
theorem op_neNil {X : Cx} (hu : X.A.units < cLine) : OpR X (compareOp .NotEq) (rEqNil X.K true) := by
  intro pins s σ H x y v u Q I rx ry h
  obtain ⟨p, q, xs, rfl, rfl, hp, hq, k⟩ := h
  cases rx
  cases ry
  obtain ⟨its, rv, pl, _⟩ := I.list hp
  obtain ⟨its2, rv2, pl2, _⟩ := I.list hq
  cases rv2
  cases rv with
  | nil => exact SeqAt.RcNeAt.lists (e := fun _ => true) pl.isList pl2.isList rfl hu (fun j h1 _ => absurd h1 (Nat.not_lt_zero j)) _ _ _ _ ⟨.bl false, H, I, rfl, k⟩
  | cons r t => exact SeqAt.RcNeAt.lists_lengths pl.isList pl2.isList (by simp) hu _ _ _ _ ⟨.bl true, H, I, rfl, k⟩
section
variable {K : PySem.W.Frag} {S : Hp} {ds : List PyData}
theorem rv_nil {neg : Bool} : RvD K (rEqNil K neg) S (.list ds) (.list []) (.bool (if neg = true then !ds.isEmpty else ds.isEmpty)) := fun S1 _ u v p q H i Q k => by
  obtain ⟨a, xs, rfl, hs, ha⟩ := dp_list p
  obtain ⟨c, ys, rfl, ht, hb⟩ := dp_list q
  rw [dpAll_nil hb] at ht
  refine ⟨a, c, xs, rfl, rfl, sqL_same i hs, sqL_same i ht, ?_⟩
  have e : xs.isEmpty = ds.isEmpty := by
    cases ha <;> rfl
  rw [e]
  exact k _ S1 H (Go.refl i) (.bl _)
theorem rv_eqnil : RvD K (rEqNil K false) S (.list ds) (.list []) (.bool ds.isEmpty) := rv_nil
theorem rv_nenil : RvD K (rEqNil K true) S (.list ds) (.list []) (.bool (!ds.isEmpty)) := rv_nil
end
end Zb
set_option Elab.async false
set_option linter.all false
set_option maxRecDepth 100000
set_option maxHeartbeats 2000000
/-! The layer: comprehensions, calls, statements, defs. -/
namespace Zb
open PySem PySem.Spec PyProof.Rows L2

/-! ### lists: known objects -/
/-- a list object in the region -/
def Rl (K : PySem.W.Frag) (S : Hp) (v : V) (ds : List PyData) : Prop := ∃ l xs, v = .ref l ∧ S l = some (.lst xs) ∧ DpAll K S xs ds
def EvR (K : PySem.W.Frag) (te : TE) (σ : L2.St) (S : Hp) (ds : List PyData) : Prop := ∀ H, Same S H → ∀ Q : VK, (∀ v S' H', G0 S H S' H' → Rl K S' v ds → Q v H') → te σ H Q
/-- a new list, not in the region -/
def EvN (K : PySem.W.Frag) (te : TE) (σ : L2.St) (S : Hp) (ds : List PyData) : Prop := ∀ H, Same S H → ∀ Q : VK, (∀ l xs S' H', G0 S H S' H' → H l = none → S' l = none → H' l = some (.lst xs) → DpAll K S' xs ds → Q (.ref l) H') → te σ H Q
section
variable {K : PySem.W.Frag} {σ : L2.St} {S S1 H H' : Hp} {te : TE} {ds : List PyData} {v : V} {l : Addr} {xs : List V} {o : HO}
theorem Rl.d (h : Rl K S v ds) : Dp K S v (.list ds) := by
  obtain ⟨l, xs, rfl, e, p⟩ := h
  exact .lst (SqL.of e) p
theorem rl_same (e : Same S S1) (h : Rl K S v ds) : Rl K S1 v ds := by
  obtain ⟨l, xs, rfl, e1, p⟩ := h
  exact ⟨l, xs, rfl, e _ _ e1, dpAll_same e p⟩
theorem EvR.d (h : EvR K te σ S ds) : EvD K te σ S (.list ds) := fun H i Q q => h H i Q fun v S' H' g p => q v S' H' g p.d
theorem same_upd (h : S l = none) : Same S (upd S l o) := fun b u e => by
  rw [upd_ne (ne_of_none e h)]
  exact e
theorem EvN.r (h : EvN K te σ S ds) : EvR K te σ S ds := fun H i Q q => h H i Q fun l xs S' H' g h0 h1 h2 p => q (.ref l) _ H' (g.frz h1 h0 h2) ⟨l, xs, rfl, upd_same, dpAll_same (same_upd h1) p⟩
theorem EvN.d (h : EvN K te σ S ds) : EvD K te σ S (.list ds) := h.r.d
theorem en_is {es : List PyData} (h : EvN K te σ S ds) (e : ds = es) : EvN K te σ S es := e ▸ h
theorem er_is {es : List PyData} (h : EvR K te σ S ds) (e : ds = es) : EvR K te σ S es := e ▸ h
theorem EvR.mono (e : Same S S1) (h : EvR K te σ S ds) : EvR K te σ S1 ds := fun H i Q q => h H (e.trans i) Q fun v S' H' g p => by
  obtain ⟨g1, g2⟩ := g.join e i
  exact q v _ H' g1 (rl_same g2 p)
theorem er_var {j : Nat} (h : σ[j]? = some (some v)) (p : Rl K S v ds) : EvR K (tVar j) σ S ds := fun H i Q q => ⟨v, h, q v S H (Go.refl i) p⟩
theorem en_lst {ta : TA} (ha : EvA K ta σ S ds) (hl : ds.length ≤ sizeLine) : EvN K (tLst ta) σ S ds := fun H i Q q =>
  ha H i _ fun us S1 H1 g1 p1 => ⟨by rw [dpAll_len p1]; exact hl, fun p hp => q p us S1 _ (g1.trans (Go.newM g1.i hp)) (g1.fresh hp) (g1.i.free hp) upd_same p1⟩
theorem en_cat {ta tb : TE} {es : List PyData} (ha : EvR K ta σ S ds) (hb : EvR K tb σ S es) (hl : ds.length + es.length ≤ sizeLine) : EvN K (tOp rCat ta tb) σ S (ds ++ es) := fun H i Q q =>
  ha H i _ fun u S1 H1 g1 p1 => (hb.mono g1.s) H1 g1.i _ fun w S2 H2 g2 p2 => by
    obtain ⟨l, xs, rfl, e1, d1⟩ := rl_same g2.s p1
    obtain ⟨l2, ys, rfl, e2, d2⟩ := p2
    refine ⟨l, l2, xs, ys, rfl, rfl, g2.i _ _ e1, g2.i _ _ e2, by rw [dpAll_len d1, dpAll_len d2]; exact hl, fun p hp => ?_⟩
    have g := g1.trans g2
    exact q p (xs ++ ys) S2 _ (g.trans (Go.newM g.i hp)) (g.fresh hp) (g.i.free hp) upd_same (dpAll_append d1 d2)
theorem en_slL {tl th : TO} {lo hi : Option Int} (h : EvD K te σ S (.list ds)) (hl : EvO tl σ S lo) (hu : EvO th σ S hi) : EvN K (tSl (rSlL K) te tl th) σ S (cutD ds lo hi) := fun H i Q q =>
  h H i _ fun v S1 H1 g1 p1 => (hl.mono g1.s) H1 g1.i _ fun S2 H2 g2 => (hu.mono (g1.s.trans g2.s)) H2 g2.i _ fun S3 H3 g3 => by
    obtain ⟨a, xs, rfl, hs, ha⟩ := dp_list p1
    refine ⟨a, xs, rfl, sqL_same ((g2.s.trans g3.s).trans g3.i) hs, fun p hp => ?_⟩
    have g := (g1.trans g2).trans g3
    exact q p _ S3 _ (g.trans (Go.newM g.i hp)) (g.fresh hp) (g.i.free hp) upd_same (cut_data (dpAll_same (g2.s.trans g3.s) ha))
end

/-! ### comprehensions -/
/-- the list at D so far -/
def Cv (K : PySem.W.Frag) (S1 H1 : Hp) (D : Addr) (ds : List PyData) (H' : Hp) : Prop := ∃ S' acc, G0 S1 H1 S' H' ∧ S' D = none ∧ H' D = some (.lst acc) ∧ DpAll K S' acc ds
section
variable {K : PySem.W.Frag} {σ σ2 : L2.St} {S S1 H1 H' : Hp} {te tl : TE} {tt : TT} {ta : TA} {D : Addr} {ds : List PyData} {d : PyData} {b : Bool}
theorem cv_start (i : Same S1 H1) (hD : H1 D = none) : Cv K S1 H1 D [] (upd H1 D (.lst [])) := ⟨S1, [], Go.newM i hD, i.free hD, upd_same, .nil⟩
theorem cv_turn (hD : H1 D = none) (c : Cv K S1 H1 D ds H') (hl : ds.length < 100000) (ht : ∀ S', Same S1 S' → EvT tt σ2 S' b) (he : b = true → ∀ S', Same S1 S' → EvD K te σ2 S' d) :
    tt σ2 H' fun c' H3 => if c' = true then te σ2 H3 fun y H4 => ∃ acc, H4 D = some (.lst acc) ∧ acc.length < sizeLine ∧ Cv K S1 H1 D (if b = true then ds ++ [d] else ds) (upd H4 D (.lst (acc ++ [y]))) else Cv K S1 H1 D (if b = true then ds ++ [d] else ds) H3 := by
  obtain ⟨S', acc, g, sD, hH, pa⟩ := c
  refine ht S' g.s H' g.i _ fun H3 g3 => ?_
  have hH3 : H3 D = some (.lst acc) := g3.same D _ hH
  cases b with
  | false =>
    rw [if_neg Bool.false_ne_true, if_neg Bool.false_ne_true]
    exact ⟨S', acc, g.trans g3, sD, hH3, pa⟩
  | true =>
    rw [if_pos rfl, if_pos rfl]
    refine he rfl S' g.s H3 g3.i _ fun w S4 H4 g4 p4 => ?_
    have z : acc.length < sizeLine := by
      rw [dpAll_len pa]
      exact Nat.lt_of_lt_of_le hl (by decide)
    have s4 : S4 D = none := g4.out sD (by rw [hH3]; exact Option.some_ne_none _)
    exact ⟨acc, g4.same D _ hH3, z, S4, acc ++ [w], ((g.trans g3).trans g4).mut s4 (.inr hD), s4, upd_same, dpAll_append (dpAll_same g4.s pa) (.cons p4 .nil)⟩
theorem cv_end {Q : VK} {H : Hp} (g0 : G0 S H S1 H1) (hD : H1 D = none) (c : Cv K S1 H1 D ds H') (q : ∀ l xs S' H', G0 S H S' H' → H l = none → S' l = none → H' l = some (.lst xs) → DpAll K S' xs ds → Q (.ref l) H') : Q (.ref D) H' := by
  obtain ⟨S', acc, g, sD, hH, pa⟩ := c
  exact q D acc S' H' (g0.trans g) (g0.fresh hD) sD hH pa
theorem filt_step {α : Type} {l : List α} {f : α → Bool} {g : α → PyData} {i : Nat} {a : α} (h : l[i]? = some a) :
    ((l.take (i + 1)).filter f).map g = if f a = true then ((l.take i).filter f).map g ++ [g a] else ((l.take i).filter f).map g := by
  have e : l.take (i + 1) = l.take i ++ [a] := by
    rw [List.take_add_one, h]
    rfl
  rw [e, List.filter_append, List.map_append, List.filter_cons]
  cases f a with
  | true => rfl
  | false =>
    rw [if_neg Bool.false_ne_true, if_neg Bool.false_ne_true]
    show _ ++ [] = _
    rw [List.append_nil]
theorem filt_len {α : Type} (l : List α) (f : α → Bool) (g : α → PyData) (i : Nat) : (((l.take i).filter f).map g).length ≤ l.length := by
  rw [List.length_map]
  exact Nat.le_trans (List.length_filter_le _ _) (by rw [List.length_take]; exact Nat.min_le_right _ _)
theorem en_list {α : Type} {e : α → PyData} {l : List α} {f : α → Bool} {g : α → PyData} {j : Nat} {vs : List Nat} (h : EvD K tl σ S (.list (l.map e))) (hz : l.length < 100000)
    (hw : ∀ x, wipe ((wipe σ vs).set j (some x)) vs = wipe σ vs)
    (ht : ∀ a ∈ l, ∀ v S1, Same S S1 → Dp K S1 v (e a) → EvT tt ((wipe σ vs).set j (some v)) S1 (f a))
    (he : ∀ a ∈ l, f a = true → ∀ v S1, Same S S1 → Dp K S1 v (e a) → EvD K te ((wipe σ vs).set j (some v)) S1 (g a)) :
    EvN K (tLc (iList K tl) (gName j) tt te vs) σ S ((l.filter f).map g) := fun H i Q q => h H i _ fun v S1 H1 g1 p1 => by
  obtain ⟨a, xs, rfl, hs, ha⟩ := dp_list p1
  have hx : xs.length = l.length := by rw [dpAll_len ha, List.length_map]
  refine ⟨a, rfl, ⟨xs, sqL_same g1.i hs⟩, fun D hD => lc_list (K := K) (a := a) (xs := xs) (fun n H' => Cv K S1 H1 D (((l.take n).filter f).map g) H') ?_ ?_ ?_ ?_⟩
  · exact cv_start g1.i hD
  · rintro n H' _ ⟨S', acc, gg, _⟩
    exact sqL_same (gg.s.trans gg.i) hs
  · intro n x H' hn c
    refine ⟨hw x, ?_⟩
    obtain ⟨d, hd, pd⟩ := dpAll_of ha hn
    rw [List.getElem?_map] at hd
    cases hl : l[n]? with
    | none => rw [hl] at hd; cases hd
    | some y =>
      rw [hl] at hd
      have hd' : e y = d := Option.some.inj hd
      subst hd'
      have my : y ∈ l := List.mem_of_getElem? hl
      rw [filt_step hl]
      exact cv_turn hD c (Nat.lt_of_le_of_lt (filt_len l f g n) hz) (fun S' hS => ht y my x S' (g1.s.trans hS) (dp_same hS pd)) (fun hf S' hS => he y my hf x S' (g1.s.trans hS) (dp_same hS pd))
  · intro H' c
    rw [hx, List.take_length] at c
    exact cv_end g1 hD c q
theorem er_list {α : Type} {e : α → PyData} {l : List α} {f : α → Bool} {g : α → PyData} {j : Nat} {vs : List Nat} (h : EvD K tl σ S (.list (l.map e))) (hz : l.length < 100000)
    (hw : ∀ x, wipe ((wipe σ vs).set j (some x)) vs = wipe σ vs)
    (ht : ∀ a ∈ l, ∀ v S1, Same S S1 → Dp K S1 v (e a) → EvT tt ((wipe σ vs).set j (some v)) S1 (f a))
    (he : ∀ a ∈ l, f a = true → ∀ v S1, Same S S1 → Dp K S1 v (e a) → EvD K te ((wipe σ vs).set j (some v)) S1 (g a)) :
    EvR K (tLc (iList K tl) (gName j) tt te vs) σ S ((l.filter f).map g) := (en_list h hz hw ht he).r
theorem ec_list {α : Type} {e : α → PyData} {l : List α} {f : α → Bool} {g : α → PyData} {j : Nat} {vs : List Nat} (h : EvD K tl σ S (.list (l.map e))) (hz : l.length < 100000)
    (hw : ∀ x, wipe ((wipe σ vs).set j (some x)) vs = wipe σ vs)
    (ht : ∀ a ∈ l, ∀ v S1, Same S S1 → Dp K S1 v (e a) → EvT tt ((wipe σ vs).set j (some v)) S1 (f a))
    (he : ∀ a ∈ l, f a = true → ∀ v S1, Same S S1 → Dp K S1 v (e a) → EvD K te ((wipe σ vs).set j (some v)) S1 (g a)) :
    EvD K (tLc (iList K tl) (gName j) tt te vs) σ S (.list ((l.filter f).map g)) := (er_list h hz hw ht he).d
theorem en_tup {α : Type} {e : α → PyData} {l : List α} {f : α → Bool} {g : α → PyData} {j : Nat} {vs : List Nat} (h : EvD K tl σ S (.tuple (l.map e))) (hz : l.length < 100000)
    (hw : ∀ x, wipe ((wipe σ vs).set j (some x)) vs = wipe σ vs)
    (ht : ∀ a ∈ l, ∀ v S1, Same S S1 → Dp K S1 v (e a) → EvT tt ((wipe σ vs).set j (some v)) S1 (f a))
    (he : ∀ a ∈ l, f a = true → ∀ v S1, Same S S1 → Dp K S1 v (e a) → EvD K te ((wipe σ vs).set j (some v)) S1 (g a)) :
    EvN K (tLc (iTup K tl) (gName j) tt te vs) σ S ((l.filter f).map g) := fun H i Q q => h H i _ fun v S1 H1 g1 p1 => by
  obtain ⟨a, xs, rfl, hs, ha⟩ := dp_tuple p1
  have hx : xs.length = l.length := by rw [dpAll_len ha, List.length_map]
  refine ⟨a, rfl, ⟨xs, sqT_same g1.i hs⟩, fun D hD => lc_tup (K := K) (a := a) (xs := xs) (fun n H' => Cv K S1 H1 D (((l.take n).filter f).map g) H') ?_ ?_ ?_ ?_⟩
  · exact cv_start g1.i hD
  · rintro n H' _ ⟨S', acc, gg, _⟩
    exact sqT_same (gg.s.trans gg.i) hs
  · intro n x H' hn c
    refine ⟨hw x, ?_⟩
    obtain ⟨d, hd, pd⟩ := dpAll_of ha hn
    rw [List.getElem?_map] at hd
    cases hl : l[n]? with
    | none => rw [hl] at hd; cases hd
    | some y =>
      rw [hl] at hd
      have hd' : e y = d := Option.some.inj hd
      subst hd'
      have my : y ∈ l := List.mem_of_getElem? hl
      rw [filt_step hl]
      exact cv_turn hD c (Nat.lt_of_le_of_lt (filt_len l f g n) hz) (fun S' hS => ht y my x S' (g1.s.trans hS) (dp_same hS pd)) (fun hf S' hS => he y my hf x S' (g1.s.trans hS) (dp_same hS pd))
  · intro H' c
    rw [hx, List.take_length] at c
    exact cv_end g1 hD c q
theorem er_tup {α : Type} {e : α → PyData} {l : List α} {f : α → Bool} {g : α → PyData} {j : Nat} {vs : List Nat} (h : EvD K tl σ S (.tuple (l.map e))) (hz : l.length < 100000)
    (hw : ∀ x, wipe ((wipe σ vs).set j (some x)) vs = wipe σ vs)
    (ht : ∀ a ∈ l, ∀ v S1, Same S S1 → Dp K S1 v (e a) → EvT tt ((wipe σ vs).set j (some v)) S1 (f a))
    (he : ∀ a ∈ l, f a = true → ∀ v S1, Same S S1 → Dp K S1 v (e a) → EvD K te ((wipe σ vs).set j (some v)) S1 (g a)) :
    EvR K (tLc (iTup K tl) (gName j) tt te vs) σ S ((l.filter f).map g) := (en_tup h hz hw ht he).r
theorem ec_tup {α : Type} {e : α → PyData} {l : List α} {f : α → Bool} {g : α → PyData} {j : Nat} {vs : List Nat} (h : EvD K tl σ S (.tuple (l.map e))) (hz : l.length < 100000)
    (hw : ∀ x, wipe ((wipe σ vs).set j (some x)) vs = wipe σ vs)
    (ht : ∀ a ∈ l, ∀ v S1, Same S S1 → Dp K S1 v (e a) → EvT tt ((wipe σ vs).set j (some v)) S1 (f a))
    (he : ∀ a ∈ l, f a = true → ∀ v S1, Same S S1 → Dp K S1 v (e a) → EvD K te ((wipe σ vs).set j (some v)) S1 (g a)) :
    EvD K (tLc (iTup K tl) (gName j) tt te vs) σ S (.list ((l.filter f).map g)) := (er_tup h hz hw ht he).d
/-- over a text's signs -/
theorem lc_str {x : Str} {g : TG} {tt : TT} {te : TE} {vs : List Nat} {σ : L2.St} {H1 : Hp} {D : Addr} {Qd : Hp → Prop} (Pv : Nat → Hp → Prop) (h0 : Pv 0 (upd H1 D (.lst [])))
    (hs : ∀ i c H, x.cps[i]? = some c → Pv i H → g (.str ⟨#[c]⟩) (wipe σ vs) H fun σ2 H2 => wipe σ2 vs = wipe σ vs ∧ tt σ2 H2 fun b H3 =>
      if b = true then te σ2 H3 fun y H4 => ∃ acc, H4 D = some (.lst acc) ∧ acc.length < sizeLine ∧ Pv (i + 1) (upd H4 D (.lst (acc ++ [y]))) else Pv (i + 1) H3) (hd : ∀ H, Pv x.cps.size H → Qd H) :
    ∃ W : Nat → Nat → Hp → Prop, (∃ m, W 0 m (upd H1 D (.lst []))) ∧ ∀ i m H, W i m H →
      ((Its x).stop i H ∧ Qd H) ∨ ((Its x).go i H ∧ ∃ Nx : Hp → Prop, (∀ H', Nx H' → ∃ m', m' < m ∧ W (i + 1) m' H') ∧ ∀ y H', (Its x).yld i H y H' → g y (wipe σ vs) H' fun σ2 H2 => wipe σ2 vs = wipe σ vs ∧ tt σ2 H2 fun b H3 =>
        if b = true then te σ2 H3 fun y H4 => ∃ acc, H4 D = some (.lst acc) ∧ acc.length < sizeLine ∧ Nx (upd H4 D (.lst (acc ++ [y]))) else Nx H3) := by
  refine ⟨fun i m H => m = x.cps.size - i ∧ i ≤ x.cps.size ∧ Pv i H, ⟨x.cps.size, by simp, Nat.zero_le _, h0⟩, ?_⟩
  rintro i m H ⟨rfl, hi, p⟩
  by_cases hlt : i < x.cps.size
  · refine .inr ⟨hlt, Pv (i + 1), fun H' p' => ⟨x.cps.size - (i + 1), by omega, rfl, hlt, p'⟩, fun y H' z => ?_⟩
    obtain ⟨e, c, hc, hy⟩ := z
    subst e hy
    exact hs i c _ hc p
  · have e : i = x.cps.size := by omega
    subst e
    exact .inl ⟨Nat.le_refl _, hd H p⟩
theorem en_str {w : Str} {f : Nat → Bool} {g : Nat → PyData} {j : Nat} {vs : List Nat} (h : EvD K tl σ S (.str w)) (hz : w.length < 100000)
    (hw : ∀ x, wipe ((wipe σ vs).set j (some x)) vs = wipe σ vs)
    (ht : ∀ c, ∀ v S1, Same S S1 → Dp K S1 v (.str ⟨#[c]⟩) → EvT tt ((wipe σ vs).set j (some v)) S1 (f c))
    (he : ∀ c, f c = true → ∀ v S1, Same S S1 → Dp K S1 v (.str ⟨#[c]⟩) → EvD K te ((wipe σ vs).set j (some v)) S1 (g c)) :
    EvN K (tLc (iStr tl) (gName j) tt te vs) σ S ((w.cps.toList.filter f).map g) := fun H i Q q => h H i _ fun v S1 H1 g1 p1 => by
  refine ⟨w, dp_str p1, fun D hD => lc_str (x := w) (fun n H' => Cv K S1 H1 D (((w.cps.toList.take n).filter f).map g) H') (cv_start g1.i hD) ?_ ?_⟩
  · intro n c H' hn cv
    refine ⟨hw _, ?_⟩
    have hl : w.cps.toList[n]? = some c := by rw [Array.getElem?_toList]; exact hn
    rw [filt_step hl]
    exact cv_turn hD cv (Nat.lt_of_le_of_lt (filt_len _ f g n) (by simpa [Str.length] using hz)) (fun S' hS => ht c _ S' (g1.s.trans hS) (.str _)) (fun hf S' hS => he c hf _ S' (g1.s.trans hS) (.str _))
  · intro H' cv
    have hx : w.cps.size = w.cps.toList.length := Array.length_toList.symm
    rw [hx, List.take_length] at cv
    exact cv_end g1 hD cv q
theorem er_str {w : Str} {f : Nat → Bool} {g : Nat → PyData} {j : Nat} {vs : List Nat} (h : EvD K tl σ S (.str w)) (hz : w.length < 100000)
    (hw : ∀ x, wipe ((wipe σ vs).set j (some x)) vs = wipe σ vs)
    (ht : ∀ c, ∀ v S1, Same S S1 → Dp K S1 v (.str ⟨#[c]⟩) → EvT tt ((wipe σ vs).set j (some v)) S1 (f c))
    (he : ∀ c, f c = true → ∀ v S1, Same S S1 → Dp K S1 v (.str ⟨#[c]⟩) → EvD K te ((wipe σ vs).set j (some v)) S1 (g c)) :
    EvR K (tLc (iStr tl) (gName j) tt te vs) σ S ((w.cps.toList.filter f).map g) := (en_str h hz hw ht he).r
theorem ec_str {w : Str} {f : Nat → Bool} {g : Nat → PyData} {j : Nat} {vs : List Nat} (h : EvD K tl σ S (.str w)) (hz : w.length < 100000)
    (hw : ∀ x, wipe ((wipe σ vs).set j (some x)) vs = wipe σ vs)
    (ht : ∀ c, ∀ v S1, Same S S1 → Dp K S1 v (.str ⟨#[c]⟩) → EvT tt ((wipe σ vs).set j (some v)) S1 (f c))
    (he : ∀ c, f c = true → ∀ v S1, Same S S1 → Dp K S1 v (.str ⟨#[c]⟩) → EvD K te ((wipe σ vs).set j (some v)) S1 (g c)) :
    EvD K (tLc (iStr tl) (gName j) tt te vs) σ S (.list ((w.cps.toList.filter f).map g)) := (er_str h hz hw ht he).d
theorem en_range {lo : Int} {n : Nat} {f : Nat → Bool} {g : Nat → PyData} {j : Nat} {vs : List Nat} {wi : TI} (hi : ∀ H, Same S H → ∀ R : It → Hp → Prop, (∀ S' H', G0 S H S' H' → R (Itr lo n) H') → wi σ H R) (hz : n < 100000)
    (hw : ∀ x, wipe ((wipe σ vs).set j (some x)) vs = wipe σ vs)
    (ht : ∀ i, i < n → ∀ S1, Same S S1 → EvT tt ((wipe σ vs).set j (some (.int (lo + i)))) S1 (f i))
    (he : ∀ i, i < n → f i = true → ∀ S1, Same S S1 → EvD K te ((wipe σ vs).set j (some (.int (lo + i)))) S1 (g i)) :
    EvN K (tLc wi (gName j) tt te vs) σ S (((List.range n).filter f).map g) := fun H i Q q => hi H i _ fun S1 H1 g1 => fun D hD =>
  lc_range (lo := lo) (n := n) (fun m H' => Cv K S1 H1 D ((((List.range n).take m).filter f).map g) H') (cv_start g1.i hD) (fun m H' hm cv => ⟨hw _, by
    have hl : (List.range n)[m]? = some m := by rw [List.getElem?_range hm]
    rw [filt_step hl]
    exact cv_turn hD cv (Nat.lt_of_le_of_lt (filt_len _ f g m) (by rw [List.length_range]; exact hz)) (fun S' hS => ht m hm S' (g1.s.trans hS)) (fun hf S' hS => he m hm hf S' (g1.s.trans hS))⟩)
    (fun H' cv => by
      rw [show (List.range n).take n = List.range n from by rw [List.take_of_length_le]; rw [List.length_range]; exact Nat.le_refl _] at cv
      exact cv_end g1 hD cv q)
theorem er_range {lo : Int} {n : Nat} {f : Nat → Bool} {g : Nat → PyData} {j : Nat} {vs : List Nat} {wi : TI} (hi : ∀ H, Same S H → ∀ R : It → Hp → Prop, (∀ S' H', G0 S H S' H' → R (Itr lo n) H') → wi σ H R) (hz : n < 100000)
    (hw : ∀ x, wipe ((wipe σ vs).set j (some x)) vs = wipe σ vs)
    (ht : ∀ i, i < n → ∀ S1, Same S S1 → EvT tt ((wipe σ vs).set j (some (.int (lo + i)))) S1 (f i))
    (he : ∀ i, i < n → f i = true → ∀ S1, Same S S1 → EvD K te ((wipe σ vs).set j (some (.int (lo + i)))) S1 (g i)) :
    EvR K (tLc wi (gName j) tt te vs) σ S (((List.range n).filter f).map g) := (en_range hi hz hw ht he).r
theorem ec_range {lo : Int} {n : Nat} {f : Nat → Bool} {g : Nat → PyData} {j : Nat} {vs : List Nat} {wi : TI} (hi : ∀ H, Same S H → ∀ R : It → Hp → Prop, (∀ S' H', G0 S H S' H' → R (Itr lo n) H') → wi σ H R) (hz : n < 100000)
    (hw : ∀ x, wipe ((wipe σ vs).set j (some x)) vs = wipe σ vs)
    (ht : ∀ i, i < n → ∀ S1, Same S S1 → EvT tt ((wipe σ vs).set j (some (.int (lo + i)))) S1 (f i))
    (he : ∀ i, i < n → f i = true → ∀ S1, Same S S1 → EvD K te ((wipe σ vs).set j (some (.int (lo + i)))) S1 (g i)) :
    EvD K (tLc wi (gName j) tt te vs) σ S (.list (((List.range n).filter f).map g)) := (er_range hi hz hw ht he).d
theorem ir_1 {ta : TA} {n : Int} (h : EvA K ta σ S [.int n]) (h1 : -(2 ^ 62) ≤ n) (h2 : n < 2 ^ 62) : ∀ H, Same S H → ∀ R : It → Hp → Prop, (∀ S' H', G0 S H S' H' → R (Itr 0 n.toNat) H') → iRng1 ta σ H R := fun H i R q =>
  h H i _ fun us S1 H1 g p => by
    obtain ⟨v, r, rfl, pv, pr⟩ := dpAll_cons p
    rw [dpAll_nil pr, dp_int pv]
    exact ⟨n, rfl, h1, h2, q S1 H1 g⟩
theorem ir_2 {ta : TA} {m n : Int} (h : EvA K ta σ S [.int m, .int n]) (h1 : -(2 ^ 62) ≤ m ∧ m < 2 ^ 62 ∧ -(2 ^ 62) ≤ n ∧ n < 2 ^ 62) : ∀ H, Same S H → ∀ R : It → Hp → Prop, (∀ S' H', G0 S H S' H' → R (Itr m (n - m).toNat) H') → iRng2 ta σ H R := fun H i R q =>
  h H i _ fun us S1 H1 g p => by
    obtain ⟨v, r, rfl, pv, pr⟩ := dpAll_cons p
    obtain ⟨v2, r2, rfl, pv2, pr2⟩ := dpAll_cons pr
    rw [dpAll_nil pr2, dp_int pv, dp_int pv2]
    exact ⟨m, n, rfl, h1, q S1 H1 g⟩
theorem filt_true {α : Type} (l : List α) : l.filter (fun _ => true) = l := List.filter_eq_self.mpr fun _ _ => rfl
theorem et_yes {σ : L2.St} : EvT tYes σ S true := fun H i Q q => q H (Go.refl i)
end

/-! ### statements of a def that raises nothing and changes nothing -/
def Ret (K : PySem.W.Frag) (t : TS) (σ : L2.St) (S : Hp) (d : PyData) : Prop := ∀ H, Same S H → ∀ D : Ends, (∀ v S' H', G0 S H S' H' → Dp K S' v d → D.rt v H') → t D σ H
section
variable {K : PySem.W.Frag} {σ : L2.St} {S S1 H : Hp} {te : TE} {c : TT} {d x : PyData} {b : Bool} {t t1 t2 u : TS} {i : Nat}
theorem r_ret (h : EvD K te σ S d) : Ret K (tRet te) σ S d := fun H i D k => h H i _ k
theorem r_is {d' : PyData} (h : Ret K t σ S d) (e : d = d') : Ret K t σ S d' := e ▸ h
theorem r_asg (h : EvD K te σ S x) (k : ∀ v S1, Same S S1 → Dp K S1 v x → Ret K t (σ.set i (some v)) S1 d) : Ret K (tSeq (tAsg te (gName i)) t) σ S d := fun H j D q =>
  h H j _ fun v S1 H1 g p => k v S1 g.s p H1 g.i D fun w S2 H2 g2 p2 => q w S2 H2 (g.trans g2) p2
theorem r_if (h : EvT c σ S b) (h1 : b = true → Ret K (tSeq t1 t) σ S d) (h2 : b = false → Ret K (tSeq t2 t) σ S d) : Ret K (tSeq (tIfS c t1 t2) t) σ S d := fun H j D q =>
  h H j _ fun H1 g => by
    cases b with
    | true => exact h1 rfl H1 g.i D fun w S2 H2 g2 p2 => q w S2 H2 (g.trans g2) p2
    | false => exact h2 rfl H1 g.i D fun w S2 H2 g2 p2 => q w S2 H2 (g.trans g2) p2
theorem r_if' (h : EvT c σ S b) (h1 : b = true → Ret K t1 σ S d) (h2 : b = false → Ret K t2 σ S d) : Ret K (tIfS c t1 t2) σ S d := fun H j D q =>
  h H j _ fun H1 g => by
    cases b with
    | true => exact h1 rfl H1 g.i D fun w S2 H2 g2 p2 => q w S2 H2 (g.trans g2) p2
    | false => exact h2 rfl H1 g.i D fun w S2 H2 g2 p2 => q w S2 H2 (g.trans g2) p2
theorem r_par {ta : TA} {j : Nat} {y : PyData} (h : EvA K ta σ S [x, y]) (k : ∀ v u S1, Same S S1 → Dp K S1 v x → Dp K S1 u y → Ret K t ((σ.set i (some v)).set j (some u)) S1 d) : Ret K (tSeq (tPar i j ta) t) σ S d := fun H z D q =>
  h H z _ fun us S1 H1 g p => by
    obtain ⟨v, r, rfl, pv, pr⟩ := dpAll_cons p
    obtain ⟨u, r2, rfl, pu, pr2⟩ := dpAll_cons pr
    obtain rfl := dpAll_nil pr2
    exact ⟨v, u, rfl, k v u S1 g.s pv pu H1 g.i D fun w S2 H2 g2 p2 => q w S2 H2 (g.trans g2) p2⟩
theorem r_stop (h : Ret K t1 σ S d) : Ret K (tSeq t1 t) σ S d := fun H j D q => h H j _ q
theorem r_next (h : Ret K t σ S d) : Ret K (tSeq tNext t) σ S d := fun H j D q => h H j D q
theorem Ret.mono (e : Same S S1) (h : Ret K t σ S d) : Ret K t σ S1 d := fun H j D q => h H (e.trans j) D fun v S' H' g p => by
  obtain ⟨g1, g2⟩ := g.join e j
  exact q v _ H' g1 (dp_same g2 p)
end

/-! ### defs -/
/-- a promise: data in, data out -/
def spF (K : PySem.W.Frag) {ι : Type} (arg : ι → List PyData) (pre : ι → Prop) (res : ι → PyData) : Sp := fun vs H Q _ => ∃ (i : ι) (S : Hp), Same S H ∧ DpAll K S vs (arg i) ∧ pre i ∧ ∀ v S' H', G0 S H S' H' → Dp K S' v (res i) → Q v H'
/-- the def x of the module keeps a promise -/
structure Fn (CX : CXT) (P : Program) (w : World) (K : PySem.W.Frag) (mg : Str → Option Value) (base : Heap) (x : Str) (k : Nat) (ps : List Str) (sp : Sp) : Prop where
  ex : ∃ fd, FnOk P w K mg base CX k (He.ga K x) fd ps sp ∧ Binds K fd ps []
  kp : PySem.W.keepIn K (.ref (He.ga K x)) = true
  gl : mg x = some (.ref (He.ga K x))
section
variable {X : Cx} {x : Str} {p pos : Pos} {k : Nat} {ps : List Str} {sp : Sp} {e : Expr} {es : List Expr} {t : TA} {CX : CXT}
theorem pe_fn (F : Fn CX0 X.prog X.w X.K X.mg X.base x k ps sp) (hr : Room k X.A) (hg : Gl X x) (ha : PA X (e :: es) t) (hdb : (x == ("__debug__" : Str)) = false := by decide)
    (he : starEach (e :: es) X.env = (false, eval e X.env) :: starEach es X.env := by rfl) (hpl : (backTo pos (starEach es X.env)).any (·.1) = false := by rfl) : PE X (.Call (.Name x p) (e :: es) [] pos) (tCall sp [] E0 t) := by
  obtain ⟨fd, G, b⟩ := F.ex
  exact pe_call G hr hg F.gl F.kp b .nil pass0 ha hdb he hpl
end
section
variable {K : PySem.W.Frag} {σ : L2.St} {S : Hp} {ta : TA} {E : XK}
theorem ev_call {ι : Type} {arg : ι → List PyData} {pre : ι → Prop} {res : ι → PyData} (i : ι) (hp : pre i) (ha : EvA K ta σ S (arg i)) : EvD K (tCall (spF K arg pre res) [] E ta) σ S (res i) := fun H j Q q =>
  ha H j _ fun us S1 H1 g p => by
    show spF K arg pre res (us ++ []) H1 Q E
    rw [List.append_nil]
    exact ⟨i, S1, g.i, p, hp, fun v S2 H2 g2 p2 => q v S2 H2 (g.trans g2) p2⟩
end
section
variable {P : Program} {w : World} {K : PySem.W.Frag} {mg : Str → Option Value} {base : Heap}
theorem Room.u65 {k : Nat} {A : Around} (r : Room k A) : A.units + 65 < cLine := Nat.lt_of_le_of_lt (by omega) r.un
theorem fn_mk {x : Str} {st : Stmt} {N ps : List Str} {k : Nat} {ι : Type} {arg : ι → List PyData} {pre : ι → Prop} {res : ι → PyData}
    (F : ∃ fd, FunD K x x (defArgs st) (defBody st) (defScope st) [] [] (He.ga K x) fd) (g : mg x = some (.ref (He.ga K x)))
    (b : ∀ (kV doc pm : Value) (an : Option Addr) (cdv ct : Value) (us : List Value), us.length = ps.length → bindArgs (PySem.W.fnOf x x (defArgs st) (defBody st) (defScope st) .none kV doc pm an cdv ct) ⟨us, []⟩ = pure (ps.zip us))
    (sc : FnScope N ps (defScope st)) (hl : ∀ i, (arg i).length = ps.length)
    (hb : ∀ (cdv : Value) (A : Around) (outer : List Env) (s : Shared) (H : Hp) (E : XK), Room k (A.deeper (envOfC x (defScope st) s.heap.objs.size (He.ga K x) cdv)) →
      ∃ t, PSs (cxOf CX0 P w K mg base N x (defScope st) (He.ga K x) cdv A outer s H E).nox (defBody st) t ∧ ∀ i vs S, pre i → DpAll K S vs (arg i) → Ret K t (start N vs) S (res i)) :
    Fn CX0 P w K mg base x (k + 1) ps (spF K arg pre res) := by
  obtain ⟨fd, F⟩ := F
  refine ⟨⟨fd, F.ok sc (fun vs H Q E h => ?_) (fun cdv A outer s H vs Q E hr h => ?_), F.bindsN b⟩, F.kp, g⟩
  · obtain ⟨i, S, _, p, _⟩ := h
    rw [dpAll_len p]
    exact hl i
  · obtain ⟨i, S, j, p, hp, q⟩ := h
    obtain ⟨t, h1, h2⟩ := hb cdv A outer s H E hr
    exact ⟨t, h1.nox, h2 i vs S hp p H j _ q⟩
end
end Zb
set_option Elab.async false
set_option linter.all false
set_option maxRecDepth 100000
set_option maxHeartbeats 2000000
namespace Zh
open PySem PySem.Spec PyProof.Rows L2
def top (i : Nat) : Stmt := PySem.Challenge.pw_helpedcalls_k08_whole_programs.main.body.getD i (.Pass ⟨0, 0, 0, 0⟩)
abbrev s_is_small : Stmt := top 7
abbrev s_is_table : Stmt := top 8
abbrev s_is_bank : Stmt := top 9
abbrev s_is_kind : Stmt := top 10
abbrev s_calls_in : Stmt := top 11
abbrev s_bank_calls : Stmt := top 12
abbrev s_need_object : Stmt := top 14
abbrev s_is_register : Stmt := top 20
abbrev s_is_name : Stmt := top 21
abbrev s_atom_of : Stmt := top 22
abbrev s_worth_of : Stmt := top 23
abbrev s_read_row : Stmt := top 24
abbrev s_go_row : Stmt := top 25
abbrev s_row_of : Stmt := top 26
abbrev s_cells_of : Stmt := top 27
abbrev s_targets : Stmt := top 28
abbrev s_wrong_label : Stmt := top 29
abbrev s_runs_on : Stmt := top 30
abbrev s_wrong_row : Stmt := top 31
abbrev s_methods_of : Stmt := top 32
abbrev s_read_program : Stmt := top 33
abbrev s_is_program : Stmt := top 34
abbrev s_cell_count : Stmt := top 35
abbrev s_method_names : Stmt := top 36
abbrev s_L_taken : Stmt := top 38
abbrev s_L_pick : Stmt := top 39
abbrev s_L_alike : Stmt := top 40
abbrev s_L_object : Stmt := top 41
abbrev s_L_calls : Stmt := top 42
abbrev s_L_atom : Stmt := top 47
abbrev s_L_is_name : Stmt := top 48
abbrev s_L_is_line : Stmt := top 49
abbrev s_L_next : Stmt := top 50
abbrev s_L_is_shared : Stmt := top 51
abbrev s_L_runs_on : Stmt := top 52
abbrev s_L_wrong_method : Stmt := top 53
abbrev s_L_program : Stmt := top 54
abbrev s_L_write_program : Stmt := top 56
abbrev s_L_bent : Stmt := top 57
abbrev s_law : Stmt := top 58
abbrev s_init : Stmt := inClass (top 3) 0
end Zh
namespace Zb
open PySem PySem.Spec PyProof.Rows L2
abbrev letters : Str := "abcdefghijklmnopqrstuvwxyz"
/-- what the module's names hold -/
structure Mo (K : PySem.W.Frag) (mg : Str → Option Value) : Prop where
  len : mg "len" = none
  isinstance : mg "isinstance" = none
  range : mg "range" = none
  all : mg "all" = none
  int : mg "int" = none
  str : mg "str" = none
  bool : mg "bool" = none
  tuple : mg "tuple" = none
  list : mg "list" = none
  sorted : mg "sorted" = none
  set : mg "set" = none
  super : mg "super" = none
  ValueError : mg "ValueError" = none
  MOST_VALUES : ∃ t, mg "MOST_VALUES" = some (.int 5 t)
  MOST_ROOM : ∃ t, mg "MOST_ROOM" = some (.int 3 t)
  MOST_CELLS : ∃ t, mg "MOST_CELLS" = some (.int 6 t)
  MOST_LINES : ∃ t, mg "MOST_LINES" = some (.int 60 t)
  LETTERS : ∃ t, mg "LETTERS" = some (.str letters t)
  SHARED : mg "SHARED" = some (.ref (He.ga K "SHARED"))
  sharedT : ∀ H, SqT K H (He.ga K "SHARED") [.str "read", .str "write", .str "swap", .str "answer"]
section
variable {X : Cx} {x : Str} {pos : Pos}
theorem pe_gint {i : Int} (hg : Gl X x) (h : ∃ t, X.mg x = some (.int i t)) (hd : (x == ("__debug__" : Str)) = false := by decide) : PE X (.Name x pos) (tC (.int i)) := by
  obtain ⟨t, e⟩ := h
  exact pe_glob hg e ⟨t, rfl⟩ hd
theorem pe_gstr {z : Str} (hg : Gl X x) (h : ∃ t, X.mg x = some (.str z t)) (hd : (x == ("__debug__" : Str)) = false := by decide) : PE X (.Name x pos) (tC (.str z)) := by
  obtain ⟨t, e⟩ := h
  exact pe_glob hg e ⟨t, rfl⟩ hd
end
/-- a def of the top as it stands -/
def Df (K : PySem.W.Frag) (mg : Str → Option Value) (x : Str) (st : Stmt) : Prop := (∃ fd, FunD K x x (defArgs st) (defBody st) (defScope st) [] [] (He.ga K x) fd) ∧ mg x = some (.ref (He.ga K x))
end Zb
set_option Elab.async false
set_option linter.all false
set_option maxRecDepth 100000
set_option maxHeartbeats 2000000
/-! The mirrors: what each def hands back, as data. -/
namespace Zb
open PySem PySem.Spec PyProof.Rows L2

abbrev digits : Str := "0123456789"
def sgn (w : Str) : List Nat := w.cps.toList
theorem len_sgn (w : Str) : w.length = (sgn w).length := Array.length_toList.symm
theorem sgn_inj {a b : Str} (h : sgn a = sgn b) : a = b := TL.ext_tl h
theorem one_sign {w : Str} (h : w.length = 1) : ∃ c, w = ⟨#[c]⟩ := by
  rw [len_sgn] at h
  match e : sgn w, h with
  | [c], _ => exact ⟨c, sgn_inj e⟩
def inL (c : Nat) : Bool := decide (c ∈ letters.cps.toList)
def isReg (w : Str) : Bool := decide ((w.length : Int) = 1) && (sgn w).all inL
def isName (w : Str) : Bool := (decide ((1 : Int) ≤ w.length) && decide ((w.length : Int) ≤ 12)) && (sgn w).all inL
def isDig (w : Str) : Bool := decide ((w.length : Int) = 1) && (sgn w).all fun c => decide (c ∈ digits.cps.toList)
/-- the value of a digit -/
def digV (w : Str) : Int := ((sgn w).getD 0 0 : Nat) - 48
theorem dig_cases : ∀ c ∈ digits.cps.toList, PySem.intText? (⟨#[c]⟩ : Str) = some ((c : Int) - 48) := by decide +kernel
theorem dig_text {w : Str} (h : isDig w = true) : PySem.intText? w = some (digV w) := by
  unfold isDig at h
  rw [Bool.and_eq_true] at h
  obtain ⟨c, rfl⟩ := one_sign (w := w) (by have := of_decide_eq_true h.1; omega)
  have hc : decide (c ∈ digits.cps.toList) = true := by simpa [sgn] using h.2
  exact dig_cases c (of_decide_eq_true hc)
/-- what a word means -/
def atomD (w : Str) : PyData := if w = "none" then .tuple [.str "is", .none] else if isDig w = true then .tuple [.str "is", .int (digV w)] else if isReg w = true then .tuple [.str "in", .str w] else .none
abbrev shortS (w : Str) : Prop := w.length < 100000
theorem shortS.le {w : Str} (h : shortS w) : w.length ≤ sizeLine := Nat.le_trans (Nat.le_of_lt h) (by decide)
abbrev both : Str := "0123456789abcdefghijklmnopqrstuvwxyz"
theorem both_split : both.cps.toList = digits.cps.toList ++ letters.cps.toList := by decide +kernel
theorem one_dig (c : Nat) : isDig (⟨#[c]⟩ : Str) = decide (c ∈ digits.cps.toList) := by
  unfold isDig
  rw [show decide (((⟨#[c]⟩ : Str).length : Int) = 1) = true from rfl]
  simp [sgn]
theorem one_reg (c : Nat) : isReg (⟨#[c]⟩ : Str) = decide (c ∈ letters.cps.toList) := by
  unfold isReg
  rw [show decide (((⟨#[c]⟩ : Str).length : Int) = 1) = true from rfl]
  simp [sgn, inL]
theorem both_sign (c : Nat) : decide (c ∈ both.cps.toList) = (isDig (⟨#[c]⟩ : Str) || isReg (⟨#[c]⟩ : Str)) := by
  rw [one_dig, one_reg, both_split, Bool.eq_iff_iff]
  simp only [decide_eq_true_eq, List.mem_append, Bool.or_eq_true]
theorem dig_is : ∀ c ∈ digits.cps.toList, Txt.isdigit (⟨#[c]⟩ : Str) = true := by decide +kernel
theorem let_not : ∀ c ∈ letters.cps.toList, Txt.isdigit (⟨#[c]⟩ : Str) = false := by decide +kernel
theorem digit_text {w : Str} (h : isDig w = true ∨ isReg w = true) : Txt.isdigit w = isDig w := by
  have hl : w.length = 1 := by
    rcases h with h | h
    · have := of_decide_eq_true (Bool.and_eq_true_iff.mp h).1; omega
    · have := of_decide_eq_true (Bool.and_eq_true_iff.mp h).1; omega
  obtain ⟨c, rfl⟩ := one_sign hl
  rw [one_dig, one_reg] at h
  rw [one_dig]
  rcases h with h | h
  · rw [h]; exact dig_is c (of_decide_eq_true h)
  · have z : Txt.isdigit (⟨#[c]⟩ : Str) = false := let_not c (of_decide_eq_true h)
    rw [z]
    cases q : decide (c ∈ digits.cps.toList) with
    | false => rfl
    | true =>
      have y := dig_is c (of_decide_eq_true q)
      rw [z] at y
      cases y
end Zb
set_option Elab.async false
set_option linter.all false
set_option maxRecDepth 100000
set_option maxHeartbeats 2000000
/-! The mirrors of a line. -/
namespace Zb
open PySem PySem.Spec PyProof.Rows L2

/-- the n-th word -/
def wd (l : List Str) (n : Nat) : Str := l.getD n Str.empty
def worthD (l : List Str) : PyData :=
  if decide ((l.length : Int) = 1) = true then (if isNone (atomD (wd l 0)) = true then .none else .tuple [.str "", atomD (wd l 0), atomD (wd l 0)])
  else if (!decide ((l.length : Int) = 3) || !decide (wd l 1 ∈ (["+", "-"] : List Str))) = true then .none
  else if (isNone (atomD (wd l 0)) || isNone (atomD (wd l 2))) = true then .none else .tuple [.str (wd l 1), atomD (wd l 0), atomD (wd l 2)]
def rC1 (l : List Str) : Bool := decide (wd l 0 = "read") && (decide ((l.length : Int) = 3) && (isReg (wd l 1) && !isNone (atomD (wd l 2))))
def rC2 (l : List Str) : Bool := decide (wd l 0 = "write") && (decide ((l.length : Int) ∈ ([3, 5] : List Int)) && !isNone (atomD (wd l 1)))
def rC3 (l : List Str) : Bool := decide (wd l 0 = "set") && (decide ((l.length : Int) ∈ ([3, 5] : List Int)) && isReg (wd l 1))
def readRowD (l : List Str) : PyData :=
  if rC1 l = true then .tuple [.str "read", .str (wd l 1), atomD (wd l 2)]
  else if rC2 l = true then (if isNone (worthD (l.drop 2)) = true then .none else .tuple [.str "write", atomD (wd l 1), worthD (l.drop 2)])
  else if rC3 l = true then (if isNone (worthD (l.drop 2)) = true then .none else .tuple [.str "set", .str (wd l 1), worthD (l.drop 2)])
  else .none
def gC1 (l : List Str) : Bool := decide (wd l 0 = "go") && (decide ((l.length : Int) = 2) && isName (wd l 1))
def gC2 (l : List Str) : Bool := decide (wd l 0 = "swap") && (decide ((l.length : Int) = 5) && isReg (wd l 1))
def gC3 (l : List Str) : Bool := decide (wd l 0 = "if") && (decide ((l.length : Int) = 6) && (decide (wd l 2 ∈ (["=", "<"] : List Str)) && (decide (wd l 4 = "go") && isName (wd l 5))))
def gC4 (l : List Str) : Bool := decide (wd l 0 = "answer") && decide ((l.length : Int) = 2)
def goRowD (l : List Str) : PyData :=
  if gC1 l = true then .tuple [.str "go", .str (wd l 1)]
  else if gC2 l = true then (if (isNone (atomD (wd l 2)) || isNone (atomD (wd l 3)) || isNone (atomD (wd l 4))) = true then .none else .tuple [.str "swap", .str (wd l 1), atomD (wd l 2), atomD (wd l 3), atomD (wd l 4)])
  else if gC3 l = true then (if (isNone (atomD (wd l 1)) || isNone (atomD (wd l 3))) = true then .none else .tuple [.str "if", .str (wd l 2), atomD (wd l 1), atomD (wd l 3), .str (wd l 5)])
  else if gC4 l = true then (if decide (wd l 1 ∈ (["yes", "no"] : List Str)) = true then .tuple [.str "answer", .tuple [.str "say", .bool (decide (wd l 1 = "yes"))]]
    else if isNone (atomD (wd l 1)) = true then .none else .tuple [.str "answer", atomD (wd l 1)])
  else .none
/-- the words of a line -/
def ws (line : Str) : List Str := Txt.split line " "
def lastS (w : Str) : Str := cutS w (some (-1)) none
def headS (w : Str) : Str := cutS w none (some (-1))
def isLab (line : Str) : Bool := decide (((ws line).length : Int) = 1) && (decide (lastS (wd (ws line) 0) = ":") && isName (headS (wd (ws line) 0)))
def rowD (line : Str) : PyData :=
  if decide ((Str.ofString "") ∈ ws line) = true then .none
  else if isLab line = true then .tuple [.str "label", .str (headS (wd (ws line) 0))]
  else if isNone (readRowD (ws line)) = true then goRowD (ws line) else readRowD (ws line)
/-! facts of words -/
theorem at_strs {l : List Str} {n : Nat} (h : n < l.length) : atI (l.map PyData.str) (n : Int) = some (.str (wd l n)) := by
  refine atI_nat ?_
  rw [List.getElem?_map]
  have e : l[n]? = some (wd l n) := by
    unfold wd
    rw [List.getD_eq_getElem?_getD, List.getElem?_eq_getElem h]
    rfl
  rw [e]
  rfl
theorem wd_mem {l : List Str} {n : Nat} (h : n < l.length) : wd l n ∈ l := by
  unfold wd
  rw [List.getD_eq_getElem?_getD, List.getElem?_eq_getElem h]
  exact List.getElem_mem h
theorem wd_drop (l : List Str) (k n : Nat) : wd (l.drop k) n = wd l (k + n) := by
  unfold wd
  rw [List.getD_eq_getElem?_getD, List.getD_eq_getElem?_getD, List.getElem?_drop]
theorem cut_drop (xs : List PyData) (k : Nat) : cutD xs (some (k : Int)) none = xs.drop k := by
  unfold cutD
  rw [HT.sIx_nat, HT.sIx_none]
  by_cases h : k ≤ xs.length
  · rw [Nat.min_eq_left h]
    exact List.take_of_length_le (by rw [List.length_drop]; exact Nat.le_refl _)
  · have h' : xs.length ≤ k := by omega
    rw [Nat.min_eq_right h', List.drop_of_length_le (Nat.le_refl _), List.drop_of_length_le h']
    exact List.take_nil
section
variable {K : PySem.W.Frag} {σ : L2.St} {S S1 H : Hp} {te ta : TE} {l : List Str}
theorem ev_w {n : Nat} (hn : n < l.length) (h : EvD K te σ S (.list (l.map .str))) (hi : EvD K ta σ S (.int (n : Int))) : EvD K (tOp (rIxL K) te ta) σ S (.str (wd l n)) := ev_op (rv_ixL (at_strs hn)) h hi
theorem ev_from {k : Nat} (h : EvD K te σ S (.list (l.map .str))) (hi : EvD K ta σ S (.int (k : Int))) : EvD K (tSl (rSlL K) te (tPart ta) tNoPart) σ S (.list ((l.drop k).map .str)) := by
  refine ev_is (ev_slL h (eo_some hi) eo_none) ?_
  rw [cut_drop, List.map_drop]
end
/-! atoms are data of a shape -/
theorem let_ok : ∀ c ∈ letters.cps.toList, c < 1114112 := by decide +kernel
theorem ok_all {w : Str} (h : (sgn w).all inL = true) : PyData.strOk w = true := by
  unfold PyData.strOk
  rw [← Array.all_toList]
  refine List.all_eq_true.mpr fun c hc => ?_
  have := List.all_eq_true.mp h c hc
  exact decide_eq_true (let_ok c (of_decide_eq_true this))
theorem ok_reg {w : Str} (h : isReg w = true) : PyData.strOk w = true := ok_all (Bool.and_eq_true_iff.mp h).2
theorem ok_name {w : Str} (h : isName w = true) : PyData.strOk w = true := ok_all (Bool.and_eq_true_iff.mp h).2
theorem atom_lay (w : Str) : (atomD w).canLay0 = true ∧ (atomD w).depth ≤ 1 := by
  unfold atomD
  by_cases h1 : w = "none"
  · rw [if_pos h1]
    exact ⟨by decide +kernel, by decide +kernel⟩
  · rw [if_neg h1]
    by_cases h2 : isDig w = true
    · rw [if_pos h2]
      exact ⟨by simp [PyData.canLay0, PyData.canLayAll0]; decide +kernel, by simp [PyData.depth, PyData.depthAll]⟩
    · rw [if_neg h2]
      by_cases h3 : isReg w = true
      · rw [if_pos h3]
        refine ⟨?_, by simp [PyData.depth, PyData.depthAll]⟩
        simp [PyData.canLay0, PyData.canLayAll0, ok_reg h3]
        decide +kernel
      · rw [if_neg h3]
        exact ⟨rfl, by decide⟩
theorem lay_list : ∀ {ds : List PyData}, (∀ d ∈ ds, d.canLay0 = true ∧ d.depth ≤ 60) → PyData.canLayAll0 ds = true ∧ PyData.depthAll ds ≤ 60
  | [], _ => ⟨by simp [PyData.canLayAll0], by simp [PyData.depthAll]⟩
  | d :: ds, h => by
    obtain ⟨h1, h2⟩ := h d List.mem_cons_self
    obtain ⟨h3, h4⟩ := lay_list fun e he => h e (List.mem_cons_of_mem _ he)
    refine ⟨by simp [PyData.canLayAll0, h1, h3], ?_⟩
    simp only [PyData.depthAll]
    exact Nat.max_le.mpr ⟨h2, h4⟩
theorem shaped_list {ds : List PyData} (h : ∀ d ∈ ds, d.canLay0 = true ∧ d.depth ≤ 60) : SeqAt.shaped (.list ds) = true := by
  obtain ⟨h1, h2⟩ := lay_list h
  unfold SeqAt.shaped
  rw [Bool.and_eq_true]
  exact ⟨by simpa [PyData.canLay0] using h1, decide_eq_true (by simp only [PyData.depth]; omega)⟩
theorem shaped_atoms (l : List Str) : SeqAt.shaped (.list (l.map atomD)) = true := shaped_list fun d hd => by
  obtain ⟨w, _, rfl⟩ := List.mem_map.mp hd
  exact ⟨(atom_lay w).1, Nat.le_trans (atom_lay w).2 (by decide)⟩
theorem eqv_none (d : PyData) : PyData.eqv d .none = isNone d := by
  cases d <;> simp [PyData.eqv, isNone]
end Zb
set_option Elab.async false
set_option linter.all false
set_option maxRecDepth 100000
set_option maxHeartbeats 2000000
namespace Zb
open PySem PySem.Spec PyProof.Rows L2
section
variable {P : Program} {w : World} {K : PySem.W.Frag} {mg : Str → Option Value} {base : Heap}
/-! words -/
abbrev spReg (K : PySem.W.Frag) : Sp := spF K (fun w : Str => [.str w]) shortS fun w => .bool (isReg w)
theorem sc_is_register : FnScope ["word"] ["word"] (defScope Zh.s_is_register) := ⟨rfl, rfl, rfl, by decide +kernel, rfl, by decide +kernel, by decide +kernel⟩
theorem ok_is_register (M : Mo K mg) (D : Df K mg "is_register" Zh.s_is_register) : Fn CX0 P w K mg base "is_register" 1 ["word"] (spReg K) :=
  fn_mk D.1 D.2 (fun _ _ _ _ _ _ us hl => match us, hl with | [_], _ => rfl) sc_is_register (fun _ => rfl) fun cdv A outer s H E hr => ⟨_, (pss_one (ps_ret (pe_and (pe_cmpR op_eq (pe_callB call_len (by rfl) M.len (by decide +kernel) (pa_cons (pv 0) pa_nil)) pe_int (nomark _)) (pe_one (pe_cmpR op_in_sign (pv 0) (pe_gstr rfl M.LETTERS) (by rfl)))))), fun w vs S hp p => by
    obtain ⟨v, r, rfl, pv, pr⟩ := dpAll_cons p
    obtain rfl := dpAll_nil pr
    refine r_ret (ev_and (ev_op rv_eqi (ev_cb (rc_lenS hp.le) (ea_one (ev_var rfl pv))) (ev_c (.int _))) fun h => ?_)
    obtain ⟨c, rfl⟩ := one_sign (w := w) (by have := of_decide_eq_true h; omega)
    refine ev_is (ev_op rv_sign (ev_var rfl pv) (ev_c (.str _))) ?_
    simp [sgn, inL]⟩
abbrev spName (K : PySem.W.Frag) : Sp := spF K (fun w : Str => [.str w]) shortS fun w => .bool (isName w)
theorem none_out (w : Str) : (List.map (fun c => PyData.str ⟨#[c]⟩) ((sgn w).filter fun c => !inL c)).isEmpty = (sgn w).all inL := by
  rw [List.isEmpty_map]
  induction sgn w with
  | nil => rfl
  | cons c l ih =>
    rw [List.filter_cons, List.all_cons]
    cases inL c with
    | true => simpa using ih
    | false => rfl
theorem sc_is_name : FnScope ["word", "sign"] ["word"] (defScope Zh.s_is_name) := ⟨rfl, rfl, rfl, by decide +kernel, rfl, by decide +kernel, by decide +kernel⟩
theorem ok_is_name (M : Mo K mg) (D : Df K mg "is_name" Zh.s_is_name) : Fn CX0 P w K mg base "is_name" 1 ["word"] (spName K) :=
  fn_mk D.1 D.2 (fun _ _ _ _ _ _ us hl => match us, hl with | [_], _ => rfl) sc_is_name (fun _ => rfl) fun cdv A outer s H E hr => ⟨_, (pss_one (ps_ret (pe_and (pe_chain op_le op_le pe_int (pe_callB call_len (by rfl) M.len (by decide +kernel) (pa_cons (pv 0) pa_nil)) pe_int) (pe_one (pe_cmpR (op_eqNil hr.units0) (pe_lc (own := [("sign", 1)]) (g := gName 1) rfl sc_is_name.nd (pi_str (pv 0)) (blkOk_by (own := [("sign", 1)]) (N := ["word", "sign"]) (sc := defScope Zh.s_is_name) (by decide +kernel)) (fun _ _ _ _ _ => (pg_name (i := 1) sc_is_name.nd rfl (Or.inl rfl))) (fun _ _ _ _ _ => pts_one (pt_cmpR op_notIn_sign (pv 1) (pe_gstr rfl M.LETTERS) (by rfl))) (fun _ _ _ _ _ => (pv 1))) (pe_lst pa_nil) (nomark _)))))), fun w vs S hp p => by
    obtain ⟨v, r, rfl, pv, pr⟩ := dpAll_cons p
    obtain rfl := dpAll_nil pr
    refine r_ret (ev_and (ev_chain rv_le (fun _ => rv_le) (ev_c (.int _)) (ev_cb (rc_lenS hp.le) (ea_one (ev_var rfl pv))) (ev_c (.int _))) fun _ => ?_)
    refine ev_is (ev_op rv_eqnil (ec_str (f := fun c => !inL c) (g := fun c => .str ⟨#[c]⟩) (ev_var rfl pv) hp (fun _ => rfl) (fun c v S1 _ pc => ?_) (fun c _ v S1 _ pc => ev_var rfl pc)) (ev_lst ea_nil (by decide))) ?_
    · exact et_val (ev_op rv_nsign (ev_var rfl pc) (ev_c (.str _)))
    · exact congrArg PyData.bool (none_out w)⟩
theorem sc_L_is_name : FnScope ["_law_word", "_law_sign"] ["_law_word"] (defScope Zh.s_L_is_name) := ⟨rfl, rfl, rfl, by decide +kernel, rfl, by decide +kernel, by decide +kernel⟩
theorem ok_L_is_name (M : Mo K mg) (D : Df K mg "_law_is_name" Zh.s_L_is_name) : Fn CX0 P w K mg base "_law_is_name" 1 ["_law_word"] (spName K) :=
  fn_mk D.1 D.2 (fun _ _ _ _ _ _ us hl => match us, hl with | [_], _ => rfl) sc_L_is_name (fun _ => rfl) fun cdv A outer s H E hr => ⟨_, (pss_one (ps_ret (pe_and (pe_chain op_le op_le pe_int (pe_callB call_len (by rfl) M.len (by decide +kernel) (pa_cons (pv 0) pa_nil)) pe_int) (pe_one (pe_cmpR (op_eqNil hr.units0) (pe_lc (own := [("_law_sign", 1)]) (g := gName 1) rfl sc_L_is_name.nd (pi_str (pv 0)) (blkOk_by (own := [("_law_sign", 1)]) (N := ["_law_word", "_law_sign"]) (sc := defScope Zh.s_L_is_name) (by decide +kernel)) (fun _ _ _ _ _ => (pg_name (i := 1) sc_L_is_name.nd rfl (Or.inl rfl))) (fun _ _ _ _ _ => pts_one (pt_cmpR op_notIn_sign (pv 1) pe_str (by rfl))) (fun _ _ _ _ _ => (pv 1))) (pe_lst pa_nil) (nomark _)))))), fun w vs S hp p => by
    obtain ⟨v, r, rfl, pv, pr⟩ := dpAll_cons p
    obtain rfl := dpAll_nil pr
    refine r_ret (ev_and (ev_chain rv_le (fun _ => rv_le) (ev_c (.int _)) (ev_cb (rc_lenS hp.le) (ea_one (ev_var rfl pv))) (ev_c (.int _))) fun _ => ?_)
    refine ev_is (ev_op rv_eqnil (ec_str (f := fun c => !inL c) (g := fun c => .str ⟨#[c]⟩) (ev_var rfl pv) hp (fun _ => rfl) (fun c v S1 _ pc => ?_) (fun c _ v S1 _ pc => ev_var rfl pc)) (ev_lst ea_nil (by decide))) ?_
    · exact et_val (ev_op rv_nsign (ev_var rfl pc) (ev_c (.str _)))
    · exact congrArg PyData.bool (none_out w)⟩
abbrev spAtom (K : PySem.W.Frag) : Sp := spF K (fun w : Str => [.str w]) shortS atomD
theorem sc_atom_of : FnScope ["word"] ["word"] (defScope Zh.s_atom_of) := ⟨rfl, rfl, rfl, by decide +kernel, rfl, by decide +kernel, by decide +kernel⟩
theorem ok_atom_of (M : Mo K mg) (D : Df K mg "atom_of" Zh.s_atom_of) (f_is_register : Fn CX0 P w K mg base "is_register" 1 ["word"] (spReg K)) : Fn CX0 P w K mg base "atom_of" 2 ["word"] (spAtom K) :=
  fn_mk D.1 D.2 (fun _ _ _ _ _ _ us hl => match us, hl with | [_], _ => rfl) sc_atom_of (fun _ => rfl) fun cdv A outer s H E hr => ⟨_, (pss_cons (ps_if (pt_cmpR op_eq (pv 0) pe_str (nomark _)) (pss_one (ps_ret (pe_tup (pa_cons pe_str (pa_cons pe_non pa_nil))))) pss_nil)
    (pss_cons (ps_if (PW.pt (pw_and (pt_cmpR op_eq (pe_callB call_len (by rfl) M.len (by decide +kernel) (pa_cons (pv 0) pa_nil)) pe_int (nomark _)) (pw_and1 (pt_cmpR op_in_sign (pv 0) pe_str (by rfl))))) (pss_one (ps_ret (pe_tup (pa_cons pe_str (pa_cons (pe_callTy call_int_str (by rfl) M.int (by decide +kernel) (pa_cons (pv 0) pa_nil)) pa_nil))))) pss_nil)
    (pss_one (ps_ret (pe_ifExp (pt_val (pe_fn f_is_register (hr.mono (by decide)) rfl (pa_cons (pv 0) pa_nil))) (pe_tup (pa_cons pe_str (pa_cons (pv 0) pa_nil))) pe_non))))), fun w vs S hp p => by
    obtain ⟨v, r, rfl, pv, pr⟩ := dpAll_cons p
    obtain rfl := dpAll_nil pr
    refine r_if (et_val (ev_op rv_eqs (ev_var rfl pv) (ev_c (.str _)))) (fun h => r_stop (r_ret ?_)) fun h => r_next ?_
    · refine ev_is (ev_tup (ea_cons (ev_c (.str _)) (ea_one (ev_c .non))) (lz 2 rfl)) ?_
      rw [atomD, if_pos (of_decide_eq_true h)]
    rw [show atomD w = if isDig w = true then .tuple [.str "is", .int (digV w)] else if isReg w = true then .tuple [.str "in", .str w] else .none from if_neg (of_decide_eq_false h)]
    refine r_if (b := isDig w) (et_and (et_val (ev_op rv_eqi (ev_cb (rc_lenS hp.le) (ea_one (ev_var rfl pv))) (ev_c (.int _)))) fun h => ?_) (fun h => r_stop (r_ret ?_)) fun h => r_next ?_
    · obtain ⟨c, rfl⟩ := one_sign (w := w) (by have := of_decide_eq_true h; omega)
      refine et_is (et_val (ev_op rv_sign (ev_var rfl pv) (ev_c (.str _)))) ?_
      simp [sgn]
    · rw [if_pos h]
      exact ev_tup (ea_cons (ev_c (.str _)) (ea_one (ev_cb (rc_intS (dig_text h) (by have := of_decide_eq_true (Bool.and_eq_true_iff.mp h).1; omega)) (ea_one (ev_var rfl pv))))) (lz 2 rfl)
    · rw [if_neg (by rw [h]; decide)]
      refine r_ret (ev_if (b := isReg w) (et_B (ev_call w hp (ea_one (ev_var rfl pv)))) (fun h => ?_) fun h => ?_)
      · rw [if_pos h]
        exact ev_tup (ea_cons (ev_c (.str _)) (ea_one (ev_var rfl pv))) (lz 2 rfl)
      · rw [if_neg (by rw [h]; decide)]
        exact ev_c .non⟩
theorem sc_L_atom : FnScope ["_law_word"] ["_law_word"] (defScope Zh.s_L_atom) := ⟨rfl, rfl, rfl, by decide +kernel, rfl, by decide +kernel, by decide +kernel⟩
theorem ok_L_atom (M : Mo K mg) (D : Df K mg "_law_atom" Zh.s_L_atom) : Fn CX0 P w K mg base "_law_atom" 1 ["_law_word"] (spAtom K) :=
  fn_mk D.1 D.2 (fun _ _ _ _ _ _ us hl => match us, hl with | [_], _ => rfl) sc_L_atom (fun _ => rfl) fun cdv A outer s H E hr => ⟨_, (pss_cons (ps_if (pt_cmpR op_eq (pv 0) pe_str (nomark _)) (pss_one (ps_ret (pe_tup (pa_cons pe_str (pa_cons pe_non pa_nil))))) pss_nil)
    (pss_cons (ps_if (PW.pt (pw_or (pt_cmpR op_ne (pe_callB call_len (by rfl) M.len (by decide +kernel) (pa_cons (pv 0) pa_nil)) pe_int (nomark _)) (pw_or1 (pt_cmpR op_notIn_sign (pv 0) pe_str (by rfl))))) (pss_one (ps_ret pe_non)) pss_nil)
    (pss_one (ps_ret (pe_ifExp (pt_val (pe_m0 PySem.F.slot_str_isdigit PySem.F.type_str_isdigit mt_isdigit (pv 0))) (pe_tup (pa_cons pe_str (pa_cons (pe_callTy call_int_str (by rfl) M.int (by decide +kernel) (pa_cons (pv 0) pa_nil)) pa_nil))) (pe_tup (pa_cons pe_str (pa_cons (pv 0) pa_nil)))))))), fun w vs S hp p => by
    obtain ⟨v, r, rfl, pv, pr⟩ := dpAll_cons p
    obtain rfl := dpAll_nil pr
    refine r_if (et_val (ev_op rv_eqs (ev_var rfl pv) (ev_c (.str _)))) (fun h => r_stop (r_ret ?_)) fun h => r_next ?_
    · refine ev_is (ev_tup (ea_cons (ev_c (.str _)) (ea_one (ev_c .non))) (lz 2 rfl)) ?_
      rw [atomD, if_pos (of_decide_eq_true h)]
    rw [show atomD w = if isDig w = true then .tuple [.str "is", .int (digV w)] else if isReg w = true then .tuple [.str "in", .str w] else .none from if_neg (of_decide_eq_false h)]
    refine r_if (b := !(isDig w || isReg w)) (et_is (et_or (et_val (ev_op rv_nei (ev_cb (rc_lenS hp.le) (ea_one (ev_var rfl pv))) (ev_c (.int _)))) (c := !(isDig w || isReg w)) fun h => ?_) ?_) (fun h => r_stop (r_ret ?_)) fun h => r_next ?_
    · obtain ⟨c, rfl⟩ := one_sign (w := w) (by have q := of_decide_eq_true (Bool.not_eq_eq_eq_not.mp h); omega)
      refine et_is (et_val (ev_op rv_nsign (ev_var rfl pv) (ev_c (.str _)))) ?_
      exact congrArg (!·) (both_sign c)
    · unfold isDig isReg
      cases decide ((w.length : Int) = 1) <;> simp
    · have h2 : isDig w = false ∧ isReg w = false := by simpa using h
      rw [if_neg (by rw [h2.1]; decide), if_neg (by rw [h2.2]; decide)]
      exact ev_c .non
    · refine r_ret (ev_if (b := isDig w) (et_is (et_B (ev_isdigit (ev_var rfl pv))) ?_) (fun h1 => ?_) fun h1 => ?_)
      · exact digit_text (by cases q : isDig w with
          | true => exact .inl rfl
          | false => exact .inr (by simpa [q] using h))
      · rw [if_pos h1]
        exact ev_tup (ea_cons (ev_c (.str _)) (ea_one (ev_cb (rc_intS (dig_text h1) (by have := of_decide_eq_true (Bool.and_eq_true_iff.mp h1).1; omega)) (ea_one (ev_var rfl pv))))) (lz 2 rfl)
      · have h2 : isReg w = true := by simpa [h1] using h
        rw [if_neg (by rw [h1]; decide), if_pos h2]
        exact ev_tup (ea_cons (ev_c (.str _)) (ea_one (ev_var rfl pv))) (lz 2 rfl)⟩
end
end Zb
set_option Elab.async false
set_option linter.all false
set_option maxRecDepth 100000
set_option maxHeartbeats 2000000
namespace Zb
open PySem PySem.Spec PyProof.Rows L2
section
variable {P : Program} {w : World} {K : PySem.W.Frag} {mg : Str → Option Value} {base : Heap}
/-- a list of words -/
structure Wds (l : List Str) : Prop where
  ne : 0 < l.length
  sh : ∀ w ∈ l, shortS w
  lt : l.length < 100000
theorem Wds.wd {l : List Str} (h : Wds l) {n : Nat} (hn : n < l.length) : shortS (wd l n) := h.sh _ (wd_mem hn)
abbrev spWds (K : PySem.W.Frag) (f : List Str → PyData) : Sp := spF K (fun l : List Str => [.list (l.map .str)]) Wds f
theorem lt_of {n m : Nat} (h : decide ((m : Int) = (n : Int)) = true) (k : Nat) (hk : k < n) : k < m := by
  have := of_decide_eq_true h
  omega
theorem sc_worth_of : FnScope ["words", "one", "other"] ["words"] (defScope Zh.s_worth_of) := ⟨rfl, rfl, rfl, by decide +kernel, rfl, by decide +kernel, by decide +kernel⟩
theorem ok_worth_of (M : Mo K mg) (D : Df K mg "worth_of" Zh.s_worth_of) (f_atom_of : Fn CX0 P w K mg base "atom_of" 2 ["word"] (spAtom K)) : Fn CX0 P w K mg base "worth_of" 3 ["words"] (spWds K worthD) :=
  fn_mk D.1 D.2 (fun _ _ _ _ _ _ us hl => match us, hl with | [_], _ => rfl) sc_worth_of (fun _ => rfl) fun cdv A outer s H E hr => ⟨_, (pss_cons (ps_if (pt_cmpR op_eq (pe_callB call_len (by rfl) M.len (by decide +kernel) (pa_cons (pv 0) pa_nil)) pe_int (nomark _)) (pss_cons (ps_set (i := 1) sc_worth_of.nd rfl (Or.inl rfl) (pe_fn f_atom_of (hr.mono (by decide)) rfl (pa_cons (pe_ix ix_list (pv 0) pe_int (fun _ _ => rfl)) pa_nil)))
    (pss_one (ps_ret (pe_ifExp (pt_cmpR op_isN (pv 1) pe_non (nomark _)) pe_non (pe_tup (pa_cons pe_str (pa_cons (pv 1) (pa_cons (pv 1) pa_nil)))))))) pss_nil)
    (pss_cons (ps_if (PW.pt (pw_or (pt_cmpR op_ne (pe_callB call_len (by rfl) M.len (by decide +kernel) (pa_cons (pv 0) pa_nil)) pe_int (nomark _)) (pw_or1 (pt_cmpR op_notIn_seq (pe_ix ix_list (pv 0) pe_int (fun _ _ => rfl)) (pe_tup (pa_cons pe_str (pa_cons pe_str pa_nil))) (by rfl))))) (pss_one (ps_ret pe_non)) pss_nil)
    (pss_cons (ps_par (i := 1) (j := 2) rfl sc_worth_of.nd rfl rfl (by decide) rfl rfl (pa_cons (pe_fn f_atom_of (hr.mono (by decide)) rfl (pa_cons (pe_ix ix_list (pv 0) pe_int (fun _ _ => rfl)) pa_nil)) (pa_cons (pe_fn f_atom_of (hr.mono (by decide)) rfl (pa_cons (pe_ix ix_list (pv 0) pe_int (fun _ _ => rfl)) pa_nil)) pa_nil)) (by rfl))
    (pss_one (ps_ret (pe_ifExp (PW.pt (pw_or (pt_cmpR op_isN (pv 1) pe_non (nomark _)) (pw_or1 (pt_cmpR op_isN (pv 2) pe_non (nomark _))))) pe_non (pe_tup (pa_cons (pe_ix ix_list (pv 0) pe_int (fun _ _ => rfl)) (pa_cons (pv 1) (pa_cons (pv 2) pa_nil)))))))))), fun l vs S hp p => by
    obtain ⟨v, r, rfl, pv, pr⟩ := dpAll_cons p
    obtain rfl := dpAll_nil pr
    unfold worthD
    have hl : EvD K (tCB (fun xs H Q => ∃ x n, xs = [x] ∧ LenV K x H n ∧ Q (.int n) H) (tCons (tVar 0) tNil)) (start ["words", "one", "other"] [v]) S (.int (l.length : Nat)) := ev_is (ev_cb rc_lenL (ea_one (ev_var rfl pv))) (by rw [List.length_map])
    refine r_if (et_val (ev_op rv_eqi hl (ev_c (.int _)))) (fun h => ?_) fun h => r_next ?_
    · rw [if_pos h]
      refine r_stop (r_asg (ev_call (wd l 0) (hp.wd hp.ne) (ea_one (ev_w hp.ne (ev_var rfl pv) (ev_c (.int _))))) fun v1 S1 i1 p1 => r_ret ?_)
      refine ev_if (et_val (ev_op rv_isNone (ev_var rfl p1) (ev_c .non))) (fun h1 => ?_) fun h1 => ?_
      · rw [if_pos h1]
        exact ev_c .non
      · rw [if_neg (by rw [h1]; decide)]
        exact ev_tup (ea_cons (ev_c (.str _)) (ea_cons (ev_var rfl p1) (ea_one (ev_var rfl p1)))) (lz 3 rfl)
    rw [if_neg (by rw [h]; decide)]
    refine r_if (et_or (et_val (ev_op rv_nei hl (ev_c (.int _)))) fun h1 => et_val (ev_op (rv_ninS (l := ["+", "-"]) (.inr rfl)) (ev_w (lt_of (n := 3) (Bool.not_eq_eq_eq_not.mp h1) 1 (by decide)) (ev_var rfl pv) (ev_c (.int _))) (ev_tup (ea_cons (ev_c (.str _)) (ea_one (ev_c (.str _)))) (lz 2 rfl)))) (fun h1 => ?_) fun h1 => r_next ?_
    · rw [if_pos h1]
      exact r_stop (r_ret (ev_c .non))
    rw [if_neg (by rw [h1]; decide)]
    have h3 : decide ((l.length : Int) = ((3 : Nat) : Int)) = true := by
      have := (Bool.or_eq_false_iff.mp h1).1
      exact Bool.not_eq_eq_eq_not.mp this
    have lt := lt_of h3
    refine r_par (ea_cons (ev_call (wd l 0) (hp.wd (lt 0 (by decide))) (ea_one (ev_w (lt 0 (by decide)) (ev_var rfl pv) (ev_c (.int _))))) (ea_one (ev_call (wd l 2) (hp.wd (lt 2 (by decide))) (ea_one (ev_w (lt 2 (by decide)) (ev_var rfl pv) (ev_c (.int _))))))) fun v1 v2 S1 i1 p1 p2 => r_ret ?_
    refine ev_if (et_or (et_val (ev_op rv_isNone (ev_var rfl p1) (ev_c .non))) fun _ => et_val (ev_op rv_isNone (ev_var rfl p2) (ev_c .non))) (fun h4 => ?_) fun h4 => ?_
    · rw [if_pos h4]
      exact ev_c .non
    · rw [if_neg (by rw [h4]; decide)]
      exact ev_tup (ea_cons (ev_w (lt 1 (by decide)) (ev_var rfl (dp_same i1 pv)) (ev_c (.int _))) (ea_cons (ev_var rfl p1) (ea_one (ev_var rfl p2)))) (lz 3 rfl)⟩
theorem ev_lenW {σ : L2.St} {S : Hp} {te : TE} {l : List Str} (h : EvD K te σ S (.list (l.map .str))) : EvD K (tCB (fun xs H Q => ∃ x n, xs = [x] ∧ LenV K x H n ∧ Q (.int n) H) (tCons te tNil)) σ S (.int (l.length : Nat)) := ev_is (ev_cb rc_lenL (ea_one h)) (by rw [List.length_map])
theorem mem_ints {n : Nat} {a b k : Nat} (h : decide ((n : Int) ∈ ([(a : Int), (b : Int)] : List Int)) = true) (h1 : k < a) (h2 : k < b) : k < n := by
  have := of_decide_eq_true h
  simp only [List.mem_cons, List.not_mem_nil, or_false] at this
  omega
theorem Wds.drop {l : List Str} (h : Wds l) (k : Nat) (hk : k < l.length) : Wds (l.drop k) := ⟨by rw [List.length_drop]; omega, fun w hw => h.sh w (List.mem_of_mem_drop hw), by rw [List.length_drop]; have := h.lt; omega⟩
theorem sc_read_row : FnScope ["words", "worth"] ["words"] (defScope Zh.s_read_row) := ⟨rfl, rfl, rfl, by decide +kernel, rfl, by decide +kernel, by decide +kernel⟩
theorem ok_read_row (M : Mo K mg) (D : Df K mg "read_row" Zh.s_read_row) (f_is_register : Fn CX0 P w K mg base "is_register" 1 ["word"] (spReg K)) (f_atom_of : Fn CX0 P w K mg base "atom_of" 2 ["word"] (spAtom K))
    (f_worth_of : Fn CX0 P w K mg base "worth_of" 3 ["words"] (spWds K worthD)) : Fn CX0 P w K mg base "read_row" 4 ["words"] (spWds K readRowD) :=
  fn_mk D.1 D.2 (fun _ _ _ _ _ _ us hl => match us, hl with | [_], _ => rfl) sc_read_row (fun _ => rfl) fun cdv A outer s H E hr => ⟨_, (pss_cons (ps_if (PW.pt (pw_and (pt_cmpR op_eq (pe_ix ix_list (pv 0) pe_int (fun _ _ => rfl)) pe_str (nomark _)) (pw_and (pt_cmpR op_eq (pe_callB call_len (by rfl) M.len (by decide +kernel) (pa_cons (pv 0) pa_nil)) pe_int (nomark _)) (pw_and (pt_val (pe_fn f_is_register (hr.mono (by decide)) rfl (pa_cons (pe_ix ix_list (pv 0) pe_int (fun _ _ => rfl)) pa_nil))) (pw_and1 (pt_cmpR op_notN (pe_fn f_atom_of (hr.mono (by decide)) rfl (pa_cons (pe_ix ix_list (pv 0) pe_int (fun _ _ => rfl)) pa_nil)) pe_non (nomark _))))))) (pss_one (ps_ret (pe_tup (pa_cons pe_str (pa_cons (pe_ix ix_list (pv 0) pe_int (fun _ _ => rfl)) (pa_cons (pe_fn f_atom_of (hr.mono (by decide)) rfl (pa_cons (pe_ix ix_list (pv 0) pe_int (fun _ _ => rfl)) pa_nil)) pa_nil)))))) pss_nil)
    (pss_cons (ps_if (PW.pt (pw_and (pt_cmpR op_eq (pe_ix ix_list (pv 0) pe_int (fun _ _ => rfl)) pe_str (nomark _)) (pw_and (pt_cmpR op_in_seq (pe_callB call_len (by rfl) M.len (by decide +kernel) (pa_cons (pv 0) pa_nil)) (pe_tup (pa_cons pe_int (pa_cons pe_int pa_nil))) (by rfl)) (pw_and1 (pt_cmpR op_notN (pe_fn f_atom_of (hr.mono (by decide)) rfl (pa_cons (pe_ix ix_list (pv 0) pe_int (fun _ _ => rfl)) pa_nil)) pe_non (nomark _)))))) (pss_cons (ps_set (i := 1) sc_read_row.nd rfl (Or.inl rfl) (pe_fn f_worth_of (hr.mono (by decide)) rfl (pa_cons (pe_slice sl_list (pv 0) (po_some pe_int) po_none) pa_nil)))
    (pss_one (ps_ret (pe_ifExp (pt_cmpR op_isN (pv 1) pe_non (nomark _)) pe_non (pe_tup (pa_cons pe_str (pa_cons (pe_fn f_atom_of (hr.mono (by decide)) rfl (pa_cons (pe_ix ix_list (pv 0) pe_int (fun _ _ => rfl)) pa_nil)) (pa_cons (pv 1) pa_nil)))))))) pss_nil)
    (pss_cons (ps_if (PW.pt (pw_and (pt_cmpR op_eq (pe_ix ix_list (pv 0) pe_int (fun _ _ => rfl)) pe_str (nomark _)) (pw_and (pt_cmpR op_in_seq (pe_callB call_len (by rfl) M.len (by decide +kernel) (pa_cons (pv 0) pa_nil)) (pe_tup (pa_cons pe_int (pa_cons pe_int pa_nil))) (by rfl)) (pw_and1 (pt_val (pe_fn f_is_register (hr.mono (by decide)) rfl (pa_cons (pe_ix ix_list (pv 0) pe_int (fun _ _ => rfl)) pa_nil))))))) (pss_cons (ps_set (i := 1) sc_read_row.nd rfl (Or.inl rfl) (pe_fn f_worth_of (hr.mono (by decide)) rfl (pa_cons (pe_slice sl_list (pv 0) (po_some pe_int) po_none) pa_nil)))
    (pss_one (ps_ret (pe_ifExp (pt_cmpR op_isN (pv 1) pe_non (nomark _)) pe_non (pe_tup (pa_cons pe_str (pa_cons (pe_ix ix_list (pv 0) pe_int (fun _ _ => rfl)) (pa_cons (pv 1) pa_nil)))))))) pss_nil)
    (pss_one (ps_ret pe_non))))), fun l vs S hp p => by
    obtain ⟨v, r, rfl, pv, pr⟩ := dpAll_cons p
    obtain rfl := dpAll_nil pr
    unfold readRowD
    have hl := ev_lenW (K := K) (ev_var (σ := start ["words", "worth"] [v]) (i := 0) rfl pv)
    have hw : ∀ n, n < l.length → EvD K (tOp (rIxL K) (tVar 0) (tC (.int (n : Int)))) (start ["words", "worth"] [v]) S (.str (wd l n)) := fun n hn => ev_w hn (ev_var rfl pv) (ev_c (.int _))
    refine r_if (b := rC1 l) (et_and (et_val (ev_op rv_eqs (hw 0 hp.ne) (ev_c (.str _)))) fun _ => et_and (et_val (ev_op rv_eqi hl (ev_c (.int _)))) fun h => et_and (et_B (ev_call (wd l 1) (hp.wd (lt_of (n := 3) h 1 (by decide))) (ea_one (hw 1 (lt_of (n := 3) h 1 (by decide)))))) fun _ =>
      et_val (ev_op rv_notNone (ev_call (wd l 2) (hp.wd (lt_of (n := 3) h 2 (by decide))) (ea_one (hw 2 (lt_of (n := 3) h 2 (by decide))))) (ev_c .non))) (fun h => ?_) fun h => r_next ?_
    · rw [if_pos h]
      have h3 := (Bool.and_eq_true_iff.mp (Bool.and_eq_true_iff.mp h).2).1
      have l1 := lt_of (n := 3) h3 1 (by decide)
      have l2 := lt_of (n := 3) h3 2 (by decide)
      exact r_stop (r_ret (ev_tup (ea_cons (ev_c (.str _)) (ea_cons (hw 1 l1) (ea_one (ev_call (wd l 2) (hp.wd l2) (ea_one (hw 2 l2)))))) (lz 3 rfl)))
    rw [if_neg (by rw [h]; decide)]
    refine r_if (b := rC2 l) (et_and (et_val (ev_op rv_eqs (hw 0 hp.ne) (ev_c (.str _)))) fun _ => et_and (et_val (ev_op (rv_inI (l := [3, 5]) (.inr rfl)) hl (ev_tup (ea_cons (ev_c (.int _)) (ea_one (ev_c (.int _)))) (lz 2 rfl)))) fun h =>
      et_val (ev_op rv_notNone (ev_call (wd l 1) (hp.wd (mem_ints (a := 3) (b := 5) h (by decide) (by decide))) (ea_one (hw 1 (mem_ints (a := 3) (b := 5) h (by decide) (by decide))))) (ev_c .non))) (fun h => ?_) fun h => r_next ?_
    · rw [if_pos h]
      have h3 := (Bool.and_eq_true_iff.mp (Bool.and_eq_true_iff.mp h).2).1
      have l1 : 1 < l.length := mem_ints (a := 3) (b := 5) h3 (by decide) (by decide)
      have l2 : 2 < l.length := mem_ints (a := 3) (b := 5) h3 (by decide) (by decide)
      refine r_stop (r_asg (ev_call (l.drop 2) (hp.drop 2 l2) (ea_one (ev_from (ev_var rfl pv) (ev_c (.int _))))) fun v1 S1 i1 p1 => r_ret ?_)
      refine ev_if (et_val (ev_op rv_isNone (ev_var rfl p1) (ev_c .non))) (fun h1 => ?_) fun h1 => ?_
      · rw [if_pos h1]
        exact ev_c .non
      · rw [if_neg (by rw [h1]; decide)]
        exact ev_tup (ea_cons (ev_c (.str _)) (ea_cons (ev_call (wd l 1) (hp.wd l1) (ea_one (ev_w l1 (ev_var rfl (dp_same i1 pv)) (ev_c (.int _))))) (ea_one (ev_var rfl p1)))) (lz 3 rfl)
    rw [if_neg (by rw [h]; decide)]
    refine r_if (b := rC3 l) (et_and (et_val (ev_op rv_eqs (hw 0 hp.ne) (ev_c (.str _)))) fun _ => et_and (et_val (ev_op (rv_inI (l := [3, 5]) (.inr rfl)) hl (ev_tup (ea_cons (ev_c (.int _)) (ea_one (ev_c (.int _)))) (lz 2 rfl)))) fun h =>
      et_B (ev_call (wd l 1) (hp.wd (mem_ints (a := 3) (b := 5) h (by decide) (by decide))) (ea_one (hw 1 (mem_ints (a := 3) (b := 5) h (by decide) (by decide)))))) (fun h => ?_) fun h => r_next ?_
    · rw [if_pos h]
      have h3 := (Bool.and_eq_true_iff.mp (Bool.and_eq_true_iff.mp h).2).1
      have l1 : 1 < l.length := mem_ints (a := 3) (b := 5) h3 (by decide) (by decide)
      have l2 : 2 < l.length := mem_ints (a := 3) (b := 5) h3 (by decide) (by decide)
      refine r_stop (r_asg (ev_call (l.drop 2) (hp.drop 2 l2) (ea_one (ev_from (ev_var rfl pv) (ev_c (.int _))))) fun v1 S1 i1 p1 => r_ret ?_)
      refine ev_if (et_val (ev_op rv_isNone (ev_var rfl p1) (ev_c .non))) (fun h1 => ?_) fun h1 => ?_
      · rw [if_pos h1]
        exact ev_c .non
      · rw [if_neg (by rw [h1]; decide)]
        exact ev_tup (ea_cons (ev_c (.str _)) (ea_cons (ev_w l1 (ev_var rfl (dp_same i1 pv)) (ev_c (.int _))) (ea_one (ev_var rfl p1)))) (lz 3 rfl)
    rw [if_neg (by rw [h]; decide)]
    exact r_ret (ev_c .non)⟩
theorem sc_go_row : FnScope ["words", "some", "word", "one", "other"] ["words"] (defScope Zh.s_go_row) := ⟨rfl, rfl, rfl, by decide +kernel, rfl, by decide +kernel, by decide +kernel⟩
theorem any_none (l : List Str) : ((l.map atomD).any fun z => PyData.eqv z .none) = l.any fun w => isNone (atomD w) := by
  rw [List.any_map]
  congr 1
  funext x
  exact eqv_none _
theorem ok_go_row (M : Mo K mg) (D : Df K mg "go_row" Zh.s_go_row) (f_is_register : Fn CX0 P w K mg base "is_register" 1 ["word"] (spReg K)) (f_is_name : Fn CX0 P w K mg base "is_name" 1 ["word"] (spName K)) (f_atom_of : Fn CX0 P w K mg base "atom_of" 2 ["word"] (spAtom K)) :
    Fn CX0 P w K mg base "go_row" 3 ["words"] (spWds K goRowD) :=
  fn_mk D.1 D.2 (fun _ _ _ _ _ _ us hl => match us, hl with | [_], _ => rfl) sc_go_row (fun _ => rfl) fun cdv A outer s H E hr => ⟨_, (pss_cons (ps_if (PW.pt (pw_and (pt_cmpR op_eq (pe_ix ix_list (pv 0) pe_int (fun _ _ => rfl)) pe_str (nomark _)) (pw_and (pt_cmpR op_eq (pe_callB call_len (by rfl) M.len (by decide +kernel) (pa_cons (pv 0) pa_nil)) pe_int (nomark _)) (pw_and1 (pt_val (pe_fn f_is_name (hr.mono (by decide)) rfl (pa_cons (pe_ix ix_list (pv 0) pe_int (fun _ _ => rfl)) pa_nil))))))) (pss_one (ps_ret (pe_tup (pa_cons pe_str (pa_cons (pe_ix ix_list (pv 0) pe_int (fun _ _ => rfl)) pa_nil))))) pss_nil)
    (pss_cons (ps_if (PW.pt (pw_and (pt_cmpR op_eq (pe_ix ix_list (pv 0) pe_int (fun _ _ => rfl)) pe_str (nomark _)) (pw_and (pt_cmpR op_eq (pe_callB call_len (by rfl) M.len (by decide +kernel) (pa_cons (pv 0) pa_nil)) pe_int (nomark _)) (pw_and1 (pt_val (pe_fn f_is_register (hr.mono (by decide)) rfl (pa_cons (pe_ix ix_list (pv 0) pe_int (fun _ _ => rfl)) pa_nil))))))) (pss_cons (ps_setLc (i := 1) (own := [("word", 2)]) (g := gName 2) rfl sc_go_row.nd rfl rfl (sw_true rfl rfl rfl (by decide +kernel)) (pi_list (pe_slice sl_list (pv 0) (po_some pe_int) po_none)) (blkOk_by (own := [("word", 2)]) (N := ["words", "some", "word", "one", "other"]) (sc := defScope Zh.s_go_row) (by decide +kernel)) (fun _ _ _ _ _ => (pg_name (i := 2) sc_go_row.nd rfl (Or.inl rfl))) (fun _ _ _ _ _ => pts_nil) (fun _ _ _ _ _ => (pe_fn f_atom_of (hr.mono (by decide)) rfl (pa_cons (pv 2) pa_nil))))
    (pss_one (ps_ret (pe_ifExp (pt_cmpR (op_inD (Room.u65 hr)) pe_non (pv 1) (by rfl)) pe_non (pe_tup (pa_cons pe_str (pa_cons (pe_ix ix_list (pv 0) pe_int (fun _ _ => rfl)) (pa_cons (pe_ix ix_list (pv 1) pe_int (fun _ _ => rfl)) (pa_cons (pe_ix ix_list (pv 1) pe_int (fun _ _ => rfl)) (pa_cons (pe_ix ix_list (pv 1) pe_int (fun _ _ => rfl)) pa_nil)))))))))) pss_nil)
    (pss_cons (ps_if (PW.pt (pw_and (pt_cmpR op_eq (pe_ix ix_list (pv 0) pe_int (fun _ _ => rfl)) pe_str (nomark _)) (pw_and (pt_cmpR op_eq (pe_callB call_len (by rfl) M.len (by decide +kernel) (pa_cons (pv 0) pa_nil)) pe_int (nomark _)) (pw_and (pt_cmpR op_in_seq (pe_ix ix_list (pv 0) pe_int (fun _ _ => rfl)) (pe_tup (pa_cons pe_str (pa_cons pe_str pa_nil))) (by rfl)) (pw_and (pt_cmpR op_eq (pe_ix ix_list (pv 0) pe_int (fun _ _ => rfl)) pe_str (nomark _)) (pw_and1 (pt_val (pe_fn f_is_name (hr.mono (by decide)) rfl (pa_cons (pe_ix ix_list (pv 0) pe_int (fun _ _ => rfl)) pa_nil))))))))) (pss_cons (ps_par (i := 3) (j := 4) rfl sc_go_row.nd rfl rfl (by decide) rfl rfl (pa_cons (pe_fn f_atom_of (hr.mono (by decide)) rfl (pa_cons (pe_ix ix_list (pv 0) pe_int (fun _ _ => rfl)) pa_nil)) (pa_cons (pe_fn f_atom_of (hr.mono (by decide)) rfl (pa_cons (pe_ix ix_list (pv 0) pe_int (fun _ _ => rfl)) pa_nil)) pa_nil)) (by rfl))
    (pss_one (ps_ret (pe_ifExp (PW.pt (pw_or (pt_cmpR op_isN (pv 3) pe_non (nomark _)) (pw_or1 (pt_cmpR op_isN (pv 4) pe_non (nomark _))))) pe_non (pe_tup (pa_cons pe_str (pa_cons (pe_ix ix_list (pv 0) pe_int (fun _ _ => rfl)) (pa_cons (pv 3) (pa_cons (pv 4) (pa_cons (pe_ix ix_list (pv 0) pe_int (fun _ _ => rfl)) pa_nil)))))))))) pss_nil)
    (pss_cons (ps_if (PW.pt (pw_and (pt_cmpR op_eq (pe_ix ix_list (pv 0) pe_int (fun _ _ => rfl)) pe_str (nomark _)) (pw_and1 (pt_cmpR op_eq (pe_callB call_len (by rfl) M.len (by decide +kernel) (pa_cons (pv 0) pa_nil)) pe_int (nomark _))))) (pss_cons (ps_if (pt_cmpR op_in_seq (pe_ix ix_list (pv 0) pe_int (fun _ _ => rfl)) (pe_tup (pa_cons pe_str (pa_cons pe_str pa_nil))) (by rfl)) (pss_one (ps_ret (pe_tup (pa_cons pe_str (pa_cons (pe_tup (pa_cons pe_str (pa_cons (pe_cmpR op_eq (pe_ix ix_list (pv 0) pe_int (fun _ _ => rfl)) pe_str (nomark _)) pa_nil))) pa_nil))))) pss_nil)
    (pss_one (ps_ret (pe_ifExp (pt_cmpR op_isN (pe_fn f_atom_of (hr.mono (by decide)) rfl (pa_cons (pe_ix ix_list (pv 0) pe_int (fun _ _ => rfl)) pa_nil)) pe_non (nomark _)) pe_non (pe_tup (pa_cons pe_str (pa_cons (pe_fn f_atom_of (hr.mono (by decide)) rfl (pa_cons (pe_ix ix_list (pv 0) pe_int (fun _ _ => rfl)) pa_nil)) pa_nil))))))) pss_nil)
    (pss_one (ps_ret pe_non)))))), fun l vs S hp p => by
    obtain ⟨v, r, rfl, pv, pr⟩ := dpAll_cons p
    obtain rfl := dpAll_nil pr
    unfold goRowD
    have hl := ev_lenW (K := K) (ev_var (σ := start ["words", "some", "word", "one", "other"] [v]) (i := 0) rfl pv)
    have hw : ∀ n, n < l.length → EvD K (tOp (rIxL K) (tVar 0) (tC (.int (n : Int)))) (start ["words", "some", "word", "one", "other"] [v]) S (.str (wd l n)) := fun n hn => ev_w hn (ev_var rfl pv) (ev_c (.int _))
    refine r_if (b := gC1 l) (et_and (et_val (ev_op rv_eqs (hw 0 hp.ne) (ev_c (.str _)))) fun _ => et_and (et_val (ev_op rv_eqi hl (ev_c (.int _)))) fun h => et_B (ev_call (wd l 1) (hp.wd (lt_of (n := 2) h 1 (by decide))) (ea_one (hw 1 (lt_of (n := 2) h 1 (by decide)))))) (fun h => ?_) fun h => r_next ?_
    · rw [if_pos h]
      have h3 := (Bool.and_eq_true_iff.mp (Bool.and_eq_true_iff.mp h).2).1
      exact r_stop (r_ret (ev_tup (ea_cons (ev_c (.str _)) (ea_one (hw 1 (lt_of (n := 2) h3 1 (by decide))))) (lz 2 rfl)))
    rw [if_neg (by rw [h]; decide)]
    refine r_if (b := gC2 l) (et_and (et_val (ev_op rv_eqs (hw 0 hp.ne) (ev_c (.str _)))) fun _ => et_and (et_val (ev_op rv_eqi hl (ev_c (.int _)))) fun h => et_B (ev_call (wd l 1) (hp.wd (lt_of (n := 5) h 1 (by decide))) (ea_one (hw 1 (lt_of (n := 5) h 1 (by decide)))))) (fun h => ?_) fun h => r_next ?_
    · rw [if_pos h]
      have h3 := (Bool.and_eq_true_iff.mp (Bool.and_eq_true_iff.mp h).2).1
      have lt := fun k hk => lt_of (n := 5) h3 k hk
      have e5 : l.length = 5 := by have := of_decide_eq_true h3; omega
      have ed : (l.drop 2).map atomD = [atomD (wd l 2), atomD (wd l 3), atomD (wd l 4)] := by
        match l, e5 with
        | [_, _, _, _, _], _ => rfl
      have ea : ((l.drop 2).any fun w => isNone (atomD w)) = (isNone (atomD (wd l 2)) || isNone (atomD (wd l 3)) || isNone (atomD (wd l 4))) := by
        match l, e5 with
        | [_, _, a, b, c], _ =>
          show (isNone (atomD a) || (isNone (atomD b) || (isNone (atomD c) || false))) = _
          rw [Bool.or_false, ← Bool.or_assoc]
          rfl
      refine r_stop (r_asg (x := .list ((l.drop 2).map atomD)) (ev_is (ec_list (e := PyData.str) (l := l.drop 2) (f := fun _ => true) (g := atomD) (ev_from (ev_var rfl pv) (ev_c (.int _))) (by rw [List.length_drop]; omega) (fun _ => rfl) (fun _ _ _ _ _ _ => et_yes)
        (fun a ha _ x S1 _ px => ev_call a (hp.sh a (List.mem_of_mem_drop ha)) (ea_one (ev_var rfl px)))) (by rw [filt_true])) fun v1 S1 i1 p1 => r_ret ?_)
      refine ev_if (et_val (ev_op (rv_inD (by decide +kernel) (shaped_atoms _)) (ev_c .non) (ev_var rfl p1))) (fun h1 => ?_) fun h1 => ?_
      · rw [any_none, ea] at h1
        rw [if_pos h1]
        exact ev_c .non
      · rw [any_none, ea] at h1
        rw [if_neg (by rw [h1]; decide)]
        rw [ed] at p1
        exact ev_tup (ea_cons (ev_c (.str _)) (ea_cons (ev_w (lt 1 (by decide)) (ev_var rfl (dp_same i1 pv)) (ev_c (.int _))) (ea_cons (ev_op (rv_ixL (i := 0) rfl) (ev_var rfl p1) (ev_c (.int _))) (ea_cons (ev_op (rv_ixL (i := 1) rfl) (ev_var rfl p1) (ev_c (.int _))) (ea_one (ev_op (rv_ixL (i := 2) rfl) (ev_var rfl p1) (ev_c (.int _)))))))) (lz 5 rfl)
    rw [if_neg (by rw [h]; decide)]
    refine r_if (b := gC3 l) (et_and (et_val (ev_op rv_eqs (hw 0 hp.ne) (ev_c (.str _)))) fun _ => et_and (et_val (ev_op rv_eqi hl (ev_c (.int _)))) fun h => et_and (et_val (ev_op (rv_inS (l := ["=", "<"]) (.inr rfl)) (hw 2 (lt_of (n := 6) h 2 (by decide))) (ev_tup (ea_cons (ev_c (.str _)) (ea_one (ev_c (.str _)))) (lz 2 rfl)))) fun _ =>
      et_and (et_val (ev_op rv_eqs (hw 4 (lt_of (n := 6) h 4 (by decide))) (ev_c (.str _)))) fun _ => et_B (ev_call (wd l 5) (hp.wd (lt_of (n := 6) h 5 (by decide))) (ea_one (hw 5 (lt_of (n := 6) h 5 (by decide)))))) (fun h => ?_) fun h => r_next ?_
    · rw [if_pos h]
      have h3 := (Bool.and_eq_true_iff.mp (Bool.and_eq_true_iff.mp h).2).1
      have lt := fun k hk => lt_of (n := 6) h3 k hk
      refine r_stop (r_par (ea_cons (ev_call (wd l 1) (hp.wd (lt 1 (by decide))) (ea_one (hw 1 (lt 1 (by decide))))) (ea_one (ev_call (wd l 3) (hp.wd (lt 3 (by decide))) (ea_one (hw 3 (lt 3 (by decide))))))) fun v1 v2 S1 i1 p1 p2 => r_ret ?_)
      refine ev_if (et_or (et_val (ev_op rv_isNone (ev_var rfl p1) (ev_c .non))) fun _ => et_val (ev_op rv_isNone (ev_var rfl p2) (ev_c .non))) (fun h4 => ?_) fun h4 => ?_
      · rw [if_pos h4]
        exact ev_c .non
      · rw [if_neg (by rw [h4]; decide)]
        have q := dp_same i1 pv
        exact ev_tup (ea_cons (ev_c (.str _)) (ea_cons (ev_w (lt 2 (by decide)) (ev_var rfl q) (ev_c (.int _))) (ea_cons (ev_var rfl p1) (ea_cons (ev_var rfl p2) (ea_one (ev_w (lt 5 (by decide)) (ev_var rfl q) (ev_c (.int _)))))))) (lz 5 rfl)
    rw [if_neg (by rw [h]; decide)]
    refine r_if (b := gC4 l) (et_and (et_val (ev_op rv_eqs (hw 0 hp.ne) (ev_c (.str _)))) fun _ => et_val (ev_op rv_eqi hl (ev_c (.int _)))) (fun h => r_stop ?_) fun h => r_next ?_
    · rw [if_pos h]
      have l1 := lt_of (n := 2) (Bool.and_eq_true_iff.mp h).2 1 (by decide)
      refine r_if (et_val (ev_op (rv_inS (l := ["yes", "no"]) (.inr rfl)) (hw 1 l1) (ev_tup (ea_cons (ev_c (.str _)) (ea_one (ev_c (.str _)))) (lz 2 rfl)))) (fun h1 => r_stop (r_ret ?_)) fun h1 => r_next (r_ret ?_)
      · rw [if_pos h1]
        exact ev_tup (ea_cons (ev_c (.str _)) (ea_one (ev_tup (ea_cons (ev_c (.str _)) (ea_one (ev_op rv_eqs (hw 1 l1) (ev_c (.str _))))) (lz 2 rfl)))) (lz 2 rfl)
      · rw [if_neg (by rw [h1]; decide)]
        refine ev_if (et_val (ev_op rv_isNone (ev_call (wd l 1) (hp.wd l1) (ea_one (hw 1 l1))) (ev_c .non))) (fun h4 => ?_) fun h4 => ?_
        · rw [if_pos h4]
          exact ev_c .non
        · rw [if_neg (by rw [h4]; decide)]
          exact ev_tup (ea_cons (ev_c (.str _)) (ea_one (ev_call (wd l 1) (hp.wd l1) (ea_one (hw 1 l1))))) (lz 2 rfl)
    rw [if_neg (by rw [h]; decide)]
    exact r_ret (ev_c .non)⟩
end
end Zb
set_option Elab.async false
set_option linter.all false
set_option maxRecDepth 100000
set_option maxHeartbeats 2000000
/-! Lines and their words: lengths, what a line's row is, the law's own test of a line. -/
namespace Zb
open PySem PySem.Spec PyProof.Rows L2

/-! ### split -/
theorem spl_len (T : List Nat) : ∀ (l : List Nat) (k : Nat) (acc p : List Nat), p ∈ TL.spl T k acc l → p.length ≤ acc.length + l.length
  | [], k, acc, p, h => by
    rw [TL.spl_nil] at h
    rw [List.mem_singleton.mp h]
    exact Nat.le_add_right _ _
  | c :: r, 0, acc, p, h => by
    cases e : TL.pre T (c :: r) with
    | true =>
      rw [TL.spl_hit e] at h
      rcases List.mem_cons.mp h with h | h
      · rw [h]; exact Nat.le_add_right _ _
      · have := spl_len T r _ [] p h
        simp only [List.length_nil, List.length_cons] at this ⊢
        omega
    | false =>
      rw [TL.spl_miss e] at h
      have := spl_len T r 0 (acc ++ [c]) p h
      simp only [List.length_append, List.length_cons, List.length_nil] at this ⊢
      omega
  | c :: r, k + 1, acc, p, h => by
    have := spl_len T r k acc p h
    simp only [List.length_cons]
    omega
theorem spl_cnt (T : List Nat) : ∀ (l : List Nat) (k : Nat) (acc : List Nat), (TL.spl T k acc l).length ≤ l.length + 1
  | [], k, acc => by rw [TL.spl_nil]; simp
  | c :: r, 0, acc => by
    cases e : TL.pre T (c :: r) with
    | true =>
      rw [TL.spl_hit e]
      have := spl_cnt T r (T.length - 1) []
      simp only [List.length_cons]
      omega
    | false =>
      rw [TL.spl_miss e]
      have := spl_cnt T r 0 (acc ++ [c])
      simp only [List.length_cons]
      omega
  | c :: r, k + 1, acc => by
    have := spl_cnt T r k acc
    show (TL.spl T k acc r).length ≤ _
    simp only [List.length_cons]
    omega
theorem spl_pos (T : List Nat) : ∀ (l : List Nat) (k : Nat) (acc : List Nat), 0 < (TL.spl T k acc l).length
  | [], k, acc => by rw [TL.spl_nil]; simp
  | c :: r, 0, acc => by
    cases e : TL.pre T (c :: r) with
    | true => rw [TL.spl_hit e]; simp
    | false => rw [TL.spl_miss e]; exact spl_pos T r 0 (acc ++ [c])
  | c :: r, k + 1, acc => spl_pos T r k acc
/-- joined again -/
theorem spl_back (s : Nat) : ∀ (l acc : List Nat), TL.joinL [s] (TL.spl [s] 0 acc l) = acc ++ l
  | [], acc => by rw [TL.spl_nil]; simp [TL.joinL]
  | c :: r, acc => by
    by_cases e : c = s
    · subst e
      have h : TL.pre [c] (c :: r) = true := by simp [TL.pre]
      rw [TL.spl_hit h]
      have ih := spl_back c r []
      show TL.joinL [c] (acc :: TL.spl [c] 0 [] r) = acc ++ c :: r
      have hp := spl_pos [c] r 0 []
      match hq : TL.spl [c] 0 [] r with
      | [] => rw [hq] at hp; simp at hp
      | p :: q =>
        rw [hq] at ih
        show acc ++ ([c] ++ TL.joinL [c] (p :: q)) = acc ++ c :: r
        rw [ih]
        rfl
    · have h : TL.pre [s] (c :: r) = false := TL.pre_of_head [] r e
      rw [TL.spl_miss h, spl_back s r (acc ++ [c]), List.append_assoc]
      rfl
/-- no part holds the separator -/
theorem spl_clean (s : Nat) : ∀ (l acc : List Nat), s ∉ acc → ∀ p ∈ TL.spl [s] 0 acc l, s ∉ p
  | [], acc, ha, p, h => by
    rw [TL.spl_nil] at h
    rw [List.mem_singleton.mp h]
    exact ha
  | c :: r, acc, ha, p, h => by
    by_cases e : c = s
    · subst e
      have hh : TL.pre [c] (c :: r) = true := by simp [TL.pre]
      rw [TL.spl_hit hh] at h
      rcases List.mem_cons.mp h with h | h
      · rw [h]; exact ha
      · exact spl_clean c r [] (by simp) p h
    · have hh : TL.pre [s] (c :: r) = false := TL.pre_of_head [] r e
      rw [TL.spl_miss hh] at h
      exact spl_clean s r (acc ++ [c]) (by simp [ha]; exact fun z => e z.symm) p h
theorem sp_tl : TL.tl (" " : Str) = [32] := by decide +kernel
theorem nl_tl : TL.tl ("\n" : Str) = [10] := by decide +kernel
theorem sp_kind (x : Str) : ¬ Builtin.Str.strKind x < Builtin.Str.strKind (" " : Str) := TL.kind_ok (by decide +kernel)
theorem nl_kind (x : Str) : ¬ Builtin.Str.strKind x < Builtin.Str.strKind ("\n" : Str) := TL.kind_ok (by decide +kernel)
theorem ws_tl (line : Str) : (ws line).map TL.tl = TL.spl [32] 0 [] (TL.tl line) := by
  have h := TL.split_spl line (" " : Str) (by rw [sp_tl]; decide) (sp_kind line)
  rw [sp_tl] at h
  exact h
theorem ws_len (line : Str) : (ws line).length ≤ line.length + 1 := by
  have h := congrArg List.length (ws_tl line)
  rw [List.length_map] at h
  rw [h, len_sgn]
  exact spl_cnt _ _ _ _
theorem ws_pos (line : Str) : 0 < (ws line).length := by
  have h := congrArg List.length (ws_tl line)
  rw [List.length_map] at h
  rw [h]
  exact spl_pos _ _ _ _
theorem ws_word {line w : Str} (h : w ∈ ws line) : w.length ≤ line.length := by
  have m : TL.tl w ∈ (ws line).map TL.tl := List.mem_map.mpr ⟨w, h, rfl⟩
  rw [ws_tl] at m
  have := spl_len _ _ _ _ _ m
  rw [len_sgn, len_sgn]
  rw [List.length_nil, Nat.zero_add] at this
  exact this
theorem ws_clean {line w : Str} (h : w ∈ ws line) : 32 ∉ sgn w := by
  have m : TL.tl w ∈ (ws line).map TL.tl := List.mem_map.mpr ⟨w, h, rfl⟩
  rw [ws_tl] at m
  exact spl_clean 32 _ [] (by simp) _ m
/-- a line from its words -/
theorem ws_back (line : Str) : sgn line = TL.joinL [32] ((ws line).map TL.tl) := by
  rw [ws_tl, spl_back]
  rfl
theorem ws_of {line : Str} (h : 32 ∉ sgn line) : ws line = [line] := by
  have e : (ws line).map TL.tl = [TL.tl line] := by
    rw [ws_tl]
    show TL.spl [32] 0 [] (sgn line) = [sgn line]
    rw [TL.spl_last1 h]
    rfl
  exact TL.map_tl_inj (m := [line]) e
theorem ws_one {line : Str} (h : (ws line).length = 1) : ws line = [line] := by
  match e : ws line, h with
  | [w], _ =>
    have b := ws_back line
    rw [e] at b
    have : w = line := (sgn_inj (a := line) (b := w) b).symm
    rw [this]
abbrev shortL (w : Str) : Prop := w.length < 90000
theorem shortL.s {w : Str} (h : shortL w) : shortS w := Nat.lt_trans h (by decide)
end Zb
set_option Elab.async false
set_option linter.all false
set_option maxRecDepth 100000
set_option maxHeartbeats 2000000
/-! What a line's row is, by its kind; the law's own test of a line agrees. -/
namespace Zb
open PySem PySem.Spec PyProof.Rows L2

theorem sgn_mk (l : List Nat) : sgn (⟨l.toArray⟩ : Str) = l := TL.tl_mk l
theorem sgn_app (a b : Str) : sgn (a ++ b) = sgn a ++ sgn b := TL.tl_append a b
theorem six_m1 (n d : Nat) : HT.sIx n d (some (-1)) = n - 1 := by
  have e : HT.sIx n d (some (-1)) = (if (-1 : Int) < 0 then ((-1 : Int) + (n : Int)).toNat else min ((-1 : Int).toNat) n) := rfl
  rw [e, if_pos (by decide)]
  omega
theorem sgn_head (w : Str) : sgn (headS w) = (sgn w).take ((sgn w).length - 1) := by
  unfold headS cutS
  rw [sgn_mk, six_m1, HT.sIx_none, List.drop_zero, Nat.sub_zero, len_sgn]
  rfl
theorem sgn_last (w : Str) : sgn (lastS w) = (sgn w).drop ((sgn w).length - 1) := by
  unfold lastS cutS
  rw [sgn_mk, six_m1, HT.sIx_none, len_sgn]
  exact List.take_of_length_le (by rw [List.length_drop]; exact Nat.le_refl _)
theorem head_last (w : Str) : w = headS w ++ lastS w := by
  refine sgn_inj ?_
  rw [sgn_app, sgn_head, sgn_last, List.take_append_drop]
theorem colon_sgn : sgn (":" : Str) = [58] := by decide +kernel
theorem head_app (nm : Str) : headS (nm ++ ":") = nm ∧ lastS (nm ++ ":") = ":" := by
  have e : sgn (nm ++ ":") = sgn nm ++ [58] := by rw [sgn_app, colon_sgn]
  refine ⟨sgn_inj ?_, sgn_inj ?_⟩
  · rw [sgn_head, e, List.length_append]
    simp
  · rw [sgn_last, e, List.length_append, colon_sgn]
    simp
theorem let_sp : ∀ c ∈ letters.cps.toList, c ≠ 32 := by decide +kernel
theorem name_sp {nm : Str} (h : (sgn nm).all inL = true) : 32 ∉ sgn nm := fun m => by
  have := List.all_eq_true.mp h 32 m
  exact let_sp 32 (of_decide_eq_true this) rfl
theorem isName_all {nm : Str} (h : isName nm = true) : (sgn nm).all inL = true := (Bool.and_eq_true_iff.mp h).2
/-- a label's line -/
theorem lab_of {nm : Str} (h : isName nm = true) : ws (nm ++ ":") = [nm ++ ":"] ∧ isLab (nm ++ ":") = true := by
  have e : ws (nm ++ ":") = [nm ++ ":"] := ws_of (by
    rw [sgn_app, colon_sgn]
    intro m
    rcases List.mem_append.mp m with m | m
    · exact name_sp (isName_all h) m
    · exact absurd m (by decide))
  refine ⟨e, ?_⟩
  unfold isLab
  rw [e]
  show (decide (((1 : Nat) : Int) = 1) && (decide (lastS (nm ++ ":") = ":") && isName (headS (nm ++ ":")))) = true
  rw [(head_app nm).1, (head_app nm).2, h]
  decide +kernel
theorem lab_line {line : Str} (h : isLab line = true) : ws line = [line] ∧ line = headS line ++ ":" ∧ isName (headS line) = true := by
  unfold isLab at h
  rw [Bool.and_eq_true, Bool.and_eq_true] at h
  obtain ⟨h1, h2, h3⟩ := h
  have e := ws_one (line := line) (by have := of_decide_eq_true h1; omega)
  rw [e] at h2 h3
  have h2' : lastS line = ":" := of_decide_eq_true h2
  refine ⟨e, ?_, h3⟩
  have q := head_last line
  rw [h2'] at q
  exact q
abbrev Lay (d : PyData) : Prop := d.canLay0 = true ∧ d.depth ≤ 60
theorem lay_str {w : Str} (h : PyData.strOk w = true) : Lay (.str w) := ⟨by simpa [PyData.canLay0] using h, by simp [PyData.depth]⟩
theorem lay_atom (w : Str) : Lay (atomD w) := ⟨(atom_lay w).1, Nat.le_trans (atom_lay w).2 (by decide)⟩
theorem lay_tup {ds : List PyData} (h : ∀ d ∈ ds, d.canLay0 = true ∧ d.depth ≤ 30) : PyData.canLay0 (.tuple ds) = true ∧ PyData.depth (.tuple ds) ≤ 31 := by
  have key : ∀ {ds : List PyData}, (∀ d ∈ ds, d.canLay0 = true ∧ d.depth ≤ 30) → PyData.canLayAll0 ds = true ∧ PyData.depthAll ds ≤ 30 := by
    intro ds
    induction ds with
    | nil => intro _; exact ⟨by simp [PyData.canLayAll0], by simp [PyData.depthAll]⟩
    | cons d ds ih =>
      intro h
      obtain ⟨h1, h2⟩ := h d List.mem_cons_self
      obtain ⟨h3, h4⟩ := ih fun e he => h e (List.mem_cons_of_mem _ he)
      refine ⟨by simp [PyData.canLayAll0, h1, h3], ?_⟩
      simp only [PyData.depthAll]
      exact Nat.max_le.mpr ⟨h2, h4⟩
  obtain ⟨h1, h2⟩ := key h
  exact ⟨by simpa [PyData.canLay0] using h1, by simp only [PyData.depth]; omega⟩
theorem worth_lay (l : List Str) : (worthD l).canLay0 = true ∧ (worthD l).depth ≤ 30 := by
  unfold worthD
  have at_ : ∀ w, (atomD w).canLay0 = true ∧ (atomD w).depth ≤ 30 := fun w => ⟨(atom_lay w).1, Nat.le_trans (atom_lay w).2 (by decide)⟩
  have nn : (PyData.none).canLay0 = true ∧ (PyData.none).depth ≤ 30 := ⟨rfl, by decide⟩
  have tup3 : ∀ s a b : PyData, (s.canLay0 = true ∧ s.depth = 0) → (PyData.tuple [s, atomD (wd l 0), b]).canLay0 = true → (PyData.tuple [s, atomD (wd l 0), b]).depth ≤ 30 → (PyData.tuple [s, atomD (wd l 0), b]).canLay0 = true ∧ (PyData.tuple [s, atomD (wd l 0), b]).depth ≤ 30 := fun _ _ _ _ h1 h2 => ⟨h1, h2⟩
  have mk : ∀ (z : Str) (a b : Str), PyData.strOk z = true → (PyData.tuple [.str z, atomD a, atomD b]).canLay0 = true ∧ (PyData.tuple [.str z, atomD a, atomD b]).depth ≤ 30 := fun z a b hz => by
    have ha := atom_lay a
    have hb := atom_lay b
    refine ⟨by simp [PyData.canLay0, PyData.canLayAll0, hz, ha.1, hb.1], ?_⟩
    simp only [PyData.depth, PyData.depthAll]
    omega
  by_cases c1 : decide ((l.length : Int) = 1) = true
  · rw [if_pos c1]
    by_cases c2 : isNone (atomD (wd l 0)) = true
    · rw [if_pos c2]; exact nn
    · rw [if_neg c2]; exact mk _ _ _ (by decide +kernel)
  · rw [if_neg c1]
    by_cases c3 : (!decide ((l.length : Int) = 3) || !decide (wd l 1 ∈ (["+", "-"] : List Str))) = true
    · rw [if_pos c3]; exact nn
    · rw [if_neg c3]
      by_cases c4 : (isNone (atomD (wd l 0)) || isNone (atomD (wd l 2))) = true
      · rw [if_pos c4]; exact nn
      · rw [if_neg c4]
        refine mk _ _ _ ?_
        have h := (Bool.or_eq_false_iff.mp (Bool.not_eq_true _ ▸ c3)).2
        have m : wd l 1 ∈ (["+", "-"] : List Str) := of_decide_eq_true (Bool.not_eq_eq_eq_not.mp h)
        rcases List.mem_cons.mp m with e | m
        · rw [e]; decide +kernel
        · rw [List.mem_singleton.mp m]; decide +kernel
/-- a row by its kind -/
inductive RowK (line : Str) : PyData → Prop
  | lab {nm : Str} (h : line = nm ++ ":") (hn : isName nm = true) : RowK line (.tuple [.str "label", .str nm])
  | go {nm : Str} (h0 : wd (ws line) 0 = "go") (h1 : wd (ws line) 1 = nm) (hl : (ws line).length = 2) (hn : isName nm = true) : RowK line (.tuple [.str "go", .str nm])
  | iff {op nm : Str} {x y : PyData} (h0 : wd (ws line) 0 = "if") (h1 : wd (ws line) 5 = nm) (hl : (ws line).length = 6) (hn : isName nm = true) (hop : PyData.strOk op = true) (hx : x.canLay0 = true ∧ x.depth ≤ 30) (hy : y.canLay0 = true ∧ y.depth ≤ 30) :
      RowK line (.tuple [.str "if", .str op, x, y, .str nm])
  | oth {k : Str} {r : List PyData} (hk : k ∈ (["read", "write", "set", "swap", "answer"] : List Str)) (h0 : wd (ws line) 0 = k) (hl : 1 < (ws line).length) (hr : ∀ d ∈ r, d.canLay0 = true ∧ d.depth ≤ 30) : RowK line (.tuple (.str k :: r))
theorem a30 (w : Str) : (atomD w).canLay0 = true ∧ (atomD w).depth ≤ 30 := ⟨(atom_lay w).1, Nat.le_trans (atom_lay w).2 (by decide)⟩
theorem s30 {w : Str} (h : PyData.strOk w = true) : (PyData.str w).canLay0 = true ∧ (PyData.str w).depth ≤ 30 := ⟨by simpa [PyData.canLay0] using h, by simp [PyData.depth]⟩
theorem all2 {P : PyData → Prop} {a b : PyData} (ha : P a) (hb : P b) : ∀ d ∈ [a, b], P d := by
  intro d hd
  rcases List.mem_cons.mp hd with e | hd
  · rw [e]; exact ha
  · rw [List.mem_singleton.mp hd]; exact hb
theorem row_read {line : Str} (h : isNone (readRowD (ws line)) = false) : RowK line (readRowD (ws line)) := by
  generalize hl : ws line = l at h ⊢
  unfold readRowD at h ⊢
  by_cases c1 : rC1 l = true
  · rw [if_pos c1]
    unfold rC1 at c1
    simp only [Bool.and_eq_true, decide_eq_true_eq] at c1
    obtain ⟨h0, hn, hr, _⟩ := c1
    refine .oth (by decide +kernel) (by rw [hl]; exact h0) (by rw [hl]; omega) (all2 (s30 (ok_reg hr)) (a30 _))
  · rw [if_neg c1] at h ⊢
    by_cases c2 : rC2 l = true
    · rw [if_pos c2] at h ⊢
      by_cases z : isNone (worthD (l.drop 2)) = true
      · rw [if_pos z] at h; cases h
      · rw [if_neg z]
        unfold rC2 at c2
        simp only [Bool.and_eq_true, decide_eq_true_eq] at c2
        obtain ⟨h0, hn, _⟩ := c2
        refine .oth (by decide +kernel) (by rw [hl]; exact h0) ?_ (all2 (a30 _) (worth_lay _))
        rw [hl]
        simp only [List.mem_cons, List.not_mem_nil, or_false] at hn
        omega
    · rw [if_neg c2] at h ⊢
      by_cases c3 : rC3 l = true
      · rw [if_pos c3] at h ⊢
        by_cases z : isNone (worthD (l.drop 2)) = true
        · rw [if_pos z] at h; cases h
        · rw [if_neg z]
          unfold rC3 at c3
          simp only [Bool.and_eq_true, decide_eq_true_eq] at c3
          obtain ⟨h0, hn, hr⟩ := c3
          refine .oth (by decide +kernel) (by rw [hl]; exact h0) ?_ (all2 (s30 (ok_reg hr)) (worth_lay _))
          rw [hl]
          simp only [List.mem_cons, List.not_mem_nil, or_false] at hn
          omega
      · rw [if_neg c3] at h; cases h
theorem row_go {line : Str} (h : isNone (goRowD (ws line)) = false) : RowK line (goRowD (ws line)) := by
  generalize hl : ws line = l at h ⊢
  unfold goRowD at h ⊢
  by_cases c1 : gC1 l = true
  · rw [if_pos c1]
    unfold gC1 at c1
    simp only [Bool.and_eq_true, decide_eq_true_eq] at c1
    obtain ⟨h0, hn, hr⟩ := c1
    exact .go (by rw [hl]; exact h0) (by rw [hl]) (by rw [hl]; omega) hr
  · rw [if_neg c1] at h ⊢
    by_cases c2 : gC2 l = true
    · rw [if_pos c2] at h ⊢
      by_cases z : (isNone (atomD (wd l 2)) || isNone (atomD (wd l 3)) || isNone (atomD (wd l 4))) = true
      · rw [if_pos z] at h; cases h
      · rw [if_neg z]
        unfold gC2 at c2
        simp only [Bool.and_eq_true, decide_eq_true_eq] at c2
        obtain ⟨h0, hn, hr⟩ := c2
        refine .oth (by decide +kernel) (by rw [hl]; exact h0) (by rw [hl]; omega) ?_
        intro d hd
        simp only [List.mem_cons, List.not_mem_nil, or_false] at hd
        rcases hd with rfl | rfl | rfl | rfl
        · exact s30 (ok_reg hr)
        · exact a30 _
        · exact a30 _
        · exact a30 _
    · rw [if_neg c2] at h ⊢
      by_cases c3 : gC3 l = true
      · rw [if_pos c3] at h ⊢
        by_cases z : (isNone (atomD (wd l 1)) || isNone (atomD (wd l 3))) = true
        · rw [if_pos z] at h; cases h
        · rw [if_neg z]
          unfold gC3 at c3
          simp only [Bool.and_eq_true, decide_eq_true_eq] at c3
          obtain ⟨h0, hn, hop, h4, hr⟩ := c3
          refine .iff (by rw [hl]; exact h0) (by rw [hl]) (by rw [hl]; omega) hr ?_ (a30 _) (a30 _)
          rcases List.mem_cons.mp hop with e | m
          · rw [e]; decide +kernel
          · rw [List.mem_singleton.mp m]; decide +kernel
      · rw [if_neg c3] at h ⊢
        by_cases c4 : gC4 l = true
        · rw [if_pos c4] at h ⊢
          unfold gC4 at c4
          simp only [Bool.and_eq_true, decide_eq_true_eq] at c4
          obtain ⟨h0, hn⟩ := c4
          by_cases y : decide (wd l 1 ∈ (["yes", "no"] : List Str)) = true
          · rw [if_pos y]
            refine .oth (by decide +kernel) (by rw [hl]; exact h0) (by rw [hl]; omega) ?_
            intro d hd
            rw [List.mem_singleton.mp hd]
            exact ⟨by simp [PyData.canLay0, PyData.canLayAll0]; decide +kernel, by simp [PyData.depth, PyData.depthAll]⟩
          · rw [if_neg y] at h ⊢
            by_cases z : isNone (atomD (wd l 1)) = true
            · rw [if_pos z] at h; cases h
            · rw [if_neg z]
              refine .oth (by decide +kernel) (by rw [hl]; exact h0) (by rw [hl]; omega) ?_
              intro d hd
              rw [List.mem_singleton.mp hd]
              exact a30 _
        · rw [if_neg c4] at h; cases h
theorem rowK {line : Str} (h : isNone (rowD line) = false) : RowK line (rowD line) := by
  unfold rowD at h ⊢
  by_cases c0 : decide ((Str.ofString "") ∈ ws line) = true
  · rw [if_pos c0] at h; cases h
  · rw [if_neg c0] at h ⊢
    by_cases c1 : isLab line = true
    · rw [if_pos c1]
      obtain ⟨e, q, hn⟩ := lab_line c1
      rw [e]
      exact .lab q hn
    · rw [if_neg c1] at h ⊢
      by_cases c2 : isNone (readRowD (ws line)) = true
      · rw [if_pos c2] at h ⊢
        exact row_go h
      · rw [if_neg c2]
        exact row_read (Bool.not_eq_true _ ▸ c2)
theorem RowK.lay {line : Str} {d : PyData} (h : RowK line d) : d.canLay0 = true ∧ d.depth ≤ 31 := by
  cases h with
  | lab h hn => exact lay_tup (all2 (s30 (by decide +kernel)) (s30 (ok_name hn)))
  | go h0 h1 hl hn => exact lay_tup (all2 (s30 (by decide +kernel)) (s30 (ok_name hn)))
  | iff h0 h1 hl hn hop hx hy =>
    refine lay_tup ?_
    intro d hd
    simp only [List.mem_cons, List.not_mem_nil, or_false] at hd
    rcases hd with rfl | rfl | rfl | rfl | rfl
    · exact s30 (by decide +kernel)
    · exact s30 hop
    · exact hx
    · exact hy
    · exact s30 (ok_name hn)
  | @oth k r hk h0 hl hr =>
    refine lay_tup ?_
    intro d hd
    rcases List.mem_cons.mp hd with rfl | hd
    · refine s30 ?_
      simp only [List.mem_cons, List.not_mem_nil, or_false] at hk
      rcases hk with rfl | rfl | rfl | rfl | rfl <;> decide +kernel
    · exact hr d hd
end Zb
set_option Elab.async false
set_option linter.all false
set_option maxRecDepth 100000
set_option maxHeartbeats 4000000
/-! The law's own test of a line agrees with the row. -/
namespace Zb
open PySem PySem.Spec PyProof.Rows L2
def aB (w : Str) : Bool := !isNone (atomD w)
def lineL (l : List Str) : Bool :=
  if decide (wd l 0 = "go") = true then decide ((l.length : Int) = 2) && isName (wd l 1)
  else if decide (wd l 0 = "answer") = true then decide ((l.length : Int) = 2) && (aB (wd l 1) || decide (wd l 1 ∈ (["yes", "no"] : List Str)))
  else if decide (wd l 0 = "if") = true then decide ((l.length : Int) = 6) && (aB (wd l 1) && (aB (wd l 3) && (decide (wd l 2 ∈ (["=", "<"] : List Str)) && (decide (wd l 4 = "go") && isName (wd l 5)))))
  else if decide (wd l 0 = "swap") = true then decide ((l.length : Int) = 5) && ((decide ((l.length : Int) > 1) && isReg (wd l 1)) && (aB (wd l 2) && (aB (wd l 3) && aB (wd l 4))))
  else if decide (wd l 0 = "read") = true then decide ((l.length : Int) = 3) && ((decide ((l.length : Int) > 1) && isReg (wd l 1)) && aB (wd l 2))
  else if decide (wd l 0 = "set") = true then (decide ((l.length : Int) > 1) && isReg (wd l 1)) && ((decide ((l.length : Int) = 3) && aB (wd l 2)) || (decide ((l.length : Int) = 5) && (aB (wd l 2) && (aB (wd l 4) && decide (wd l 3 ∈ (["+", "-"] : List Str))))))
  else if decide (wd l 0 = "write") = true then decide ((l.length : Int) ∈ ([3, 5] : List Int)) && (aB (wd l 1) && (aB (wd l 2) && (decide ((l.length : Int) = 3) || (aB (wd l 4) && decide (wd l 3 ∈ (["+", "-"] : List Str))))))
  else false
def lineB (line : Str) : Bool := if decide (((ws line).length : Int) = 1) = true then decide (lastS line = ":") && isName (headS line) else lineL (ws line)
def rowLB (l : List Str) : Bool := !decide ((Str.ofString "") ∈ l) && (!isNone (readRowD l) || !isNone (goRowD l))
theorem e_go_go : decide (("go" : Str) = "go") = true := by decide +kernel
theorem e_go_answer : decide (("go" : Str) = "answer") = false := by decide +kernel
theorem e_go_if : decide (("go" : Str) = "if") = false := by decide +kernel
theorem e_go_swap : decide (("go" : Str) = "swap") = false := by decide +kernel
theorem e_go_read : decide (("go" : Str) = "read") = false := by decide +kernel
theorem e_go_set : decide (("go" : Str) = "set") = false := by decide +kernel
theorem e_go_write : decide (("go" : Str) = "write") = false := by decide +kernel
theorem e_answer_go : decide (("answer" : Str) = "go") = false := by decide +kernel
theorem e_answer_answer : decide (("answer" : Str) = "answer") = true := by decide +kernel
theorem e_answer_if : decide (("answer" : Str) = "if") = false := by decide +kernel
theorem e_answer_swap : decide (("answer" : Str) = "swap") = false := by decide +kernel
theorem e_answer_read : decide (("answer" : Str) = "read") = false := by decide +kernel
theorem e_answer_set : decide (("answer" : Str) = "set") = false := by decide +kernel
theorem e_answer_write : decide (("answer" : Str) = "write") = false := by decide +kernel
theorem e_if_go : decide (("if" : Str) = "go") = false := by decide +kernel
theorem e_if_answer : decide (("if" : Str) = "answer") = false := by decide +kernel
theorem e_if_if : decide (("if" : Str) = "if") = true := by decide +kernel
theorem e_if_swap : decide (("if" : Str) = "swap") = false := by decide +kernel
theorem e_if_read : decide (("if" : Str) = "read") = false := by decide +kernel
theorem e_if_set : decide (("if" : Str) = "set") = false := by decide +kernel
theorem e_if_write : decide (("if" : Str) = "write") = false := by decide +kernel
theorem e_swap_go : decide (("swap" : Str) = "go") = false := by decide +kernel
theorem e_swap_answer : decide (("swap" : Str) = "answer") = false := by decide +kernel
theorem e_swap_if : decide (("swap" : Str) = "if") = false := by decide +kernel
theorem e_swap_swap : decide (("swap" : Str) = "swap") = true := by decide +kernel
theorem e_swap_read : decide (("swap" : Str) = "read") = false := by decide +kernel
theorem e_swap_set : decide (("swap" : Str) = "set") = false := by decide +kernel
theorem e_swap_write : decide (("swap" : Str) = "write") = false := by decide +kernel
theorem e_read_go : decide (("read" : Str) = "go") = false := by decide +kernel
theorem e_read_answer : decide (("read" : Str) = "answer") = false := by decide +kernel
theorem e_read_if : decide (("read" : Str) = "if") = false := by decide +kernel
theorem e_read_swap : decide (("read" : Str) = "swap") = false := by decide +kernel
theorem e_read_read : decide (("read" : Str) = "read") = true := by decide +kernel
theorem e_read_set : decide (("read" : Str) = "set") = false := by decide +kernel
theorem e_read_write : decide (("read" : Str) = "write") = false := by decide +kernel
theorem e_set_go : decide (("set" : Str) = "go") = false := by decide +kernel
theorem e_set_answer : decide (("set" : Str) = "answer") = false := by decide +kernel
theorem e_set_if : decide (("set" : Str) = "if") = false := by decide +kernel
theorem e_set_swap : decide (("set" : Str) = "swap") = false := by decide +kernel
theorem e_set_read : decide (("set" : Str) = "read") = false := by decide +kernel
theorem e_set_set : decide (("set" : Str) = "set") = true := by decide +kernel
theorem e_set_write : decide (("set" : Str) = "write") = false := by decide +kernel
theorem e_write_go : decide (("write" : Str) = "go") = false := by decide +kernel
theorem e_write_answer : decide (("write" : Str) = "answer") = false := by decide +kernel
theorem e_write_if : decide (("write" : Str) = "if") = false := by decide +kernel
theorem e_write_swap : decide (("write" : Str) = "swap") = false := by decide +kernel
theorem e_write_read : decide (("write" : Str) = "read") = false := by decide +kernel
theorem e_write_set : decide (("write" : Str) = "set") = false := by decide +kernel
theorem e_write_write : decide (("write" : Str) = "write") = true := by decide +kernel
theorem aB_ne {w : Str} (h : aB w = true) : w ≠ Str.ofString "" := by
  rintro rfl
  revert h
  decide +kernel
theorem reg_ne {w : Str} (h : isReg w = true) : w ≠ Str.ofString "" := by
  rintro rfl
  revert h
  decide +kernel
theorem name_ne {w : Str} (h : isName w = true) : w ≠ Str.ofString "" := by
  rintro rfl
  revert h
  decide +kernel
theorem aB_eq (w : Str) : isNone (atomD w) = !aB w := by
  unfold aB
  rw [Bool.not_not]
/-- a test that says more is the same where it says more -/
theorem and_same {a b : Bool} (h : b = true → a = true) : (a && b) = b := by
  cases b with
  | false => exact Bool.and_false a
  | true => rw [h rfl]; rfl
theorem not_in {l : List Str} (h : ∀ w ∈ l, w ≠ Str.ofString "") : (!decide ((Str.ofString "") ∈ l)) = true := by
  rw [Bool.not_eq_true', decide_eq_false_iff_not]
  exact fun m => h _ m rfl
theorem tupNN (x : PyData) (ds : List PyData) : isNone (.tuple ds) = false := rfl
theorem ite_none (b : Bool) (ds : List PyData) : isNone (if b = true then .none else .tuple ds) = b := by
  cases b <;> rfl
theorem ite_tup (b : Bool) (ds : List PyData) (x : PyData) : isNone (if b = true then .tuple ds else x) = (!b && isNone x) := by
  cases b <;> rfl

theorem isNone_ite (b : Bool) (x y : PyData) : isNone (if b = true then x else y) = if b = true then isNone x else isNone y := by cases b <;> rfl
theorem isNone_none : isNone .none = true := rfl
theorem worth_eq (l : List Str) : isNone (worthD l) = !(if decide ((l.length : Int) = 1) = true then aB (wd l 0) else (decide ((l.length : Int) = 3) && decide (wd l 1 ∈ (["+", "-"] : List Str))) && (aB (wd l 0) && aB (wd l 2))) := by
  unfold worthD
  simp only [isNone_ite, isNone_none, tupNN, aB_eq]
  cases decide ((l.length : Int) = 1) <;> cases decide ((l.length : Int) = 3) <;> cases decide (wd l 1 ∈ (["+", "-"] : List Str)) <;> cases aB (wd l 0) <;> cases aB (wd l 2) <;> rfl
theorem fin_and {A B C : Bool} (h1 : A = C) (h2 : C = true → B = true) : A = (B && C) := by
  subst h1
  cases A with
  | false => exact (Bool.and_false B).symm
  | true => rw [h2 rfl]; rfl
theorem and_left {B x y : Bool} (h : x = y) : (B && x) = (B && y) := h ▸ rfl
theorem wd_d0 (l : List Str) : wd (l.drop 2) 0 = wd l 2 := wd_drop l 2 0
theorem wd_d1 (l : List Str) : wd (l.drop 2) 1 = wd l 3 := wd_drop l 2 1
theorem wd_d2 (l : List Str) : wd (l.drop 2) 2 = wd l 4 := wd_drop l 2 2
theorem all_wd {l : List Str} {n : Nat} (hl : l.length = n) (h : ∀ k, k < n → wd l k ≠ Str.ofString "") : ∀ w ∈ l, w ≠ Str.ofString "" := by
  intro w hw
  obtain ⟨k, hk⟩ := List.mem_iff_getElem?.mp hw
  have lt : k < l.length := (List.getElem?_eq_some_iff.mp hk).1
  have e : wd l k = w := by
    unfold wd
    rw [List.getD_eq_getElem?_getD, hk]
    rfl
  rw [← e]
  exact h k (by omega)
theorem key_ne {l : List Str} {k : Str} (h0 : wd l 0 = k) (h : decide (k = Str.ofString "") = false) : wd l 0 ≠ Str.ofString "" := by
  rw [h0]
  exact of_decide_eq_false h
theorem in_ne {w : Str} {l : List Str} (h : w ∈ l) (hl : (l.all fun x => !decide (x = Str.ofString "")) = true) : w ≠ Str.ofString "" := by
  have := List.all_eq_true.mp hl w h
  exact of_decide_eq_false (Bool.not_eq_eq_eq_not.mp this)
theorem lineL_go {l : List Str} (h0 : wd l 0 = "go") : lineL l = rowLB l := by
  unfold lineL rowLB readRowD goRowD rC1 rC2 rC3 gC1 gC2 gC3 gC4
  simp only [h0, e_go_go, e_go_answer, e_go_if, e_go_swap, e_go_read, e_go_set, e_go_write, Bool.false_and, Bool.true_and, if_pos, Bool.false_eq_true, if_false, isNone_ite, isNone_none, tupNN, aB_eq, decide_true, Bool.not_true, Bool.false_or, Bool.or_false, Bool.not_false, worth_eq]
  refine fin_and ?_ fun h => ?_
  · cases decide ((l.length : Int) = 2) <;> cases isName (wd l 1) <;> rfl
  · have h' : (decide ((l.length : Int) = 2) && isName (wd l 1)) = true := by
      revert h
      cases (decide ((l.length : Int) = 2) && isName (wd l 1)) <;> simp
    simp only [Bool.and_eq_true, decide_eq_true_eq] at h'
    refine not_in (all_wd (n := 2) (by omega) fun k hk => ?_)
    match k, hk with
    | 0, _ => exact key_ne h0 (by decide +kernel)
    | 1, _ => exact name_ne h'.2
theorem lineL_answer {l : List Str} (h0 : wd l 0 = "answer") : lineL l = rowLB l := by
  unfold lineL rowLB readRowD goRowD rC1 rC2 rC3 gC1 gC2 gC3 gC4
  simp only [h0, e_answer_go, e_answer_answer, e_answer_if, e_answer_swap, e_answer_read, e_answer_set, e_answer_write, Bool.false_and, Bool.true_and, if_pos, Bool.false_eq_true, if_false, isNone_ite, isNone_none, tupNN, aB_eq, decide_true, Bool.not_true, Bool.false_or, Bool.or_false, Bool.not_false, worth_eq]
  have e : (decide ((l.length : Int) = 2) && (aB (wd l 1) || decide (wd l 1 ∈ (["yes", "no"] : List Str)))) = !(if decide ((l.length : Int) = 2) = true then if decide (wd l 1 ∈ (["yes", "no"] : List Str)) = true then false else if (!aB (wd l 1)) = true then true else false else true) := by
    cases decide ((l.length : Int) = 2) <;> cases aB (wd l 1) <;> cases decide (wd l 1 ∈ (["yes", "no"] : List Str)) <;> rfl
  refine fin_and e fun h => ?_
  rw [← e] at h
  simp only [Bool.and_eq_true, Bool.or_eq_true, decide_eq_true_eq] at h
  refine not_in (all_wd (n := 2) (by omega) fun k hk => ?_)
  match k, hk with
  | 0, _ => exact key_ne h0 (by decide +kernel)
  | 1, _ =>
    rcases h.2 with a | a
    · exact aB_ne a
    · exact in_ne a (by decide +kernel)
theorem lineL_if {l : List Str} (h0 : wd l 0 = "if") : lineL l = rowLB l := by
  unfold lineL rowLB readRowD goRowD rC1 rC2 rC3 gC1 gC2 gC3 gC4
  simp only [h0, e_if_go, e_if_answer, e_if_if, e_if_swap, e_if_read, e_if_set, e_if_write, Bool.false_and, Bool.true_and, if_pos, Bool.false_eq_true, if_false, isNone_ite, isNone_none, tupNN, aB_eq, decide_true, Bool.not_true, Bool.false_or, Bool.or_false, Bool.not_false, worth_eq]
  refine Eq.trans (b := (!decide (Str.ofString "" ∈ l) && (decide ((l.length : Int) = 6) && (aB (wd l 1) && (aB (wd l 3) && (decide (wd l 2 ∈ (["=", "<"] : List Str)) && (decide (wd l 4 = "go") && isName (wd l 5)))))))) (fin_and rfl fun h => ?_) (and_left ?_)
  · simp only [Bool.and_eq_true, decide_eq_true_eq] at h
    obtain ⟨hl, h1, h3, h2, h4, h5⟩ := h
    refine not_in (all_wd (n := 6) (by omega) fun k hk => ?_)
    match k, hk with
    | 0, _ => exact key_ne h0 (by decide +kernel)
    | 1, _ => exact aB_ne h1
    | 2, _ => exact in_ne h2 (by decide +kernel)
    | 3, _ => exact aB_ne h3
    | 4, _ => rw [h4]; exact of_decide_eq_false (by decide +kernel)
    | 5, _ => exact name_ne h5
  · cases decide ((l.length : Int) = 6) <;> cases aB (wd l 1) <;> cases aB (wd l 3) <;> cases decide (wd l 2 ∈ (["=", "<"] : List Str)) <;> cases decide (wd l 4 = "go") <;> cases isName (wd l 5) <;> rfl
theorem lineL_swap {l : List Str} (h0 : wd l 0 = "swap") : lineL l = rowLB l := by
  unfold lineL rowLB readRowD goRowD rC1 rC2 rC3 gC1 gC2 gC3 gC4
  simp only [h0, e_swap_go, e_swap_answer, e_swap_if, e_swap_swap, e_swap_read, e_swap_set, e_swap_write, Bool.false_and, Bool.true_and, if_pos, Bool.false_eq_true, if_false, isNone_ite, isNone_none, tupNN, aB_eq, decide_true, Bool.not_true, Bool.false_or, Bool.or_false, Bool.not_false, worth_eq]
  refine Eq.trans (b := (!decide (Str.ofString "" ∈ l) && (decide ((l.length : Int) = 5) && (isReg (wd l 1) && (aB (wd l 2) && (aB (wd l 3) && aB (wd l 4))))))) (fin_and ?_ fun h => ?_) (and_left ?_)
  · by_cases hl : (l.length : Int) = 5
    · rw [show decide ((l.length : Int) > 1) = true from decide_eq_true (by omega), Bool.true_and]
    · rw [decide_eq_false hl, Bool.false_and, Bool.false_and]
  · simp only [Bool.and_eq_true, decide_eq_true_eq] at h
    obtain ⟨hl, h1, h2, h3, h4⟩ := h
    refine not_in (all_wd (n := 5) (by omega) fun k hk => ?_)
    match k, hk with
    | 0, _ => exact key_ne h0 (by decide +kernel)
    | 1, _ => exact reg_ne h1
    | 2, _ => exact aB_ne h2
    | 3, _ => exact aB_ne h3
    | 4, _ => exact aB_ne h4
  · cases decide ((l.length : Int) = 5) <;> cases isReg (wd l 1) <;> cases aB (wd l 2) <;> cases aB (wd l 3) <;> cases aB (wd l 4) <;> rfl
theorem lineL_read {l : List Str} (h0 : wd l 0 = "read") : lineL l = rowLB l := by
  unfold lineL rowLB readRowD goRowD rC1 rC2 rC3 gC1 gC2 gC3 gC4
  simp only [h0, e_read_go, e_read_answer, e_read_if, e_read_swap, e_read_read, e_read_set, e_read_write, Bool.false_and, Bool.true_and, if_pos, Bool.false_eq_true, if_false, isNone_ite, isNone_none, tupNN, aB_eq, decide_true, Bool.not_true, Bool.false_or, Bool.or_false, Bool.not_false, worth_eq]
  refine Eq.trans (b := (!decide (Str.ofString "" ∈ l) && (decide ((l.length : Int) = 3) && (isReg (wd l 1) && aB (wd l 2))))) (fin_and ?_ fun h => ?_) (and_left ?_)
  · by_cases hl : (l.length : Int) = 3
    · rw [show decide ((l.length : Int) > 1) = true from decide_eq_true (by omega), Bool.true_and]
    · rw [decide_eq_false hl, Bool.false_and, Bool.false_and]
  · simp only [Bool.and_eq_true, decide_eq_true_eq] at h
    obtain ⟨hl, h1, h2⟩ := h
    refine not_in (all_wd (n := 3) (by omega) fun k hk => ?_)
    match k, hk with
    | 0, _ => exact key_ne h0 (by decide +kernel)
    | 1, _ => exact reg_ne h1
    | 2, _ => exact aB_ne h2
  · cases decide ((l.length : Int) = 3) <;> cases isReg (wd l 1) <;> cases aB (wd l 2) <;> rfl
theorem len35 (l : List Str) : decide ((l.length : Int) ∈ ([3, 5] : List Int)) = (decide (l.length = 3) || decide (l.length = 5)) := by
  rw [Bool.eq_iff_iff]
  simp only [decide_eq_true_eq, List.mem_cons, List.not_mem_nil, or_false, Bool.or_eq_true]
  omega
theorem len_d {l : List Str} (n : Nat) : decide ((l.length : Int) = (n : Int)) = decide (l.length = n) := by
  rw [Bool.eq_iff_iff]
  simp only [decide_eq_true_eq]
  omega
theorem drop_d {l : List Str} (n : Nat) (hn : 0 < n) : decide (((l.drop 2).length : Int) = (n : Int)) = decide (l.length = n + 2) := by
  rw [Bool.eq_iff_iff, List.length_drop]
  simp only [decide_eq_true_eq]
  omega
theorem lineL_set {l : List Str} (h0 : wd l 0 = "set") : lineL l = rowLB l := by
  unfold lineL rowLB readRowD goRowD rC1 rC2 rC3 gC1 gC2 gC3 gC4
  simp only [h0, e_set_go, e_set_answer, e_set_if, e_set_swap, e_set_read, e_set_set, e_set_write, Bool.false_and, Bool.true_and, if_pos, Bool.false_eq_true, if_false, isNone_ite, isNone_none, tupNN, aB_eq, decide_true, Bool.not_true, Bool.false_or, Bool.or_false, Bool.not_false, worth_eq]
  rw [len35, show decide (((l.drop 2).length : Int) = 1) = decide (l.length = 3) from drop_d 1 (by decide), show decide (((l.drop 2).length : Int) = 3) = decide (l.length = 5) from drop_d 3 (by decide), show decide ((l.length : Int) = 3) = decide (l.length = 3) from len_d 3, show decide ((l.length : Int) = 5) = decide (l.length = 5) from len_d 5, wd_d0, wd_d1, wd_d2]
  show ((decide ((l.length : Int) > 1) && isReg (wd l 1)) && ((decide (l.length = 3) && aB (wd l 2)) || (decide (l.length = 5) && (aB (wd l 2) && (aB (wd l 4) && decide (wd l 3 ∈ (["+", "-"] : List Str))))))) = _
  refine Eq.trans (b := (!decide (Str.ofString "" ∈ l) && (isReg (wd l 1) && ((decide (l.length = 3) && aB (wd l 2)) || (decide (l.length = 5) && (aB (wd l 2) && (aB (wd l 4) && decide (wd l 3 ∈ (["+", "-"] : List Str))))))))) (fin_and ?_ fun h => ?_) (and_left ?_)
  · by_cases hl : (l.length : Int) > 1
    · rw [decide_eq_true hl, Bool.true_and]
    · rw [show decide (l.length = 3) = false from decide_eq_false (by omega), show decide (l.length = 5) = false from decide_eq_false (by omega)]
      simp
  · simp only [Bool.and_eq_true, Bool.or_eq_true, decide_eq_true_eq] at h
    obtain ⟨h1, ⟨hl, h2⟩ | ⟨hl, h2, h4, h3⟩⟩ := h
    · refine not_in (all_wd (n := 3) hl fun k hk => ?_)
      match k, hk with
      | 0, _ => exact key_ne h0 (by decide +kernel)
      | 1, _ => exact reg_ne h1
      | 2, _ => exact aB_ne h2
    · refine not_in (all_wd (n := 5) hl fun k hk => ?_)
      match k, hk with
      | 0, _ => exact key_ne h0 (by decide +kernel)
      | 1, _ => exact reg_ne h1
      | 2, _ => exact aB_ne h2
      | 3, _ => exact in_ne h3 (by decide +kernel)
      | 4, _ => exact aB_ne h4
  · by_cases h3 : l.length = 3
    · rw [decide_eq_true h3, show decide (l.length = 5) = false from decide_eq_false (by omega)]
      cases isReg (wd l 1) <;> cases aB (wd l 2) <;> rfl
    · rw [decide_eq_false h3]
      cases decide (l.length = 5) <;> cases isReg (wd l 1) <;> cases aB (wd l 2) <;> cases aB (wd l 4) <;> cases decide (wd l 3 ∈ (["+", "-"] : List Str)) <;> rfl
theorem lineL_write {l : List Str} (h0 : wd l 0 = "write") : lineL l = rowLB l := by
  unfold lineL rowLB readRowD goRowD rC1 rC2 rC3 gC1 gC2 gC3 gC4
  simp only [h0, e_write_go, e_write_answer, e_write_if, e_write_swap, e_write_read, e_write_set, e_write_write, Bool.false_and, Bool.true_and, if_pos, Bool.false_eq_true, if_false, isNone_ite, isNone_none, tupNN, aB_eq, decide_true, Bool.not_true, Bool.false_or, Bool.or_false, Bool.not_false, worth_eq]
  rw [len35, show decide (((l.drop 2).length : Int) = 1) = decide (l.length = 3) from drop_d 1 (by decide), show decide (((l.drop 2).length : Int) = 3) = decide (l.length = 5) from drop_d 3 (by decide), show decide ((l.length : Int) = 3) = decide (l.length = 3) from len_d 3, wd_d0, wd_d1, wd_d2]
  show ((decide (l.length = 3) || decide (l.length = 5)) && (aB (wd l 1) && (aB (wd l 2) && (decide (l.length = 3) || (aB (wd l 4) && decide (wd l 3 ∈ (["+", "-"] : List Str))))))) = _
  refine Eq.trans (b := (!decide (Str.ofString "" ∈ l) && ((decide (l.length = 3) || decide (l.length = 5)) && (aB (wd l 1) && (aB (wd l 2) && (decide (l.length = 3) || (aB (wd l 4) && decide (wd l 3 ∈ (["+", "-"] : List Str))))))))) (fin_and rfl fun h => ?_) (and_left ?_)
  · simp only [Bool.and_eq_true, Bool.or_eq_true, decide_eq_true_eq] at h
    obtain ⟨hl, h1, h2, h3⟩ := h
    by_cases l3 : l.length = 3
    · refine not_in (all_wd (n := 3) l3 fun k hk => ?_)
      match k, hk with
      | 0, _ => exact key_ne h0 (by decide +kernel)
      | 1, _ => exact aB_ne h1
      | 2, _ => exact aB_ne h2
    · have l5 : l.length = 5 := hl.resolve_left l3
      obtain ⟨h4, h3⟩ := h3.resolve_left l3
      refine not_in (all_wd (n := 5) l5 fun k hk => ?_)
      match k, hk with
      | 0, _ => exact key_ne h0 (by decide +kernel)
      | 1, _ => exact aB_ne h1
      | 2, _ => exact aB_ne h2
      | 3, _ => exact in_ne h3 (by decide +kernel)
      | 4, _ => exact aB_ne h4
  · by_cases h3 : l.length = 3
    · rw [decide_eq_true h3]
      cases decide (l.length = 5) <;> cases aB (wd l 1) <;> cases aB (wd l 2) <;> rfl
    · rw [decide_eq_false h3]
      cases decide (l.length = 5) <;> cases aB (wd l 1) <;> cases aB (wd l 2) <;> cases aB (wd l 4) <;> cases decide (wd l 3 ∈ (["+", "-"] : List Str)) <;> rfl
theorem lineL_eq (l : List Str) : lineL l = rowLB l := by
  by_cases c1 : wd l 0 = "go"
  · exact lineL_go c1
  by_cases c2 : wd l 0 = "answer"
  · exact lineL_answer c2
  by_cases c3 : wd l 0 = "if"
  · exact lineL_if c3
  by_cases c4 : wd l 0 = "swap"
  · exact lineL_swap c4
  by_cases c5 : wd l 0 = "read"
  · exact lineL_read c5
  by_cases c6 : wd l 0 = "set"
  · exact lineL_set c6
  by_cases c7 : wd l 0 = "write"
  · exact lineL_write c7
  unfold lineL rowLB readRowD goRowD rC1 rC2 rC3 gC1 gC2 gC3 gC4
  simp only [decide_eq_false c1, decide_eq_false c2, decide_eq_false c3, decide_eq_false c4, decide_eq_false c5, decide_eq_false c6, decide_eq_false c7, Bool.false_and, Bool.false_eq_true, if_false, isNone_none, Bool.not_true, Bool.or_self, Bool.and_false]
theorem lineB_eq (line : Str) : lineB line = !isNone (rowD line) := by
  unfold lineB rowD
  by_cases h1 : decide (((ws line).length : Int) = 1) = true
  · rw [if_pos h1]
    have e := ws_one (line := line) (by have := of_decide_eq_true h1; omega)
    have hl : isLab line = (decide (lastS line = ":") && isName (headS line)) := by
      unfold isLab
      rw [h1, Bool.true_and, e]
      rfl
    have hn : decide (((ws line).length : Int) = 3) = false ∧ decide (((ws line).length : Int) = 5) = false ∧ decide (((ws line).length : Int) = 2) = false ∧ decide (((ws line).length : Int) = 6) = false ∧ decide (((ws line).length : Int) ∈ ([3, 5] : List Int)) = false := by
      rw [e]
      show decide (((1 : Nat) : Int) = 3) = false ∧ decide (((1 : Nat) : Int) = 5) = false ∧ decide (((1 : Nat) : Int) = 2) = false ∧ decide (((1 : Nat) : Int) = 6) = false ∧ decide (((1 : Nat) : Int) ∈ ([3, 5] : List Int)) = false
      decide +kernel
    have r0 : isNone (readRowD (ws line)) = true ∧ isNone (goRowD (ws line)) = true := by
      obtain ⟨n3, n5, n2, n6, n35⟩ := hn
      unfold readRowD goRowD rC1 rC2 rC3 gC1 gC2 gC3 gC4
      simp only [n3, n5, n2, n6, n35, Bool.false_and, Bool.and_false, Bool.false_eq_true, if_false, isNone_none, and_self]
    rw [← hl]
    cases hb : isLab line with
    | true =>
      have ne : decide ((Str.ofString "") ∈ ws line) = false := by
        rw [decide_eq_false_iff_not, e]
        intro m
        have q := List.mem_singleton.mp m
        obtain ⟨_, z, _⟩ := lab_line hb
        have := congrArg sgn z
        rw [sgn_app, colon_sgn, ← q] at this
        have y : sgn (Str.ofString "") = [] := by decide +kernel
        rw [y] at this
        simp at this
      rw [ne, if_neg Bool.false_ne_true, if_pos rfl]
      rfl
    | false =>
      rw [if_neg Bool.false_ne_true, if_pos r0.1]
      by_cases c : decide ((Str.ofString "") ∈ ws line) = true
      · rw [if_pos c]; rfl
      · rw [if_neg c, r0.2]; rfl
  · rw [if_neg h1, lineL_eq]
    have hb : isLab line = false := by
      unfold isLab
      rw [Bool.eq_false_iff.mpr h1, Bool.false_and]
    unfold rowLB
    rw [hb, if_neg Bool.false_ne_true]
    cases decide ((Str.ofString "") ∈ ws line) with
    | true => rfl
    | false =>
      rw [if_neg Bool.false_ne_true]
      cases c : isNone (readRowD (ws line)) with
      | true => rw [if_pos rfl]; simp
      | false => rw [if_neg Bool.false_ne_true, c]; rfl
end Zb
set_option Elab.async false
set_option linter.all false
set_option maxRecDepth 100000
set_option maxHeartbeats 2000000
namespace Zb
open PySem PySem.Spec PyProof.Rows L2
section
variable {P : Program} {w : World} {K : PySem.W.Frag} {mg : Str → Option Value} {base : Heap}
theorem ws_wds {line : Str} (h : shortL line) : Wds (ws line) := ⟨ws_pos line, fun x hx => by
  have := ws_word hx
  show x.length < 100000
  have h' : line.length < 90000 := h
  omega, by
  have := ws_len line
  have h' : line.length < 90000 := h
  omega⟩
theorem ev_words {σ : L2.St} {S : Hp} {te ta : TE} {line : Str} (hz : shortL line) (h : EvD K te σ S (.str line)) (h2 : EvD K ta σ S (.str " ")) :
    EvD K (tM1 (fun x xs H Q => ∃ a b, x = .str a ∧ xs = [.str b] ∧ (b.length == 0) = false ∧ a.length + 2 ≤ sizeLine ∧ rNewStrs (Txt.split a b) H Q) te ta) σ S (.list ((ws line).map .str)) :=
  ev_split h h2 (by decide +kernel) (by
    have h' : line.length < 90000 := hz
    exact Nat.le_trans (show line.length + 2 ≤ 100000 by omega) (by decide))
theorem ru_neg {i : Int} {S : Hp} : RuD K (rU fun i => .int (-i)) S (.int i) (.int (-i)) := fun S1 _ u p H j Q k => by
  rw [dp_int p]
  exact ⟨i, rfl, k _ S1 H (Go.refl j) (.int _)⟩
theorem ev_m1 {σ : L2.St} {S : Hp} : EvD K (tUn (rU fun i => .int (-i)) (tC (.int 1))) σ S (.int (-1)) := ev_un ru_neg (ev_c (.int _))
theorem eo_m1 {σ : L2.St} {S : Hp} : EvO (tPart (tUn (rU fun i => .int (-i)) (tC (.int 1)))) σ S (some (-1)) := fun H i Q q => ⟨1, rfl, -1, rfl, q S H (Go.refl i)⟩
abbrev spLine (K : PySem.W.Frag) (f : Str → PyData) : Sp := spF K (fun l : Str => [.str l]) shortL f
theorem sc_row_of : FnScope ["line", "words", "row"] ["line"] (defScope Zh.s_row_of) := ⟨rfl, rfl, rfl, by decide +kernel, rfl, by decide +kernel, by decide +kernel⟩
theorem ok_row_of (M : Mo K mg) (D : Df K mg "row_of" Zh.s_row_of) (f_is_name : Fn CX0 P w K mg base "is_name" 1 ["word"] (spName K)) (f_read_row : Fn CX0 P w K mg base "read_row" 4 ["words"] (spWds K readRowD))
    (f_go_row : Fn CX0 P w K mg base "go_row" 3 ["words"] (spWds K goRowD)) : Fn CX0 P w K mg base "row_of" 5 ["line"] (spLine K rowD) :=
  fn_mk D.1 D.2 (fun _ _ _ _ _ _ us hl => match us, hl with | [_], _ => rfl) sc_row_of (fun _ => rfl) fun cdv A outer s H E hr => ⟨_, (pss_cons (ps_set (i := 1) sc_row_of.nd rfl (Or.inl rfl) (pe_split (pv 0) pe_str))
    (pss_cons (ps_if (pt_cmpR op_in_seq pe_str (pv 1) (by rfl)) (pss_one (ps_ret pe_non)) pss_nil)
    (pss_cons (ps_if (PW.pt (pw_and (pt_cmpR op_eq (pe_callB call_len (by rfl) M.len (by decide +kernel) (pa_cons (pv 1) pa_nil)) pe_int (nomark _)) (pw_and (pt_cmpR op_eq (pe_slice sl_str (pe_ix ix_list (pv 1) pe_int (fun _ _ => rfl)) (po_some (pe_un un_neg pe_int)) po_none) pe_str (nomark _)) (pw_and1 (pt_val (pe_fn f_is_name (hr.mono (by decide)) rfl (pa_cons (pe_slice sl_str (pe_ix ix_list (pv 1) pe_int (fun _ _ => rfl)) po_none (po_some (pe_un un_neg pe_int))) pa_nil))))))) (pss_one (ps_ret (pe_tup (pa_cons pe_str (pa_cons (pe_slice sl_str (pe_ix ix_list (pv 1) pe_int (fun _ _ => rfl)) po_none (po_some (pe_un un_neg pe_int))) pa_nil))))) pss_nil)
    (pss_cons (ps_set (i := 2) sc_row_of.nd rfl (Or.inl rfl) (pe_fn f_read_row (hr.mono (by decide)) rfl (pa_cons (pv 1) pa_nil)))
    (pss_one (ps_ret (pe_ifExp (pt_cmpR op_isN (pv 2) pe_non (nomark _)) (pe_fn f_go_row (hr.mono (by decide)) rfl (pa_cons (pv 1) pa_nil)) (pv 2)))))))), fun line vs S hp p => by
    obtain ⟨v, r, rfl, pv, pr⟩ := dpAll_cons p
    obtain rfl := dpAll_nil pr
    have W := ws_wds hp
    have hz : (wd (ws line) 0).length ≤ sizeLine := (W.wd W.ne).le
    have hs : ∀ lo hi, shortS (cutS (wd (ws line) 0) lo hi) := fun lo hi => Nat.lt_of_le_of_lt (cutS_length _ _ _) (W.wd W.ne)
    refine r_asg (ev_words hp (ev_var rfl pv) (ev_c (.str _))) fun v1 S1 i1 p1 => ?_
    have h0 : EvD K (tOp (rIxL K) (tVar 1) (tC (.int 0))) ((start ["line", "words", "row"] [v]).set 1 (some v1)) S1 (.str (wd (ws line) 0)) := ev_w W.ne (ev_var rfl p1) (ev_c (.int _))
    unfold rowD
    refine r_if (et_val (ev_op (rv_inS (.inl rfl)) (ev_c (.str _)) (ev_var rfl p1))) (fun h => ?_) fun h => r_next ?_
    · rw [if_pos h]
      exact r_stop (r_ret (ev_c .non))
    rw [if_neg (by rw [h]; decide)]
    refine r_if (b := isLab line) (et_and (et_val (ev_op rv_eqi (ev_lenW (ev_var rfl p1)) (ev_c (.int _)))) fun _ => et_and (et_val (ev_op rv_eqs (ev_slS h0 eo_m1 eo_none hz) (ev_c (.str _)))) fun _ =>
      et_B (ev_call (headS (wd (ws line) 0)) (hs _ _) (ea_one (ev_slS h0 eo_none eo_m1 hz)))) (fun h1 => ?_) fun h1 => r_next ?_
    · rw [if_pos h1]
      exact r_stop (r_ret (ev_tup (ea_cons (ev_c (.str _)) (ea_one (ev_slS h0 eo_none eo_m1 hz))) (lz 2 rfl)))
    rw [if_neg (by rw [h1]; decide)]
    refine r_asg (ev_call (ws line) W (ea_one (ev_var rfl p1))) fun v2 S2 i2 p2 => r_ret ?_
    refine ev_if (et_val (ev_op rv_isNone (ev_var rfl p2) (ev_c .non))) (fun h2 => ?_) fun h2 => ?_
    · rw [if_pos h2]
      exact ev_call (ws line) W (ea_one (ev_var rfl (dp_same i2 p1)))
    · rw [if_neg (by rw [h2]; decide)]
      exact ev_var rfl p2⟩
/-! cells -/
def isCell (w : Str) : Bool := decide (w = "none") || isDig w
def cellV (w : Str) : PyData := if w = "none" then .none else .int (digV w)
def cC (l : List Str) : Bool := decide (wd l 0 = "cells") && (decide ((2 : Int) ≤ l.length) && decide ((l.length : Int) ≤ 7))
def cellsD (line : Str) : PyData := if cC (ws line) = true then (if (((ws line).drop 1).all isCell) = true then .tuple (((ws line).drop 1).map cellV) else .none) else .none
theorem atom_cell {w : Str} (h : isCell w = true) : atomD w = .tuple [.str "is", cellV w] := by
  unfold atomD cellV
  by_cases c : w = "none"
  · rw [if_pos c, if_pos c]
  · have d : isDig w = true := by
      unfold isCell at h
      rw [decide_eq_false c, Bool.false_or] at h
      exact h
    rw [if_neg c, if_neg c, if_pos d]
theorem atom_out {w : Str} (h : isCell w = false) : isNone (atomD w) = true ∨ ∃ d, atomD w = .tuple [.str "in", d] := by
  unfold isCell at h
  rw [Bool.or_eq_false_iff] at h
  unfold atomD
  rw [if_neg (of_decide_eq_false h.1), if_neg (by rw [h.2]; decide)]
  by_cases c : isReg w = true
  · rw [if_pos c]; exact .inr ⟨_, rfl⟩
  · rw [if_neg c]; exact .inl rfl
theorem filt_none {l : List Str} : (l.filter fun w => !isCell w).isEmpty = l.all isCell := by
  induction l with
  | nil => rfl
  | cons a l ih =>
    rw [List.filter_cons, List.all_cons]
    cases isCell a with
    | true => rw [Bool.not_true, if_neg Bool.false_ne_true, Bool.true_and]; exact ih
    | false => rfl
theorem sc_cells_of : FnScope ["line", "words", "some", "word", "one"] ["line"] (defScope Zh.s_cells_of) := ⟨rfl, rfl, rfl, by decide +kernel, rfl, by decide +kernel, by decide +kernel⟩
theorem ok_cells_of (M : Mo K mg) (D : Df K mg "cells_of" Zh.s_cells_of) (f_atom_of : Fn CX0 P w K mg base "atom_of" 2 ["word"] (spAtom K)) : Fn CX0 P w K mg base "cells_of" 3 ["line"] (spLine K cellsD) :=
  fn_mk D.1 D.2 (fun _ _ _ _ _ _ us hl => match us, hl with | [_], _ => rfl) sc_cells_of (fun _ => rfl) fun cdv A outer s H E hr => ⟨_, (pss_cons (ps_set (i := 1) sc_cells_of.nd rfl (Or.inl rfl) (pe_split (pv 0) pe_str))
    (pss_cons (ps_if (PW.pt (pw_or (pt_cmpR op_ne (pe_ix ix_list (pv 1) pe_int (fun _ _ => rfl)) pe_str (nomark _)) (pw_or1 (pt_not (pt_chain op_le op_le pe_int (pe_callB call_len (by rfl) M.len (by decide +kernel) (pa_cons (pv 1) pa_nil)) (pe_op op_add pe_int (pe_gint rfl M.MOST_CELLS))))))) (pss_one (ps_ret pe_non)) pss_nil)
    (pss_cons (ps_setLc (i := 2) (own := [("word", 3)]) (g := gName 3) rfl sc_cells_of.nd rfl rfl (sw_true rfl rfl rfl (by decide +kernel)) (pi_list (pe_slice sl_list (pv 1) (po_some pe_int) po_none)) (blkOk_by (own := [("word", 3)]) (N := ["line", "words", "some", "word", "one"]) (sc := defScope Zh.s_cells_of) (by decide +kernel)) (fun _ _ _ _ _ => (pg_name (i := 3) sc_cells_of.nd rfl (Or.inl rfl))) (fun _ _ _ _ _ => pts_nil) (fun _ _ _ _ _ => (pe_fn f_atom_of (hr.mono (by decide)) rfl (pa_cons (pv 3) pa_nil))))
    (pss_cons (ps_if (pt_cmpR (op_neNil hr.units0) (pe_lc (own := [("one", 4)]) (g := gName 4) rfl sc_cells_of.nd (pi_list (pv 2)) (blkOk_by (own := [("one", 4)]) (N := ["line", "words", "some", "word", "one"]) (sc := defScope Zh.s_cells_of) (by decide +kernel)) (fun _ _ _ _ _ => (pg_name (i := 4) sc_cells_of.nd rfl (Or.inl rfl))) (fun _ _ _ _ _ => pts_one (PW.pt (pw_or (pt_cmpR op_isN (pv 4) pe_non (nomark _)) (pw_or1 (pt_cmpR op_ne (pe_ix ix_tup (pv 4) pe_int (fun _ _ => rfl)) pe_str (nomark _)))))) (fun _ _ _ _ _ => (pv 4))) (pe_lst pa_nil) (nomark _)) (pss_one (ps_ret pe_non)) pss_nil)
    (pss_one (ps_ret (pe_callTy call_tuple_of (by rfl) M.tuple (by decide +kernel) (pa_cons (pe_lc (own := [("one", 4)]) (g := gName 4) rfl sc_cells_of.nd (pi_list (pv 2)) (blkOk_by (own := [("one", 4)]) (N := ["line", "words", "some", "word", "one"]) (sc := defScope Zh.s_cells_of) (by decide +kernel)) (fun _ _ _ _ _ => (pg_name (i := 4) sc_cells_of.nd rfl (Or.inl rfl))) (fun _ _ _ _ _ => pts_nil) (fun _ _ _ _ _ => (pe_ix ix_tup (pv 4) pe_int (fun _ _ => rfl)))) pa_nil)))))))), fun line vs S hp p => by
    obtain ⟨v, r, rfl, pv, pr⟩ := dpAll_cons p
    obtain rfl := dpAll_nil pr
    have W := ws_wds hp
    refine r_asg (ev_words hp (ev_var rfl pv) (ev_c (.str _))) fun v1 S1 i1 p1 => ?_
    unfold cellsD
    refine r_if (b := !cC (ws line)) (et_is (et_or (et_val (ev_op rv_nes (ev_w W.ne (ev_var rfl p1) (ev_c (.int _))) (ev_c (.str _)))) fun _ => et_not (et_val (ev_chain rv_le (fun _ => rv_le) (ev_c (.int _)) (ev_lenW (ev_var rfl p1)) (ev_op rv_add (ev_c (.int _)) (ev_c (.int _)))))) ?_) (fun h => ?_) fun h => r_next ?_
    · unfold cC
      rw [Bool.not_and, Bool.not_and, Bool.not_and]
      rfl
    · rw [if_neg (by rw [Bool.not_eq_eq_eq_not.mp h]; decide)]
      exact r_stop (r_ret (ev_c .non))
    have hc : cC (ws line) = true := Bool.not_eq_eq_eq_not.mp h
    rw [if_pos hc]
    have l1 : 1 ≤ (ws line).length := W.ne
    generalize hl : (ws line).drop 1 = l at *
    have hlen : l.length < 100000 := by
      have h1 := W.lt
      have h2 := congrArg List.length hl
      rw [List.length_drop] at h2
      omega
    have hsh : ∀ x ∈ l, shortS x := fun x hx => W.sh x (List.mem_of_mem_drop (hl ▸ hx))
    refine r_asg (x := .list (l.map atomD)) (ev_is (ec_list (e := PyData.str) (l := l) (f := fun _ => true) (g := atomD) (by rw [← hl]; exact ev_from (ev_var rfl p1) (ev_c (.int _))) hlen (fun _ => rfl) (fun _ _ _ _ _ _ => et_yes)
      (fun a ha _ x S2 _ px => ev_call a (hsh a ha) (ea_one (ev_var rfl px)))) (by rw [filt_true])) fun v2 S2 i2 p2 => ?_
    refine r_if (b := !l.all isCell) (et_is (et_val (ev_op rv_nenil (ec_list (e := atomD) (l := l) (f := fun x => !isCell x) (g := atomD) (ev_var rfl p2) hlen (fun _ => rfl) (fun a ha x S3 i3 px => ?_) (fun a ha _ x S3 i3 px => ev_var rfl px)) (ev_lst ea_nil (by decide)))) ?_) (fun h => ?_) fun h => r_next ?_
    · cases hb : isCell a with
      | true =>
        rw [atom_cell hb] at px
        exact et_or (a := false) (c := false) (et_val (ev_op rv_isNone (ev_var rfl px) (ev_c .non))) fun _ => et_is (et_val (ev_op rv_nes (ev_op (rv_ixT (i := 0) rfl) (ev_var rfl px) (ev_c (.int _))) (ev_c (.str _)))) (by decide +kernel)
      | false =>
        rcases atom_out hb with z | ⟨d, z⟩
        · exact et_or (a := true) (c := true) (et_is (et_val (ev_op rv_isNone (ev_var rfl px) (ev_c .non))) z) fun y => by cases y
        · rw [z] at px
          exact et_or (a := false) (c := true) (et_val (ev_op rv_isNone (ev_var rfl px) (ev_c .non))) fun _ => et_is (et_val (ev_op rv_nes (ev_op (rv_ixT (i := 0) rfl) (ev_var rfl px) (ev_c (.int _))) (ev_c (.str _)))) (by decide +kernel)
    · rw [List.isEmpty_map, filt_none]
    · rw [if_neg (by rw [Bool.not_eq_eq_eq_not.mp h]; decide)]
      exact r_stop (r_ret (ev_c .non))
    have ha : l.all isCell = true := Bool.not_eq_eq_eq_not.mp h
    rw [if_pos ha]
    refine r_ret (ev_is (ev_cb rc_tupleL (ea_one (ec_list (e := atomD) (l := l) (f := fun _ => true) (g := cellV) (ev_var rfl p2) hlen (fun _ => rfl) (fun _ _ _ _ _ _ => et_yes) (fun a hm _ x S3 i3 px => ?_)))) (by rw [filt_true]))
    rw [atom_cell (List.all_eq_true.mp ha a hm)] at px
    exact ev_op (rv_ixT (i := 1) rfl) (ev_var rfl px) (ev_c (.int _))⟩
/-! the law's test of a line -/
theorem at_mapS {g : Str → PyData} {l : List Str} {n : Nat} (h : n < l.length) : atI (l.map g) (n : Int) = some (g (wd l n)) := by
  refine atI_nat ?_
  rw [List.getElem?_map]
  have e : l[n]? = some (wd l n) := by
    unfold wd
    rw [List.getD_eq_getElem?_getD, List.getElem?_eq_getElem h]
    rfl
  rw [e]
  rfl
theorem ltb {n m : Nat} (h : decide ((m : Int) = (n : Int)) = true) (k : Nat) (hk : k < n) : k < m := lt_of h k hk
theorem sc_L_is_line : FnScope ["_law_line", "_law_words", "_law_atoms", "_law_many", "_law_word", "_law_is_register"] ["_law_line"] (defScope Zh.s_L_is_line) := ⟨rfl, rfl, rfl, by decide +kernel, rfl, by decide +kernel, by decide +kernel⟩
theorem ok_L_is_line (M : Mo K mg) (D : Df K mg "_law_is_line" Zh.s_L_is_line) (f_L_atom : Fn CX0 P w K mg base "_law_atom" 1 ["_law_word"] (spAtom K)) (f_L_is_name : Fn CX0 P w K mg base "_law_is_name" 1 ["_law_word"] (spName K)) :
    Fn CX0 P w K mg base "_law_is_line" 2 ["_law_line"] (spLine K fun line => .bool (lineB line)) :=
  fn_mk D.1 D.2 (fun _ _ _ _ _ _ us hl => match us, hl with | [_], _ => rfl) sc_L_is_line (fun _ => rfl) fun cdv A outer s H E hr => ⟨_, (pss_cons (ps_set (i := 1) sc_L_is_line.nd rfl (Or.inl rfl) (pe_split (pv 0) pe_str))
    (pss_cons (ps_par (i := 2) (j := 3) rfl sc_L_is_line.nd rfl rfl (by decide) rfl rfl (pa_cons (pe_lc (own := [("_law_word", 4)]) (g := gName 4) rfl sc_L_is_line.nd (pi_list (pv 1)) (blkOk_by (own := [("_law_word", 4)]) (N := ["_law_line", "_law_words", "_law_atoms", "_law_many", "_law_word", "_law_is_register"]) (sc := defScope Zh.s_L_is_line) (by decide +kernel)) (fun _ _ _ _ _ => (pg_name (i := 4) sc_L_is_line.nd rfl (Or.inl rfl))) (fun _ _ _ _ _ => pts_nil) (fun _ _ _ _ _ => (pe_cmpR op_notN (pe_fn f_L_atom (hr.mono (by decide)) rfl (pa_cons (pv 4) pa_nil)) pe_non (nomark _)))) (pa_cons (pe_callB call_len (by rfl) M.len (by decide +kernel) (pa_cons (pv 1) pa_nil)) pa_nil)) (by rfl))
    (pss_cons (ps_set (i := 5) sc_L_is_line.nd rfl (Or.inl rfl) (pe_and (pe_cmpR op_gt (pv 3) pe_int (nomark _)) (pe_and (pe_cmpR op_eq (pe_callB call_len (by rfl) M.len (by decide +kernel) (pa_cons (pe_ix ix_list (pv 1) pe_int (fun _ _ => rfl)) pa_nil)) pe_int (nomark _)) (pe_one (pe_cmpR op_in_sign (pe_ix ix_list (pv 1) pe_int (fun _ _ => rfl)) pe_str (by rfl))))))
    (pss_cons (ps_if (pt_cmpR op_eq (pv 3) pe_int (nomark _)) (pss_one (ps_ret (pe_and (pe_cmpR op_eq (pe_slice sl_str (pv 0) (po_some (pe_un un_neg pe_int)) po_none) pe_str (nomark _)) (pe_one (pe_fn f_L_is_name (hr.mono (by decide)) rfl (pa_cons (pe_slice sl_str (pv 0) po_none (po_some (pe_un un_neg pe_int))) pa_nil)))))) pss_nil)
    (pss_cons (ps_if (pt_cmpR op_eq (pe_ix ix_list (pv 1) pe_int (fun _ _ => rfl)) pe_str (nomark _)) (pss_one (ps_ret (pe_and (pe_cmpR op_eq (pv 3) pe_int (nomark _)) (pe_one (pe_fn f_L_is_name (hr.mono (by decide)) rfl (pa_cons (pe_ix ix_list (pv 1) pe_int (fun _ _ => rfl)) pa_nil)))))) pss_nil)
    (pss_cons (ps_if (pt_cmpR op_eq (pe_ix ix_list (pv 1) pe_int (fun _ _ => rfl)) pe_str (nomark _)) (pss_one (ps_ret (pe_and (pe_cmpR op_eq (pv 3) pe_int (nomark _)) (pe_one (pe_or (pe_ix ix_list (pv 2) pe_int (fun _ _ => rfl)) (pe_one (pe_cmpR op_in_seq (pe_ix ix_list (pv 1) pe_int (fun _ _ => rfl)) (pe_lst (pa_cons pe_str (pa_cons pe_str pa_nil))) (by rfl)))))))) pss_nil)
    (pss_cons (ps_if (pt_cmpR op_eq (pe_ix ix_list (pv 1) pe_int (fun _ _ => rfl)) pe_str (nomark _)) (pss_one (ps_ret (pe_and (pe_cmpR op_eq (pv 3) pe_int (nomark _)) (pe_and (pe_ix ix_list (pv 2) pe_int (fun _ _ => rfl)) (pe_and (pe_ix ix_list (pv 2) pe_int (fun _ _ => rfl)) (pe_and (pe_cmpR op_in_seq (pe_ix ix_list (pv 1) pe_int (fun _ _ => rfl)) (pe_lst (pa_cons pe_str (pa_cons pe_str pa_nil))) (by rfl)) (pe_and (pe_cmpR op_eq (pe_ix ix_list (pv 1) pe_int (fun _ _ => rfl)) pe_str (nomark _)) (pe_one (pe_fn f_L_is_name (hr.mono (by decide)) rfl (pa_cons (pe_ix ix_list (pv 1) pe_int (fun _ _ => rfl)) pa_nil)))))))))) pss_nil)
    (pss_cons (ps_if (pt_cmpR op_eq (pe_ix ix_list (pv 1) pe_int (fun _ _ => rfl)) pe_str (nomark _)) (pss_one (ps_ret (pe_and (pe_cmpR op_eq (pv 3) pe_int (nomark _)) (pe_and (pv 5) (pe_and (pe_ix ix_list (pv 2) pe_int (fun _ _ => rfl)) (pe_and (pe_ix ix_list (pv 2) pe_int (fun _ _ => rfl)) (pe_one (pe_ix ix_list (pv 2) pe_int (fun _ _ => rfl))))))))) pss_nil)
    (pss_cons (ps_if (pt_cmpR op_eq (pe_ix ix_list (pv 1) pe_int (fun _ _ => rfl)) pe_str (nomark _)) (pss_one (ps_ret (pe_and (pe_cmpR op_eq (pv 3) pe_int (nomark _)) (pe_and (pv 5) (pe_one (pe_ix ix_list (pv 2) pe_int (fun _ _ => rfl))))))) pss_nil)
    (pss_cons (ps_if (pt_cmpR op_eq (pe_ix ix_list (pv 1) pe_int (fun _ _ => rfl)) pe_str (nomark _)) (pss_one (ps_ret (pe_and (pv 5) (pe_one (pe_or (pe_and (pe_cmpR op_eq (pv 3) pe_int (nomark _)) (pe_one (pe_ix ix_list (pv 2) pe_int (fun _ _ => rfl)))) (pe_one (pe_and (pe_cmpR op_eq (pv 3) pe_int (nomark _)) (pe_and (pe_ix ix_list (pv 2) pe_int (fun _ _ => rfl)) (pe_and (pe_ix ix_list (pv 2) pe_int (fun _ _ => rfl)) (pe_one (pe_cmpR op_in_seq (pe_ix ix_list (pv 1) pe_int (fun _ _ => rfl)) (pe_lst (pa_cons pe_str (pa_cons pe_str pa_nil))) (by rfl)))))))))))) pss_nil)
    (pss_cons (ps_if (pt_cmpR op_eq (pe_ix ix_list (pv 1) pe_int (fun _ _ => rfl)) pe_str (nomark _)) (pss_one (ps_ret (pe_and (pe_cmpR op_in_seq (pv 3) (pe_lst (pa_cons pe_int (pa_cons pe_int pa_nil))) (by rfl)) (pe_and (pe_ix ix_list (pv 2) pe_int (fun _ _ => rfl)) (pe_and (pe_ix ix_list (pv 2) pe_int (fun _ _ => rfl)) (pe_one (pe_or (pe_cmpR op_eq (pv 3) pe_int (nomark _)) (pe_one (pe_and (pe_ix ix_list (pv 2) pe_int (fun _ _ => rfl)) (pe_one (pe_cmpR op_in_seq (pe_ix ix_list (pv 1) pe_int (fun _ _ => rfl)) (pe_lst (pa_cons pe_str (pa_cons pe_str pa_nil))) (by rfl)))))))))))) pss_nil)
    (pss_one (ps_ret pe_bl))))))))))))), fun line vs S hp p => by
    obtain ⟨v, r, rfl, pv, pr⟩ := dpAll_cons p
    obtain rfl := dpAll_nil pr
    have W := ws_wds hp
    refine r_asg (ev_words hp (ev_var rfl pv) (ev_c (.str _))) fun v1 S1 i1 p1 => ?_
    refine r_par (x := .list ((ws line).map fun x => .bool (aB x))) (y := .int ((ws line).length : Nat)) (ea_cons (ev_is (ec_list (e := PyData.str) (l := ws line) (f := fun _ => true) (g := fun x => .bool (aB x)) (ev_var rfl p1) W.lt (fun _ => rfl) (fun _ _ _ _ _ _ => et_yes)
      (fun a ha _ x S3 i3 px => ev_op rv_notNone (ev_call a (W.sh a ha) (ea_one (ev_var rfl px))) (ev_c .non))) (by rw [filt_true])) (ea_one (ev_lenW (ev_var rfl p1)))) fun v2 v3 S2 i2 p2 p3 => ?_
    have q1 := dp_same i2 p1
    have qv := dp_same (i1.trans i2) pv
    clear p1 pv
    generalize hl : ws line = l at *
    have hm : ∀ σ : L2.St, σ[3]? = some (some v3) → EvD K (tVar 3) σ S2 (.int (l.length : Nat)) := fun σ hσ => ev_var hσ p3
    refine r_asg (x := .bool (decide ((l.length : Int) > 1) && isReg (wd l 1))) (ev_and (ev_op rv_gt (hm _ rfl) (ev_c (.int _))) fun h => ?_) fun v4 S3 i3 p4 => ?_
    · have l1 : 1 < l.length := by have := of_decide_eq_true h; omega
      refine ev_and (ev_op rv_eqi (ev_cb (rc_lenS (W.wd l1).le) (ea_one (ev_w l1 (ev_var rfl q1) (ev_c (.int _))))) (ev_c (.int _))) fun h2 => ?_
      have e : wd l 1 ∈ l := wd_mem l1
      obtain ⟨c, hc⟩ := one_sign (w := wd l 1) (by have := of_decide_eq_true h2; omega)
      have q : EvD K (tOp (rIxL K) (tVar 1) (tC (.int 1))) _ S2 (.str (wd l 1)) := ev_w l1 (ev_var (σ := ((((start ["_law_line", "_law_words", "_law_atoms", "_law_many", "_law_word", "_law_is_register"] [v]).set 1 (some v1)).set 2 (some v2)).set 3 (some v3))) rfl q1) (ev_c (.int _))
      rw [hc] at q ⊢
      refine ev_is (ev_op rv_sign q (ev_c (.str _))) ?_
      simp [sgn, inL]
    have r1 := dp_same i3 q1
    have r2 := dp_same i3 p2
    have r3 := dp_same i3 p3
    have rv := dp_same i3 qv
    have hn : EvD K (tVar 3) (((((start ["_law_line", "_law_words", "_law_atoms", "_law_many", "_law_word", "_law_is_register"] [v]).set 1 (some v1)).set 2 (some v2)).set 3 (some v3)).set 5 (some v4)) S3 (.int (l.length : Nat)) := ev_var rfl r3
    have hr : EvD K (tVar 5) (((((start ["_law_line", "_law_words", "_law_atoms", "_law_many", "_law_word", "_law_is_register"] [v]).set 1 (some v1)).set 2 (some v2)).set 3 (some v3)).set 5 (some v4)) S3 (.bool (decide ((l.length : Int) > 1) && isReg (wd l 1))) := ev_var rfl p4
    have hw : ∀ n, n < l.length → EvD K (tOp (rIxL K) (tVar 1) (tC (.int (n : Int)))) (((((start ["_law_line", "_law_words", "_law_atoms", "_law_many", "_law_word", "_law_is_register"] [v]).set 1 (some v1)).set 2 (some v2)).set 3 (some v3)).set 5 (some v4)) S3 (.str (wd l n)) := fun n hn => ev_w hn (ev_var rfl r1) (ev_c (.int _))
    have ha : ∀ n, n < l.length → EvD K (tOp (rIxL K) (tVar 2) (tC (.int (n : Int)))) (((((start ["_law_line", "_law_words", "_law_atoms", "_law_many", "_law_word", "_law_is_register"] [v]).set 1 (some v1)).set 2 (some v2)).set 3 (some v3)).set 5 (some v4)) S3 (.bool (aB (wd l n))) := fun n hn => ev_op (rv_ixL (at_mapS (g := fun x => .bool (aB x)) hn)) (ev_var rfl r2) (ev_c (.int _))
    unfold lineB lineL
    rw [hl]
    have hz : line.length ≤ sizeLine := hp.s.le
    have hs : shortS (headS line) := Nat.lt_of_le_of_lt (cutS_length _ _ _) hp.s
    have str2 : ∀ {σ : L2.St} {a b : Str}, EvD K (tLst (tCons (tC (.str a)) (tCons (tC (.str b)) tNil))) σ S3 (.list [.str a, .str b]) := ev_lst (ea_cons (ev_c (.str _)) (ea_one (ev_c (.str _)))) (lz 2 rfl)
    refine r_if (et_val (ev_op rv_eqi hn (ev_c (.int _)))) (fun h => ?_) fun h => r_next ?_
    · rw [if_pos h]
      exact r_stop (r_ret (ev_and (ev_op rv_eqs (ev_slS (ev_var rfl rv) eo_m1 eo_none hz) (ev_c (.str _))) fun _ => ev_call (headS line) hs (ea_one (ev_slS (ev_var rfl rv) eo_none eo_m1 hz))))
    rw [if_neg (by rw [h]; decide)]
    refine r_if (et_val (ev_op rv_eqs (hw 0 W.ne) (ev_c (.str _)))) (fun h => ?_) fun h => r_next ?_
    · rw [if_pos h]
      exact r_stop (r_ret (ev_and (ev_op rv_eqi hn (ev_c (.int _))) fun h2 => ev_call (wd l 1) (W.wd (ltb (n := 2) h2 1 (by decide))) (ea_one (hw 1 (ltb (n := 2) h2 1 (by decide))))))
    rw [if_neg (by rw [h]; decide)]
    refine r_if (et_val (ev_op rv_eqs (hw 0 W.ne) (ev_c (.str _)))) (fun h => ?_) fun h => r_next ?_
    · rw [if_pos h]
      exact r_stop (r_ret (ev_and (ev_op rv_eqi hn (ev_c (.int _))) fun h2 => ev_or (ha 1 (ltb (n := 2) h2 1 (by decide))) fun _ => ev_op (rv_inS (l := ["yes", "no"]) (.inl rfl)) (hw 1 (ltb (n := 2) h2 1 (by decide))) str2))
    rw [if_neg (by rw [h]; decide)]
    refine r_if (et_val (ev_op rv_eqs (hw 0 W.ne) (ev_c (.str _)))) (fun h => ?_) fun h => r_next ?_
    · rw [if_pos h]
      exact r_stop (r_ret (ev_and (ev_op rv_eqi hn (ev_c (.int _))) fun h2 => ev_and (ha 1 (ltb (n := 6) h2 1 (by decide))) fun _ => ev_and (ha 3 (ltb (n := 6) h2 3 (by decide))) fun _ => ev_and (ev_op (rv_inS (l := ["=", "<"]) (.inl rfl)) (hw 2 (ltb (n := 6) h2 2 (by decide))) str2) fun _ =>
        ev_and (ev_op rv_eqs (hw 4 (ltb (n := 6) h2 4 (by decide))) (ev_c (.str _))) fun _ => ev_call (wd l 5) (W.wd (ltb (n := 6) h2 5 (by decide))) (ea_one (hw 5 (ltb (n := 6) h2 5 (by decide))))))
    rw [if_neg (by rw [h]; decide)]
    refine r_if (et_val (ev_op rv_eqs (hw 0 W.ne) (ev_c (.str _)))) (fun h => ?_) fun h => r_next ?_
    · rw [if_pos h]
      exact r_stop (r_ret (ev_and (ev_op rv_eqi hn (ev_c (.int _))) fun h2 => ev_and hr fun _ => ev_and (ha 2 (ltb (n := 5) h2 2 (by decide))) fun _ => ev_and (ha 3 (ltb (n := 5) h2 3 (by decide))) fun _ => ha 4 (ltb (n := 5) h2 4 (by decide))))
    rw [if_neg (by rw [h]; decide)]
    refine r_if (et_val (ev_op rv_eqs (hw 0 W.ne) (ev_c (.str _)))) (fun h => ?_) fun h => r_next ?_
    · rw [if_pos h]
      exact r_stop (r_ret (ev_and (ev_op rv_eqi hn (ev_c (.int _))) fun h2 => ev_and hr fun _ => ha 2 (ltb (n := 3) h2 2 (by decide))))
    rw [if_neg (by rw [h]; decide)]
    refine r_if (et_val (ev_op rv_eqs (hw 0 W.ne) (ev_c (.str _)))) (fun h => ?_) fun h => r_next ?_
    · rw [if_pos h]
      exact r_stop (r_ret (ev_and hr fun _ => ev_or (ev_and (ev_op rv_eqi hn (ev_c (.int _))) fun h2 => ha 2 (ltb (n := 3) h2 2 (by decide))) fun _ => ev_and (ev_op rv_eqi hn (ev_c (.int _))) fun h2 => ev_and (ha 2 (ltb (n := 5) h2 2 (by decide))) fun _ =>
        ev_and (ha 4 (ltb (n := 5) h2 4 (by decide))) fun _ => ev_op (rv_inS (l := ["+", "-"]) (.inl rfl)) (hw 3 (ltb (n := 5) h2 3 (by decide))) str2))
    rw [if_neg (by rw [h]; decide)]
    refine r_if (et_val (ev_op rv_eqs (hw 0 W.ne) (ev_c (.str _)))) (fun h => ?_) fun h => r_next ?_
    · rw [if_pos h]
      refine r_stop (r_ret (ev_and (ev_op (rv_inI (l := [3, 5]) (.inl rfl)) hn (ev_lst (ea_cons (ev_c (.int _)) (ea_one (ev_c (.int _)))) (lz 2 rfl))) fun h2 => ?_))
      have l1 : 1 < l.length := mem_ints (a := 3) (b := 5) h2 (by decide) (by decide)
      have l2 : 2 < l.length := mem_ints (a := 3) (b := 5) h2 (by decide) (by decide)
      refine ev_and (ha 1 l1) fun _ => ev_and (ha 2 l2) fun _ => ev_or (ev_op rv_eqi hn (ev_c (.int _))) fun h3 => ?_
      have l5 : l.length = 5 := by
        have a := of_decide_eq_true h2
        have b := of_decide_eq_false h3
        simp only [List.mem_cons, List.not_mem_nil, or_false] at a
        omega
      exact ev_and (ha 4 (by omega)) fun _ => ev_op (rv_inS (l := ["+", "-"]) (.inl rfl)) (hw 3 (by omega)) str2
    rw [if_neg (by rw [h]; decide)]
    exact r_ret (ev_c (.bl _))⟩
/-! shared -/
def sharedW : List Str := ["read", "write", "swap", "answer"]
def isShared (line : Str) : Bool := decide (wd (ws line) 0 ∈ sharedW)
theorem sc_L_is_shared : FnScope ["_law_line"] ["_law_line"] (defScope Zh.s_L_is_shared) := ⟨rfl, rfl, rfl, by decide +kernel, rfl, by decide +kernel, by decide +kernel⟩
theorem ok_L_is_shared (M : Mo K mg) (D : Df K mg "_law_is_shared" Zh.s_L_is_shared) : Fn CX0 P w K mg base "_law_is_shared" 1 ["_law_line"] (spLine K fun line => .bool (isShared line)) :=
  fn_mk D.1 D.2 (fun _ _ _ _ _ _ us hl => match us, hl with | [_], _ => rfl) sc_L_is_shared (fun _ => rfl) fun cdv A outer s H E hr => ⟨_, (pss_one (ps_ret (pe_cmpR op_in_seq (pe_ix ix_list (pe_split (pv 0) pe_str) pe_int (fun _ _ => rfl)) (pe_lst (pa_cons pe_str (pa_cons pe_str (pa_cons pe_str (pa_cons pe_str pa_nil))))) (by rfl)))), fun line vs S hp p => by
    obtain ⟨v, r, rfl, pv, pr⟩ := dpAll_cons p
    obtain rfl := dpAll_nil pr
    exact r_ret (ev_op (rv_inS (l := sharedW) (.inl rfl)) (ev_w (ws_pos line) (ev_words hp (ev_var rfl pv) (ev_c (.str _))) (ev_c (.int _))) (ev_lst (ea_cons (ev_c (.str _)) (ea_cons (ev_c (.str _)) (ea_cons (ev_c (.str _)) (ea_one (ev_c (.str _)))))) (lz 4 rfl)))⟩
end
end Zb
set_option Elab.async false
set_option linter.all false
set_option maxRecDepth 100000
set_option maxHeartbeats 2000000
/-! The layer: things that are written, loops. -/
namespace Zb
open PySem PySem.Spec PyProof.Rows L2

/-- a list of one's own, not in the region -/
structure Mu (K : PySem.W.Frag) (S H : Hp) (l : Addr) (ds : List PyData) : Prop where
  out : S l = none
  has : ∃ xs, H l = some (.lst xs) ∧ DpAll K S xs ds
section
variable {K : PySem.W.Frag} {M : Addr → Prop} {σ : L2.St} {S S0 S1 S' H H0 H1 H' : Hp} {te ta tb : TE} {tt : TT} {tA : TA} {ds es : List PyData} {d : PyData} {v : V} {l : Addr} {xs : List V} {o : HO} {b : Bool} {D : Ends} {tz tu tw : TS} {j : Nat}
theorem Mu.ne (m : Mu K S H l ds) : H l ≠ none := by
  obtain ⟨xs, e, _⟩ := m.has
  rw [e]
  exact Option.some_ne_none _
theorem Mu.go (m : Mu K S H l ds) (g : Go M S H S' H') (h : ¬ M l) : Mu K S' H' l ds := by
  obtain ⟨xs, e, p⟩ := m.has
  exact ⟨g.out m.out m.ne, xs, g.at_ h e, dpAll_same g.s p⟩
theorem Mu.g0 (m : Mu K S H l ds) (g : G0 S H S' H') : Mu K S' H' l ds := m.go g fun z => z
/-- for good -/
theorem Mu.frz (m : Mu K S H l ds) (g : Go M S0 H0 S H) (h0 : H0 l = none) : ∃ S', Go M S0 H0 S' H ∧ Same S S' ∧ Rl K S' (.ref l) ds ∧ ∀ b, b ≠ l → S' b = S b := by
  obtain ⟨xs, e, p⟩ := m.has
  exact ⟨upd S l (.lst xs), g.frz m.out h0 e, same_upd m.out, ⟨l, xs, rfl, upd_same, dpAll_same (same_upd m.out) p⟩, fun b hb => upd_ne hb⟩
/-- a wider region of the same heap -/
theorem Go.thaw (e : Same S S1) (g : G0 S1 H S' H') : G0 S H S H' := ⟨Same.refl S, (e.trans g.s).trans g.i, g.h, g.t, fun _ a n => absurd a n⟩
/-- a step that writes only what is new since the start, or may be written -/
theorem Go.own {M' : Addr → Prop} (g : Go M' S0 H0 S H) (a : Go M S H S1 H1) (h : ∀ b, M b → M' b ∨ H0 b = none) : Go M' S0 H0 S1 H1 :=
  ⟨g.s.trans a.s, a.i, fun b u m e => a.h b u (fun z => (h b z).elim m fun y => by rw [y] at e; cases e) (g.h b u m e), fun b e => a.t b (g.t b e), fun b e n => by
    by_cases q : S b = none
    · have z := a.n b q n
      by_cases y : H0 b = none
      · exact y
      · exact absurd z (g.t b y)
    · exact g.n b e q⟩
/-- what is read while own things stand still -/
structure Sees (S H S1 : Hp) : Prop where
  s : Same S S1
  i : Same S1 H
theorem Sees.refl (i : Same S H) : Sees S H S := ⟨Same.refl S, i⟩
theorem Mu.see (m : Mu K S H l ds) (z : Sees S H S1) (h : S1 l = none) : ∃ S2, Sees S H S2 ∧ Same S1 S2 ∧ Rl K S2 (.ref l) ds ∧ ∀ b, b ≠ l → S2 b = S1 b := by
  obtain ⟨xs, e, p⟩ := m.has
  refine ⟨upd S1 l (.lst xs), ⟨z.s.trans (same_upd h), fun b u q => ?_⟩, same_upd h, ⟨l, xs, rfl, upd_same, dpAll_same (z.s.trans (same_upd h)) p⟩, fun b hb => upd_ne hb⟩
  by_cases hb : b = l
  · rw [hb, upd_same] at q; rw [hb, e]; exact q
  · rw [upd_ne hb] at q; exact z.i b u q
theorem Mu.see1 (m : Mu K S H l ds) (i : Same S H) : ∃ S2, Sees S H S2 ∧ Same S S2 ∧ Rl K S2 (.ref l) ds ∧ ∀ b, b ≠ l → S2 b = S b := m.see (Sees.refl i) m.out
/-! ### statements; what stands behind them goes on with the heap as it is -/
theorem q_asg (h : EvD K te σ S d) (i : Same S H) (k : ∀ v S1 H1, G0 S H S1 H1 → Dp K S1 v d → tz D (σ.set j (some v)) H1) : tSeq (tAsg te (gName j)) tz D σ H := h H i _ k
theorem q_asgN (h : EvN K te σ S ds) (i : Same S H) (k : ∀ l S1 H1, G0 S H S1 H1 → H l = none → Mu K S1 H1 l ds → tz D (σ.set j (some (.ref l))) H1) : tSeq (tAsg te (gName j)) tz D σ H :=
  h H i _ fun l xs S1 H1 g h0 h1 h2 p => k l S1 H1 g h0 ⟨h1, xs, h2, p⟩
theorem s_asg (h : EvD K te σ S d) (i : Same S H) (k : ∀ v S1 H1, G0 S H S1 H1 → Dp K S1 v d → D.nx (σ.set j (some v)) H1) : tAsg te (gName j) D σ H := h H i _ k
theorem s_asgN (h : EvN K te σ S ds) (i : Same S H) (k : ∀ l S1 H1, G0 S H S1 H1 → H l = none → Mu K S1 H1 l ds → D.nx (σ.set j (some (.ref l))) H1) : tAsg te (gName j) D σ H :=
  h H i _ fun l xs S1 H1 g h0 h1 h2 p => k l S1 H1 g h0 ⟨h1, xs, h2, p⟩
theorem s_asgR (h : EvR K te σ S ds) (i : Same S H) (k : ∀ v S1 H1, G0 S H S1 H1 → Rl K S1 v ds → D.nx (σ.set j (some v)) H1) : tAsg te (gName j) D σ H := h H i _ k
theorem q_asgR (h : EvR K te σ S ds) (i : Same S H) (k : ∀ v S1 H1, G0 S H S1 H1 → Rl K S1 v ds → tz D (σ.set j (some v)) H1) : tSeq (tAsg te (gName j)) tz D σ H := h H i _ k
/-- a flat value, read while own things stand still -/
theorem q_asgZ (z : Sees S H S1) (h : EvD K te σ S1 d) (hf : ∀ S v, Dp K S v d → ∀ S', Dp K S' v d) (k : ∀ v H1, G0 S H S H1 → (∀ S', Dp K S' v d) → tz D (σ.set j (some v)) H1) : tSeq (tAsg te (gName j)) tz D σ H :=
  h H z.i _ fun v S2 H2 g p => k v H2 (g.thaw z.s) fun S' => hf _ v p S'
theorem q_ret (h : EvD K te σ S d) (i : Same S H) (k : ∀ v S1 H1, G0 S H S1 H1 → Dp K S1 v d → D.rt v H1) : tRet te D σ H := h H i _ k
theorem q_if (z : Sees S H S1) (h : EvT tt σ S1 b) (h1 : b = true → ∀ H1, G0 S H S H1 → tu { D with nx := tz D } σ H1) (h2 : b = false → ∀ H1, G0 S H S H1 → tw { D with nx := tz D } σ H1) : tSeq (tIfS tt tu tw) tz D σ H :=
  h H z.i _ fun H1 g => by
    cases b with
    | true => exact h1 rfl H1 (Go.thaw z.s g)
    | false => exact h2 rfl H1 (Go.thaw z.s g)
theorem q_ifE (z : Sees S H S1) (h : EvT tt σ S1 b) (h1 : b = true → ∀ H1, G0 S H S H1 → tu D σ H1) (h2 : b = false → ∀ H1, G0 S H S H1 → tw D σ H1) : tIfS tt tu tw D σ H :=
  h H z.i _ fun H1 g => by
    cases b with
    | true => exact h1 rfl H1 (Go.thaw z.s g)
    | false => exact h2 rfl H1 (Go.thaw z.s g)
/-- l.append(e) -/
theorem s_appK (hv : σ[j]? = some (some (.ref l))) (m : Mu K S H l ds) (h : EvD K te σ S d) (i : Same S H) (hz : ds.length < 100000) (k : ∀ S1 H1, Go (· = l) S H S1 H1 → Mu K S1 H1 l (ds ++ [d]) → D.nx σ H1) :
    tDrop (tBM K "list" rAppend (tVar j) (tCons te tNil)) D σ H := by
  obtain ⟨xs, e, p⟩ := m.has
  refine ⟨.ref l, hv, .inl ⟨rfl, xs, SqL.of e⟩, h H i _ fun v S1 H1 g pv => ?_⟩
  have m1 := m.g0 g
  have e1 : H1 l = some (.lst xs) := g.same _ _ e
  refine ⟨l, xs, v, rfl, rfl, e1, ?_, ?_⟩
  · rw [dpAll_len p]
    exact Nat.lt_of_lt_of_le hz (by decide)
  · exact k S1 _ ((g.weak fun _ z => z.elim).mut m1.out (.inl rfl)) ⟨m1.out, xs ++ [v], upd_same, dpAll_append (dpAll_same g.s p) (.cons pv .nil)⟩
theorem q_app (hv : σ[j]? = some (some (.ref l))) (m : Mu K S H l ds) (h : EvD K te σ S d) (i : Same S H) (hz : ds.length < 100000) (k : ∀ S1 H1, Go (· = l) S H S1 H1 → Mu K S1 H1 l (ds ++ [d]) → tz D σ H1) :
    tSeq (tDrop (tBM K "list" rAppend (tVar j) (tCons te tNil))) tz D σ H := s_appK hv m h i hz k
/-- l.extend(e) -/
theorem s_extK (hv : σ[j]? = some (some (.ref l))) (m : Mu K S H l ds) (h : EvR K te σ S es) (i : Same S H) (hz : ds.length + es.length ≤ 100000) (k : ∀ S1 H1, Go (· = l) S H S1 H1 → Mu K S1 H1 l (ds ++ es) → D.nx σ H1) :
    tDrop (tBM K "list" rExtend (tVar j) (tCons te tNil)) D σ H := by
  obtain ⟨xs, e, p⟩ := m.has
  refine ⟨.ref l, hv, .inl ⟨rfl, xs, SqL.of e⟩, h H i _ fun v S1 H1 g pv => ?_⟩
  have m1 := m.g0 g
  have e1 : H1 l = some (.lst xs) := g.same _ _ e
  obtain ⟨c, ys, rfl, e2, p2⟩ := pv
  refine ⟨l, c, xs, ys, rfl, rfl, e1, g.i _ _ e2, ?_, ?_⟩
  · rw [dpAll_len p, dpAll_len p2]
    exact Nat.le_trans hz (by decide)
  · exact k S1 _ ((g.weak fun _ z => z.elim).mut m1.out (.inl rfl)) ⟨m1.out, xs ++ ys, upd_same, dpAll_append (dpAll_same g.s p) p2⟩
theorem dpAll_last : ∀ {ds : List PyData} {xs : List V}, DpAll K S xs (ds ++ [d]) → ∃ ys v, xs = ys ++ [v] ∧ DpAll K S ys ds ∧ Dp K S v d
  | [], _, h => by
    obtain ⟨v, r, rfl, pv, pr⟩ := dpAll_cons h
    rw [dpAll_nil pr]
    exact ⟨[], v, rfl, .nil, pv⟩
  | _ :: ds, _, h => by
    obtain ⟨v, r, rfl, pv, pr⟩ := dpAll_cons h
    obtain ⟨ys, u, rfl, p1, p2⟩ := dpAll_last pr
    exact ⟨v :: ys, u, rfl, .cons pv p1, p2⟩
/-- l.pop() -/
theorem w_pop {Q : VK} (hv : σ[j]? = some (some (.ref l))) (m : Mu K S H l (ds ++ [d])) (i : Same S H) (k : ∀ v H1, Go (· = l) S H S H1 → Mu K S H1 l ds → Dp K S v d → Q v H1) : tBM0 K "list" rPop (tVar j) σ H Q := by
  obtain ⟨xs, e, p⟩ := m.has
  obtain ⟨ys, v, rfl, py, pv⟩ := dpAll_last p
  refine ⟨.ref l, hv, .inl ⟨rfl, _, SqL.of e⟩, l, ys ++ [v], v, rfl, rfl, e, ?_, ?_⟩
  · rw [List.length_append, List.length_singleton, Nat.add_sub_cancel]
    exact List.getElem?_concat_length
  · rw [List.dropLast_concat]
    exact k v _ ((Go.refl i).mut m.out (.inl rfl)) ⟨m.out, ys, upd_same, py⟩ pv
/-! ### loops -/
theorem q_while {tc : TT} {tb : TS} (W : Nat → L2.St → Hp → Prop) (m0 : Nat) (h0 : W m0 σ H)
    (hs : ∀ m σ' H', W m σ' H' → ∃ S S1 b, Sees S H' S1 ∧ EvT tc σ' S1 b ∧ (b = true → ∀ H1, G0 S H' S H1 → ∃ N : L2.St → Hp → Prop, (∀ σ2 H2, N σ2 H2 → ∃ m', m' < m ∧ W m' σ2 H2) ∧ tb { D with nx := N, ct := N, bk := tz D } σ' H1) ∧ (b = false → ∀ H1, G0 S H' S H1 → tz D σ' H1)) :
    tSeq (tWhile tc tb) tz D σ H := ⟨W, ⟨m0, h0⟩, fun m σ' H' w => by
  obtain ⟨S, S1, b, z, e, ht, hf⟩ := hs m σ' H' w
  refine e H' z.i _ fun H1 g => ?_
  cases b with
  | true => rw [if_pos rfl]; exact ht rfl H1 (Go.thaw z.s g)
  | false => rw [if_neg Bool.false_ne_true]; exact hf rfl H1 (Go.thaw z.s g)⟩
theorem s_forR {wi : TI} {lo : Int} {n : Nat} {tb : TS} (hi : ∀ R : It → Hp → Prop, (∀ S' H', G0 S H S' H' → R (Itr lo n) H') → wi σ H R) (Pv : Nat → L2.St → Hp → Prop) (h0 : ∀ S1 H1, G0 S H S1 H1 → Pv 0 σ H1)
    (hs : ∀ i σ' H', i < n → Pv i σ' H' → tb { D with nx := Pv (i + 1), ct := Pv (i + 1), bk := D.nx } (σ'.set j (some (.int (lo + i)))) H') (hd : ∀ σ' H', Pv n σ' H' → D.nx σ' H') : tFor wi (gName j) tb D σ H :=
  hi _ fun S1 H1 g => for_range Pv (h0 S1 H1 g) hs hd
theorem q_forR {wi : TI} {lo : Int} {n : Nat} {tb : TS} (hi : ∀ R : It → Hp → Prop, (∀ S' H', G0 S H S' H' → R (Itr lo n) H') → wi σ H R) (Pv : Nat → L2.St → Hp → Prop) (h0 : ∀ S1 H1, G0 S H S1 H1 → Pv 0 σ H1)
    (hs : ∀ i σ' H', i < n → Pv i σ' H' → tb { D with nx := Pv (i + 1), ct := Pv (i + 1), bk := tz D } (σ'.set j (some (.int (lo + i)))) H') (hd : ∀ σ' H', Pv n σ' H' → tz D σ' H') : tSeq (tFor wi (gName j) tb) tz D σ H :=
  hi _ fun S1 H1 g => for_range Pv (h0 S1 H1 g) hs hd
/-- over data at hand -/
theorem forL_at {tb : TS} (p : Dp K S v (.list ds)) (Pv : Nat → L2.St → Hp → Prop) (i : Same S H) (h0 : Pv 0 σ H) (hl : ∀ n σ' H', n ≤ ds.length → Pv n σ' H' → Same S H')
    (hs : ∀ n d v σ' H', ds[n]? = some d → Dp K S v d → Pv n σ' H' → tb { D with nx := Pv (n + 1), ct := Pv (n + 1), bk := D.nx } (σ'.set j (some v)) H') (hd : ∀ σ' H', Pv ds.length σ' H' → D.nx σ' H') :
    ∃ a, v = .ref a ∧ (∃ xs, SqL K H a xs) ∧ ∃ W : Nat → Nat → L2.St → Hp → Prop, (∃ m, W 0 m σ H) ∧ ∀ i m σ H, W i m σ H →
      ((Itl K a).stop i H ∧ D.nx σ H) ∨ ((Itl K a).go i H ∧ ∃ N : L2.St → Hp → Prop, (∀ σ' H', N σ' H' → ∃ m', m' < m ∧ W (i + 1) m' σ' H') ∧ ∀ x H', (Itl K a).yld i H x H' → gName j x σ H' fun σ2 H2 => tb { D with nx := N, ct := N, bk := D.nx } σ2 H2) := by
  obtain ⟨a, xs, rfl, hq, ha⟩ := dp_list p
  have hx := dpAll_len ha
  refine ⟨a, rfl, ⟨xs, sqL_same i hq⟩, for_list Pv h0 (fun n σ' H' hn pv => sqL_same (hl n σ' H' (hx ▸ hn) pv) hq) (fun n x σ' H' hn pv => ?_) fun σ' H' pv => hd σ' H' (hx ▸ pv)⟩
  obtain ⟨d, hd, pd⟩ := dpAll_of ha hn
  exact hs n d x σ' H' hd pd pv
/-- over a tuple at hand -/
theorem forT_at {tb : TS} (p : Dp K S v (.tuple ds)) (Pv : Nat → L2.St → Hp → Prop) (i : Same S H) (h0 : Pv 0 σ H) (hl : ∀ n σ' H', n ≤ ds.length → Pv n σ' H' → Same S H')
    (hs : ∀ n d v σ' H', ds[n]? = some d → Dp K S v d → Pv n σ' H' → tb { D with nx := Pv (n + 1), ct := Pv (n + 1), bk := D.nx } (σ'.set j (some v)) H') (hd : ∀ σ' H', Pv ds.length σ' H' → D.nx σ' H') :
    ∃ a, v = .ref a ∧ (∃ xs, SqT K H a xs) ∧ ∃ W : Nat → Nat → L2.St → Hp → Prop, (∃ m, W 0 m σ H) ∧ ∀ i m σ H, W i m σ H →
      ((Itt K a).stop i H ∧ D.nx σ H) ∨ ((Itt K a).go i H ∧ ∃ N : L2.St → Hp → Prop, (∀ σ' H', N σ' H' → ∃ m', m' < m ∧ W (i + 1) m' σ' H') ∧ ∀ x H', (Itt K a).yld i H x H' → gName j x σ H' fun σ2 H2 => tb { D with nx := N, ct := N, bk := D.nx } σ2 H2) := by
  obtain ⟨a, xs, rfl, hq, ha⟩ := dp_tuple p
  have hx := dpAll_len ha
  refine ⟨a, rfl, ⟨xs, sqT_same i hq⟩, for_tup Pv h0 (fun n σ' H' hn pv => sqT_same (hl n σ' H' (hx ▸ hn) pv) hq) (fun n x σ' H' hn pv => ?_) fun σ' H' pv => hd σ' H' (hx ▸ pv)⟩
  obtain ⟨d, hd, pd⟩ := dpAll_of ha hn
  exact hs n d x σ' H' hd pd pv
end
/-! ### promises of a freer kind -/
/-- post: entry region and heap, what comes, region and heap then; err: an error's class, dict and heap -/
def spG (K : PySem.W.Frag) {ι : Type} (arg : ι → List PyData) (pre : ι → Prop) (post : ι → Hp → Hp → V → Hp → Hp → Prop) (err : ι → Hp → Hp → Value → Option Addr → Hp → Prop) : Sp := fun vs H Q E => ∃ (i : ι) (S : Hp), Same S H ∧ DpAll K S vs (arg i) ∧ pre i ∧
  (∀ v S' H', G0 S H S' H' → post i S H v S' H' → Q v H') ∧ ∀ c d H', err i S H c d H' → E c d H'
abbrev noErr {ι : Type} : ι → Hp → Hp → Value → Option Addr → Hp → Prop := fun _ _ _ _ _ _ => False
/-- a new list -/
def newL (K : PySem.W.Frag) {ι : Type} (res : ι → List PyData) : ι → Hp → Hp → V → Hp → Hp → Prop := fun i _ H v S' H' => ∃ l xs, v = .ref l ∧ H l = none ∧ S' l = none ∧ H' l = some (.lst xs) ∧ DpAll K S' xs (res i)
abbrev spN (K : PySem.W.Frag) {ι : Type} (arg : ι → List PyData) (pre : ι → Prop) (res : ι → List PyData) : Sp := spG K arg pre (newL K res) noErr
section
variable {K : PySem.W.Frag} {σ : L2.St} {S : Hp} {ta : TA} {E : XK}
theorem en_call {ι : Type} {arg : ι → List PyData} {pre : ι → Prop} {res : ι → List PyData} (i : ι) (hp : pre i) (ha : EvA K ta σ S (arg i)) : EvN K (tCall (spN K arg pre res) [] E ta) σ S (res i) := fun H j Q q =>
  ha H j _ fun us S1 H1 g p => by
    show spG K arg pre (newL K res) noErr (us ++ []) H1 Q E
    rw [List.append_nil]
    refine ⟨i, S1, g.i, p, hp, fun v S2 H2 g2 p2 => ?_, fun _ _ _ z => z.elim⟩
    obtain ⟨l, xs, rfl, h0, h1, h2, pp⟩ := p2
    exact q l xs S2 H2 (g.trans g2) (g.fresh h0) h1 h2 pp
end
section
variable {P : Program} {w : World} {K : PySem.W.Frag} {mg : Str → Option Value} {base : Heap}
theorem fn_mkG {x : Str} {st : Stmt} {N ps : List Str} {k : Nat} {ι : Type} {arg : ι → List PyData} {pre : ι → Prop} {post : ι → Hp → Hp → V → Hp → Hp → Prop}
    (F : ∃ fd, FunD K x x (defArgs st) (defBody st) (defScope st) [] [] (He.ga K x) fd) (g : mg x = some (.ref (He.ga K x)))
    (b : ∀ (kV doc pm : Value) (an : Option Addr) (cdv ct : Value) (us : List Value), us.length = ps.length → bindArgs (PySem.W.fnOf x x (defArgs st) (defBody st) (defScope st) .none kV doc pm an cdv ct) ⟨us, []⟩ = pure (ps.zip us))
    (sc : FnScope N ps (defScope st)) (hl : ∀ i, (arg i).length = ps.length)
    (hb : ∀ (cdv : Value) (A : Around) (outer : List Env) (s : Shared) (H : Hp) (E : XK), Room k (A.deeper (envOfC x (defScope st) s.heap.objs.size (He.ga K x) cdv)) →
      ∃ t, PSs (cxOf CX0 P w K mg base N x (defScope st) (He.ga K x) cdv A outer s H E).nox (defBody st) t ∧ ∀ i vs S H, Same S H → pre i → DpAll K S vs (arg i) → ∀ D : Ends, (∀ v S' H', G0 S H S' H' → post i S H v S' H' → D.rt v H') → t D (start N vs) H) :
    Fn CX0 P w K mg base x (k + 1) ps (spG K arg pre post noErr) := by
  obtain ⟨fd, F⟩ := F
  refine ⟨⟨fd, F.ok sc (fun vs H Q E h => ?_) (fun cdv A outer s H vs Q E hr h => ?_), F.bindsN b⟩, F.kp, g⟩
  · obtain ⟨i, S, _, p, _⟩ := h
    rw [dpAll_len p]
    exact hl i
  · obtain ⟨i, S, j, p, hp, q, _⟩ := h
    obtain ⟨t, h1, h2⟩ := hb cdv A outer s H E hr
    exact ⟨t, h1.nox, h2 i vs S H j hp p _ q⟩
end
end Zb
set_option Elab.async false
set_option linter.all false
set_option maxRecDepth 100000
set_option maxHeartbeats 4000000
/-! The rows of a method: labels, ways on, what is wrong. -/
namespace Zb
open PySem PySem.Spec PyProof.Rows L2
abbrev Valid (line : Str) : Prop := isNone (rowD line) = false
def hdW (line : Str) : Str := wd (ws line) 0
def rowHd (line : Str) : Str := if decide (((ws line).length : Int) = 1) = true then "label" else hdW line
/-- the label a jump asks for -/
def tgt (line : Str) : Str := wd (ws line) ((ws line).length - 1) ++ ":"
theorem one_len {n : Nat} (h : n = 1) : decide ((n : Int) = 1) = true := by rw [h]; rfl
theorem not_one {n : Nat} (h : n ≠ 1) : decide ((n : Int) = 1) = false := decide_eq_false (by omega)
theorem rowHd_one {line : Str} (h : (ws line).length = 1) : rowHd line = "label" := by unfold rowHd; rw [if_pos (one_len h)]
theorem rowHd_more {line : Str} (h : (ws line).length ≠ 1) : rowHd line = hdW line := by unfold rowHd; rw [if_neg (by rw [not_one h]; decide)]
structure RowF (line : Str) (r : List PyData) : Prop where
  go : rowHd line = "go" → ∃ nm, r = [.str nm] ∧ nm ++ ":" = tgt line ∧ isName nm = true
  iff : rowHd line = "if" → ∃ op x y nm, r = [op, x, y, .str nm] ∧ nm ++ ":" = tgt line ∧ isName nm = true
  lab : rowHd line = "label" → ∃ nm, r = [.str nm] ∧ line = nm ++ ":" ∧ isName nm = true
  one : (ws line).length = 1 → ∃ nm, line = nm ++ ":" ∧ isName nm = true
theorem row_shape {line : Str} (h : Valid line) : ∃ r, rowD line = .tuple (.str (rowHd line) :: r) ∧ RowF line r := by
  have q := rowK h
  generalize rowD line = d at q
  cases q with
  | @lab nm h1 hn =>
    have e := (lab_of hn).1
    have e1 : (ws line).length = 1 := by rw [h1, e]; rfl
    refine ⟨[.str nm], by rw [rowHd_one e1], fun z => ?_, fun z => ?_, fun _ => ⟨nm, rfl, h1, hn⟩, fun _ => ⟨nm, h1, hn⟩⟩
    · rw [rowHd_one e1] at z; exact absurd z (by decide +kernel)
    · rw [rowHd_one e1] at z; exact absurd z (by decide +kernel)
  | @go nm h0 h1 hl hn =>
    have e1 : (ws line).length ≠ 1 := by omega
    have e0 : rowHd line = "go" := by rw [rowHd_more e1]; exact h0
    refine ⟨[.str nm], by rw [e0], fun _ => ⟨nm, rfl, ?_, hn⟩, fun z => ?_, fun z => ?_, fun z => absurd z e1⟩
    · unfold tgt; rw [hl, ← h1]
    · rw [e0] at z; exact absurd z (by decide +kernel)
    · rw [e0] at z; exact absurd z (by decide +kernel)
  | @iff op nm x y h0 h1 hl hn hop hx hy =>
    have e1 : (ws line).length ≠ 1 := by omega
    have e0 : rowHd line = "if" := by rw [rowHd_more e1]; exact h0
    refine ⟨[.str op, x, y, .str nm], by rw [e0], fun z => ?_, fun _ => ⟨.str op, x, y, nm, rfl, ?_, hn⟩, fun z => ?_, fun z => absurd z e1⟩
    · rw [e0] at z; exact absurd z (by decide +kernel)
    · unfold tgt; rw [hl, ← h1]
    · rw [e0] at z; exact absurd z (by decide +kernel)
  | @oth k r hk h0 hl hr =>
    have e1 : (ws line).length ≠ 1 := by omega
    have e0 : rowHd line = k := by rw [rowHd_more e1]; exact h0
    refine ⟨r, by rw [e0], fun z => ?_, fun z => ?_, fun z => ?_, fun z => absurd z e1⟩
    · rw [e0] at z; rw [z] at hk; exact absurd hk (by decide +kernel)
    · rw [e0] at z; rw [z] at hk; exact absurd hk (by decide +kernel)
    · rw [e0] at z; rw [z] at hk; exact absurd hk (by decide +kernel)
/-- the words that neither end with a colon nor are the label's own -/
theorem hd_kw {line k : Str} (h : Valid line) (h1 : lastS k ≠ ":") (h2 : k ≠ "label") : (rowHd line = k ↔ hdW line = k) := by
  by_cases c : (ws line).length = 1
  · obtain ⟨r, _, F⟩ := row_shape h
    obtain ⟨nm, e, hn⟩ := F.one c
    rw [rowHd_one c]
    refine ⟨fun z => absurd z.symm h2, fun z => ?_⟩
    have w0 : hdW line = line := by
      unfold hdW
      rw [ws_one c]
      rfl
    rw [w0, e] at z
    rw [← z, (head_app nm).2] at h1
    exact absurd rfl h1
  · rw [rowHd_more c]
theorem str_beq (a b : Str) : (a == b) = decide (a = b) := by
  by_cases h : a = b
  · rw [h, decide_eq_true rfl]; exact beq_self_eq_true b
  · rw [decide_eq_false h]; exact beq_eq_false_iff_ne.mpr h
theorem eqv_strs (a b : Str) : PyData.eqv (.str a) (.str b) = decide (a = b) := by
  simp only [PyData.eqv, str_beq]
/-- a row is a label's row just where its line is the label's line -/
theorem eqv_lab {line nm : Str} (h : Valid line) (hn : isName nm = true) : PyData.eqv (rowD line) (.tuple [.str "label", .str nm]) = decide (line = nm ++ ":") := by
  obtain ⟨r, e, F⟩ := row_shape h
  rw [e]
  by_cases c : rowHd line = "label"
  · obtain ⟨nm', rfl, el, hn'⟩ := F.lab c
    rw [c, el]
    simp only [PyData.eqv, PyData.eqvAll, str_beq, decide_true, Bool.true_and, Bool.and_true]
    by_cases q : nm' = nm
    · rw [q, decide_eq_true rfl, decide_eq_true rfl]
    · rw [decide_eq_false q, decide_eq_false fun z => q ?_]
      have := congrArg headS z
      rwa [(head_app nm').1, (head_app nm).1] at this
  · have n : line ≠ nm ++ ":" := fun z => c (rowHd_one (by rw [z, (lab_of hn).1]; rfl))
    rw [decide_eq_false n]
    simp only [PyData.eqv, PyData.eqvAll, str_beq, decide_eq_false c, Bool.false_and]
theorem any_lab {l : List Str} (h : ∀ x ∈ l, Valid x) {nm : Str} (hn : isName nm = true) : ((l.map rowD).any fun z => PyData.eqv z (.tuple [.str "label", .str nm])) = decide (nm ++ ":" ∈ l) := by
  induction l with
  | nil => rfl
  | cons a l ih =>
    rw [List.map_cons, List.any_cons, ih fun x hx => h x (List.mem_cons_of_mem _ hx), eqv_lab (h a List.mem_cons_self) hn, ← Bool.decide_or]
    refine decide_eq_decide.mpr ?_
    rw [List.mem_cons]
    exact ⟨fun z => z.imp Eq.symm id, fun z => z.imp Eq.symm id⟩
theorem shaped_rows {l : List Str} (h : ∀ x ∈ l, Valid x) : SeqAt.shaped (.list (l.map rowD)) = true := shaped_list fun d hd => by
  obtain ⟨x, hx, rfl⟩ := List.mem_map.mp hd
  have := (rowK (h x hx)).lay
  exact ⟨this.1, by omega⟩
theorem shaped_lab {nm : Str} (hn : isName nm = true) : SeqAt.shaped (.tuple [.str "label", .str nm]) = true := by
  have q : Lay (.tuple [.str "label", .str nm]) := by
    have := lay_tup (all2 (s30 (w := "label") (by decide +kernel)) (s30 (ok_name hn)))
    exact ⟨this.1, by omega⟩
  unfold SeqAt.shaped
  rw [q.1, Bool.true_and]
  exact decide_eq_true (Nat.le_trans q.2 (by decide))
/-! ### ways on -/
def isAns (line : Str) : Bool := decide (hdW line = "answer")
def isGo (line : Str) : Bool := decide (hdW line = "go")
def isIf (line : Str) : Bool := decide (hdW line = "if")
abbrev at' (lines : List Str) (n : Nat) : Str := lines.getD n Str.empty
def place (lines : List Str) (x : Str) : Nat := lines.idxOf x
def nextP (lines : List Str) (n : Nat) : List Nat :=
  if isAns (at' lines n) = true then [] else if isGo (at' lines n) = true then [place lines (tgt (at' lines n))]
  else [n + 1] ++ (if isIf (at' lines n) = true then [place lines (tgt (at' lines n))] else [])
def nextL (lines : List Str) (n : Nat) : List Nat :=
  if isAns (at' lines n) = true then [] else
    if isGo (at' lines n) = true then (if decide (hdW (at' lines n) ∈ (["go", "if"] : List Str)) = true then [place lines (tgt (at' lines n))] else [])
    else (if decide (hdW (at' lines n) ∈ (["go", "if"] : List Str)) = true then [place lines (tgt (at' lines n))] else []) ++ [n + 1]
theorem jump_in {line : Str} : decide (hdW line ∈ (["go", "if"] : List Str)) = (isGo line || isIf line) := by
  unfold isGo isIf
  rw [← Bool.decide_or]
  exact decide_eq_decide.mpr (by simp)
theorem next_mem (lines : List Str) (n t : Nat) : t ∈ nextL lines n ↔ t ∈ nextP lines n := by
  unfold nextL nextP
  rw [jump_in]
  cases isAns (at' lines n) <;> cases isGo (at' lines n) <;> cases isIf (at' lines n) <;> simp [or_comm]
theorem nextL_len (lines : List Str) (n : Nat) : (nextL lines n).length ≤ 2 := by
  unfold nextL
  rw [jump_in]
  cases isAns (at' lines n) <;> cases isGo (at' lines n) <;> cases isIf (at' lines n) <;> simp
/-- what is met from a place -/
inductive Met (lines : List Str) (sh : Nat → Bool) (s : Nat) : Nat → Prop
  | one {t : Nat} : t ∈ nextP lines s → Met lines sh s t
  | more {u t : Nat} : Met lines sh s u → u ≠ s → u ≠ lines.length → sh u = false → t ∈ nextP lines u → Met lines sh s t
def isShared' (lines : List Str) (n : Nat) : Bool := decide (hdW (at' lines n) ∈ (["read", "write", "swap", "answer"] : List Str))
def RunsOn (lines : List Str) (s : Nat) : Prop := Met lines (isShared' lines) s lines.length ∨ Met lines (isShared' lines) s s
noncomputable def runB (lines : List Str) (s : Nat) : Bool := @decide (RunsOn lines s) (Classical.propDecidable _)
theorem runB_true {lines : List Str} {s : Nat} (h : RunsOn lines s) : runB lines s = true := @decide_eq_true _ (Classical.propDecidable _) h
theorem runB_false {lines : List Str} {s : Nat} (h : ¬ RunsOn lines s) : runB lines s = false := @decide_eq_false _ (Classical.propDecidable _) h
/-- nothing more is met -/
theorem runs_closed {lines : List Str} {s : Nat} (known : List Nat) (h : ∀ u, u = s ∨ u ∈ known → ∀ t ∈ nextP lines u, t ≠ s ∧ t ≠ lines.length ∧ (isShared' lines t = true ∨ t ∈ known)) : ¬ RunsOn lines s := by
  have key : ∀ t, Met lines (isShared' lines) s t → t ≠ s ∧ t ≠ lines.length ∧ (isShared' lines t = true ∨ t ∈ known) := by
    intro t ht
    induction ht with
    | one m => exact h s (.inl rfl) _ m
    | more a n1 n2 n3 m ih =>
      rcases ih.2.2 with z | z
      · rw [n3] at z; cases z
      · exact h _ (.inr z) _ m
  rintro (z | z)
  · exact (key _ z).2.1 rfl
  · exact (key _ z).1 rfl
def isOne (line : Str) : Bool := decide (((ws line).length : Int) = 1)
def badLab (lines : List Str) (n : Nat) : Bool := (isOne (at' lines n) && decide (at' lines n ∈ lines.take n)) || (decide (hdW (at' lines n) ∈ (["go", "if"] : List Str)) && !decide (tgt (at' lines n) ∈ lines))
noncomputable def badRun (lines : List Str) (n : Nat) : Bool := (decide ((n : Int) + 1 = lines.length) && !decide (hdW (at' lines n) ∈ (["answer", "go"] : List Str))) || (!isShared' lines n && runB lines n)
noncomputable def wrongM (lines : List Str) : Option Nat := match (List.range lines.length).find? (badLab lines) with
  | some n => some n
  | none => (List.range lines.length).find? (badRun lines)
def optD : Option Nat → PyData
  | none => .none
  | some n => .int (n : Int)
theorem find_at {f : Nat → Bool} {n i : Nat} (hi : i < n) (h : ∀ m, m < i → f m = false) (hf : f i = true) : (List.range n).find? f = some i := by
  rw [List.find?_range_eq_some]
  exact ⟨hf, List.mem_range.mpr hi, fun j hj => by rw [h j hj]; rfl⟩
theorem find_no {f : Nat → Bool} {n : Nat} (h : ∀ m, m < n → f m = false) : (List.range n).find? f = none := by
  rw [List.find?_eq_none]
  intro x hx
  rw [h x (List.mem_range.mp hx)]
  decide
end Zb
set_option Elab.async false
set_option linter.all false
set_option maxRecDepth 100000
set_option maxHeartbeats 4000000
/-! The two searches, as steps over lists. -/
namespace Zb
open PySem PySem.Spec PyProof.Rows L2
theorem nodup_len {l : List Nat} {n : Nat} (h : l.Nodup) (hs : ∀ x ∈ l, x < n) : l.length ≤ n := by
  have := List.Nodup.length_le_of_subset (l₂ := List.range n) h fun x hx => List.mem_range.mpr (hs x hx)
  rwa [List.length_range] at this
/-- every jump has its label -/
def Labs (lines : List Str) : Prop := ∀ x ∈ lines, hdW x = "go" ∨ hdW x = "if" → tgt x ∈ lines
theorem next_le {lines : List Str} (L : Labs lines) {u t : Nat} (hu : u < lines.length) (h : t ∈ nextP lines u) : t ≤ lines.length := by
  have hm : at' lines u ∈ lines := wd_mem hu
  unfold nextP at h
  cases ha : isAns (at' lines u) with
  | true => rw [ha, if_pos rfl] at h; cases h
  | false =>
    rw [ha, if_neg Bool.false_ne_true] at h
    cases hg : isGo (at' lines u) with
    | true =>
      rw [hg, if_pos rfl] at h
      rw [List.mem_singleton.mp h]
      exact Nat.le_of_lt (List.idxOf_lt_length_of_mem (L _ hm (.inl (of_decide_eq_true hg))))
    | false =>
      rw [hg, if_neg Bool.false_ne_true] at h
      rcases List.mem_append.mp h with h | h
      · rw [List.mem_singleton.mp h]; exact hu
      · cases hi : isIf (at' lines u) with
        | false => rw [hi, if_neg Bool.false_ne_true] at h; cases h
        | true =>
          rw [hi, if_pos rfl] at h
          rw [List.mem_singleton.mp h]
          exact Nat.le_of_lt (List.idxOf_lt_length_of_mem (L _ hm (.inr (of_decide_eq_true hi))))
section
variable {lines : List Str} {s : Nat}
abbrev Fine (lines : List Str) (s : Nat) (known : List Nat) (t : Nat) : Prop := t ≠ s ∧ t ≠ lines.length ∧ (isShared' lines t = true ∨ t ∈ known)
theorem Fine.more {known known' : List Nat} {t : Nat} (h : Fine lines s known t) (e : ∀ x ∈ known, x ∈ known') : Fine lines s known' t := ⟨h.1, h.2.1, h.2.2.imp id (e t)⟩
/-- what is known -/
structure Kn (lines : List Str) (s : Nat) (known : List Nat) : Prop where
  nd : known.Nodup
  a : ∀ x ∈ known, Met lines (isShared' lines) s x ∧ x ≠ s ∧ x < lines.length ∧ isShared' lines x = false
theorem Kn.len {known : List Nat} (h : Kn lines s known) : known.length ≤ lines.length := nodup_len h.nd fun x hx => (h.a x hx).2.2.1
theorem Kn.met {known : List Nat} (h : Kn lines s known) {u t : Nat} (hu : u = s ∨ u ∈ known) (ht : t ∈ nextP lines u) : Met lines (isShared' lines) s t := by
  rcases hu with rfl | hu
  · exact .one ht
  · obtain ⟨a, b, c, d⟩ := h.a u hu
    exact .more a b (Nat.ne_of_lt c) d ht
theorem Kn.add {known : List Nat} (h : Kn lines s known) {t : Nat} (hm : Met lines (isShared' lines) s t) (h1 : t ≠ s) (h2 : t < lines.length) (h3 : isShared' lines t = false) (h4 : t ∉ known) : Kn lines s (known ++ [t]) := by
  refine ⟨?_, fun x hx => ?_⟩
  · rw [List.nodup_append]
    exact ⟨h.nd, by simp, fun a ha b hb => by
      rw [List.mem_singleton.mp hb]
      rintro rfl
      exact h4 ha⟩
  · rcases List.mem_append.mp hx with hx | hx
    · exact h.a x hx
    · rw [List.mem_singleton.mp hx]
      exact ⟨hm, h1, h2, h3⟩
/-- the program's search -/
structure LP (lines : List Str) (s : Nat) (known last : List Nat) : Prop where
  k : Kn lines s known
  b : ∀ x ∈ last, x = s ∨ x ∈ known
  c : ∀ x, (x = s ∨ x ∈ known) → x ∉ last → ∀ t ∈ nextP lines x, Fine lines s known t
theorem LP.start : LP lines s [] [s] := ⟨⟨.nil, by simp⟩, by simp, by simp⟩
theorem LP.stop {known : List Nat} (h : LP lines s known []) : ¬ RunsOn lines s := runs_closed known fun u hu => h.c u hu (by simp)
/-- u is left, i of its ways are seen -/
structure LPi (lines : List Str) (s u i : Nat) (known last : List Nat) : Prop where
  k : Kn lines s known
  hu : u = s ∨ u ∈ known
  b : ∀ x ∈ last, x = s ∨ x ∈ known
  c : ∀ x, (x = s ∨ x ∈ known) → x ∉ last → x ≠ u → ∀ t ∈ nextP lines x, Fine lines s known t
  d : ∀ t ∈ (nextP lines u).take i, Fine lines s known t
theorem LP.pop {known last : List Nat} {u : Nat} (h : LP lines s known (last ++ [u])) : LPi lines s u 0 known last :=
  ⟨h.k, h.b u (by simp), fun x hx => h.b x (by simp [hx]), fun x hx h1 h2 => h.c x hx (by simp [h1, h2]), by simp⟩
theorem LPi.done {known last : List Nat} {u : Nat} (h : LPi lines s u (nextP lines u).length known last) : LP lines s known last :=
  ⟨h.k, h.b, fun x hx h1 => by
    by_cases e : x = u
    · rw [e]
      have := h.d
      rwa [List.take_length] at this
    · exact h.c x hx h1 e⟩
theorem take_snoc {α : Type} {l : List α} {i : Nat} {t x : α} (h : l[i]? = some t) (hx : x ∈ l.take (i + 1)) : x ∈ l.take i ∨ x = t := by
  rw [List.take_add_one, h] at hx
  simpa using hx
theorem LPi.skip {known last : List Nat} {u i t : Nat} (h : LPi lines s u i known last) (ht : (nextP lines u)[i]? = some t) (hf : Fine lines s known t) : LPi lines s u (i + 1) known last :=
  ⟨h.k, h.hu, h.b, h.c, fun x hx => by
    rcases take_snoc ht hx with z | rfl
    · exact h.d x z
    · exact hf⟩
theorem LPi.push {known last : List Nat} {u i t : Nat} (L : Labs lines) (hs : s < lines.length) (h : LPi lines s u i known last) (ht : (nextP lines u)[i]? = some t) (h1 : t ≠ s) (h2 : t ≠ lines.length) (h3 : isShared' lines t = false) (h4 : t ∉ known) : LPi lines s u (i + 1) (known ++ [t]) (last ++ [t]) := by
  have mt := List.mem_of_getElem? ht
  have ul : u < lines.length := by
    rcases h.hu with rfl | z
    · exact hs
    · exact (h.k.a u z).2.2.1
  have tl : t < lines.length := Nat.lt_of_le_of_ne (next_le L ul mt) h2
  have mono : ∀ x ∈ known, x ∈ known ++ [t] := fun x hx => by simp [hx]
  refine ⟨h.k.add (h.k.met h.hu mt) h1 tl h3 h4, h.hu.imp id (mono u), fun x hx => ?_, fun x hx n1 n2 y hy => ?_, fun x hx => ?_⟩
  · rcases List.mem_append.mp hx with z | z
    · exact (h.b x z).imp id (mono x)
    · exact .inr (by simp [List.mem_singleton.mp z])
  · have n3 : x ∉ last := fun z => n1 (by simp [z])
    have n4 : x ≠ t := fun z => n1 (by simp [z])
    refine (h.c x (hx.imp id fun z => ?_) n3 n2 y hy).more mono
    rcases List.mem_append.mp z with z | z
    · exact z
    · exact absurd (List.mem_singleton.mp z) n4
  · rcases take_snoc ht hx with z | rfl
    · exact (h.d x z).more mono
    · exact ⟨h1, h2, .inr (by simp)⟩
theorem LPi.hit {known last : List Nat} {u i t : Nat} (h : LPi lines s u i known last) (ht : (nextP lines u)[i]? = some t) (e : t = lines.length ∨ t = s) : RunsOn lines s := by
  have m := h.k.met h.hu (List.mem_of_getElem? ht)
  rcases e with rfl | rfl
  · exact .inl m
  · exact .inr m
/-- the law's search -/
structure LL (lines : List Str) (s : Nat) (known last : List Nat) : Prop where
  k : Kn lines s known
  b : ∀ x ∈ last, Met lines (isShared' lines) s x ∧ x ≤ lines.length
  c : ∀ x, (x = s ∨ x ∈ known) → ∀ t ∈ nextP lines x, t ∈ last ∨ Fine lines s known t
theorem LL.start (L : Labs lines) (hs : s < lines.length) : LL lines s [] (nextL lines s) := by
  refine ⟨⟨.nil, by simp⟩, fun x hx => ?_, fun x hx t ht => ?_⟩
  · have := (next_mem lines s x).mp hx
    exact ⟨.one this, next_le L hs this⟩
  · rcases hx with rfl | hx
    · exact .inl ((next_mem lines x t).mpr ht)
    · cases hx
theorem LL.stop {known : List Nat} (h : LL lines s known []) : ¬ RunsOn lines s := runs_closed known fun u hu t ht => by
  rcases h.c u hu t ht with z | z
  · cases z
  · exact z
theorem LL.skip {known last : List Nat} {t : Nat} (h : LL lines s known (last ++ [t])) (hf : Fine lines s known t) : LL lines s known last :=
  ⟨h.k, fun x hx => h.b x (by simp [hx]), fun x hx y hy => by
    rcases h.c x hx y hy with z | z
    · rcases List.mem_append.mp z with z | z
      · exact .inl z
      · rw [List.mem_singleton.mp z]
        exact .inr hf
    · exact .inr z⟩
theorem LL.push {known last : List Nat} {t : Nat} (L : Labs lines) (h : LL lines s known (last ++ [t])) (h1 : t ≠ s) (h2 : t ≠ lines.length) (h3 : isShared' lines t = false) (h4 : t ∉ known) : LL lines s (known ++ [t]) (last ++ nextL lines t) := by
  obtain ⟨mt, tl⟩ := h.b t (by simp)
  have tl' : t < lines.length := Nat.lt_of_le_of_ne tl h2
  have mono : ∀ x ∈ known, x ∈ known ++ [t] := fun x hx => by simp [hx]
  refine ⟨h.k.add mt h1 tl' h3 h4, fun x hx => ?_, fun x hx y hy => ?_⟩
  · rcases List.mem_append.mp hx with z | z
    · exact h.b x (by simp [z])
    · have := (next_mem lines t x).mp z
      exact ⟨.more mt h1 h2 h3 this, next_le L tl' this⟩
  · have old : (x = s ∨ x ∈ known) → y ∈ last ++ nextL lines t ∨ Fine lines s (known ++ [t]) y := fun hx => by
      rcases h.c x hx y hy with z | z
      · rcases List.mem_append.mp z with z | z
        · exact .inl (by simp [z])
        · rw [List.mem_singleton.mp z]
          exact .inr ⟨h1, h2, .inr (by simp)⟩
      · exact .inr (z.more mono)
    rcases hx with hx | hx
    · exact old (.inl hx)
    · rcases List.mem_append.mp hx with z | z
      · exact old (.inr z)
      · rw [List.mem_singleton.mp z] at hy
        exact .inl (List.mem_append.mpr (.inr ((next_mem lines t y).mpr hy)))
theorem LL.hit {known last : List Nat} {t : Nat} (h : LL lines s known (last ++ [t])) (e : t = s ∨ t = lines.length) : RunsOn lines s := by
  have m := (h.b t (by simp)).1
  rcases e with rfl | rfl
  · exact .inr m
  · exact .inl m
end
/-- no label is amiss -/
theorem labs_of {lines : List Str} (h : ∀ n, n < lines.length → badLab lines n = false) : Labs lines := fun x hx hj => by
  obtain ⟨n, hn, e⟩ := List.getElem_of_mem hx
  have q := h n hn
  unfold badLab at q
  rw [Bool.or_eq_false_iff] at q
  have e' : at' lines n = x := by
    show lines.getD n Str.empty = x
    rw [List.getD_eq_getElem?_getD, List.getElem?_eq_getElem hn, e]
    rfl
  rw [e', jump_in] at q
  have j : (isGo x || isIf x) = true := by
    unfold isGo isIf
    rw [← Bool.decide_or]
    exact decide_eq_true hj
  rw [j, Bool.true_and] at q
  have := q.2
  rw [Bool.not_eq_false'] at this
  exact of_decide_eq_true this
end Zb
set_option Elab.async false
set_option linter.all false
set_option maxRecDepth 100000
set_option maxHeartbeats 2000000
namespace Zb
open PySem PySem.Spec PyProof.Rows L2
section
variable {P : Program} {w : World} {K : PySem.W.Frag} {mg : Str → Option Value} {base : Heap}
section
variable {σ : L2.St} {S : Hp} {te ta tb : TE} {tt : TT} {ds es : List PyData} {d z : PyData}
theorem er_if {b : Bool} (h : EvT tt σ S b) (h1 : b = true → EvR K ta σ S ds) (h2 : b = false → EvR K tb σ S ds) : EvR K (tIf tt ta tb) σ S ds := fun H i Q q => h H i _ fun H1 g => by
  cases b with
  | true =>
    show ta σ H1 Q
    exact h1 rfl H1 g.i Q fun w S2 H2 g2 p2 => q w S2 H2 (g.trans g2) p2
  | false =>
    show tb σ H1 Q
    exact h2 rfl H1 g.i Q fun w S2 H2 g2 p2 => q w S2 H2 (g.trans g2) p2
theorem ev_indexD {j : Nat} (h : EvD K te σ S (.list ds)) (h2 : EvD K ta σ S d) (s1 : SeqAt.shaped (.list ds) = true) (s2 : SeqAt.shaped d = true) (hj : ds[j]? = some z) (he : PyData.eqv z d = true) (hm : ∀ (m : Nat) (z' : PyData), m < j → ds[m]? = some z' → PyData.eqv z' d = false) :
    EvD K (tBM K "list" (rIndexD K) te (tCons ta tNil)) σ S (.int (j : Nat)) := fun H i Q q =>
  h H i _ fun v S1 H1 g1 p1 => by
    obtain ⟨a, xs, rfl, hs, ha⟩ := dp_list p1
    refine ⟨.inl ⟨rfl, xs, sqL_same g1.i hs⟩, (h2.mono g1.s) H1 g1.i _ fun u S2 H2 g2 p2 => ?_⟩
    have l2 : Dp K S2 (.ref a) (.list ds) := dp_same g2.s p1
    exact ⟨a, u, d, ds, j, z, rfl, rfl, dp_same g2.i l2, dp_same g2.i p2, s1, s2, hj, he, hm, q _ S2 H2 (g1.trans g2) (.int _)⟩
end
/-- the rows of a method: all lines are read -/
structure Ms (lines : List Str) : Prop where
  ok : ∀ x ∈ lines, Valid x
  sh : ∀ x ∈ lines, shortL x
  len : lines.length < 60000
theorem at_mem {lines : List Str} {n : Nat} (h : n < lines.length) : at' lines n ∈ lines := wd_mem h
theorem Ms.at_ {lines : List Str} (m : Ms lines) {n : Nat} (h : n < lines.length) : Valid (at' lines n) := m.ok _ (at_mem h)
theorem at_rows {lines : List Str} {n : Nat} (h : n < lines.length) : atI (lines.map rowD) (n : Int) = some (rowD (at' lines n)) := by
  refine atI_nat ?_
  rw [List.getElem?_map]
  have e : lines[n]? = some (at' lines n) := by
    show lines[n]? = some (lines.getD n Str.empty)
    rw [List.getD_eq_getElem?_getD, List.getElem?_eq_getElem h]
    rfl
  rw [e]
  rfl
theorem at_head {x : PyData} {r : List PyData} : atI (x :: r) 0 = some x := atI_nat (j := 0) rfl
theorem kwAns {line : Str} (h : Valid line) : decide (rowHd line = "answer") = isAns line := decide_eq_decide.mpr (hd_kw h (by decide +kernel) (by decide +kernel))
theorem kwGo {line : Str} (h : Valid line) : decide (rowHd line = "go") = isGo line := decide_eq_decide.mpr (hd_kw h (by decide +kernel) (by decide +kernel))
theorem kwIf {line : Str} (h : Valid line) : decide (rowHd line = "if") = isIf line := decide_eq_decide.mpr (hd_kw h (by decide +kernel) (by decide +kernel))
theorem place_at {lines : List Str} {x : Str} (h : x ∈ lines) : lines[place lines x]? = some x := by
  have hl : place lines x < lines.length := List.idxOf_lt_length_of_mem h
  rw [List.getElem?_eq_getElem hl]
  exact congrArg some (List.getElem_idxOf hl)
theorem place_not {lines : List Str} {x : Str} {m : Nat} {z : Str} (h : m < place lines x) (hz : lines[m]? = some z) : z ≠ x := by
  intro e
  subst e
  have := List.not_of_lt_findIdx (p := (· == z)) (xs := lines) (i := m) h
  have hl : m < lines.length := (List.getElem?_eq_some_iff.mp hz).1
  have e2 : lines[m] = z := (List.getElem?_eq_some_iff.mp hz).2
  rw [e2] at this
  simp at this
/-- the place of a label -/
theorem ev_place {σ : L2.St} {S : Hp} {te ta : TE} {lines : List Str} {nm : Str} (m : Ms lines) (hn : isName nm = true) (h : nm ++ ":" ∈ lines) (h1 : EvD K te σ S (.list (lines.map rowD))) (h2 : EvD K ta σ S (.tuple [.str "label", .str nm])) :
    EvD K (tBM K "list" (rIndexD K) te (tCons ta tNil)) σ S (.int (place lines (nm ++ ":") : Nat)) := by
  have e := place_at h
  refine ev_indexD h1 h2 (shaped_rows m.ok) (shaped_lab hn) (z := rowD (nm ++ ":")) (by rw [List.getElem?_map, e]; rfl) ?_ ?_
  · rw [eqv_lab (m.ok _ h) hn]
    exact decide_eq_true rfl
  · intro k z' hk hz
    rw [List.getElem?_map] at hz
    cases q : lines[k]? with
    | none => rw [q] at hz; cases hz
    | some y =>
      rw [q] at hz
      rw [← Option.some.inj hz, eqv_lab (m.ok _ (List.mem_of_getElem? q)) hn]
      exact decide_eq_false (place_not hk q)
theorem cut_take (xs : List PyData) (k : Nat) : cutD xs none (some (k : Int)) = xs.take k := by
  unfold cutD
  rw [HT.sIx_nat, HT.sIx_none, List.drop_zero, Nat.sub_zero]
  by_cases h : k ≤ xs.length
  · rw [Nat.min_eq_left h]
  · have h' : xs.length ≤ k := by omega
    rw [Nat.min_eq_right h', List.take_length, List.take_of_length_le h']
abbrev spMs (K : PySem.W.Frag) (f : List Str × Nat → PyData) : Sp := spF K (fun x : List Str × Nat => [.list (x.1.map rowD), .int (x.2 : Int)]) (fun x => Ms x.1 ∧ x.2 < x.1.length) f
abbrev spMl (K : PySem.W.Frag) (f : List Str × Nat → PyData) : Sp := spF K (fun x : List Str × Nat => [.list (x.1.map rowD), .int (x.2 : Int)]) (fun x => (Ms x.1 ∧ Labs x.1) ∧ x.2 < x.1.length) f
theorem jump_tgt {lines : List Str} (L : Labs lines) {n : Nat} (h : n < lines.length) {nm : Str} (hv : Valid (at' lines n)) (hh : rowHd (at' lines n) = "go" ∨ rowHd (at' lines n) = "if") (e : nm ++ ":" = tgt (at' lines n)) : nm ++ ":" ∈ lines := by
  rw [e]
  exact L _ (at_mem h) (hh.imp (hd_kw hv (by decide +kernel) (by decide +kernel)).mp (hd_kw hv (by decide +kernel) (by decide +kernel)).mp)
theorem sc_targets : FnScope ["rows", "at", "row"] ["rows", "at"] (defScope Zh.s_targets) := ⟨rfl, rfl, rfl, by decide +kernel, rfl, by decide +kernel, by decide +kernel⟩
theorem ok_targets (M : Mo K mg) (D : Df K mg "targets" Zh.s_targets) : Fn CX0 P w K mg base "targets" 1 ["rows", "at"] (spMl K fun x => .list ((nextP x.1 x.2).map fun n => .int (n : Nat))) :=
  fn_mk D.1 D.2 (fun _ _ _ _ _ _ us hl => match us, hl with | [_, _], _ => rfl) sc_targets (fun _ => rfl) fun cdv A outer s H E hr => ⟨_, (pss_cons (ps_set (i := 2) sc_targets.nd rfl (Or.inl rfl) (pe_ix ix_list (pv 0) (pv 1) (fun _ _ => rfl)))
    (pss_cons (ps_if (pt_cmpR op_eq (pe_ix ix_tup (pv 2) pe_int (fun _ _ => rfl)) pe_str (nomark _)) (pss_one (ps_ret (pe_lst pa_nil))) pss_nil)
    (pss_cons (ps_if (pt_cmpR op_eq (pe_ix ix_tup (pv 2) pe_int (fun _ _ => rfl)) pe_str (nomark _)) (pss_one (ps_ret (pe_lst (pa_cons (pe_bm PySem.F.plainAttrs_list PySem.F.slot_list_index PySem.F.type_list_index (mt_indexD (Room.u65 hr)) (pv 0) (pa_cons (pe_tup (pa_cons pe_str (pa_cons (pe_ix ix_tup (pv 2) pe_int (fun _ _ => rfl)) pa_nil))) pa_nil)) pa_nil)))) pss_nil)
    (pss_one (ps_ret (pe_op op_cat (pe_lst (pa_cons (pe_op op_add (pv 1) pe_int) pa_nil)) (pe_ifExp (pt_cmpR op_eq (pe_ix ix_tup (pv 2) pe_int (fun _ _ => rfl)) pe_str (nomark _)) (pe_lst (pa_cons (pe_bm PySem.F.plainAttrs_list PySem.F.slot_list_index PySem.F.type_list_index (mt_indexD (Room.u65 hr)) (pv 0) (pa_cons (pe_tup (pa_cons pe_str (pa_cons (pe_ix ix_tup (pv 2) pe_int (fun _ _ => rfl)) pa_nil))) pa_nil)) pa_nil)) (pe_lst pa_nil)))))))), fun x vs S hp p => by
    obtain ⟨lines, n⟩ := x
    obtain ⟨⟨m, L⟩, hn⟩ := hp
    dsimp only at m L hn p
    obtain ⟨v, r, rfl, pv, pr⟩ := dpAll_cons p
    obtain ⟨u, r2, rfl, pu, pr2⟩ := dpAll_cons pr
    obtain rfl := dpAll_nil pr2
    obtain rfl := dp_int pu
    refine r_asg (ev_op (rv_ixL (at_rows hn)) (ev_var rfl pv) (ev_var rfl pu)) fun v1 S1 i1 p1 => ?_
    have hv := m.at_ hn
    obtain ⟨r, e, F⟩ := row_shape hv
    rw [e] at p1
    have pv1 := dp_same i1 pv
    have pu1 : Dp K S1 (.int (n : Int)) (.int (n : Int)) := .int _
    have h0 : EvD K (tOp (rIxT K) (tVar 2) (tC (.int 0))) ((start ["rows", "at", "row"] [v, .int (n : Int)]).set 2 (some v1)) S1 (.str (rowHd (at' lines n))) := ev_op (rv_ixT at_head) (ev_var rfl p1) (ev_c (.int _))
    show Ret K _ _ _ (.list ((nextP lines n).map fun n => .int (n : Nat)))
    unfold nextP
    refine r_if (b := isAns (at' lines n)) (et_is (et_val (ev_op rv_eqs h0 (ev_c (.str _)))) (kwAns hv)) (fun h => ?_) fun h => r_next ?_
    · rw [if_pos h]
      exact r_stop (r_ret (ev_lst ea_nil (lz 0 rfl)))
    rw [if_neg (by rw [h]; decide)]
    refine r_if (b := isGo (at' lines n)) (et_is (et_val (ev_op rv_eqs h0 (ev_c (.str _)))) (kwGo hv)) (fun h => ?_) fun h => r_next ?_
    · rw [if_pos h]
      have hh : rowHd (at' lines n) = "go" := of_decide_eq_true ((kwGo hv).trans h)
      obtain ⟨nm, rfl, et, en⟩ := F.go hh
      rw [← et]
      exact r_stop (r_ret (ev_lst (ea_one (ev_place m en (jump_tgt L hn hv (.inl hh) et) (ev_var rfl pv1) (ev_tup (ea_cons (ev_c (.str _)) (ea_one (ev_op (rv_ixT (i := 1) rfl) (ev_var rfl p1) (ev_c (.int _))))) (lz 2 rfl)))) (lz 1 rfl)))
    rw [if_neg (by rw [h]; decide), List.map_append]
    refine r_ret (EvN.d (en_cat (en_lst (ds := [.int ((n + 1 : Nat) : Int)]) (ea_one (ev_op rv_add (ev_var rfl pu1) (ev_c (.int 1)))) (lz 1 rfl)).r (er_if (b := isIf (at' lines n)) (et_is (et_val (ev_op rv_eqs h0 (ev_c (.str _)))) (kwIf hv)) (fun h => ?_) fun h => ?_) ?_))
    · rw [if_pos h]
      have hh : rowHd (at' lines n) = "if" := of_decide_eq_true ((kwIf hv).trans h)
      obtain ⟨op, x, y, nm, rfl, et, en⟩ := F.iff hh
      rw [← et]
      exact (en_lst (ea_one (ev_place m en (jump_tgt L hn hv (.inr hh) et) (ev_var rfl pv1) (ev_tup (ea_cons (ev_c (.str _)) (ea_one (ev_op (rv_ixT (i := 4) rfl) (ev_var rfl p1) (ev_c (.int _))))) (lz 2 rfl)))) (lz 1 rfl)).r
    · rw [if_neg (by rw [h]; decide)]
      exact (en_lst ea_nil (lz 0 rfl)).r
    · cases isIf (at' lines n)
      · exact lz 1 rfl
      · exact lz 2 rfl⟩
theorem sc_wrong_label : FnScope ["rows", "at", "row"] ["rows", "at"] (defScope Zh.s_wrong_label) := ⟨rfl, rfl, rfl, by decide +kernel, rfl, by decide +kernel, by decide +kernel⟩
theorem kwLab {line : Str} : decide (rowHd line = "label") = true ∨ decide (rowHd line = "label") = false := by cases decide (rowHd line = "label") <;> simp
theorem hd_label {line : Str} (h : Valid line) : decide (rowHd line = "label") = isOne line := by
  unfold isOne
  by_cases c : (ws line).length = 1
  · rw [one_len c, rowHd_one c]
    exact decide_eq_true rfl
  · rw [not_one c, rowHd_more c]
    obtain ⟨r, e, F⟩ := row_shape h
    refine decide_eq_false fun z => ?_
    rw [← rowHd_more c] at z
    obtain ⟨nm, _, e1, hn⟩ := F.lab z
    rw [e1, (lab_of hn).1] at c
    exact c rfl
theorem jump_kw {line : Str} (h : Valid line) : decide (rowHd line ∈ (["go", "if"] : List Str)) = decide (hdW line ∈ (["go", "if"] : List Str)) := by
  rw [jump_in, ← kwGo h, ← kwIf h, ← Bool.decide_or]
  exact decide_eq_decide.mpr (by simp)
theorem ok_wrong_label (M : Mo K mg) (D : Df K mg "wrong_label" Zh.s_wrong_label) : Fn CX0 P w K mg base "wrong_label" 1 ["rows", "at"] (spMs K fun x => .bool (badLab x.1 x.2)) :=
  fn_mk D.1 D.2 (fun _ _ _ _ _ _ us hl => match us, hl with | [_, _], _ => rfl) sc_wrong_label (fun _ => rfl) fun cdv A outer s H E hr => ⟨_, (pss_cons (ps_set (i := 2) sc_wrong_label.nd rfl (Or.inl rfl) (pe_ix ix_list (pv 0) (pv 1) (fun _ _ => rfl)))
    (pss_cons (ps_if (pt_cmpR op_eq (pe_ix ix_tup (pv 2) pe_int (fun _ _ => rfl)) pe_str (nomark _)) (pss_one (ps_ret (pe_cmpR (op_inD (Room.u65 hr)) (pv 2) (pe_slice sl_list (pv 0) po_none (po_some (pv 1))) (by rfl)))) pss_nil)
    (pss_cons (ps_if (pt_cmpR op_in_seq (pe_ix ix_tup (pv 2) pe_int (fun _ _ => rfl)) (pe_tup (pa_cons pe_str (pa_cons pe_str pa_nil))) (by rfl)) (pss_one (ps_ret (pe_cmpR (op_notInD (Room.u65 hr)) (pe_tup (pa_cons pe_str (pa_cons (pe_ix ix_tup (pv 2) (pe_un un_neg pe_int) (fun _ _ => rfl)) pa_nil))) (pv 0) (by rfl)))) pss_nil)
    (pss_one (ps_ret pe_bl))))), fun x vs S hp p => by
    obtain ⟨lines, n⟩ := x
    obtain ⟨m, hn⟩ := hp
    dsimp only at m hn p
    obtain ⟨v, r, rfl, pv, pr⟩ := dpAll_cons p
    obtain ⟨u, r2, rfl, pu, pr2⟩ := dpAll_cons pr
    obtain rfl := dpAll_nil pr2
    obtain rfl := dp_int pu
    refine r_asg (ev_op (rv_ixL (at_rows hn)) (ev_var rfl pv) (ev_var rfl pu)) fun v1 S1 i1 p1 => ?_
    have hv := m.at_ hn
    obtain ⟨r, e, F⟩ := row_shape hv
    rw [e] at p1
    have pv1 := dp_same i1 pv
    have pu1 : Dp K S1 (.int (n : Int)) (.int (n : Int)) := .int _
    have h0 : EvD K (tOp (rIxT K) (tVar 2) (tC (.int 0))) ((start ["rows", "at", "row"] [v, .int (n : Int)]).set 2 (some v1)) S1 (.str (rowHd (at' lines n))) := ev_op (rv_ixT at_head) (ev_var rfl p1) (ev_c (.int _))
    show Ret K _ _ _ (.bool (badLab lines n))
    unfold badLab
    have hsub : ∀ x ∈ lines.take n, Valid x := fun x hx => m.ok x (List.mem_of_mem_take hx)
    refine r_if (et_is (et_val (ev_op rv_eqs h0 (ev_c (.str _)))) (hd_label hv)) (fun h => ?_) fun h => r_next ?_
    · obtain ⟨nm, e1, en⟩ := F.one (by have := of_decide_eq_true h; omega)
      obtain ⟨nm', rfl, e1', en'⟩ := F.lab (rowHd_one (by have := of_decide_eq_true h; omega))
      have hj : decide (hdW (at' lines n) ∈ (["go", "if"] : List Str)) = false := by
        rw [← jump_kw hv, rowHd_one (by have := of_decide_eq_true h; omega)]
        decide +kernel
      rw [h, hj, Bool.true_and, Bool.false_and, Bool.or_false]
      have hl : rowHd (at' lines n) = "label" := rowHd_one (by have := of_decide_eq_true h; omega)
      rw [hl] at p1
      refine r_stop (r_ret (ev_is (ev_op (rv_inD (shaped_lab en') (shaped_rows hsub)) (ev_var rfl p1) (ev_is (ev_slL (ev_var rfl pv1) eo_none (eo_some (ev_var rfl pu1))) (by rw [cut_take, List.map_take]))) ?_))
      rw [any_lab hsub en', ← e1']
    rw [h, Bool.false_and, Bool.false_or]
    refine r_if (et_is (et_val (ev_op (rv_inS (.inr rfl)) h0 (ev_tup (ea_cons (ev_c (.str _)) (ea_one (ev_c (.str _)))) (lz 2 rfl)))) (jump_kw hv)) (fun h2 => ?_) fun h2 => r_next ?_
    · rw [h2, Bool.true_and]
      have hh : rowHd (at' lines n) = "go" ∨ rowHd (at' lines n) = "if" := by
        have := of_decide_eq_true ((jump_kw hv).trans h2)
        simpa using this
      have q : ∃ nm, isName nm = true ∧ nm ++ ":" = tgt (at' lines n) ∧ atI (.str (rowHd (at' lines n)) :: r) (-1) = some (.str nm) := by
        rcases hh with hh | hh
        · obtain ⟨nm, rfl, et, en⟩ := F.go hh
          exact ⟨nm, en, et, rfl⟩
        · obtain ⟨op, x, y, nm, rfl, et, en⟩ := F.iff hh
          exact ⟨nm, en, et, rfl⟩
      obtain ⟨nm, en, et, eq⟩ := q
      refine r_stop (r_ret (ev_is (ev_op (rv_ninD (shaped_lab en) (shaped_rows m.ok)) (ev_tup (ea_cons (ev_c (.str _)) (ea_one (ev_op (rv_ixT eq) (ev_var rfl p1) ev_m1))) (lz 2 rfl)) (ev_var rfl pv1)) ?_))
      rw [any_lab m.ok en, et]
    rw [h2, Bool.false_and]
    exact r_ret (ev_c (.bl _))⟩
end
end Zb
set_option Elab.async false
set_option linter.all false
set_option maxRecDepth 100000
set_option maxHeartbeats 2000000
namespace Zb
open PySem PySem.Spec PyProof.Rows L2
section
variable {P : Program} {w : World} {K : PySem.W.Frag} {mg : Str → Option Value} {base : Heap}
abbrev nD (l : List Nat) : List PyData := l.map fun n => .int (n : Nat)
theorem nD_ints (l : List Nat) : nD l = (l.map fun n : Nat => (n : Int)).map PyData.int := by rw [List.map_map]; rfl
theorem mem_nD {l : List Nat} {n : Nat} : decide ((n : Int) ∈ l.map fun n : Nat => (n : Int)) = decide (n ∈ l) := by
  refine decide_eq_decide.mpr ?_
  rw [List.mem_map]
  exact ⟨fun ⟨a, h, e⟩ => by rw [← Int.ofNat_inj.mp e]; exact h, fun h => ⟨n, h, rfl⟩⟩
theorem nD_snoc (l : List Nat) (n : Nat) : nD (l ++ [n]) = nD l ++ [.int (n : Nat)] := by simp
theorem shKw {line : Str} (h : Valid line) : decide (rowHd line ∈ (["read", "write", "swap", "answer"] : List Str)) = decide (hdW line ∈ (["read", "write", "swap", "answer"] : List Str)) := by
  refine decide_eq_decide.mpr ?_
  simp only [List.mem_cons, List.not_mem_nil, or_false]
  rw [hd_kw h (k := "read") (by decide +kernel) (by decide +kernel), hd_kw h (k := "write") (by decide +kernel) (by decide +kernel), hd_kw h (k := "swap") (by decide +kernel) (by decide +kernel), hd_kw h (k := "answer") (by decide +kernel) (by decide +kernel)]
theorem ev_shared {σ : L2.St} {S : Hp} (M : Mo K mg) : EvD K (tC (.ref (He.ga K "SHARED"))) σ S (.tuple ((["read", "write", "swap", "answer"] : List Str).map .str)) :=
  ev_c (.tup (M.sharedT S) (dpAll_strs ["read", "write", "swap", "answer"]))
theorem int_nat {a b : Nat} : decide ((a : Int) = (b : Int)) = decide (a = b) := decide_eq_decide.mpr Int.ofNat_inj
theorem sc_runs_on : FnScope ["rows", "at", "known", "last", "there"] ["rows", "at"] (defScope Zh.s_runs_on) := ⟨rfl, rfl, rfl, by decide +kernel, rfl, by decide +kernel, by decide +kernel⟩
theorem ok_runs_on (M : Mo K mg) (D : Df K mg "runs_on" Zh.s_runs_on) (f_targets : Fn CX0 P w K mg base "targets" 1 ["rows", "at"] (spMl K fun x => .list ((nextP x.1 x.2).map fun n => .int (n : Nat)))) :
    Fn CX0 P w K mg base "runs_on" 2 ["rows", "at"] (spMl K fun x => .bool (runB x.1 x.2)) :=
  fn_mk D.1 D.2 (fun _ _ _ _ _ _ us hl => match us, hl with | [_, _], _ => rfl) sc_runs_on (fun _ => rfl) fun cdv A outer s H E hr => ⟨_, (pss_cons (ps_par (i := 2) (j := 3) rfl sc_runs_on.nd rfl rfl (by decide) rfl rfl (pa_cons (pe_lst pa_nil) (pa_cons (pe_lst (pa_cons (pv 1) pa_nil)) pa_nil)) (by rfl))
    (pss_cons (ps_while PassesOwn.never (pt_cmpR (op_neNil hr.units0) (pv 3) (pe_lst pa_nil) (nomark _)) (pss_one (ps_for PassesOwn.never rfl (pi_list (pe_fn f_targets (hr.mono (by decide)) rfl (pa_cons (pv 0) (pa_cons (pe_bm0 PySem.F.plainAttrs_list PySem.F.slot_list_pop PySem.F.type_list_pop mt_pop (pv 3)) pa_nil)))) (pg_name (i := 4) sc_runs_on.nd rfl (Or.inl rfl)) (pss_cons (ps_if (PW.pt (pw_or (pt_cmpR op_eq (pv 4) (pe_callB call_len (by rfl) M.len (by decide +kernel) (pa_cons (pv 0) pa_nil)) (nomark _)) (pw_or1 (pt_cmpR op_eq (pv 4) (pv 1) (nomark _))))) (pss_one (ps_ret pe_bl)) pss_nil)
    (pss_one (ps_if (PW.pt (pw_and (pt_cmpR op_notIn_seq (pv 4) (pv 2) (by rfl)) (pw_and1 (pt_cmpR op_notIn_seq (pe_ix ix_tup (pe_ix ix_list (pv 0) (pv 4) (fun _ _ => rfl)) pe_int (fun _ _ => rfl)) (pe_glob (v := .ref (He.ga K "SHARED")) rfl M.SHARED rfl) (by rfl))))) (pss_cons (ps_expr (pe_bm PySem.F.plainAttrs_list PySem.F.slot_list_append PySem.F.type_list_append mt_append (pv 2) (pa_cons (pv 4) pa_nil)))
    (pss_one (ps_expr (pe_bm PySem.F.plainAttrs_list PySem.F.slot_list_append PySem.F.type_list_append mt_append (pv 3) (pa_cons (pv 4) pa_nil))))) pss_nil))))))
    (pss_one (ps_ret pe_bl)))), fun x vs S0 hp p => by
    obtain ⟨lines, n⟩ := x
    obtain ⟨⟨m, L⟩, hn⟩ := hp
    dsimp only at m L hn p
    obtain ⟨v, r, rfl, pv, pr⟩ := dpAll_cons p
    obtain ⟨u, r2, rfl, pu, pr2⟩ := dpAll_cons pr
    obtain rfl := dpAll_nil pr2
    obtain rfl := dp_int pu
    intro H0 i0 D q
    show tSeq _ _ D _ H0
    refine ⟨lz 0 rfl, fun lk hk => ⟨_, rfl, lz 1 rfl, fun ll hl => ⟨_, _, rfl, ?_⟩⟩⟩
    have nkl : lk ≠ ll := fun e => by rw [e, upd_same] at hl; cases hl
    have hl0 : H0 ll = none := by rw [← hl, upd_ne fun e => nkl e.symm]
    refine q_while (fun k σ' H' => ∃ S known last o, G0 S0 H0 S H' ∧ Mu K S H' lk (nD known) ∧ Mu K S H' ll (nD last) ∧ σ' = [some v, some (.int (n : Int)), some (.ref lk), some (.ref ll), o] ∧ LP lines n known last ∧ last.length ≤ known.length + 1 ∧ k = last.length + (lines.length - known.length)) (1 + lines.length) ?_ ?_
    · refine ⟨S0, [], [n], none, ((Go.newM i0 hk).trans (Go.newM (Go.newM i0 hk).i hl)), ⟨i0.free hk, [], ?_, .nil⟩, ⟨i0.free hl0, [.int (n : Int)], upd_same, .cons (.int _) .nil⟩, rfl, LP.start, Nat.le_refl _, ?_⟩
      · rw [upd_ne nkl, upd_same]
      · rfl
    rintro k σ' H' ⟨S, known, last, o, g, mk, ml, rfl, inv, hle, rfl⟩
    obtain ⟨S1, z, e1, rl, _⟩ := ml.see1 g.i
    refine ⟨S, S1, !(nD last).isEmpty, z, et_val (ev_op rv_nenil (ev_var rfl rl.d) (ev_lst ea_nil (lz 0 rfl))), fun hb H1 g1 => ?_, fun hb H1 g1 => ?_⟩
    · have hne : last ≠ [] := fun e => by rw [e] at hb; cases hb
      obtain ⟨last', t, rfl⟩ : ∃ l x, last = l ++ [x] := ⟨last.dropLast, last.getLast hne, (List.dropLast_concat_getLast hne).symm⟩
      rw [List.length_append, List.length_singleton] at hle
      have ml0 := m.len
      have g2 := g.trans g1
      have mk1 := mk.g0 g1
      have ml1 := ml.g0 g1
      rw [nD_snoc] at ml1
      have tl : t < lines.length := by
        rcases inv.b t (by simp) with rfl | z
        · exact hn
        · exact (inv.k.a t z).2.2.1
      refine ⟨fun σ2 H2 => ∃ m', m' < (last' ++ [t]).length + (lines.length - known.length) ∧ ∃ S known last o, G0 S0 H0 S H2 ∧ Mu K S H2 lk (nD known) ∧ Mu K S H2 ll (nD last) ∧ σ2 = [some v, some (.int (n : Int)), some (.ref lk), some (.ref ll), o] ∧ LP lines n known last ∧ last.length ≤ known.length + 1 ∧ m' = last.length + (lines.length - known.length), fun _ _ z => z, ?_⟩
      refine ⟨v, rfl, w_pop rfl ml1 g2.i fun x H2 g3 ml2 px => ?_⟩
      obtain rfl := dp_int px
      have mk2 := mk1.go g3 nkl
      have g5 : G0 S0 H0 S H2 := g2.own g3 fun b e => .inr (e ▸ hl0)
      refine ⟨(lines, t), S, g3.i, .cons (dp_same g5.s pv) (.cons (.int _) .nil), ⟨⟨m, L⟩, tl⟩, fun w2 S3 H3 g4 p4 => ?_⟩
      have g6 := g5.trans g4
      refine forL_at p4 (fun i σ2 H2 => ∃ S known' last o, Same S3 S ∧ G0 S0 H0 S H2 ∧ Mu K S H2 lk (nD known') ∧ Mu K S H2 ll (nD last) ∧ σ2 = [some v, some (.int (n : Int)), some (.ref lk), some (.ref ll), o] ∧ LPi lines n t i known' last ∧ last.length + known.length = last'.length + known'.length) g4.i ?_ ?_ ?_ ?_
      · exact ⟨S3, known, last', o, Same.refl _, g6, mk2.g0 g4, ml2.g0 g4, rfl, inv.pop, rfl⟩
      · rintro i σ2 H2 _ ⟨S, _, _, _, e3, g7, _⟩
        exact e3.trans g7.i
      · rintro i d w3 σ2 H4 hd pd ⟨S4, known', last2, o2, e3, g7, mk4, ml4, rfl, inv2, hm⟩
        rw [List.getElem?_map] at hd
        cases hq : (nextP lines t)[i]? with
        | none => rw [hq] at hd; cases hd
        | some t2 =>
          rw [hq] at hd
          obtain rfl : PyData.int (t2 : Nat) = d := Option.some.inj hd
          obtain rfl := dp_int pd
          have pv4 : Dp K S4 v (.list (lines.map rowD)) := dp_same g7.s pv
          refine q_if (S1 := S4) (b := decide (t2 = lines.length) || decide (t2 = n)) (Sees.refl g7.i) (et_is (et_or (et_val (ev_op rv_eqi (ev_var rfl (.int _)) (ev_cb rc_lenL (ea_one (ev_var rfl pv4))))) fun _ => et_val (K := K) (ev_op rv_eqi (ev_var rfl (.int _)) (ev_var rfl (.int _)))) (by rw [List.length_map, int_nat, int_nat])) (fun h H5 g8 => ?_) fun h H5 g8 => ?_
          · have hr := inv2.hit hq (by simpa using h)
            exact q _ S4 H5 (g7.trans g8) (by rw [runB_true hr]; exact .bl _)
          · rw [Bool.or_eq_false_iff] at h
            have n1 : t2 ≠ lines.length := of_decide_eq_false h.1
            have n2 : t2 ≠ n := of_decide_eq_false h.2
            have tl2 : t2 < lines.length := Nat.lt_of_le_of_ne (next_le L tl (List.mem_of_getElem? hq)) n1
            have hv := m.at_ tl2
            obtain ⟨r, er, F⟩ := row_shape hv
            have mk5 := mk4.g0 g8
            have ml5 := ml4.g0 g8
            have g9 := g7.trans g8
            obtain ⟨S6, z6, e6, rl6, _⟩ := mk5.see1 g9.i
            refine q_ifE (b := !decide (t2 ∈ known') && !isShared' lines t2) z6 (et_is (et_and (et_val (ev_op (rv_ninI (l := known'.map fun n : Nat => (n : Int)) (.inl rfl)) (ev_var rfl (.int _)) (ev_is (ev_var rfl rl6.d) (by rw [nD_ints])))) fun _ => et_val (ev_op (rv_ninS (.inr rfl)) (ev_op (rv_ixT at_head) (ev_is (ev_op (rv_ixL (at_rows tl2)) (ev_var rfl (dp_same e6 pv4)) (ev_var rfl (.int _))) er) (ev_c (.int _))) (ev_shared M))) (by rw [mem_nD, shKw hv]; rfl)) (fun h3 H6 g10 => ?_) fun h3 H6 g10 => ?_
            · rw [Bool.and_eq_true] at h3
              have n3 : t2 ∉ known' := by have := h3.1; simpa using this
              have n4 : isShared' lines t2 = false := by have := h3.2; simpa using this
              have g11 := g9.trans g10
              have kl := inv2.k.len
              have pu := inv2.push L hn hq n2 n1 n4 n3
              refine q_app rfl (mk5.g0 g10) (ev_var rfl (.int _)) g11.i (by rw [List.length_map]; omega) fun S7 H7 g12 mk7 => ?_
              have g13 : G0 S0 H0 S7 H7 := g11.own g12 fun b e => .inr (e ▸ hk)
              have ml7 := (ml5.g0 g10).go g12 fun e => nkl e.symm
              refine s_appK rfl ml7 (ev_var rfl (.int _)) g13.i (by rw [List.length_map]; have := pu.k.len; rw [List.length_append] at this; simp at this; omega) fun S8 H8 g14 ml8 => ?_
              have g15 : G0 S0 H0 S8 H8 := g13.own g14 fun b e => .inr (e ▸ hl0)
              refine ⟨S8, known' ++ [t2], last2 ++ [t2], _, ((e3.trans g8.s).trans g10.s).trans (g12.s.trans g14.s), g15, ?_, ?_, rfl, pu, by simp; omega⟩
              · rw [nD_snoc]; exact mk7.go g14 nkl
              · rw [nD_snoc]; exact ml8
            · have hf : Fine lines n known' t2 := by
                refine ⟨n2, n1, ?_⟩
                cases c1 : isShared' lines t2 with
                | true => exact .inl rfl
                | false =>
                  rw [c1] at h3
                  exact .inr (by simpa using h3)
              exact ⟨S4, known', last2, _, e3, g9.trans g10, mk5.g0 g10, ml5.g0 g10, rfl, inv2.skip hq hf, hm⟩
      · rintro σ2 H2 ⟨S4, known', last2, o2, e3, g7, mk4, ml4, rfl, inv2, hm⟩
        rw [List.length_map] at inv2
        have kl := inv2.k.len
        have kl0 := inv.k.len
        refine ⟨_, ?_, S4, known', last2, o2, g7, mk4, ml4, rfl, inv2.done, by omega, rfl⟩
        rw [List.length_append, List.length_singleton]
        omega
    · have he : last = [] := by
        cases last with
        | nil => rfl
        | cons a b => cases hb
      rw [he] at inv
      exact q _ S H1 (g.trans g1) (by rw [runB_false inv.stop]; exact .bl _)⟩
end
end Zb
set_option Elab.async false
set_option linter.all false
set_option maxRecDepth 100000
set_option maxHeartbeats 2000000
namespace Zb
open PySem PySem.Spec PyProof.Rows L2
section
variable {P : Program} {w : World} {K : PySem.W.Frag} {mg : Str → Option Value} {base : Heap}
theorem ansGoKw {line : Str} (h : Valid line) : decide (rowHd line ∈ (["answer", "go"] : List Str)) = decide (hdW line ∈ (["answer", "go"] : List Str)) := by
  refine decide_eq_decide.mpr ?_
  simp only [List.mem_cons, List.not_mem_nil, or_false]
  rw [hd_kw h (k := "go") (by decide +kernel) (by decide +kernel), hd_kw h (k := "answer") (by decide +kernel) (by decide +kernel)]
theorem wrongM_lab {lines : List Str} {i : Nat} (hi : i < lines.length) (h : ∀ m, m < i → badLab lines m = false) (hf : badLab lines i = true) : wrongM lines = some i := by
  unfold wrongM
  rw [find_at hi h hf]
theorem wrongM_run {lines : List Str} {i : Nat} (h0 : ∀ m, m < lines.length → badLab lines m = false) (hi : i < lines.length) (h : ∀ m, m < i → badRun lines m = false) (hf : badRun lines i = true) : wrongM lines = some i := by
  unfold wrongM
  rw [find_no h0]
  exact find_at hi h hf
theorem wrongM_no {lines : List Str} (h0 : ∀ m, m < lines.length → badLab lines m = false) (h : ∀ m, m < lines.length → badRun lines m = false) : wrongM lines = none := by
  unfold wrongM
  rw [find_no h0]
  exact find_no h
theorem upto {f : Nat → Bool} {i : Nat} (h : ∀ m, m < i → f m = false) (hi : f i = false) : ∀ m, m < i + 1 → f m = false := fun m hm => by
  rcases Nat.lt_or_eq_of_le (Nat.le_of_lt_succ hm) with z | rfl
  · exact h m z
  · exact hi
theorem sc_wrong_row : FnScope ["rows", "at", "is_last"] ["rows"] (defScope Zh.s_wrong_row) := ⟨rfl, rfl, rfl, by decide +kernel, rfl, by decide +kernel, by decide +kernel⟩
theorem ok_wrong_row (M : Mo K mg) (D : Df K mg "wrong_row" Zh.s_wrong_row) (f_wrong_label : Fn CX0 P w K mg base "wrong_label" 1 ["rows", "at"] (spMs K fun x => .bool (badLab x.1 x.2))) (f_runs_on : Fn CX0 P w K mg base "runs_on" 2 ["rows", "at"] (spMl K fun x => .bool (runB x.1 x.2))) :
    Fn CX0 P w K mg base "wrong_row" 3 ["rows"] (spF K (fun l : List Str => [.list (l.map rowD)]) Ms fun l => optD (wrongM l)) :=
  fn_mk D.1 D.2 (fun _ _ _ _ _ _ us hl => match us, hl with | [_], _ => rfl) sc_wrong_row (fun _ => rfl) fun cdv A outer s H E hr => ⟨_, (pss_cons (ps_for PassesOwn.never rfl (pi_range1 rfl M.range (pa_cons (pe_callB call_len (by rfl) M.len (by decide +kernel) (pa_cons (pv 0) pa_nil)) pa_nil)) (pg_name (i := 1) sc_wrong_row.nd rfl (Or.inl rfl)) (pss_one (ps_if (pt_val (pe_fn f_wrong_label (hr.mono (by decide)) rfl (pa_cons (pv 0) (pa_cons (pv 1) pa_nil)))) (pss_one (ps_ret (pv 1))) pss_nil)))
    (pss_cons (ps_for PassesOwn.never rfl (pi_range1 rfl M.range (pa_cons (pe_callB call_len (by rfl) M.len (by decide +kernel) (pa_cons (pv 0) pa_nil)) pa_nil)) (pg_name (i := 1) sc_wrong_row.nd rfl (Or.inl rfl)) (pss_cons (ps_set (i := 2) sc_wrong_row.nd rfl (Or.inl rfl) (pe_and (pe_cmpR op_eq (pv 1) (pe_op op_sub (pe_callB call_len (by rfl) M.len (by decide +kernel) (pa_cons (pv 0) pa_nil)) pe_int) (nomark _)) (pe_one (pe_cmpR op_notIn_seq (pe_ix ix_tup (pe_ix ix_list (pv 0) (pv 1) (fun _ _ => rfl)) pe_int (fun _ _ => rfl)) (pe_tup (pa_cons pe_str (pa_cons pe_str pa_nil))) (by rfl)))))
    (pss_one (ps_if (PW.pt (pw_or (pt_val (pv 2)) (pw_or1 (PW.pt (pw_and (pt_cmpR op_notIn_seq (pe_ix ix_tup (pe_ix ix_list (pv 0) (pv 1) (fun _ _ => rfl)) pe_int (fun _ _ => rfl)) (pe_glob (v := .ref (He.ga K "SHARED")) rfl M.SHARED rfl) (by rfl)) (pw_and1 (pt_val (pe_fn f_runs_on (hr.mono (by decide)) rfl (pa_cons (pv 0) (pa_cons (pv 1) pa_nil)))))))))) (pss_one (ps_ret (pv 1))) pss_nil))))
    (pss_one (ps_ret pe_non)))), fun lines vs S0 m p => by
    obtain ⟨v, r, rfl, pv, pr⟩ := dpAll_cons p
    obtain rfl := dpAll_nil pr
    have len := m.len
    have evl : ∀ σ, σ[0]? = some (some v) → EvD K (tCB (fun xs H Q => ∃ x n, xs = [x] ∧ LenV K x H n ∧ Q (.int n) H) (tCons (tVar 0) tNil)) σ S0 (.int (lines.length : Nat)) := fun σ h => ev_is (ev_cb rc_lenL (ea_one (ev_var h pv))) (by rw [List.length_map])
    intro H0 i0 D q
    refine q_forR (ir_1 (n := (lines.length : Nat)) (ea_one (evl _ rfl)) (by omega) (by omega) H0 i0) (n := lines.length) (lo := 0) (fun i σ' H' => G0 S0 H0 S0 H' ∧ (∃ o1 o2, σ' = [some v, o1, o2]) ∧ ∀ m, m < i → badLab lines m = false) ?_ ?_ ?_
    · exact fun S1 H1 g => ⟨g.keep, ⟨_, _, rfl⟩, by omega⟩
    · rintro i _ H1 hi ⟨g, ⟨o1, o2, rfl⟩, hb⟩
      rw [Int.zero_add]
      refine q_ifE (b := badLab lines i) (Sees.refl g.i) (et_B (ev_call (lines, i) ⟨m, hi⟩ (ea_cons (ev_var rfl pv) (ea_one (ev_var rfl (.int _)))))) (fun h H2 g2 => ?_) fun h H2 g2 => ?_
      · exact ⟨_, rfl, q _ S0 H2 (g.trans g2) (by rw [wrongM_lab hi hb h]; exact .int _)⟩
      · exact ⟨g.trans g2, ⟨_, _, rfl⟩, upto hb h⟩
    rintro _ H1 ⟨g, ⟨o1, o2, rfl⟩, hb⟩
    have L := labs_of hb
    refine q_forR (ir_1 (n := (lines.length : Nat)) (ea_one (evl _ rfl)) (by omega) (by omega) H1 g.i) (n := lines.length) (lo := 0) (fun i σ' H' => G0 S0 H0 S0 H' ∧ (∃ o1 o2, σ' = [some v, o1, o2]) ∧ ∀ m, m < i → badRun lines m = false) ?_ ?_ ?_
    · exact fun S1 H2 g2 => ⟨g.trans g2.keep, ⟨_, _, rfl⟩, by omega⟩
    · rintro i _ H1 hi ⟨g, ⟨o1, o2, rfl⟩, hb2⟩
      rw [Int.zero_add]
      have hv := m.at_ hi
      obtain ⟨r, er, F⟩ := row_shape hv
      have h0 : ∀ σ, σ[0]? = some (some v) → σ[1]? = some (some (.int (i : Int))) → EvD K (tOp (rIxT K) (tOp (rIxL K) (tVar 0) (tVar 1)) (tC (.int 0))) σ S0 (.str (rowHd (at' lines i))) := fun σ e1 e2 => ev_op (rv_ixT at_head) (ev_is (ev_op (rv_ixL (at_rows hi)) (ev_var e1 pv) (ev_var e2 (.int _))) er) (ev_c (.int _))
      refine q_asg (d := .bool (decide ((i : Int) + 1 = lines.length) && !decide (hdW (at' lines i) ∈ (["answer", "go"] : List Str)))) (ev_is (ev_and (ev_op rv_eqi (ev_var rfl (.int _)) (ev_op rv_sub (evl _ rfl) (ev_c (.int 1)))) fun _ => ev_op (rv_ninS (l := ["answer", "go"]) (.inr rfl)) (h0 _ rfl rfl) (ev_tup (ea_cons (ev_c (.str _)) (ea_one (ev_c (.str _)))) (lz 2 rfl))) ?_) g.i fun v2 S2 H2 g2 p2 => ?_
      · rw [ansGoKw hv]
        congr 2
        exact decide_eq_decide.mpr (by omega)
      · obtain rfl := dp_bool p2
        have g3 := g.trans g2.keep
        refine q_ifE (b := badRun lines i) (Sees.refl g3.i) (et_or (et_B (ev_var (K := K) rfl (.bl _))) fun _ => et_is (et_and (et_val (ev_op (rv_ninS (.inr rfl)) (h0 _ rfl rfl) (ev_shared M))) fun _ => et_B (ev_call (lines, i) ⟨⟨m, L⟩, hi⟩ (ea_cons (ev_var rfl pv) (ea_one (ev_var rfl (.int _)))))) (by rw [shKw hv]; rfl)) (fun h H3 g4 => ?_) fun h H3 g4 => ?_
        · exact ⟨_, rfl, q _ S0 H3 (g3.trans g4) (by rw [wrongM_run hb hi hb2 h]; exact .int _)⟩
        · exact ⟨g3.trans g4, ⟨_, _, rfl⟩, upto hb2 h⟩
    · rintro _ H2 ⟨g2, ⟨o1, o2, rfl⟩, hb2⟩
      exact q _ S0 H2 g2 (by rw [wrongM_no hb hb2]; exact .non)⟩
end
end Zb
set_option Elab.async false
set_option linter.all false
set_option maxRecDepth 100000
set_option maxHeartbeats 2000000
namespace Zb
open PySem PySem.Spec PyProof.Rows L2
section
variable {P : Program} {w : World} {K : PySem.W.Frag} {mg : Str → Option Value} {base : Heap}
section
variable {σ : L2.St} {S : Hp} {te ta tb : TE} {tt : TT} {ds es : List PyData} {d z : PyData}
theorem en_if {b : Bool} (h : EvT tt σ S b) (h1 : b = true → EvN K ta σ S ds) (h2 : b = false → EvN K tb σ S ds) : EvN K (tIf tt ta tb) σ S ds := fun H i Q q => h H i _ fun H1 g => by
  have fr : ∀ {l : Addr}, H1 l = none → H l = none := fun z => g.fresh z
  cases b with
  | true =>
    show ta σ H1 Q
    exact h1 rfl H1 g.i Q fun l xs S2 H2 g2 a1 a2 a3 p2 => q l xs S2 H2 (g.trans g2) (fr a1) a2 a3 p2
  | false =>
    show tb σ H1 Q
    exact h2 rfl H1 g.i Q fun l xs S2 H2 g2 a1 a2 a3 p2 => q l xs S2 H2 (g.trans g2) (fr a1) a2 a3 p2
theorem at_last {l : List Str} (h : 0 < l.length) : atI (l.map PyData.str) (-1) = some (.str (wd l (l.length - 1))) := by
  have e : ixN (l.map PyData.str).length (-1) = some (l.length - 1) := by
    unfold ixN
    rw [List.length_map, if_neg (by omega), if_pos (by omega)]
    congr 1
    omega
  unfold atI
  rw [e]
  show (l.map PyData.str)[l.length - 1]? = _
  rw [List.getElem?_map]
  have e2 : l[l.length - 1]? = some (wd l (l.length - 1)) := by
    unfold wd
    rw [List.getD_eq_getElem?_getD, List.getElem?_eq_getElem (by omega)]
    rfl
  rw [e2]
  rfl
/-- a text's place among texts -/
theorem ev_index {l : List Str} {x : Str} (hx : x ∈ l) (h : EvD K te σ S (.list (l.map .str))) (h2 : EvD K ta σ S (.str x)) : EvD K (tBM K "list" (rIndex K) te (tCons ta tNil)) σ S (.int (place l x : Nat)) := fun H i Q q =>
  h H i _ fun v S1 H1 g1 p1 => by
    obtain ⟨a, xs, rfl, hs, ha⟩ := dp_list p1
    obtain rfl := strs_dpAll ha
    refine ⟨.inl ⟨rfl, _, sqL_same g1.i hs⟩, (h2.mono g1.s) H1 g1.i _ fun u S2 H2 g2 p2 => ?_⟩
    obtain rfl := dp_str p2
    refine ⟨a, l.map V.str, .str x, place l x, .str x, rfl, rfl, sqL_same (g2.s.trans g2.i) hs, rfl, flat_strs l, by rw [List.getElem?_map, place_at hx]; rfl, by simp [eqV], ?_, q _ S2 H2 (g1.trans g2) (.int _)⟩
    intro m z' hm hz
    rw [List.getElem?_map] at hz
    cases e : l[m]? with
    | none => rw [e] at hz; cases hz
    | some y =>
      rw [e] at hz
      rw [← Option.some.inj hz]
      have := place_not hm e
      simp [eqV, this]
end
theorem at_line {lines : List Str} {n : Nat} (h : n < lines.length) : atI (lines.map PyData.str) (n : Int) = some (.str (at' lines n)) := at_strs h
theorem len_colon : (":" : Str).length = 1 := by decide +kernel
theorem Ms.sh_ {lines : List Str} (m : Ms lines) {n : Nat} (h : n < lines.length) : shortL (at' lines n) := m.sh _ (at_mem h)
theorem tgt_short {line : Str} (h : shortL line) : (wd (ws line) ((ws line).length - 1)).length + (":" : Str).length ≤ sizeLine := by
  have := ws_word (wd_mem (l := ws line) (n := (ws line).length - 1) (by have := ws_pos line; omega))
  have h' : line.length < 90000 := h
  rw [len_colon]
  exact Nat.le_trans (show _ ≤ 100000 by omega) (by decide)
abbrev spLn (K : PySem.W.Frag) (f : List Str × Nat → PyData) : Sp := spF K (fun x : List Str × Nat => [.list (x.1.map .str), .int (x.2 : Int)]) (fun x => (Ms x.1 ∧ Labs x.1) ∧ x.2 < x.1.length) f
abbrev spLnN (K : PySem.W.Frag) (f : List Str × Nat → List PyData) : Sp := spN K (fun x : List Str × Nat => [.list (x.1.map .str), .int (x.2 : Int)]) (fun x => (Ms x.1 ∧ Labs x.1) ∧ x.2 < x.1.length) f
theorem sc_L_next : FnScope ["_law_lines", "_law_at", "_law_words", "_law_jump"] ["_law_lines", "_law_at"] (defScope Zh.s_L_next) := ⟨rfl, rfl, rfl, by decide +kernel, rfl, by decide +kernel, by decide +kernel⟩
theorem ok_L_next (M : Mo K mg) (D : Df K mg "_law_next" Zh.s_L_next) : Fn CX0 P w K mg base "_law_next" 1 ["_law_lines", "_law_at"] (spLnN K fun x => nD (nextL x.1 x.2)) :=
  fn_mkG D.1 D.2 (fun _ _ _ _ _ _ us hl => match us, hl with | [_, _], _ => rfl) sc_L_next (fun _ => rfl) fun cdv A outer s H E hr => ⟨_, (pss_cons (ps_set (i := 2) sc_L_next.nd rfl (Or.inl rfl) (pe_split (pe_ix ix_list (pv 0) (pv 1) (fun _ _ => rfl)) pe_str))
    (pss_cons (ps_if (pt_cmpR op_eq (pe_ix ix_list (pv 2) pe_int (fun _ _ => rfl)) pe_str (nomark _)) (pss_one (ps_ret (pe_lst pa_nil))) pss_nil)
    (pss_cons (ps_set (i := 3) sc_L_next.nd rfl (Or.inl rfl) (pe_ifExp (pt_cmpR op_in_seq (pe_ix ix_list (pv 2) pe_int (fun _ _ => rfl)) (pe_lst (pa_cons pe_str (pa_cons pe_str pa_nil))) (by rfl)) (pe_lst (pa_cons (pe_bm PySem.F.plainAttrs_list PySem.F.slot_list_index PySem.F.type_list_index mt_index (pv 0) (pa_cons (pe_op op_add_str (pe_ix ix_list (pv 2) (pe_un un_neg pe_int) (fun _ _ => rfl)) pe_str) pa_nil)) pa_nil)) (pe_lst pa_nil)))
    (pss_one (ps_ret (pe_ifExp (pt_cmpR op_eq (pe_ix ix_list (pv 2) pe_int (fun _ _ => rfl)) pe_str (nomark _)) (pv 3) (pe_op op_cat (pv 3) (pe_lst (pa_cons (pe_op op_add (pv 1) pe_int) pa_nil))))))))), fun x vs S0 H0 i0 hp p D q => by
    obtain ⟨lines, n⟩ := x
    obtain ⟨⟨m, L⟩, hn⟩ := hp
    dsimp only at m L hn p
    obtain ⟨v, r, rfl, pv, pr⟩ := dpAll_cons p
    obtain ⟨u, r2, rfl, pu, pr2⟩ := dpAll_cons pr
    obtain rfl := dpAll_nil pr2
    obtain rfl := dp_int pu
    have q' : ∀ l S1 H1, G0 S0 H0 S1 H1 → H0 l = none → Mu K S1 H1 l (nD (nextL lines n)) → D.rt (.ref l) H1 := fun l S1 H1 g e mu => by
      obtain ⟨o, xs, h1, h2⟩ := mu
      exact q _ S1 H1 g ⟨l, xs, rfl, e, o, h1, h2⟩
    refine q_asg (ev_words (m.sh_ hn) (ev_op (rv_ixL (at_line hn)) (ev_var rfl pv) (ev_var rfl (.int _))) (ev_c (.str _))) i0 fun v1 S1 H1 g1 p1 => ?_
    have h0 : ∀ σ, σ[2]? = some (some v1) → EvD K (tOp (rIxL K) (tVar 2) (tC (.int 0))) σ S1 (.str (hdW (at' lines n))) := fun σ e => ev_w (ws_pos _) (ev_var e p1) (ev_c (.int _))
    refine q_if (b := isAns (at' lines n)) (Sees.refl g1.i) (et_val (ev_op rv_eqs (h0 _ rfl) (ev_c (.str _)))) (fun h H2 g2 => ?_) fun h H2 g2 => ?_
    · refine en_lst (K := K) ea_nil (lz 0 rfl) H2 g2.i _ fun l xs S3 H3 g3 a1 a2 a3 p3 => ?_
      refine q' l S3 H3 ((g1.trans g2).trans g3) ((g1.trans g2).fresh a1) ⟨a2, xs, a3, ?_⟩
      unfold nextL
      rw [if_pos h]
      exact p3
    have g3 := g1.trans g2
    refine q_asgN (K := K) (ds := if decide (hdW (at' lines n) ∈ (["go", "if"] : List Str)) = true then nD [place lines (tgt (at' lines n))] else []) (en_if (et_val (ev_op (rv_inS (l := ["go", "if"]) (.inl rfl)) (h0 _ rfl) (ev_lst (ea_cons (ev_c (.str _)) (ea_one (ev_c (.str _)))) (lz 2 rfl)))) (fun h3 => ?_) fun h3 => ?_) g3.i fun lj S4 H4 g4 a4 mj => ?_
    · rw [if_pos h3]
      have tin : tgt (at' lines n) ∈ lines := L _ (at_mem hn) (by have := of_decide_eq_true h3; simpa using this)
      exact en_lst (ea_one (ev_index tin (ev_var rfl (dp_same g3.s pv)) (ev_op (rv_cat (tgt_short (m.sh_ hn))) (ev_op (rv_ixL (at_last (ws_pos _))) (ev_var rfl p1) ev_m1) (ev_c (.str _))))) (lz 1 rfl)
    · rw [if_neg (by rw [h3]; decide)]
      exact en_lst ea_nil (lz 0 rfl)
    have g5 := g3.trans g4
    have e4 : H0 lj = none := g3.fresh a4
    show tIf _ _ _ _ _ _
    refine (et_val (ev_op rv_eqs ((h0 (((start ["_law_lines", "_law_at", "_law_words", "_law_jump"] [v, .int (n : Int)]).set 2 (some v1)).set 3 (some (.ref lj))) rfl).mono g4.s) (ev_c (.str _)))) H4 g4.i _ fun H5 g6 => ?_
    have m6 := mj.g0 g6
    have g7 := g5.trans g6
    have fin : nD (nextL lines n) = if isGo (at' lines n) = true then (if decide (hdW (at' lines n) ∈ (["go", "if"] : List Str)) = true then nD [place lines (tgt (at' lines n))] else []) else (if decide (hdW (at' lines n) ∈ (["go", "if"] : List Str)) = true then nD [place lines (tgt (at' lines n))] else []) ++ nD [n + 1] := by
      unfold nextL
      rw [if_neg (by rw [h]; decide)]
      cases isGo (at' lines n) <;> cases decide (hdW (at' lines n) ∈ (["go", "if"] : List Str)) <;> rfl
    cases hg : isGo (at' lines n) with
    | true =>
      rw [hg, if_pos rfl] at fin
      have e : decide (hdW (at' lines n) = "go") = true := hg
      rw [e]
      exact ⟨_, rfl, q' lj S4 H5 g7 e4 (fin ▸ m6)⟩
    | false =>
      rw [hg, if_neg Bool.false_ne_true] at fin
      have e : decide (hdW (at' lines n) = "go") = false := hg
      rw [e]
      obtain ⟨S6, g8, e6, rl, _⟩ := m6.frz g7 e4
      refine en_cat (σ := ((start ["_law_lines", "_law_at", "_law_words", "_law_jump"] [v, .int (n : Int)]).set 2 (some v1)).set 3 (some (.ref lj))) (er_var rfl rl) (en_lst (ds := nD [n + 1]) (ea_one (ev_op rv_add (ev_var (v := .int (n : Int)) rfl (.int _)) (ev_c (.int 1)))) (lz 1 rfl)).r ?_ H5 g8.i _ fun l xs S7 H7 g9 a1 a2 a3 p3 => ?_
      · cases decide (hdW (at' lines n) ∈ (["go", "if"] : List Str))
        · exact lz 1 rfl
        · exact lz 2 rfl
      · exact q' l S7 H7 (g8.trans g9) (g8.fresh a1) ⟨a2, xs, a3, fin ▸ p3⟩⟩
end
end Zb
set_option Elab.async false
set_option linter.all false
set_option maxRecDepth 100000
set_option maxHeartbeats 2000000
namespace Zb
open PySem PySem.Spec PyProof.Rows L2
section
variable {P : Program} {w : World} {K : PySem.W.Frag} {mg : Str → Option Value} {base : Heap}
theorem sc_L_runs_on : FnScope ["_law_lines", "_law_at", "_law_found", "_law_last", "_law_there"] ["_law_lines", "_law_at"] (defScope Zh.s_L_runs_on) := ⟨rfl, rfl, rfl, by decide +kernel, rfl, by decide +kernel, by decide +kernel⟩
theorem ok_L_runs_on (M : Mo K mg) (D : Df K mg "_law_runs_on" Zh.s_L_runs_on) (f_L_next : Fn CX0 P w K mg base "_law_next" 1 ["_law_lines", "_law_at"] (spLnN K fun x => nD (nextL x.1 x.2))) (f_L_is_shared : Fn CX0 P w K mg base "_law_is_shared" 1 ["_law_line"] (spLine K fun line => .bool (isShared line))) :
    Fn CX0 P w K mg base "_law_runs_on" 2 ["_law_lines", "_law_at"] (spLn K fun x => .bool (runB x.1 x.2)) :=
  fn_mk D.1 D.2 (fun _ _ _ _ _ _ us hl => match us, hl with | [_, _], _ => rfl) sc_L_runs_on (fun _ => rfl) fun cdv A outer s H E hr => ⟨_, (pss_cons (ps_par (i := 2) (j := 3) rfl sc_L_runs_on.nd rfl rfl (by decide) rfl rfl (pa_cons (pe_lst pa_nil) (pa_cons (pe_fn f_L_next (hr.mono (by decide)) rfl (pa_cons (pv 0) (pa_cons (pv 1) pa_nil))) pa_nil)) (by rfl))
    (pss_cons (ps_while PassesOwn.never (pt_cmpR (op_neNil hr.units0) (pv 3) (pe_lst pa_nil) (nomark _)) (pss_cons (ps_set (i := 4) sc_L_runs_on.nd rfl (Or.inl rfl) (pe_bm0 PySem.F.plainAttrs_list PySem.F.slot_list_pop PySem.F.type_list_pop mt_pop (pv 3)))
    (pss_cons (ps_if (pt_cmpR op_in_seq (pv 4) (pe_lst (pa_cons (pv 1) (pa_cons (pe_callB call_len (by rfl) M.len (by decide +kernel) (pa_cons (pv 0) pa_nil)) pa_nil))) (by rfl)) (pss_one (ps_ret pe_bl)) pss_nil)
    (pss_one (ps_if (PW.pt (pw_and (pt_cmpR op_notIn_seq (pv 4) (pv 2) (by rfl)) (pw_and1 (pt_not (pt_val (pe_fn f_L_is_shared (hr.mono (by decide)) rfl (pa_cons (pe_ix ix_list (pv 0) (pv 4) (fun _ _ => rfl)) pa_nil))))))) (pss_cons (ps_expr (pe_bm PySem.F.plainAttrs_list PySem.F.slot_list_append PySem.F.type_list_append mt_append (pv 2) (pa_cons (pv 4) pa_nil)))
    (pss_one (ps_set (i := 3) sc_L_runs_on.nd rfl (Or.inl rfl) (pe_op op_cat (pv 3) (pe_fn f_L_next (hr.mono (by decide)) rfl (pa_cons (pv 0) (pa_cons (pv 4) pa_nil))))))) pss_nil)))))
    (pss_one (ps_ret pe_bl)))), fun x vs S0 hp p => by
    obtain ⟨lines, n⟩ := x
    obtain ⟨⟨m, L⟩, hn⟩ := hp
    dsimp only at m L hn p
    obtain ⟨v, r, rfl, pv, pr⟩ := dpAll_cons p
    obtain ⟨u, r2, rfl, pu, pr2⟩ := dpAll_cons pr
    obtain rfl := dpAll_nil pr2
    obtain rfl := dp_int pu
    have ml0 := m.len
    intro H0 i0 D q
    show tSeq _ _ D _ H0
    refine ⟨lz 0 rfl, fun lk hk => ?_⟩
    have gk := Go.newM (o := .lst []) i0 hk
    refine en_call (K := K) (σ := start ["_law_lines", "_law_at", "_law_found", "_law_last", "_law_there"] [v, .int (n : Int)]) (lines, n) ⟨⟨m, L⟩, hn⟩ (ea_cons (ev_var rfl pv) (ea_one (ev_var rfl (.int _)))) _ gk.i _ fun ll0 xs0 S1 H1 g1 a1 a2 a3 p3 => ?_
    have mk0 : Mu K S0 (upd H0 lk (.lst [])) lk (nD []) := ⟨i0.free hk, [], upd_same, .nil⟩
    refine ⟨_, _, rfl, ?_⟩
    refine q_while (fun k σ' H' => ∃ S known last ll o, G0 S0 H0 S H' ∧ Mu K S H' lk (nD known) ∧ Mu K S H' ll (nD last) ∧ H0 ll = none ∧ lk ≠ ll ∧ σ' = [some v, some (.int (n : Int)), some (.ref lk), some (.ref ll), o] ∧ LL lines n known last ∧ last.length ≤ 2 + 2 * known.length ∧ k = last.length + 3 * (lines.length - known.length)) ((nextL lines n).length + 3 * lines.length) ?_ ?_
    · refine ⟨S1, [], nextL lines n, ll0, none, gk.trans g1, mk0.g0 g1, ⟨a2, xs0, a3, p3⟩, gk.fresh a1, fun e => ?_, rfl, LL.start L hn, ?_, rfl⟩
      · rw [← e, upd_same] at a1; cases a1
      · exact Nat.le_trans (nextL_len _ _) (by simp)
    rintro k σ' H' ⟨S, known, last, ll, o, g, mk, ml, hl0, nkl, rfl, inv, hle, rfl⟩
    obtain ⟨S1, z, e1, rl, _⟩ := ml.see1 g.i
    refine ⟨S, S1, !(nD last).isEmpty, z, et_val (ev_op rv_nenil (ev_var rfl rl.d) (ev_lst ea_nil (lz 0 rfl))), fun hb H1 g1 => ?_, fun hb H1 g1 => ?_⟩
    · have hne : last ≠ [] := fun e => by rw [e] at hb; cases hb
      obtain ⟨last', t, rfl⟩ : ∃ l x, last = l ++ [x] := ⟨last.dropLast, last.getLast hne, (List.dropLast_concat_getLast hne).symm⟩
      rw [List.length_append, List.length_singleton] at hle
      have g2 := g.trans g1
      have mk1 := mk.g0 g1
      have ml1 := ml.g0 g1
      rw [nD_snoc] at ml1
      obtain ⟨mt, tle⟩ := inv.b t (by simp)
      have kl0 := inv.k.len
      refine ⟨fun σ2 H2 => ∃ m', m' < (last' ++ [t]).length + 3 * (lines.length - known.length) ∧ ∃ S known last ll o, G0 S0 H0 S H2 ∧ Mu K S H2 lk (nD known) ∧ Mu K S H2 ll (nD last) ∧ H0 ll = none ∧ lk ≠ ll ∧ σ2 = [some v, some (.int (n : Int)), some (.ref lk), some (.ref ll), o] ∧ LL lines n known last ∧ last.length ≤ 2 + 2 * known.length ∧ m' = last.length + 3 * (lines.length - known.length), fun _ _ z => z, ?_⟩
      refine w_pop rfl ml1 g2.i fun x H2 g3 ml2 px => ?_
      obtain rfl := dp_int px
      have mk2 := mk1.go g3 nkl
      have g5 : G0 S0 H0 S H2 := g2.own g3 fun b e => .inr (e ▸ hl0)
      have pv5 : Dp K S v (.list (lines.map .str)) := dp_same g5.s pv
      refine q_if (S1 := S) (b := decide (t = n) || decide (t = lines.length)) (Sees.refl g5.i) (et_is (et_val (K := K) (ev_op (rv_inI (l := [(n : Int), (lines.length : Int)]) (.inl rfl)) (ev_var rfl (.int _)) (ev_lst (ea_cons (ev_var rfl (.int _)) (ea_one (ev_is (ev_cb rc_lenL (ea_one (ev_var rfl pv5))) (by rw [List.length_map])))) (lz 2 rfl)))) ?_) (fun h H5 g8 => ?_) fun h H5 g8 => ?_
      · rw [← Bool.decide_or]
        refine decide_eq_decide.mpr ?_
        simp only [List.mem_cons, List.not_mem_nil, or_false, Int.ofNat_inj]
      · have hr := inv.hit (by simpa using h)
        exact q _ S H5 (g5.trans g8) (by rw [runB_true hr]; exact .bl _)
      · rw [Bool.or_eq_false_iff] at h
        have n1 : t ≠ lines.length := of_decide_eq_false h.2
        have n2 : t ≠ n := of_decide_eq_false h.1
        have tl2 : t < lines.length := Nat.lt_of_le_of_ne tle n1
        have mk5 := mk2.g0 g8
        have ml5 := ml2.g0 g8
        have g9 := g5.trans g8
        obtain ⟨S6, z6, e6, rl6, _⟩ := mk5.see1 g9.i
        refine q_ifE (b := !decide (t ∈ known) && !isShared' lines t) z6 (et_is (et_and (et_val (ev_op (rv_ninI (l := known.map fun n : Nat => (n : Int)) (.inl rfl)) (ev_var rfl (.int _)) (ev_is (ev_var rfl rl6.d) (by rw [nD_ints])))) fun _ => et_not (et_B (ev_call (at' lines t) (m.sh_ tl2) (ea_one (ev_op (rv_ixL (at_line tl2)) (ev_var rfl (dp_same e6 pv5)) (ev_var rfl (.int _))))))) (by rw [mem_nD]; rfl)) (fun h3 H6 g10 => ?_) fun h3 H6 g10 => ?_
        · rw [Bool.and_eq_true] at h3
          have n3 : t ∉ known := by have := h3.1; simpa using this
          have n4 : isShared' lines t = false := by have := h3.2; simpa using this
          have g11 := g9.trans g10
          have pu := inv.push L n2 n1 n4 n3
          have pul := pu.k.len
          rw [List.length_append, List.length_singleton] at pul
          refine q_app rfl (mk5.g0 g10) (ev_var rfl (.int _)) g11.i (by rw [List.length_map]; omega) fun S7 H7 g12 mk7 => ?_
          have g13 : G0 S0 H0 S7 H7 := g11.own g12 fun b e => .inr (e ▸ hk)
          have ml7 := (ml5.g0 g10).go g12 fun e => nkl e.symm
          obtain ⟨S8, g14, e8, rl8, ne8⟩ := ml7.frz g13 hl0
          have mk8 : Mu K S8 H7 lk (nD (known ++ [t])) := by
            obtain ⟨o, xs, h1, h2⟩ := mk7
            exact ⟨by rw [ne8 lk nkl]; exact o, xs, h1, by rw [nD_snoc]; exact dpAll_same e8 h2⟩
          have len2 := nextL_len lines t
          refine s_asgN (K := K) (en_cat (er_var rfl rl8) (en_call (lines, t) ⟨⟨m, L⟩, tl2⟩ (ea_cons (ev_var rfl (dp_same g14.s pv)) (ea_one (ev_var rfl (.int _))))).r ?_) g14.i fun l9 S9 H9 g15 a1 m9 => ?_
          · rw [List.length_map, List.length_map]
            exact Nat.le_trans (show last'.length + (nextL lines t).length ≤ 200000 by omega) (by decide)
          · have g16 := g14.trans g15
            have mk9 := mk8.g0 g15
            rw [← List.map_append] at m9
            refine ⟨_, ?_, S9, known ++ [t], last' ++ nextL lines t, l9, _, g16, mk9, m9, g14.fresh a1, fun e => ?_, rfl, pu, ?_, rfl⟩
            · simp only [List.length_append, List.length_singleton]
              omega
            · have := mk8.ne
              rw [e] at this
              exact this a1
            · simp only [List.length_append, List.length_singleton]
              omega
        · have hf : Fine lines n known t := by
            refine ⟨n2, n1, ?_⟩
            cases c1 : isShared' lines t with
            | true => exact .inl rfl
            | false =>
              rw [c1] at h3
              exact .inr (by simpa using h3)
          refine ⟨_, ?_, S, known, last', ll, _, g9.trans g10, mk5.g0 g10, ml5.g0 g10, hl0, nkl, rfl, inv.skip hf, by omega, rfl⟩
          rw [List.length_append, List.length_singleton]
          omega
    · have he : last = [] := by
        cases last with
        | nil => rfl
        | cons a b => cases hb
      rw [he] at inv
      exact q _ S H1 (g.trans g1) (by rw [runB_false inv.stop]; exact .bl _)⟩
theorem sc_L_wrong_method : FnScope ["_law_lines", "_law_at", "_law_words", "_law_word"] ["_law_lines"] (defScope Zh.s_L_wrong_method) := ⟨rfl, rfl, rfl, by decide +kernel, rfl, by decide +kernel, by decide +kernel⟩
theorem cut_takeS (l : List Str) (k : Nat) : cutD (l.map PyData.str) none (some (k : Int)) = (l.take k).map PyData.str := by rw [cut_take, List.map_take]
theorem ok_L_wrong_method (M : Mo K mg) (D : Df K mg "_law_wrong_method" Zh.s_L_wrong_method) (f_L_is_shared : Fn CX0 P w K mg base "_law_is_shared" 1 ["_law_line"] (spLine K fun line => .bool (isShared line))) (f_L_runs_on : Fn CX0 P w K mg base "_law_runs_on" 2 ["_law_lines", "_law_at"] (spLn K fun x => .bool (runB x.1 x.2))) :
    Fn CX0 P w K mg base "_law_wrong_method" 3 ["_law_lines"] (spF K (fun l : List Str => [.list (l.map .str)]) Ms fun l => optD (wrongM l)) :=
  fn_mk D.1 D.2 (fun _ _ _ _ _ _ us hl => match us, hl with | [_], _ => rfl) sc_L_wrong_method (fun _ => rfl) fun cdv A outer s H E hr => ⟨_, (pss_cons (ps_for PassesOwn.never rfl (pi_range1 rfl M.range (pa_cons (pe_callB call_len (by rfl) M.len (by decide +kernel) (pa_cons (pv 0) pa_nil)) pa_nil)) (pg_name (i := 1) sc_L_wrong_method.nd rfl (Or.inl rfl)) (pss_cons (ps_set (i := 2) sc_L_wrong_method.nd rfl (Or.inl rfl) (pe_split (pe_ix ix_list (pv 0) (pv 1) (fun _ _ => rfl)) pe_str))
    (pss_one (ps_if (PW.pt (pw_or (PW.pt (pw_and (pt_cmpR op_eq (pe_callB call_len (by rfl) M.len (by decide +kernel) (pa_cons (pv 2) pa_nil)) pe_int (nomark _)) (pw_and1 (pt_cmpR op_in_seq (pe_ix ix_list (pv 0) (pv 1) (fun _ _ => rfl)) (pe_slice sl_list (pv 0) po_none (po_some (pv 1))) (by rfl))))) (pw_or1 (PW.pt (pw_and (pt_cmpR op_in_seq (pe_ix ix_list (pv 2) pe_int (fun _ _ => rfl)) (pe_lst (pa_cons pe_str (pa_cons pe_str pa_nil))) (by rfl)) (pw_and1 (pt_cmpR op_notIn_seq (pe_op op_add_str (pe_ix ix_list (pv 2) (pe_un un_neg pe_int) (fun _ _ => rfl)) pe_str) (pv 0) (by rfl)))))))) (pss_one (ps_ret (pv 1))) pss_nil))))
    (pss_cons (ps_for PassesOwn.never rfl (pi_range1 rfl M.range (pa_cons (pe_callB call_len (by rfl) M.len (by decide +kernel) (pa_cons (pv 0) pa_nil)) pa_nil)) (pg_name (i := 1) sc_L_wrong_method.nd rfl (Or.inl rfl)) (pss_cons (ps_set (i := 3) sc_L_wrong_method.nd rfl (Or.inl rfl) (pe_ix ix_list (pe_split (pe_ix ix_list (pv 0) (pv 1) (fun _ _ => rfl)) pe_str) pe_int (fun _ _ => rfl)))
    (pss_one (ps_if (PW.pt (pw_or (PW.pt (pw_and (pt_cmpR op_eq (pe_op op_add (pv 1) pe_int) (pe_callB call_len (by rfl) M.len (by decide +kernel) (pa_cons (pv 0) pa_nil)) (nomark _)) (pw_and1 (pt_cmpR op_notIn_seq (pv 3) (pe_lst (pa_cons pe_str (pa_cons pe_str pa_nil))) (by rfl))))) (pw_or1 (PW.pt (pw_and (pt_not (pt_val (pe_fn f_L_is_shared (hr.mono (by decide)) rfl (pa_cons (pe_ix ix_list (pv 0) (pv 1) (fun _ _ => rfl)) pa_nil)))) (pw_and1 (pt_val (pe_fn f_L_runs_on (hr.mono (by decide)) rfl (pa_cons (pv 0) (pa_cons (pv 1) pa_nil)))))))))) (pss_one (ps_ret (pv 1))) pss_nil))))
    (pss_one (ps_ret pe_non)))), fun lines vs S0 m p => by
    obtain ⟨v, r, rfl, pv, pr⟩ := dpAll_cons p
    obtain rfl := dpAll_nil pr
    have len := m.len
    have evl : ∀ σ, σ[0]? = some (some v) → EvD K (tCB (fun xs H Q => ∃ x n, xs = [x] ∧ LenV K x H n ∧ Q (.int n) H) (tCons (tVar 0) tNil)) σ S0 (.int (lines.length : Nat)) := fun σ h => ev_is (ev_cb rc_lenL (ea_one (ev_var h pv))) (by rw [List.length_map])
    intro H0 i0 D q
    refine q_forR (ir_1 (n := (lines.length : Nat)) (ea_one (evl _ rfl)) (by omega) (by omega) H0 i0) (n := lines.length) (lo := 0) (fun i σ' H' => G0 S0 H0 S0 H' ∧ (∃ o1 o2 o3, σ' = [some v, o1, o2, o3]) ∧ ∀ m, m < i → badLab lines m = false) ?_ ?_ ?_
    · exact fun S1 H1 g => ⟨g.keep, ⟨_, _, _, rfl⟩, by omega⟩
    · rintro i _ H1 hi ⟨g, ⟨o1, o2, o3, rfl⟩, hb⟩
      rw [Int.zero_add]
      refine q_asg (K := K) (ev_words (m.sh_ hi) (ev_op (rv_ixL (at_line hi)) (ev_var rfl pv) (ev_var rfl (.int _))) (ev_c (.str _))) g.i fun v1 S1 H2 g1 p1 => ?_
      have g2 := g.trans g1
      have pv1 := dp_same g1.s pv
      refine q_ifE (b := badLab lines i) (Sees.refl g1.i) (et_or (et_and (et_val (ev_op rv_eqi (ev_lenW (ev_var rfl p1)) (ev_c (.int _)))) fun _ => et_val (ev_op (rv_inS (.inl rfl)) (ev_op (rv_ixL (at_line hi)) (ev_var rfl pv1) (ev_var rfl (.int _))) (ev_is (ev_slL (ev_var rfl pv1) eo_none (eo_some (ev_var (K := K) rfl (.int _)))) (by rw [cut_takeS])))) fun _ =>
        et_and (et_val (ev_op (rv_inS (l := ["go", "if"]) (.inl rfl)) (ev_w (ws_pos _) (ev_var rfl p1) (ev_c (.int _))) (ev_lst (ea_cons (ev_c (.str _)) (ea_one (ev_c (.str _)))) (lz 2 rfl)))) fun _ => et_val (ev_op (rv_ninS (.inl rfl)) (ev_op (rv_cat (tgt_short (m.sh_ hi))) (ev_op (rv_ixL (at_last (ws_pos _))) (ev_var rfl p1) ev_m1) (ev_c (.str _))) (ev_var rfl pv1))) (fun h H3 g3 => ?_) fun h H3 g3 => ?_
      · exact ⟨_, rfl, q _ S1 H3 (g2.trans g3) (by rw [wrongM_lab hi hb h]; exact .int _)⟩
      · exact ⟨(g2.trans g3).keep, ⟨_, _, _, rfl⟩, upto hb h⟩
    rintro _ H1 ⟨g, ⟨o1, o2, o3, rfl⟩, hb⟩
    have L := labs_of hb
    refine q_forR (ir_1 (n := (lines.length : Nat)) (ea_one (evl _ rfl)) (by omega) (by omega) H1 g.i) (n := lines.length) (lo := 0) (fun i σ' H' => G0 S0 H0 S0 H' ∧ (∃ o1 o2 o3, σ' = [some v, o1, o2, o3]) ∧ ∀ m, m < i → badRun lines m = false) ?_ ?_ ?_
    · exact fun S1 H2 g2 => ⟨g.trans g2.keep, ⟨_, _, _, rfl⟩, by omega⟩
    · rintro i _ H1 hi ⟨g, ⟨o1, o2, o3, rfl⟩, hb2⟩
      rw [Int.zero_add]
      refine q_asg (K := K) (d := .str (hdW (at' lines i))) (ev_w (ws_pos _) (ev_words (m.sh_ hi) (ev_op (rv_ixL (at_line hi)) (ev_var rfl pv) (ev_var rfl (.int _))) (ev_c (.str _))) (ev_c (.int _))) g.i fun v2 S2 H2 g2 p2 => ?_
      obtain rfl := dp_str p2
      have g3 := g.trans g2.keep
      refine q_ifE (b := badRun lines i) (Sees.refl g3.i) (et_or (et_and (et_val (ev_op rv_eqi (ev_op rv_add (ev_var rfl (.int _)) (ev_c (.int 1))) (evl _ rfl))) fun _ => et_val (ev_op (rv_ninS (l := ["answer", "go"]) (.inl rfl)) (ev_var (K := K) rfl (.str _)) (ev_lst (ea_cons (ev_c (.str _)) (ea_one (ev_c (.str _)))) (lz 2 rfl)))) fun _ =>
        et_and (et_not (et_B (ev_call (at' lines i) (m.sh_ hi) (ea_one (ev_op (rv_ixL (at_line hi)) (ev_var rfl pv) (ev_var rfl (.int _))))))) fun _ => et_B (ev_call (lines, i) ⟨⟨m, L⟩, hi⟩ (ea_cons (ev_var rfl pv) (ea_one (ev_var rfl (.int _)))))) (fun h H3 g4 => ?_) fun h H3 g4 => ?_
      · exact ⟨_, rfl, q _ S0 H3 (g3.trans g4) (by rw [wrongM_run hb hi hb2 h]; exact .int _)⟩
      · exact ⟨g3.trans g4, ⟨_, _, _, rfl⟩, upto hb2 h⟩
    · rintro _ H2 ⟨g2, ⟨o1, o2, o3, rfl⟩, hb2⟩
      exact q _ S0 H2 g2 (by rw [wrongM_no hb hb2]; exact .non)⟩
end
end Zb
set_option Elab.async false
set_option linter.all false
set_option maxRecDepth 100000
set_option maxHeartbeats 2000000
/-! BadProgram(line): the class's own __init__, which calls super's. -/
namespace PySem
namespace BadX
open PySem.W PySem.Calls PyProof.Rows PySem.HandSPX
abbrev theFile : Str := "/claim/cut.py"
/-- the class's record -/
def clsOk (K : Frag) (C : Addr) : Bool := match K.lookup C with
  | some ⟨.type "type", _, .cls cd, sl⟩ => (match cd.mro, sl.toList with
    | .ref C' :: bm, [_, _, _, _, some (.builtin n), _] => C' == C && n == "ValueError.__new__" && !cd.hasDel && (refsVE bm && cd.hasDict)
    | _, _ => false)
  | _ => false
theorem clsOk_of {K : Frag} {C : Addr} (q : clsOk K C = true) : ∃ nm qn N bs bm sn sub ab col dd k0 k1 k2 k3 k5, K.lookup C = some (excClassObj nm qn C N bs bm true sn sub ab col dd k0 k1 k2 k3 k5 "ValueError.__new__") ∧ refsVE bm = true := by
  unfold clsOk at q
  split at q
  · rename_i dd cd sl ho
    split at q
    · rename_i C' bm k0 k1 k2 k3 n k5 hm hs
      simp only [Bool.and_eq_true, beq_iff_eq, Bool.not_eq_true'] at q
      obtain ⟨⟨⟨rfl, rfl⟩, hdel⟩, ht, hd2⟩ := q
      obtain ⟨nm, bs, mro, ns, qn, hd, sn, sub, ab, col, del⟩ := cd
      dsimp only at hm hdel hd2
      subst hm hdel hd2
      have hsl : sl = #[k0, k1, k2, k3, some (.builtin "ValueError.__new__"), k5] := by
        obtain ⟨l⟩ := sl
        simp only at hs
        subst hs
        rfl
      subst hsl
      exact ⟨nm, qn, ns, bs, bm, sn, sub, ab, col, dd, k0, k1, k2, k3, k5, ho, ht⟩
    · cases q
  · cases q
/-- what the written part says of the class at C and of its __init__, at f -/
structure Txt (prog : Program) (K : Frag) (C f : Addr) : Prop where
  cls : ∃ nm q N bs bm sn sub ab col dd k0 k1 k2 k3 k5, K.lookup C = some (excClassObj nm q C N bs bm true sn sub ab col dd k0 k1 k2 k3 k5 "ValueError.__new__") ∧ refsVE bm = true
  sa : findIn K (.ref C) "__setattr__" = some (some (.builtin "object.__setattr__"))
  noN : findIn K (.ref C) "line" = some none
  iC : findIn K (.ref C) "__init__" = some (some (.ref f))
  tC : typeIn K (.ref f) = some (.type "function")
  kC : keepIn K (.ref C) = true
  exC : subIn K (.ref C) (.type "BaseException") = some true
  veC : subIn K (.ref C) (.type "ValueError") = some true
  tyC : typeIn K (.ref C) = some (.type "type")
  su : ks_superIn K C C "__init__" = some (some (.builtin "ValueError.__init__"))
  self : mroIn K C (.ref C) = some true
  opq : nsIn K cStatics "thirdparty.any" = some none
  file : prog.main.file = theFile
  top : (prog.main.scope.names.lookup ("super" : Str)).isSome = false
  fn : ∃ (oc kV doc pm ct : Value) (od an : Option Addr) (osl : Array (Option Value)) (cc cda : Addr), K.lookup f = some ⟨oc, od, .func (ksFn "__init__" "BadProgram.__init__" (L2.defArgs Zh.s_init) (L2.defBody Zh.s_init) (L2.defScope Zh.s_init) .none kV doc pm an (.ref cda) ct cc), osl⟩ ∧ codeIn K (.ref cda) "BadProgram.__init__" = true ∧
    (∃ c1 d1 s1, K.lookup cc = some ⟨c1, d1, .cell (some (.ref C)), s1⟩) ∧ ∃ c2 d2 vs s2 tf, K.lookup cda = some ⟨c2, d2, .fields vs, s2⟩ ∧ vs[2]? = some (.str theFile tf)
/-- what __init__ leaves of a fresh exception at x -/
structure InitEnd (h h' : Heap) (x C dx : Addr) (v : Value) : Prop where
  keep : ∀ b o, b ≠ x → h.get? b = some o → h'.get? b = some o
  obj : ∃ t1 : Addr, h'.get? x = some { cls := .ref C, dict := some dx, data := .fields #[.ref t1, .none, .none, .none, .bool false, .none] }
  dbig : h.objs.size ≤ dx
  dne : dx ≠ x
  ns : h'.Ns1 dx (fun y => if y = "line" then some v else none)
section
variable {prog : Program} {w : World} {A : Around} {E : Value → Shared → Prop} {h : Heap} {g : Array GenState} {d : Drawn} {t : Nat} {os : OsState}
variable {nm q : Str} {C N : Addr} {bs bm bmB : List Value} {hdct : Bool} {sn : List Str} {sub : List Value} {ab : Bool} {col : Option Bool} {dd : Option Addr} {k0 k1 k2 k3 k5 : Option Value}
theorem call_mw {u e t0 : Addr} {rest : List Value} {Q : Value → Shared → Prop}
    (hC : h.get? C = some (excClassObj nm q C N bs bm hdct sn sub ab col dd k0 k1 k2 k3 k5 "ValueError.__new__")) (he : h.get? e = some (excO C t0)) (hu : h.get? u = some (kxs_mw "ValueError.__init__" e)) (hrest : rest.length ≤ sizeLine)
    (hq : ∀ h' t1, (∀ b o, b ≠ e → h.get? b = some o → h'.get? b = some o) → h'.get? e = some (excO C t1) → Q .none ⟨h', g, d, t, os⟩) :
    wpAny (model prog w) A (call (.ref u) rest) Q E ⟨h, g, d, t, os⟩ := by
  refine wpAny_call (codeAny_of_tree ?_)
  show wpAny _ A.in1 (callAny (.ref u) ⟨rest, []⟩) _ _ _
  simp only [callAny]
  refine wpAny_bind (wpAny_load hu ?_)
  simp only [kxs_mw, show (Value.type "method-wrapper" == Value.type "method" || Value.type "method-wrapper" == Value.type "builtin_function_or_method" || Value.type "method-wrapper" == Value.type "method-wrapper") = true by decide, if_true]
  refine W.KFB.if_so (by decide) ?_
  refine wpAny_bind (check_bound_init F.excBase_ValueError.toExcCallFacts hC he rfl ?_)
  refine wpAny_bind (wpAny_pure (wpAny_pure ?_))
  refine ⟨Code.quiet_builtin _ (by decide +kernel), codeAny_builtin F.excBase_ValueError.initEntry ?_⟩
  rw [Around.under_plainId F.excBase_ValueError.init.plain _]
  wp_walk
  refine hq _ h.objs.size (fun b o hb ho => ?_) ?_
  · rw [Heap.get?_update_other _ _ (Ne.symm hb)]
    exact Heap.get?_push_of_some _ ho
  · rw [Heap.get?_update_self _ (Heap.get?_push_of_some _ he) rfl]
    rfl
end
section
variable {prog : Program} {w : World} {A : Around} {E : Value → Shared → Prop} {R : Result → Shared → Prop} {s : Shared} {K : Frag} {mg : Str → Option Value} {C f : Addr}
abbrev iB (p0 p1 p2 p3 p4 p5 q1 q2 q3 q4 : Pos) : List Stmt := [.Expr (.Call (.Attribute (.Call (.Name "super" p0) [] [] p1) "__init__" p2) [.Constant (.str "no program") 0 p3] [] p4) p5, .Assign [.Attribute (.Name "self" q1) "line" q2] (.Name "line" q3) q4]
theorem body_is : L2.defBody Zh.s_init = iB ⟨9, 8, 9, 13⟩ ⟨9, 8, 9, 15⟩ ⟨9, 8, 9, 24⟩ ⟨9, 25, 9, 37⟩ ⟨9, 8, 9, 38⟩ ⟨9, 8, 9, 38⟩ ⟨10, 8, 10, 12⟩ ⟨10, 8, 10, 17⟩ ⟨10, 20, 10, 24⟩ ⟨10, 8, 10, 24⟩ := by rfl
theorem loc_is {x : Addr} {v : Value} : ∀ y ∈ ([("self", .ref x), ("line", v)] : List (Str × Value)), (L2.defScope Zh.s_init).names.lookup y.1 = some .local := by
  intro y hy
  rcases List.mem_cons.mp hy with rfl | hy
  · show (L2.defScope Zh.s_init).names.lookup ("self" : Str) = some NameKind.local
    decide +kernel
  · rw [List.mem_singleton.mp hy]
    show (L2.defScope Zh.s_init).names.lookup ("line" : Str) = some NameKind.local
    decide +kernel
theorem bad_init (T : Txt prog K C f) {x t0 : Addr} {v : Value} {mb : Str → Option Value} (X : K.In s.heap) (G : s.heap.Ns mainGlobals mg) (B : s.heap.Ns builtinsNs mb) (hb : mb "super" = bootBuiltins "super") (hs : mg "super" = none) (hlim : s.heap.NoLimit)
    (hx : s.heap.get? x = some (excO C t0)) (hnx : K.lookup x = none) (hroom : A.depth < recursionLimit)
    (hq : ∀ h' tk dx, InitEnd s.heap h' x C dx v → R (.ok (.ret .none)) { s with heap := h', toks := tk }) :
    codeAny (model prog w) A (.call (.ref f) ⟨[.ref x, v], []⟩) R s := by
  obtain ⟨oc, kV, doc, pm, ct, od, an, osl, cc, cda, ho, hcd, ⟨c1, d1, s1, hcell⟩, c2, d2, vs, s2, tf, hcode, hvs⟩ := T.fn
  obtain ⟨nm, q, N, bs, bm, sn, sub, ab, col, dd, k0, k1, k2, k3, k5, hC, hbm⟩ := T.cls
  have hcl : clsIn K C = some { name := nm, bases := bs, mro := .ref C :: bm, ns := N, qualname := q, hasDict := true, slotNames := sn, subclasses := sub, abstract := ab, collection := col, hasDel := false } := by unfold clsIn; rw [hC] <;> rfl
  obtain ⟨hp, g, dr, tk, os⟩ := s
  refine ks_codeAny_call_defAt (fd := ksFn "__init__" "BadProgram.__init__" (L2.defArgs Zh.s_init) (L2.defBody Zh.s_init) (L2.defScope Zh.s_init) .none kV doc pm an (.ref cda) ct cc) (body := L2.defBody Zh.s_init) (binds := [("self", .ref x), ("line", v)]) hroom (X _ _ ho) rfl hlim (codeRec_of X hcd) rfl (BindsTo.of_eq (by first | rfl | with_unfolding_all rfl)) (show ∀ y ∈ (L2.defScope Zh.s_init).names, y.2 ≠ .cell by decide +kernel) loc_is (fun h₁ hns k => ?_) rfl rfl rfl
  have hxL : hp.objs.size ≠ x := Nat.ne_of_gt (Heap.lt_size hx)
  have X₁ : K.In h₁ := X.keeps k
  have hx₁ := k _ _ hx
  obtain ⟨mn, hmn⟩ : ∃ m : Str → Option Value, m = fun y => ([("self", .ref x), ("line", v)] : List (Str × Value)).reverse.lookup y := ⟨_, rfl⟩
  show _root_.PySem.wpAt (model prog w) (A.deeper (ksEnv "BadProgram.__init__" (L2.defScope Zh.s_init) hp.objs.size f (.ref cda) cc)) (.func (L2.defBody Zh.s_init) (ksEnv "BadProgram.__init__" (L2.defScope Zh.s_init) hp.objs.size f (.ref cda) cc)) (execs (L2.defBody Zh.s_init) (ksEnv "BadProgram.__init__" (L2.defScope Zh.s_init) hp.objs.size f (.ref cda) cc)) _ _ _
  have kk : (L2.defScope Zh.s_init).kind = .function := by rfl
  have fun_ : (ksEnv "BadProgram.__init__" (L2.defScope Zh.s_init) hp.objs.size f (.ref cda) cc).scope.kind = .function := kk
  refine ks_wpAt_execs_cons (ks_wpAt_Expr_any (ks_wpAt_MethodCall (pl := _) ?_ (by rfl)))
  refine ks_wpAt_super_base (attr := "__init__") (by first | rfl | decide +kernel) (by first | rfl | decide +kernel) (by decide +kernel) rfl (X₁ _ _ ho) rfl rfl rfl (X₁ _ _ hcode) rfl hvs (by rw [T.file]; exact beq_self_eq_true _) T.top ?_
  refine ks_loadName_global kk (by first | rfl | decide +kernel) (loadGlobal_builtin (G.keeps k) hs (B.keeps k) (hb.trans (by first | rfl | decide +kernel)) ⟨rfl, ?_⟩)
  refine wpAny_loadName_free kk (by first | rfl | decide +kernel) rfl ⟨_, X₁ _ _ hcell, rfl⟩ ?_
  refine wpAny_loadName_local kk (by first | rfl | decide +kernel) hns (by first | rfl | with_unfolding_all rfl) ?_
  refine ks_wpAny_isType_cls (X₁ _ _ hC) rfl ⟨rfl, ?_⟩
  refine ks_wpAny_call_super (X₁ _ _ hC) rfl hx₁ rfl (fun c e => by cases e) (looks_mroIn X₁ T.self) (fun h₂ hso k2 => ?_)
  have X₂ : K.In h₂ := X₁.keeps k2
  have hx₂ := k2 _ _ hx₁
  have I₂ : PySem.W.InstAt h₂ x (excO C t0) C none := ⟨hx₂, rfl, rfl, trivial⟩
  have hI : Looks (model prog w) h₂ (isInstance (.ref x) (.type "ValueError")) true := I₂.type.andThen (looks_subIn X₂ T.veC)
  have hm := T.su
  unfold ks_superIn at hm
  rw [hcl] at hm
  refine kxs_getMethod kxs_ValueError hso (looks_opaque X₂ T.opq) (l₀ := .ref C :: bm) (fun A Q E s k q => wpAny_bind ((looks_clsIn X₂ hcl) A _ E s k (wpAny_pure q))) rfl X₂ hm hI (ks_ne X₂ I₂ hcl) (by decide +kernel) ?_
  have k3 : ∀ b o, h₂.get? b = some o → (h₂.push (kxs_mw "ValueError.__init__" x)).get? b = some o := fun b o e => Heap.get?_push_of_some _ e
  refine kxs_callWith (i := "ValueError.__init__") (x := x) (by rfl) (evalArgs_plain (spliced_cons (Constant_str (k := 0) (pos := ⟨9, 25, 9, 37⟩) (spliced_nil ⟨Heap.get?_push_at rfl rfl, ?_⟩))))
  refine call_mw (k3 _ _ (X₂ _ _ hC)) (k3 _ _ hx₂) (Heap.get?_push_at rfl rfl) (show 1 ≤ sizeLine by decide) (fun h₄ t1 k4 hx₄ => ?_)
  have old : ∀ b o, b ≠ x → hp.get? b = some o → h₄.get? b = some o := fun b o hb e => k4 b o hb (k3 b o (k2 b o (k b o e)))
  have X₄ : K.In h₄ := fun a o e => by
    refine old a o (fun z => ?_) (X a o e)
    rw [z, hnx] at e
    cases e
  have hn₄ : h₄.Ns hp.objs.size (fun y => ([("self", .ref x), ("line", v)] : List (Str × Value)).reverse.lookup y) := by
    obtain ⟨oL, es, ep, hL, r⟩ := hns
    exact ⟨oL, es, ep, k4 _ _ hxL (k3 _ _ (k2 _ _ hL)), r⟩
  refine ks_wpAt_execs_cons (ks_wpAt_Assign_Attr (wpAt_of_wpAny ?_) (by rfl))
  show wpAny _ _ (eval (.Name "line" ⟨10, 20, 10, 24⟩) _) _ _ _
  refine wpAny_Name (wpAny_loadName_local kk (by first | rfl | decide +kernel) hn₄ (v := v) (by first | rfl | with_unfolding_all rfl) ?_) (by decide +kernel)
  show wpAny _ _ (eval (.Name "self" ⟨10, 8, 10, 12⟩) _) _ _ _
  refine wpAny_Name (wpAny_loadName_local kk (by first | rfl | decide +kernel) hn₄ (v := .ref x) (by first | rfl | with_unfolding_all rfl) ?_) (by decide +kernel)
  refine set_plain X₄ (ox := excO C t1) (od := none) ⟨hx₄, rfl, rfl, trivial⟩ T.sa ?_
  refine exc_osa X₄ hx₄ hcl (show refsVE (.ref C :: bm) = true from hbm) rfl T.noN (fun h₅ tk₅ dx k₅ dn dne hx₅ hn₅ => ?_)
  refine wpAt_of_wpAny (wpAny_execs_nil (hq h₅ tk₅ dx ⟨fun b o hb e => k₅ b o hb (old b o hb e), ⟨t1, hx₅⟩, ?_, dne, hn₅⟩))
  have z := Heap.lt_size (k4 _ _ hxL (k3 _ _ (k2 _ _ (show h₁.get? hp.objs.size = some _ from hns.choose_spec.choose_spec.choose_spec.1))))
  exact Nat.le_of_lt (Nat.lt_of_lt_of_le z dn)
/-- a made one -/
structure OwnMade (h h' : Heap) (e C d : Addr) (v : Value) : Prop where
  keep : ∀ b o, h.get? b = some o → h'.get? b = some o
  new : h.objs.size ≤ e
  obj : ∃ oe vs, h'.get? e = some oe ∧ oe.cls = .ref C ∧ oe.dict = some d ∧ oe.data = .fields vs ∧ vs[1]? = some .none
  dbig : h.objs.size ≤ d
  dne : d ≠ e
  ns : h'.Ns1 d (fun y => if y = "line" then some v else none)
theorem bad_made (T : Txt prog K C f) {v : Value} {mb : Str → Option Value} (X : K.In s.heap) (G : s.heap.Ns mainGlobals mg) (B : s.heap.Ns builtinsNs mb) (hb : mb "super" = bootBuiltins "super") (hs : mg "super" = none) (hlim : s.heap.NoLimit) (hroom : A.depth + 1 < recursionLimit)
    (hq : ∀ h' tk e d, OwnMade s.heap h' e C d v → R (.ok (.ret (.ref e))) { s with heap := h', toks := tk }) :
    codeAny (model prog w) A (.call (.ref C) ⟨[v], []⟩) R s := by
  obtain ⟨nm, q, N, bs, bm, sn, sub, ab, col, dd, k0, k1, k2, k3, k5, hC, hbm⟩ := T.cls
  obtain ⟨hp, g, dr, tk, os⟩ := s
  have k : ∀ b o, hp.get? b = some o → ((hp.push (kdv_tup [v])).push (excO C hp.objs.size)).get? b = some o := fun b o e => Heap.get?_push_of_some _ (Heap.get?_push_of_some _ e)
  have hget : ((hp.push (kdv_tup [v])).push (excO C hp.objs.size)).get? (hp.objs.size + 1) = some (excO C hp.objs.size) := by heap_get
  have hnx : K.lookup (hp.objs.size + 1) = none := by
    cases e : K.lookup (hp.objs.size + 1) with
    | none => rfl
    | some o =>
      have z : hp.get? (hp.objs.size + 1) = some o := X _ _ e
      exact absurd (Nat.lt_of_succ_lt (Heap.lt_size z)) (Nat.lt_irrefl _)
  refine call_own F.excBase_ValueError (fun X => refsVE_contains X bm hbm) (X _ _ hC) (looks_findIn X T.iC) (fun self => bind_fn X self T.tC) (show 1 ≤ sizeLine by decide) ?_
  refine bad_init (s := ⟨(hp.push (kdv_tup [v])).push (excO C hp.objs.size), g, dr, tk, os⟩) T (X.keeps k) (G.keeps k) (B.keeps k) hb hs (hlim.keeps k) hget hnx ?_ fun h' tk' dx ⟨k', hx, dn, dne, hns⟩ => ?_
  · show A.depth + 1 < recursionLimit
    exact hroom
  · have old : ∀ b o, hp.get? b = some o → h'.get? b = some o := fun b o e => k' b o (Nat.ne_of_lt (Nat.lt_succ_of_lt (Heap.lt_size e))) (k b o e)
    have z : hp.objs.size + 1 + 1 ≤ dx := by
      first
        | (simpa only [Heap.size_push] using dn)
        | exact dn
        | (have q := dn; rw [Heap.size_push, Heap.size_push] at q; exact q)
    obtain ⟨t1, hx⟩ := hx
    exact ⟨rfl, hq h' tk' (hp.objs.size + 1) dx ⟨old, Nat.le_succ _, ⟨_, _, hx, rfl, rfl, rfl, rfl⟩, Nat.le_trans (Nat.le_trans (Nat.le_succ _) (Nat.le_succ _)) z, dne, hns⟩⟩
end
end BadX
end PySem
namespace L2
open PySem PySem.Spec PyProof.Rows
theorem relO_line {v : V} {v' : Value} (r : RelV v v') (f : Str) : RelO (List.lookup f [(("line" : Str), v)]) (if f = "line" then some v' else none) := by
  by_cases hw : f = "line"
  · subst hw
    rw [if_pos rfl]
    have q : List.lookup ("line" : Str) [(("line" : Str), v)] = some v := by simp [List.lookup]
    rw [q]
    exact r
  · rw [if_neg hw]
    have qw : (f == ("line" : Str)) = false := by simpa using hw
    have q2 : List.lookup f [(("line" : Str), v)] = none := by simp [List.lookup, qw]
    rw [q2]
    trivial
section
variable {X : Cx} {C f : Addr}
/-- BadProgram(e) -/
def tMkBad (C : Addr) (ta : TA) : L2.St → Hp → XK → Prop := fun σ H Q => ta σ H fun vs H1 => ∃ v, vs = [v] ∧ ∀ d, H1 d = none → Q (.ref C) (some d) (upd H1 d (.xd [(("line" : Str), v)]))
theorem pmk_bad {a : Expr} {ta : TA} {p pos : Pos} {k : Nat} (T : PySem.BadX.Txt X.prog X.K C f) (gC : X.mg "BadProgram" = some (.ref C)) (hs : X.mg "super" = none) (hr : Room k X.A) (ha : PA X [a] ta) (hg : Gl X "BadProgram" := by rfl)
    (he : starEach (a :: []) X.env = (false, eval a X.env) :: starEach [] X.env := by rfl) (hpl : (backTo pos (starEach [] X.env)).any (·.1) = false := by rfl) :
    PMk X (.Call (.Name "BadProgram" p) [a] [] pos) (tMkBad C ta) := by
  intro pins s σ H Q I h
  refine wpAny_Call_Name_kw (ld_glob I hg gC ?_)
  refine PySem.W.callWith_K (h₀ := X.base) I.ok.mod.kin T.kC (thn (ha.run pos pins s σ H _ I h) fun us s1 hh => ?_) he hpl
  obtain ⟨vs, H1, I1, r1, v, ev, q1⟩ := hh
  subst ev
  refine ⟨I1.kIn, ?_⟩
  cases r1 with
  | cons rv rn =>
    rename_i v' us'
    cases rn
    show wpAny _ _ (call (.ref C) [v']) _ _ _
    have hlim := I1.nolimit
    obtain ⟨mb, hB, hbb⟩ := I1.mod.blt
    have hG := I1.mod.glob.keeps I1.bk
    have hB' := hB.keeps I1.bk
    obtain ⟨hp, g, dr, tk, os⟩ := s1
    refine wpAny_call (PySem.BadX.bad_made T I1.kIn hG hB' (hbb "super" (by decide)) hs hlim (by have := hr.dp; omega) fun h' tk' e d M => ?_)
    show MkP X pins σ Q (.ref e) ⟨h', g, dr, tk', os⟩
    obtain ⟨oe, fv, hoe, hc, hd, hdat, h1⟩ := M.obj
    have hns := M.ns
    obtain ⟨G', g1, g2⟩ := restrict h' fun b => decide (b ≠ e)
    have gk : ∀ b, b ≠ e → G'.get? b = h'.get? b := fun b hb => g1 b (decide_eq_true hb)
    have ge : G'.get? e = none := g2 e (by simp)
    have old : ∀ b o, hp.get? b = some o → G'.get? b = some o := fun b o q => (gk b (Nat.ne_of_lt (Nat.lt_of_lt_of_le (Heap.lt_size q) M.new))).trans (M.keep b o q)
    have ob : ObjOk X.prog X.w (upd H1 d (.xd [(("line" : Str), v)])) G' d (.xd [(("line" : Str), v)]) :=
      ⟨_, hns.at (fun o q => (gk d M.dne).trans q), fun f => relO_line rv f⟩
    have J : Inv X pins σ (upd H1 d (.xd [(("line" : Str), v)])) ⟨G', g, dr, tk', os⟩ := I1.laid (t' := tk') old M.dbig ob
    refine ⟨e, oe, fv, ⟨G', g, dr, tk', os⟩, _, .ref C, some d, rfl, J, fun b o q => ?_, ge, hoe, ⟨hc, hd⟩, hdat, h1, ?_, rfl, I1.bare, raises_own T.exC T.tyC, q1 d (I1.hok.fresh M.dbig)⟩
    · by_cases hb : b = e
      · have q' : G'.get? b = some o := q
        rw [hb, ge] at q'; cases q'
      · exact (gk b hb).symm.trans q
    · rw [upd_ne (Ne.symm M.dne)]
      exact I1.hok.fresh M.new
/-- raise BadProgram(e) -/
def tRaiseBad (C : Addr) (W : WX) (ta : TA) : TS := fun _ σ H => tMkBad C ta σ H fun cls d H' => W cls d σ H'
theorem ps_raiseBad {a : Expr} {ta : TA} {W : WX} {p pos pos2 : Pos} {k : Nat} (hc : X.calm = true) (T : PySem.BadX.Txt X.prog X.K C f) (gC : X.mg "BadProgram" = some (.ref C)) (hs : X.mg "super" = none) (hr : Room k X.A) (tk : Takes X W) (ha : PA X [a] ta) (hg : Gl X "BadProgram" := by rfl)
    (he : starEach (a :: []) X.env = (false, eval a X.env) :: starEach [] X.env := by rfl) (hpl : (backTo pos (starEach [] X.env)).any (·.1) = false := by rfl) :
    PS X (.Raise (some (.Call (.Name "BadProgram" p) [a] [] pos)) none pos2) (tRaiseBad C W ta) := ps_raise hc tk (pmk_bad T gC hs hr ha hg he hpl)
end
end L2
set_option Elab.async false
set_option linter.all false
set_option maxRecDepth 100000
set_option maxHeartbeats 4000000
/-! The whole text: its methods, what is wrong first. -/
namespace Zb
open PySem PySem.Spec PyProof.Rows L2
/-- a method so far: its name, its line's number, its rows' lines -/
structure Seg where
  nm : Str
  hd : Nat
  rows : List Str
def isOn (line : Str) : Bool := decide (hdW line = "on")
def onBad (names : List Str) (line : Str) : Bool := !decide (((ws line).length : Int) = 2) || (!isName (wd (ws line) 1) || decide (wd (ws line) 1 ∈ names))
def addRow (segs : List Seg) (line : Str) : List Seg := match segs.getLast? with
  | none => []
  | some s => segs.dropLast ++ [⟨s.nm, s.hd, s.rows ++ [line]⟩]
theorem addRow_snoc (pre : List Seg) (s : Seg) (line : Str) : addRow (pre ++ [s]) line = pre ++ [⟨s.nm, s.hd, s.rows ++ [line]⟩] := by
  unfold addRow
  rw [List.getLast?_concat, List.dropLast_concat]
abbrev nms (segs : List Seg) : List Str := segs.map (·.nm)
/-- one line -/
def stepS (segs : List Seg) (n : Nat) (line : Str) : Option (List Seg) :=
  if isOn line = true then (if onBad (nms segs) line = true then none else some (segs ++ [⟨wd (ws line) 1, n, []⟩]))
  else if (isNone (rowD line) || segs.isEmpty) = true then none else some (addRow segs line)
/-- behind i lines (the first one is not counted) -/
def scanS (lines : List Str) : Nat → Option (List Seg)
  | 0 => some []
  | i + 1 => (scanS lines i).bind fun segs => stepS segs (i + 1) (at' lines (i + 1))
theorem scan_none {lines : List Str} {i : Nat} (h : scanS lines i = none) : scanS lines (i + 1) = none := by
  show (scanS lines i).bind _ = none
  rw [h]
  rfl
theorem scan_more {lines : List Str} {i : Nat} {segs : List Seg} (h : scanS lines i = some segs) : scanS lines (i + 1) = stepS segs (i + 1) (at' lines (i + 1)) := by
  show (scanS lines i).bind _ = _
  rw [h]
  rfl
theorem scan_up {lines : List Str} {i : Nat} (h : scanS lines i = none) : ∀ k, scanS lines (i + k) = none
  | 0 => h
  | k + 1 => scan_none (scan_up h k)
theorem scan_down {lines : List Str} {i j : Nat} {segs : List Seg} (h : scanS lines i = some segs) (hj : j ≤ i) : ∃ s, scanS lines j = some s := by
  cases e : scanS lines j with
  | some s => exact ⟨s, rfl⟩
  | none =>
    have := scan_up e (i - j)
    rw [show j + (i - j) = i by omega, h] at this
    cases this
/-- the first wrong line, where there is one -/
def badLine (lines : List Str) : Option Nat := ((List.range (lines.length - 1)).find? fun i => (scanS lines (i + 1)).isNone).map (· + 1)
theorem badLine_at {lines : List Str} {i : Nat} {segs : List Seg} (hi : i + 1 < lines.length) (h : scanS lines i = some segs) (h2 : scanS lines (i + 1) = none) : badLine lines = some (i + 1) := by
  unfold badLine
  rw [find_at (i := i) (by omega) (fun m hm => by
    obtain ⟨s, e⟩ := scan_down h (Nat.succ_le_of_lt hm)
    rw [e]
    rfl) (by rw [h2]; rfl)]
  rfl
theorem badLine_no {lines : List Str} {segs : List Seg} (h : scanS lines (lines.length - 1) = some segs) : badLine lines = none := by
  unfold badLine
  rw [find_no fun m hm => by
    obtain ⟨s, e⟩ := scan_down h (Nat.succ_le_of_lt hm)
    rw [e]
    rfl]
  rfl
/-- what is wrong with a method -/
noncomputable def segBad (s : Seg) : Option Nat := if s.rows.isEmpty = true then some s.hd else (wrongM s.rows).map (s.hd + 1 + ·)
noncomputable def firstBad (segs : List Seg) : Option Nat := segs.findSome? segBad
theorem firstBad_at {segs : List Seg} {i n : Nat} {s : Seg} (h : segs[i]? = some s) (h0 : ∀ j t, j < i → segs[j]? = some t → segBad t = none) (h1 : segBad s = some n) : firstBad segs = some n := by
  unfold firstBad
  induction segs generalizing i with
  | nil => simp at h
  | cons a r ih =>
    cases i with
    | zero =>
      simp at h
      subst h
      rw [List.findSome?_cons, h1]
    | succ i =>
      have z := h0 0 a (by omega) (by simp)
      rw [List.findSome?_cons, z]
      exact ih (by simpa using h) fun j t hj ht => h0 (j + 1) t (by omega) (by simpa using ht)
theorem firstBad_no {segs : List Seg} (h : ∀ (j : Nat) (t : Seg), segs[j]? = some t → segBad t = none) : firstBad segs = none := by
  unfold firstBad
  rw [List.findSome?_eq_none_iff]
  intro x hx
  obtain ⟨j, hj, e⟩ := List.getElem_of_mem hx
  exact h j x (by rw [List.getElem?_eq_getElem hj, e])
/-! what the segments hold -/
/-- each method's rows lie between its line and the next one's (the last one's: e) -/
def Slc (lines : List Str) (e : Nat) : List Seg → Prop
  | [] => True
  | [s] => s.rows = (lines.drop (s.hd + 1)).take (e - (s.hd + 1)) ∧ s.hd < e
  | s :: t :: r => (s.rows = (lines.drop (s.hd + 1)).take (t.hd - (s.hd + 1)) ∧ s.hd < t.hd) ∧ Slc lines e (t :: r)
structure SegOk (s : Seg) (lines : List Str) : Prop where
  ok : ∀ x ∈ s.rows, Valid x
  inn : ∀ x ∈ s.rows, x ∈ lines
  name : isName s.nm = true
  line : (ws (at' lines s.hd)).length = 2 ∧ wd (ws (at' lines s.hd)) 0 = "on" ∧ wd (ws (at' lines s.hd)) 1 = s.nm
  lt : s.hd < lines.length
  pos : 0 < s.hd
theorem slc_on {lines : List Str} {s : Seg} : ∀ {segs : List Seg} {e : Nat}, Slc lines e segs → s.rows = [] → s.hd = e → Slc lines (e + 1) (segs ++ [s])
  | [], e, _, h, h2 => by
    show s.rows = (lines.drop (s.hd + 1)).take (e + 1 - (s.hd + 1)) ∧ s.hd < e + 1
    rw [h, h2, Nat.sub_self, List.take_zero]
    exact ⟨rfl, by omega⟩
  | [t], e, h, h1, h2 => by
    obtain ⟨a, b⟩ := h
    refine ⟨⟨by rw [h2]; exact a, by rw [h2]; exact b⟩, ?_⟩
    show s.rows = (lines.drop (s.hd + 1)).take (e + 1 - (s.hd + 1)) ∧ s.hd < e + 1
    rw [h1, h2, Nat.sub_self, List.take_zero]
    exact ⟨rfl, by omega⟩
  | t :: u :: r, e, h, h1, h2 => ⟨h.1, slc_on (segs := u :: r) h.2 h1 h2⟩
theorem take_next {lines : List Str} {a e : Nat} (h : a < e) (he : e < lines.length) : (lines.drop (a + 1)).take (e + 1 - (a + 1)) = (lines.drop (a + 1)).take (e - (a + 1)) ++ [at' lines e] := by
  rw [show e + 1 - (a + 1) = (e - (a + 1)) + 1 by omega, List.take_add_one, List.getElem?_drop, show a + 1 + (e - (a + 1)) = e by omega, List.getElem?_eq_getElem he]
  show _ ++ [lines[e]] = _ ++ [lines.getD e Str.empty]
  rw [List.getD_eq_getElem?_getD, List.getElem?_eq_getElem he]
  rfl
theorem slc_row {lines : List Str} {s : Seg} {line : Str} : ∀ {pre : List Seg} {e : Nat}, Slc lines e (pre ++ [s]) → e < lines.length → line = at' lines e → Slc lines (e + 1) (pre ++ [⟨s.nm, s.hd, s.rows ++ [line]⟩])
  | [], e, h, he, hl => by
    obtain ⟨a, b⟩ := h
    refine ⟨?_, Nat.lt_succ_of_lt b⟩
    show s.rows ++ [line] = (lines.drop (s.hd + 1)).take (e + 1 - (s.hd + 1))
    rw [a, hl, take_next b he]
  | [t], e, h, he, hl => ⟨h.1, slc_row (pre := []) h.2 he hl⟩
  | t :: u :: r, e, h, he, hl => ⟨h.1, slc_row (pre := u :: r) h.2 he hl⟩
theorem slc_at {lines : List Str} {e : Nat} : ∀ {segs : List Seg} {i : Nat} {s : Seg}, Slc lines e segs → segs[i]? = some s → s.rows = (lines.drop (s.hd + 1)).take (((segs[i + 1]?.map (·.hd)).getD e) - (s.hd + 1))
  | [], i, s, _, h => by simp at h
  | [t], i, s, h, hs => by
    cases i with
    | zero =>
      simp at hs
      subst hs
      exact h.1
    | succ i => simp at hs
  | t :: u :: r, i, s, h, hs => by
    cases i with
    | zero =>
      simp at hs
      subst hs
      exact h.1.1
    | succ i =>
      have := slc_at (segs := u :: r) (i := i) h.2 (by simpa using hs)
      simpa using this
/-- what stands behind i good lines -/
structure Sc (lines : List Str) (i : Nat) (segs : List Seg) : Prop where
  slc : Slc lines (i + 1) segs
  ok : ∀ s ∈ segs, SegOk s lines
  nd : (nms segs).Nodup
theorem scan_ok {lines : List Str} : ∀ {i : Nat} {segs : List Seg}, i < lines.length → scanS lines i = some segs → Sc lines i segs
  | 0, segs, _, h => by
    obtain rfl : [] = segs := Option.some.inj h
    exact ⟨trivial, by simp, .nil⟩
  | i + 1, segs, hi, h => by
    obtain ⟨segs0, e⟩ := scan_down h (Nat.le_succ i)
    obtain ⟨h1, h2, h3⟩ := scan_ok (Nat.lt_of_succ_lt hi) e
    rw [scan_more e] at h
    unfold stepS at h
    by_cases c : isOn (at' lines (i + 1)) = true
    · rw [if_pos c] at h
      by_cases c2 : onBad (nms segs0) (at' lines (i + 1)) = true
      · rw [if_pos c2] at h; cases h
      · rw [if_neg c2] at h
        obtain rfl := Option.some.inj h
        have q : onBad (nms segs0) (at' lines (i + 1)) = false := Bool.not_eq_true _ ▸ c2
        unfold onBad at q
        simp only [Bool.or_eq_false_iff, Bool.not_eq_false', decide_eq_true_eq, decide_eq_false_iff_not] at q
        obtain ⟨q1, q2, q3⟩ := q
        refine ⟨slc_on h1 rfl rfl, fun s hs => ?_, ?_⟩
        · rcases List.mem_append.mp hs with hs | hs
          · exact h2 s hs
          · rw [List.mem_singleton.mp hs]
            exact ⟨by simp, by simp, q2, ⟨by show (ws (at' lines (i + 1))).length = 2; omega, of_decide_eq_true c, rfl⟩, hi, Nat.succ_pos _⟩
        · show ((segs0 ++ [_]).map _).Nodup
          rw [List.map_append, List.nodup_append]
          exact ⟨h3, by simp, fun a ha b hb => by
            have : b = wd (ws (at' lines (i + 1))) 1 := by simpa using hb
            rintro rfl
            rw [this] at ha
            exact q3 ha⟩
    · rw [if_neg c] at h
      by_cases c2 : (isNone (rowD (at' lines (i + 1))) || segs0.isEmpty) = true
      · rw [if_pos c2] at h; cases h
      · rw [if_neg c2] at h
        obtain rfl := Option.some.inj h
        have q : (isNone (rowD (at' lines (i + 1))) || segs0.isEmpty) = false := Bool.not_eq_true _ ▸ c2
        rw [Bool.or_eq_false_iff] at q
        have ne : segs0 ≠ [] := fun z => by rw [z] at q; cases q.2
        obtain ⟨pre, s, rfl⟩ : ∃ l x, segs0 = l ++ [x] := ⟨segs0.dropLast, segs0.getLast ne, (List.dropLast_concat_getLast ne).symm⟩
        rw [addRow_snoc]
        have so := h2 s (by simp)
        refine ⟨slc_row h1 hi rfl, fun t ht => ?_, ?_⟩
        · rcases List.mem_append.mp ht with ht | ht
          · exact h2 t (by simp [ht])
          · rw [List.mem_singleton.mp ht]
            refine ⟨fun x hx => ?_, fun x hx => ?_, so.name, so.line, so.lt, so.pos⟩
            · rcases List.mem_append.mp hx with hx | hx
              · exact so.ok x hx
              · rw [List.mem_singleton.mp hx]; exact q.1
            · rcases List.mem_append.mp hx with hx | hx
              · exact so.inn x hx
              · rw [List.mem_singleton.mp hx]; exact wd_mem hi
        · have e2 : nms (pre ++ [(⟨s.nm, s.hd, s.rows ++ [at' lines (i + 1)]⟩ : Seg)]) = nms (pre ++ [s]) := by simp [nms]
          rw [e2]
          exact h3
/-! ### the whole reading -/
inductive Res where
  | bad (n : Option Nat)
  | good (cells : List PyData) (names : List Str)
abbrev lns (text : Str) : List Str := Txt.split text "\n"
def segsOf (lines : List Str) : List Seg := (scanS lines (lines.length - 1)).getD []
/-- the first wrong line of the methods -/
noncomputable def methBad (lines : List Str) : Option Nat := match badLine lines with
  | some n => some n
  | none => firstBad (segsOf lines)
theorem methBad_line {lines : List Str} {i : Nat} {segs : List Seg} (hi : i + 1 < lines.length) (h : scanS lines i = some segs) (h2 : scanS lines (i + 1) = none) : methBad lines = some (i + 1) := by
  unfold methBad
  rw [badLine_at hi h h2]
theorem segsOf_is {lines : List Str} {segs : List Seg} (h : scanS lines (lines.length - 1) = some segs) : segsOf lines = segs := by
  unfold segsOf
  rw [h]
  rfl
theorem methBad_seg {lines : List Str} {segs : List Seg} (h : scanS lines (lines.length - 1) = some segs) : methBad lines = firstBad segs := by
  unfold methBad
  rw [badLine_no h, segsOf_is h]
/-- words: the first words of the object's calls -/
noncomputable def readR (words : List Str) (text : Str) : Res :=
  if 60 < (lns text).length then .bad (some 60)
  else if isNone (cellsD (at' (lns text) 0)) = true then .bad (some 0)
  else match methBad (lns text) with
    | some n => .bad (some n)
    | none => if (words.all fun w => decide (w ∈ nms (segsOf (lns text)))) = true then .good (((ws (at' (lns text) 0)).drop 1).map cellV) (nms (segsOf (lns text))) else .bad none
noncomputable def readV (words : List Str) : PyData → Res
  | .str text => readR words text
  | _ => .bad none
end Zb
set_option Elab.async false
set_option linter.all false
set_option maxRecDepth 100000
set_option maxHeartbeats 2000000
/-! The layer of defs that raise; dicts. -/
namespace Zb
open PySem PySem.Spec PyProof.Rows L2
abbrev bpC (K : PySem.W.Frag) : Addr := He.ga K "BadProgram"
abbrev bpI (K : PySem.W.Frag) : Addr := He.ma K (bpC K) "__init__"
/-- the error's class as it stands -/
structure Bd (P : Program) (K : PySem.W.Frag) (mg : Str → Option Value) : Prop where
  T : PySem.BadX.Txt P K (bpC K) (bpI K)
  gC : mg "BadProgram" = some (.ref (bpC K))
  sup : mg "super" = none
  te : PySem.W.exmOne K (.ref (bpC K)) (.ref (bpC K)) = some true
  xf : XfC K (bpC K)
def optV : Option Nat → V
  | none => .non
  | some n => .int (n : Int)
theorem dp_opt {K : PySem.W.Frag} {S : Hp} : ∀ {n : Option Nat} {v : V}, Dp K S v (optD n) → v = optV n
  | none, _, h => dp_none h
  | some n, _, h => dp_int h
theorem opt_dp {K : PySem.W.Frag} {S : Hp} : ∀ (n : Option Nat), Dp K S (optV n) (optD n)
  | none => .non
  | some n => .int _
/-- the error is raised: line is n -/
def BadErr (K : PySem.W.Frag) (S H : Hp) (n : Option Nat) (c : Value) (d : Option Addr) (H' : Hp) : Prop := c = .ref (bpC K) ∧ G0 S H S H' ∧ ∃ dd, d = some dd ∧ H' dd = some (.xd [("line", optV n)])
theorem BadErr.from {K : PySem.W.Frag} {S H S1 H1 H' : Hp} {n : Option Nat} {c : Value} {d : Option Addr} (e : BadErr K S1 H1 n c d H') (g : G0 S H S1 H1) : BadErr K S H n c d H' := ⟨e.1, (g.trans e.2.1).keep, e.2.2⟩
section
variable {K : PySem.W.Frag} {M : Addr → Prop} {σ : L2.St} {S S0 S1 S' H H0 H1 H' : Hp} {te ta tb td ty : TE} {ds es : List PyData} {d : PyData} {v : V} {l p fp : Addr} {o : HO} {D : Ends} {tz tu tw : TS} {j : Nat} {W : WX}
theorem q_raise {n : Option Nat} (z : Sees S H S1) (h : EvD K te σ S1 (optD n)) (k : ∀ c d H1, BadErr K S H n c d H1 → W c d σ H1) : tRaiseBad (bpC K) W (tCons te tNil) D σ H :=
  h H z.i _ fun v S2 H1 g p => ⟨v, rfl, fun d hd => k _ _ _ ⟨rfl, (Go.thaw z.s g).trans (Go.newM (Go.thaw z.s g).i hd), d, rfl, by rw [dp_opt p]; exact upd_same⟩⟩
theorem see_add (z : Sees S H S1) (h : S1 p = none) (e : H p = some o) : Sees S H (upd S1 p o) ∧ Same S1 (upd S1 p o) :=
  ⟨⟨z.s.trans (same_upd h), fun b u q => by
    by_cases hb : b = p
    · rw [hb, upd_same] at q; rw [hb, e]; exact q
    · rw [upd_ne hb] at q; exact z.i b u q⟩, same_upd h⟩
/-- d[k] of a dict in the region -/
theorem ev_dget {kvs : List (Key × V)} {w : Str} (hv : σ[j]? = some (some (.ref p))) (hs : Rd S p (.dK kvs)) (h : EvD K ty σ S (.str w)) (hl : valV kvs (Sum.inr w) = some v) (pv : Dp K S v d) : EvD K (tDGet (tVar j) ty) σ S d := fun H i Q q =>
  ⟨_, hv, h H i _ fun y S1 H1 g p1 => by
    obtain rfl := dp_str p1
    exact ⟨p, v, rfl, .inl ⟨kvs, Sum.inr w, rd_same (g.s.trans g.i) hs, rfl, hl.symm⟩, q v S1 H1 g (dp_same g.s pv)⟩⟩
theorem ev_din {kvs : List (Key × V)} {w : Str} (h : EvD K ty σ S (.str w)) (hv : σ[j]? = some (some (.ref p))) (hs : Rd S p (.dK kvs)) : EvD K (tDIn ty (tVar j)) σ S (.bool (valV kvs (Sum.inr w)).isSome) := fun H i Q q =>
  h H i _ fun y S1 H1 g p1 => by
    obtain rfl := dp_str p1
    exact ⟨_, hv, p, _, rfl, .inl ⟨kvs, Sum.inr w, rd_same (g.s.trans g.i) hs, rfl, rfl⟩, q _ S1 H1 g (.bl _)⟩
theorem ev_dnin {kvs : List (Key × V)} {w : Str} (h : EvD K ty σ S (.str w)) (hv : σ[j]? = some (some (.ref p))) (hs : Rd S p (.dK kvs)) : EvD K (tDNotIn ty (tVar j)) σ S (.bool (!(valV kvs (Sum.inr w)).isSome)) := fun H i Q q =>
  h H i _ fun y S1 H1 g p1 => by
    obtain rfl := dp_str p1
    exact ⟨_, hv, p, _, rfl, .inl ⟨kvs, Sum.inr w, rd_same (g.s.trans g.i) hs, rfl, rfl⟩, q _ S1 H1 g (.bl _)⟩
theorem ev_dlen {kvs : List (Key × V)} : True := trivial
theorem valV_names {ks : List Str} {kvs : List (Key × V)} (h : kvs.map (·.1) = ks.map Sum.inr) (w : Str) : (valV kvs (Sum.inr w)).isSome = decide (w ∈ ks) := by
  rw [← valV_any]
  have e : (kvs.any fun kv => decide (kv.1 = Sum.inr w)) = (kvs.map (·.1)).any fun k => decide (k = Sum.inr w) := by rw [List.any_map]; rfl
  rw [e, h, List.any_map]
  rw [Bool.eq_iff_iff, List.any_eq_true, decide_eq_true_eq]
  constructor
  · rintro ⟨x, hx, hy⟩
    have : (Sum.inr x : Key) = Sum.inr w := of_decide_eq_true hy
    rw [← Sum.inr.inj this]
    exact hx
  · intro hw
    exact ⟨w, hw, decide_eq_true rfl⟩
end
section
variable {X : Cx} {x : Str} {p pos : Pos} {k : Nat} {ps : List Str} {sp : Sp} {e : Expr} {es : List Expr} {t : TA} {E : L2.St → XK}
/-- a call of a def that may raise -/
theorem pe_fnS (F : Fn (L2.CX X.prog X.w) X.prog X.w X.K X.mg X.base x k ps sp) (hr : Room k X.A) (hg : Gl X x) (hx : ∀ σ, PassesAt (L2.CX X.prog X.w) X σ (E σ)) (ha : PA X (e :: es) t) (hdb : (x == ("__debug__" : Str)) = false := by decide)
    (he : starEach (e :: es) X.env = (false, eval e X.env) :: starEach es X.env := by rfl) (hpl : (backTo pos (starEach es X.env)).any (·.1) = false := by rfl) : PE X (.Call (.Name x p) (e :: es) [] pos) (tCallS sp E t) := by
  obtain ⟨fd, G, b⟩ := F.ex
  exact pe_callS G hr hg F.gl F.kp b hx ha hdb he hpl
end
section
variable {P : Program} {w : World} {K : PySem.W.Frag} {mg : Str → Option Value} {base : Heap}
theorem fn_mkE {x : Str} {st : Stmt} {N ps : List Str} {k : Nat} {ι : Type} {arg : ι → List PyData} {pre : ι → Prop} {post : ι → Hp → Hp → V → Hp → Hp → Prop} {err : ι → Hp → Hp → Value → Option Addr → Hp → Prop}
    (F : ∃ fd, FunD K x x (defArgs st) (defBody st) (defScope st) [] [] (He.ga K x) fd) (g : mg x = some (.ref (He.ga K x)))
    (b : ∀ (kV doc pm : Value) (an : Option Addr) (cdv ct : Value) (us : List Value), us.length = ps.length → bindArgs (PySem.W.fnOf x x (defArgs st) (defBody st) (defScope st) .none kV doc pm an cdv ct) ⟨us, []⟩ = pure (ps.zip us))
    (sc : FnScope N ps (defScope st)) (hl : ∀ i, (arg i).length = ps.length)
    (hb : ∀ (cdv : Value) (A : Around) (outer : List Env) (s : Shared) (H : Hp) (E : XK), Room k (A.deeper (envOfC x (defScope st) s.heap.objs.size (He.ga K x) cdv)) →
      ∃ t, PSs (cxOf (L2.CX P w) P w K mg base N x (defScope st) (He.ga K x) cdv A outer s H E) (defBody st) t ∧ ∀ i vs S H, Same S H → pre i → DpAll K S vs (arg i) → ∀ D : Ends, (∀ v S' H', G0 S H S' H' → post i S H v S' H' → D.rt v H') → (∀ c d H', err i S H c d H' → E c d H') → t D (start N vs) H) :
    Fn (L2.CX P w) P w K mg base x (k + 1) ps (spG K arg pre post err) := by
  obtain ⟨fd, F⟩ := F
  refine ⟨⟨fd, F.ok sc (fun vs H Q E h => ?_) (fun cdv A outer s H vs Q E hr h => ?_), F.bindsN b⟩, F.kp, g⟩
  · obtain ⟨i, S, _, p, _⟩ := h
    rw [dpAll_len p]
    exact hl i
  · obtain ⟨i, S, j, p, hp, q, qe⟩ := h
    obtain ⟨t, h1, h2⟩ := hb cdv A outer s H E hr
    exact ⟨t, h1, h2 i vs S H j hp p _ q qe⟩
end
end Zb
set_option Elab.async false
set_option linter.all false
set_option maxRecDepth 100000
set_option maxHeartbeats 4000000
namespace Zb
open PySem PySem.Spec PyProof.Rows L2
section
variable {P : Program} {w : World} {K : PySem.W.Frag} {mg : Str → Option Value} {base : Heap}
structure Tx (lines : List Str) : Prop where
  pos : 0 < lines.length
  len : lines.length ≤ 60
  sh : ∀ x ∈ lines, shortL x
abbrev GL := List (Seg × Addr)
abbrev fK (gs : GL) : List (Key × V) := gs.map fun g => (Sum.inr g.1.nm, V.ref g.2)
abbrev bK (gs : GL) : List (Key × V) := gs.map fun g => (Sum.inr g.1.nm, V.int ((g.1.hd : Int) + 1))
abbrev sg (gs : GL) : List Seg := gs.map (·.1)
def nmV (gs : GL) : V := match gs.getLast? with
  | none => .non
  | some g => .str g.1.nm
abbrev postM (K : PySem.W.Frag) : List Str → Hp → Hp → V → Hp → Hp → Prop := fun l _ _ v S' _ => methBad l = none ∧ ∃ p kvs, v = .ref p ∧ S' p = some (.dK kvs) ∧ kvs.map (·.1) = (nms (segsOf l)).map Sum.inr
abbrev errM (K : PySem.W.Frag) : List Str → Hp → Hp → Value → Option Addr → Hp → Prop := fun l S H c d H' => ∃ n, methBad l = some n ∧ BadErr K S H (some n) c d H'
abbrev spMeth (K : PySem.W.Frag) : Sp := spG K (fun l : List Str => [.list (l.map .str)]) Tx (postM K) (errM K)
theorem fK_names (gs : GL) : (fK gs).map (·.1) = (nms (sg gs)).map Sum.inr := by simp [fK, nms, sg]
theorem bK_names (gs : GL) : (bK gs).map (·.1) = (nms (sg gs)).map Sum.inr := by simp [bK, nms, sg]
theorem valV_gs {gs : GL} {f : Seg × Addr → V} (nd : (nms (sg gs)).Nodup) {g : Seg × Addr} (hg : g ∈ gs) : valV (gs.map fun g => ((Sum.inr g.1.nm : Key), f g)) (Sum.inr g.1.nm) = some (f g) := by
  induction gs with
  | nil => cases hg
  | cons a r ih =>
    have nd' : a.1.nm ∉ nms (sg r) ∧ (nms (sg r)).Nodup := by simpa [nms, sg] using nd
    rw [List.map_cons]
    by_cases e : a.1.nm = g.1.nm
    · have : g = a := by
        rcases List.mem_cons.mp hg with h | h
        · exact h
        · exact absurd (e ▸ List.mem_map.mpr ⟨g.1, List.mem_map.mpr ⟨g, h, rfl⟩, rfl⟩) nd'.1
      rw [this]
      exact valV_pos (p := (Sum.inr a.1.nm, f a)) rfl
    · rw [valV_neg (p := (Sum.inr a.1.nm, f a)) (fun z => e (Sum.inr.inj z))]
      rcases List.mem_cons.mp hg with h | h
      · rw [h] at e; exact absurd rfl e
      · exact ih nd'.2 h
theorem nmV_dp {S : Hp} (gs : GL) : ∃ d, Dp K S (nmV gs) d ∧ isNone d = gs.isEmpty := by
  unfold nmV
  cases gs with
  | nil => exact ⟨.none, .non, rfl⟩
  | cons a r =>
    rw [List.getLast?_cons]
    exact ⟨_, .str _, rfl⟩
/-- what stands behind i lines -/
structure MSt (K : PySem.W.Frag) (S0 H0 : Hp) (fp bp : Addr) (od : Option Obj) (gs : GL) (S H : Hp) : Prop where
  g : G0 S0 H0 S H
  fo : S fp = none
  bo : S bp = none
  f : H fp = some (match od with | none => .dK (fK gs) | some o => .frz o (.dK (fK gs)))
  b : H bp = some (.dK (bK gs))
  m : ∀ g ∈ gs, Mu K S H g.2 (g.1.rows.map rowD) ∧ H0 g.2 = none ∧ g.2 ≠ fp ∧ g.2 ≠ bp
  nd : (gs.map (·.2)).Nodup
theorem MSt.step {S0 H0 S H S1 H1 : Hp} {fp bp : Addr} {od : Option Obj} {gs : GL} (m : MSt K S0 H0 fp bp od gs S H) (a : G0 S H S1 H1) : MSt K S0 H0 fp bp od gs S1 H1 :=
  ⟨m.g.trans a, a.out m.fo (by rw [m.f]; exact Option.some_ne_none _), a.out m.bo (by rw [m.b]; exact Option.some_ne_none _), a.same _ _ m.f, a.same _ _ m.b, fun g hg => ⟨(m.m g hg).1.g0 a, (m.m g hg).2⟩, m.nd⟩
theorem MSt.names {S0 H0 S H : Hp} {fp bp : Addr} {od : Option Obj} {gs : GL} (_m : MSt K S0 H0 fp bp od gs S H) (w : Str) : (valV (fK gs) (Sum.inr w)).isSome = decide (w ∈ nms (sg gs)) := valV_names (fK_names gs) w
theorem stepS_on {segs : List Seg} {n : Nat} {line : Str} (h : isOn line = true) : stepS segs n line = if onBad (nms segs) line = true then none else some (segs ++ [⟨wd (ws line) 1, n, []⟩]) := by unfold stepS; rw [if_pos h]
theorem stepS_row {segs : List Seg} {n : Nat} {line : Str} (h : isOn line = false) : stepS segs n line = if (isNone (rowD line) || segs.isEmpty) = true then none else some (addRow segs line) := by unfold stepS; rw [if_neg (by rw [h]; decide)]
theorem SegOk.ms {s : Seg} {lines : List Str} (T : Tx lines) (h : SegOk s lines) (hl : s.rows.length < 60000) : Ms s.rows := ⟨h.ok, fun x hx => T.sh x (h.inn x hx), hl⟩
theorem nmV_snoc (pre : GL) (g : Seg × Addr) : nmV (pre ++ [g]) = .str g.1.nm := by
  unfold nmV
  rw [List.getLast?_concat]
theorem ir_2n {σ : L2.St} {S : Hp} {ta : TA} {a n : Nat} (h : EvA K ta σ S [.int (a : Nat), .int (n : Nat)]) (ha : a < 100000) (hn : n < 100000) : ∀ H, Same S H → ∀ R : It → Hp → Prop, (∀ S' H', G0 S H S' H' → R (Itr a (n - a)) H') → iRng2 ta σ H R := fun H i R q =>
  ir_2 h (by omega) H i R fun S' H' g => by
    rw [show ((n : Int) - (a : Int)).toNat = n - a by omega]
    exact q S' H' g
theorem sc_methods_of : FnScope ["lines", "found", "begins", "name", "at", "words", "row"] ["lines"] (defScope Zh.s_methods_of) := ⟨rfl, rfl, rfl, by decide +kernel, rfl, by decide +kernel, by decide +kernel⟩
theorem ok_methods_of (M : Mo K mg) (B : Bd P K mg) (D : Df K mg "methods_of" Zh.s_methods_of) (f_is_name : Fn CX0 P w K mg base "is_name" 1 ["word"] (spName K)) (f_row_of : Fn CX0 P w K mg base "row_of" 5 ["line"] (spLine K rowD))
    (f_wrong_row : Fn CX0 P w K mg base "wrong_row" 3 ["rows"] (spF K (fun l : List Str => [.list (l.map rowD)]) Ms fun l => optD (wrongM l))) : Fn (L2.CX P w) P w K mg base "methods_of" 6 ["lines"] (spMeth K) :=
  fn_mkE D.1 D.2 (fun _ _ _ _ _ _ us hl => match us, hl with | [_], _ => rfl) sc_methods_of (fun _ => rfl) fun cdv A outer s H E hr => ⟨_, (pss_cons (ps_par3 (i := 1) (j := 2) (l := 3) rfl sc_methods_of.nd rfl rfl rfl (by decide) (by decide) (by decide) rfl rfl rfl (pa_cons pe_dnewK (pa_cons pe_dnewK (pa_cons pe_non pa_nil))) (by rfl))
    (pss_cons (ps_for (passes_of rfl) rfl (pi_range2 rfl M.range (pa_cons pe_int (pa_cons (pe_callB call_len (by rfl) M.len (by decide +kernel) (pa_cons (pv 0) pa_nil)) pa_nil))) (pg_name (i := 4) sc_methods_of.nd rfl (Or.inl rfl)) (pss_cons (ps_set (i := 5) sc_methods_of.nd rfl (Or.inl rfl) (pe_split (pe_ix ix_list (pv 0) (pv 4) (fun _ _ => rfl)) pe_str))
    (pss_one (ps_if (pt_cmpR op_eq (pe_ix ix_list (pv 5) pe_int (fun _ _ => rfl)) pe_str (nomark _)) (pss_cons (ps_if (PW.pt (pw_or (pt_cmpR op_ne (pe_callB call_len (by rfl) M.len (by decide +kernel) (pa_cons (pv 5) pa_nil)) pe_int (nomark _)) (pw_or (pt_not (pt_val (pe_fn f_is_name (hr.mono (by decide)) rfl (pa_cons (pe_ix ix_list (pv 5) pe_int (fun _ _ => rfl)) pa_nil)))) (pw_or1 (pt_cmp (pc_din (hu_of hr) (pe_ix ix_list (pv 5) pe_int (fun _ _ => rfl)) (pv 1)) (by rfl)))))) (pss_one (ps_raiseBad rfl B.T B.gC B.sup hr (takes_of rfl rfl rfl rfl) (by exact (pa_cons (pv 4) pa_nil)))) pss_nil)
    (pss_cons (ps_set (i := 3) sc_methods_of.nd rfl (Or.inl rfl) (pe_ix ix_list (pv 5) pe_int (fun _ _ => rfl)))
    (pss_one (ps_asg (pe_tup (pa_cons (pe_lst pa_nil) (pa_cons (pe_op op_add (pv 4) pe_int) pa_nil))) (pg_tup rfl (pgs_cons (pg_sub (pv 1) (pv 3) (set_dict (hu_of hr))) (pgs_cons (pg_sub (pv 2) (pv 3) (set_dict (hu_of hr))) pgs_nil))))))) (pss_cons (ps_set (i := 6) sc_methods_of.nd rfl (Or.inl rfl) (pe_fn f_row_of (hr.mono (by decide)) rfl (pa_cons (pe_ix ix_list (pv 0) (pv 4) (fun _ _ => rfl)) pa_nil)))
    (pss_cons (ps_if (PW.pt (pw_or (pt_cmpR op_isN (pv 6) pe_non (nomark _)) (pw_or1 (pt_cmpR op_isN (pv 3) pe_non (nomark _))))) (pss_one (ps_raiseBad rfl B.T B.gC B.sup hr (takes_of rfl rfl rfl rfl) (by exact (pa_cons (pv 4) pa_nil)))) pss_nil)
    (pss_one (ps_expr (pe_bm PySem.F.plainAttrs_list PySem.F.slot_list_append PySem.F.type_list_append mt_append (pe_dget (hu_of hr) (pv 1) (pv 3) (fun _ _ => rfl)) (pa_cons (pv 6) pa_nil))))))))))
    (pss_cons (ps_lock (ps_for (passes_of rfl) rfl (pi_keys (pv 1)) (pg_name (i := 3) sc_methods_of.nd rfl (Or.inl rfl)) (pss_cons (ps_if (pt_cmpR (op_eqNil hr.units0) (pe_dget (hu_of hr) (pv 1) (pv 3) (fun _ _ => rfl)) (pe_lst pa_nil) (nomark _)) (pss_one (ps_raiseBad rfl B.T B.gC B.sup hr (takes_of rfl rfl rfl rfl) (by exact (pa_cons (pe_op op_sub (pe_dget (hu_of hr) (pv 2) (pv 3) (fun _ _ => rfl)) pe_int) pa_nil)))) pss_nil)
    (pss_cons (ps_set (i := 4) sc_methods_of.nd rfl (Or.inl rfl) (pe_fn f_wrong_row (hr.mono (by decide)) rfl (pa_cons (pe_dget (hu_of hr) (pv 1) (pv 3) (fun _ _ => rfl)) pa_nil)))
    (pss_one (ps_if (pt_cmpR op_notN (pv 4) pe_non (nomark _)) (pss_one (ps_raiseBad rfl B.T B.gC B.sup hr (takes_of rfl rfl rfl rfl) (by exact (pa_cons (pe_op op_add (pe_dget (hu_of hr) (pv 2) (pv 3) (fun _ _ => rfl)) (pv 4)) pa_nil)))) pss_nil))))))
    (pss_one (ps_ret (pv 1)))))), fun lines vs S0 H0 i0 T p D q qe => by
    obtain ⟨v, r, rfl, pv, pr⟩ := dpAll_cons p
    obtain rfl := dpAll_nil pr
    have tl := T.len
    have tp := T.pos
    refine fun fp hf bp hb => ⟨_, _, _, rfl, ?_⟩
    have hb0 : H0 bp = none := by
      rw [← hb, upd_ne]
      rintro rfl
      rw [upd_same] at hb
      cases hb
    have nfb : fp ≠ bp := by
      rintro rfl
      rw [upd_same] at hb
      cases hb
    have l2 : ∀ {line : Str}, (!decide (((ws line).length : Int) = 2)) = false → 1 < (ws line).length := fun h => by
      have := of_decide_eq_true (Bool.not_eq_eq_eq_not.mp h)
      omega
    have evl : ∀ σ, σ[0]? = some (some v) → EvD K (tCB (fun xs H Q => ∃ x n, xs = [x] ∧ LenV K x H n ∧ Q (.int n) H) (tCons (tVar 0) tNil)) σ S0 (.int (lines.length : Nat)) := fun σ h => ev_is (ev_cb rc_lenL (ea_one (ev_var h pv))) (by rw [List.length_map])
    have g0 := (Go.newM (o := .dK []) i0 hf).trans (Go.newM (o := .dK []) (Go.newM i0 hf).i hb)
    refine q_forR (S := S0) (ir_2n (a := 1) (n := lines.length) (ea_cons (ev_c (.int _)) (ea_one (evl _ rfl))) (by omega) (by omega) _ g0.i) (n := lines.length - 1) (lo := 1) (fun i σ' H' => ∃ S gs o4 o5 o6, MSt K S0 H0 fp bp none gs S H' ∧ scanS lines i = some (sg gs) ∧ gs.length ≤ i ∧ (∀ g ∈ gs, g.1.rows.length ≤ i) ∧ σ' = [some v, some (.ref fp), some (.ref bp), some (nmV gs), o4, o5, o6]) ?_ ?_ ?_
    · intro S1 H1 g1
      refine ⟨S0, [], _, _, _, ⟨g0.trans g1.keep, i0.free hf, i0.free hb0, ?_, ?_, by simp, .nil⟩, rfl, Nat.le_refl _, by simp, rfl⟩
      · exact g1.same _ _ (by rw [upd_ne nfb, upd_same]; rfl)
      · exact g1.same _ _ upd_same
    · rintro i _ H1 hi ⟨S, gs, o4, o5, o6, m, sc, gl, rl, rfl⟩
      have e1 : ((1 : Int) + i) = ((i + 1 : Nat) : Int) := by omega
      rw [e1]
      have hn : i + 1 < lines.length := by omega
      have sok := scan_ok (Nat.lt_of_succ_lt hn) sc
      have hsh : shortL (at' lines (i + 1)) := T.sh _ (at_mem hn)
      have pvS := dp_same m.g.s pv
      refine q_asg (K := K) (ev_words hsh (ev_op (rv_ixL (at_line hn)) (ev_var rfl pvS) (ev_var rfl (.int _))) (ev_c (.str _))) m.g.i fun v5 S2 H2 g2 p5 => ?_
      have m2 := m.step g2
      refine q_ifE (b := isOn (at' lines (i + 1))) (Sees.refl m2.g.i) (et_val (ev_op rv_eqs (ev_w (ws_pos _) (ev_var rfl p5) (ev_c (.int _))) (ev_c (.str _)))) (fun h H3 g3 => ?_) fun h H3 g3 => ?_
      · have m3 := m2.step g3
        obtain ⟨z4, e4⟩ := see_add (Sees.refl m3.g.i) m3.fo m3.f
        have p5' := dp_same e4 p5
        refine q_if (b := onBad (nms (sg gs)) (at' lines (i + 1))) z4 (et_or (et_val (ev_op rv_nei (ev_lenW (ev_var rfl p5')) (ev_c (.int _)))) fun h1 => et_or (et_not (et_B (ev_call (wd (ws (at' lines (i + 1))) 1) ((ws_wds hsh).wd (l2 h1)) (ea_one (ev_w (l2 h1) (ev_var rfl p5') (ev_c (.int _))))))) fun _ => et_is (et_B (ev_din (ev_w (l2 h1) (ev_var rfl p5') (ev_c (.int _))) rfl (.inl upd_same))) (m3.names _)) (fun h2 H4 g4 => ?_) fun h2 H4 g4 => ?_
        · have m4 := m3.step g4
          exact q_raise (n := some (i + 1)) (Sees.refl m4.g.i) (ev_var rfl (.int _)) fun c d H5 e => qe c d H5 ⟨i + 1, methBad_line hn sc (by rw [scan_more sc, stepS_on h, if_pos h2]), e.from m4.g⟩
        · have m4 := m3.step g4
          have hl2 : 1 < (ws (at' lines (i + 1))).length := by
            unfold onBad at h2
            exact l2 (Bool.or_eq_false_iff.mp h2).1
          refine q_asg (K := K) (ev_w hl2 (ev_var rfl p5) (ev_c (.int _))) m4.g.i fun v3 S5 H5 g5 p3 => ?_
          obtain rfl := dp_str p3
          have m5 := m4.step g5
          have nin : wd (ws (at' lines (i + 1))) 1 ∉ nms (sg gs) := by
            unfold onBad at h2
            exact of_decide_eq_false (Bool.or_eq_false_iff.mp (Bool.or_eq_false_iff.mp h2).2).2
          refine ⟨lz 0 rfl, fun l hl => ⟨_, rfl, _, _, rfl, rfl, lz 2 rfl, fun t ht => ⟨t, _, rfl, SqT.of upd_same, rfl, ?_⟩⟩⟩
          have hl5 : S5 l = none := m5.g.i.free hl
          have nlt : l ≠ t := by
            rintro rfl
            rw [upd_same] at ht
            cases ht
          have lf : l ≠ fp := by
            rintro rfl
            rw [m5.f] at hl
            cases hl
          have lb : l ≠ bp := by
            rintro rfl
            rw [m5.b] at hl
            cases hl
          have ht5 : H5 t = none := by rw [← ht, upd_ne nlt.symm]
          have tf : t ≠ fp := by
            rintro rfl
            rw [m5.f] at ht5
            cases ht5
          have tb : t ≠ bp := by
            rintro rfl
            rw [m5.b] at ht5
            cases ht5
          have vf : valV (fK gs) (Sum.inr (wd (ws (at' lines (i + 1))) 1)) = none := by
            have := m5.names (wd (ws (at' lines (i + 1))) 1)
            rw [decide_eq_false nin] at this
            exact Option.isNone_iff_eq_none.mp (by rw [← Option.not_isSome, this]; rfl)
          have vb : valV (bK gs) (Sum.inr (wd (ws (at' lines (i + 1))) 1)) = none := by
            have := valV_names (bK_names gs) (wd (ws (at' lines (i + 1))) 1)
            rw [decide_eq_false nin] at this
            exact Option.isNone_iff_eq_none.mp (by rw [← Option.not_isSome, this]; rfl)
          refine ⟨_, _, rfl, ⟨_, rfl, _, rfl, fp, _, rfl, DPut.k (kvs := fK gs) (k := Sum.inr (wd (ws (at' lines (i + 1))) 1)) (by rw [upd_ne tf.symm, upd_ne lf.symm]; exact m5.f) (Nat.lt_of_le_of_lt (show (fK gs).length ≤ 100 by rw [List.length_map]; omega) (by decide)), ?_⟩⟩
          refine ⟨_, _, rfl, ⟨_, rfl, _, rfl, bp, _, rfl, DPut.k (kvs := bK gs) (k := Sum.inr (wd (ws (at' lines (i + 1))) 1)) (by rw [upd_ne nfb.symm, upd_ne tb.symm, upd_ne lb.symm]; exact m5.b) (Nat.lt_of_le_of_lt (show (bK gs).length ≤ 100 by rw [List.length_map]; omega) (by decide)), ?_⟩⟩
          have ga := Go.newM (o := .lst []) m5.g.i hl
          have gb := Go.newM (o := .tup [.ref l, .int (((i + 1 : Nat) : Int) + 1)]) ga.i ht
          refine ⟨rfl, S5, gs ++ [(⟨wd (ws (at' lines (i + 1))) 1, i + 1, []⟩, l)], some (.int ((i + 1 : Nat) : Int)), some v5, o6, ⟨((m5.g.trans (ga.trans gb)).mut m5.fo (.inr hf)).mut m5.bo (.inr hb0), m5.fo, m5.bo, ?_, ?_, ?_, ?_⟩, ?_, ?_, ?_, ?_⟩
          · rw [upd_ne nfb, upd_same, putK_new _ vf]
            show some (HO.dK (fK gs ++ [_])) = some (HO.dK (fK (gs ++ [_])))
            rw [show fK (gs ++ [((⟨wd (ws (at' lines (i + 1))) 1, i + 1, []⟩ : Seg), l)]) = fK gs ++ [(Sum.inr (wd (ws (at' lines (i + 1))) 1), V.ref l)] by simp [fK]]
          · rw [upd_same, putK_new _ vb]
            rw [show bK (gs ++ [((⟨wd (ws (at' lines (i + 1))) 1, i + 1, []⟩ : Seg), l)]) = bK gs ++ [(Sum.inr (wd (ws (at' lines (i + 1))) 1), V.int (((i + 1 : Nat) : Int) + 1))] by simp [bK]]
          · intro g hg
            rcases List.mem_append.mp hg with hg | hg
            · obtain ⟨mg1, mg2, mg3, mg4⟩ := m5.m g hg
              have e1 : g.2 ≠ l := by
                intro z
                exact mg1.ne (by rw [z]; exact hl)
              have e2 : g.2 ≠ t := by
                intro z
                exact mg1.ne (by rw [z]; exact ht5)
              obtain ⟨o, xs, h1, h2⟩ := mg1
              exact ⟨⟨o, xs, by rw [upd_ne mg4, upd_ne mg3, upd_ne e2, upd_ne e1]; exact h1, h2⟩, mg2, mg3, mg4⟩
            · rw [List.mem_singleton.mp hg]
              exact ⟨⟨hl5, [], by rw [upd_ne lb, upd_ne lf, upd_ne nlt, upd_same], .nil⟩, m5.g.fresh hl, lf, lb⟩
          · rw [List.map_append, List.nodup_append]
            refine ⟨m5.nd, by simp, fun a ha b hb => ?_⟩
            have eb : b = l := by simpa using hb
            obtain ⟨g, hg, rfl⟩ := List.mem_map.mp ha
            rw [eb]
            intro z
            exact (m5.m g hg).1.ne (by rw [z]; exact hl)
          · rw [scan_more sc, stepS_on h, if_neg (by rw [h2]; decide)]
            simp [sg]
          · rw [List.length_append, List.length_singleton]
            omega
          · intro g hg
            rcases List.mem_append.mp hg with hg | hg
            · exact Nat.le_succ_of_le (rl g hg)
            · rw [List.mem_singleton.mp hg]
              exact Nat.zero_le _
          · rw [nmV_snoc]
            rfl
      · have m3 := m2.step g3
        have pv3 := dp_same m3.g.s pv
        refine q_asg (K := K) (ev_call (at' lines (i + 1)) hsh (ea_one (ev_op (rv_ixL (at_line hn)) (ev_var rfl pv3) (ev_var rfl (.int _))))) m3.g.i fun v6 S4 H4 g4 p6 => ?_
        have m4 := m3.step g4
        obtain ⟨dn, pn, en⟩ := nmV_dp (K := K) (S := S4) gs
        have en2 : isNone dn = (sg gs).isEmpty := by rw [en]; cases gs <;> rfl
        refine q_if (b := isNone (rowD (at' lines (i + 1))) || (sg gs).isEmpty) (Sees.refl m4.g.i) (et_or (et_val (ev_op rv_isNone (ev_var rfl p6) (ev_c .non))) fun _ => et_is (et_val (ev_op rv_isNone (ev_var rfl pn) (ev_c .non))) en2) (fun h2 H5 g5 => ?_) fun h2 H5 g5 => ?_
        · have m5 := m4.step g5
          exact q_raise (n := some (i + 1)) (Sees.refl m5.g.i) (ev_var rfl (.int _)) fun c d H6 e => qe c d H6 ⟨i + 1, methBad_line hn sc (by rw [scan_more sc, stepS_row h, if_pos h2]), e.from m5.g⟩
        · have m5 := m4.step g5
          have h2' := Bool.or_eq_false_iff.mp h2
          have ne : gs ≠ [] := fun z => by rw [z] at h2'; cases h2'.2
          obtain ⟨pre, g, rfl⟩ : ∃ l x, gs = l ++ [x] := ⟨gs.dropLast, gs.getLast ne, (List.dropLast_concat_getLast ne).symm⟩
          rw [nmV_snoc]
          obtain ⟨mg1, mg2, mg3, mg4⟩ := m5.m g (by simp)
          obtain ⟨go, xs, gh, gp⟩ := mg1
          have hv := valV_gs (f := fun g => V.ref g.2) sok.nd (show g ∈ pre ++ [g] by simp)
          refine ⟨_, rfl, _, rfl, fp, .ref g.2, rfl, .inl ⟨fK (pre ++ [g]), Sum.inr g.1.nm, .inl m5.f, rfl, hv.symm⟩, .inl ⟨rfl, xs, SqL.of gh⟩, v6, rfl, g.2, xs, v6, rfl, rfl, gh, ?_, ?_⟩
          · rw [dpAll_len gp, List.length_map]
            exact Nat.lt_of_le_of_lt (Nat.le_trans (rl g (by simp)) (show i ≤ 100 by omega)) (by decide)
          · refine ⟨S4, pre ++ [((⟨g.1.nm, g.1.hd, g.1.rows ++ [at' lines (i + 1)]⟩ : Seg), g.2)], some (.int ((i + 1 : Nat) : Int)), some v5, some v6, ⟨m5.g.mut go (.inr mg2), m5.fo, m5.bo, ?_, ?_, ?_, ?_⟩, ?_, ?_, ?_, ?_⟩
            · rw [upd_ne mg3.symm]
              have := m5.f
              rw [show fK (pre ++ [((⟨g.1.nm, g.1.hd, g.1.rows ++ [at' lines (i + 1)]⟩ : Seg), g.2)]) = fK (pre ++ [g]) by simp [fK]]
              exact this
            · rw [upd_ne mg4.symm]
              have := m5.b
              rw [show bK (pre ++ [((⟨g.1.nm, g.1.hd, g.1.rows ++ [at' lines (i + 1)]⟩ : Seg), g.2)]) = bK (pre ++ [g]) by simp [bK]]
              exact this
            · intro k hk
              rcases List.mem_append.mp hk with hk | hk
              · obtain ⟨k1, k2, k3, k4⟩ := m5.m k (by simp [hk])
                have nd := m5.nd
                rw [List.map_append, List.nodup_append] at nd
                have ek : k.2 ≠ g.2 := nd.2.2 k.2 (List.mem_map.mpr ⟨k, hk, rfl⟩) g.2 (by simp)
                obtain ⟨o, ys, e1, e2⟩ := k1
                exact ⟨⟨o, ys, by rw [upd_ne ek]; exact e1, e2⟩, k2, k3, k4⟩
              · rw [List.mem_singleton.mp hk]
                refine ⟨⟨go, xs ++ [v6], upd_same, ?_⟩, mg2, mg3, mg4⟩
                show DpAll K S4 _ ((g.1.rows ++ [at' lines (i + 1)]).map rowD)
                rw [List.map_append]
                exact dpAll_append gp (.cons p6 .nil)
            · have := m5.nd
              rw [List.map_append] at this ⊢
              exact this
            · rw [scan_more sc, stepS_row h, if_neg (by rw [h2]; decide), show sg (pre ++ [g]) = sg pre ++ [g.1] by simp [sg], addRow_snoc]
              simp [sg]
            · have := gl
              simp only [List.length_append, List.length_singleton] at this ⊢
              omega
            · intro k hk
              rcases List.mem_append.mp hk with hk | hk
              · exact Nat.le_succ_of_le (rl k (by simp [hk]))
              · rw [List.mem_singleton.mp hk]
                have := rl g (by simp)
                simp only [List.length_append, List.length_singleton]
                omega
            · rw [nmV_snoc]
              rfl
    · rintro _ H1 ⟨S, gs, o4, o5, o6, m, sc, gl, rl, rfl⟩
      have sok := scan_ok (by omega) sc
      have es := segsOf_is sc
      have eb := methBad_seg sc
      refine ⟨fp, .dK (fK gs), m.f, trivial, fun od => ?_⟩
      have m0 : MSt K S0 H0 fp bp (some od) gs S (upd H1 fp (.frz od (.dK (fK gs)))) := by
        refine ⟨m.g.mut m.fo (.inr hf), m.fo, m.bo, upd_same, by rw [upd_ne nfb.symm]; exact m.b, fun g hg => ?_, m.nd⟩
        obtain ⟨g1, g2, g3, g4⟩ := m.m g hg
        obtain ⟨o, xs, h1, h2⟩ := g1
        exact ⟨⟨o, xs, by rw [upd_ne g3]; exact h1, h2⟩, g2, g3, g4⟩
      refine ⟨_, rfl, fp, od, rfl, .inl ⟨fK gs, upd_same, ?_⟩⟩
      refine for_it (walk_keys (d := fp) (o := od) (kvs := fK gs)) (fun i σ' H' => ∃ S o3 o4, MSt K S0 H0 fp bp (some od) gs S H' ∧ σ' = [some v, some (.ref fp), some (.ref bp), o3, o4, o5, o6] ∧ ∀ j t, j < i → (sg gs)[j]? = some t → segBad t = none) ⟨S, _, _, m0, rfl, by omega⟩ ?_ ?_ ?_
      · rintro i σ' H' _ ⟨S', _, _, m', _⟩
        exact m'.f
      · rintro i x σ' H' H'' hi ⟨S, o3, o4, m1, rfl, nb⟩ ⟨rfl, k, vv, hk, rfl⟩
        rw [List.getElem?_map] at hk
        obtain ⟨g, hg, hk⟩ : ∃ g, gs[i]? = some g ∧ ((Sum.inr g.1.nm : Key), V.ref g.2) = (k, vv) := by
          cases e : gs[i]? with
          | none => rw [e] at hk; cases hk
          | some g => rw [e] at hk; exact ⟨g, rfl, Option.some.inj hk⟩
        obtain ⟨rfl, rfl⟩ := Prod.mk.inj hk
        have gm := List.mem_of_getElem? hg
        have hs : (sg gs)[i]? = some g.1 := by rw [List.getElem?_map, hg]; rfl
        have so := sok.ok g.1 (List.mem_map.mpr ⟨g, gm, rfl⟩)
        have hvf := valV_gs (f := fun g => V.ref g.2) sok.nd gm
        have hvb := valV_gs (f := fun g => V.int ((g.1.hd : Int) + 1)) sok.nd gm
        show tSeq _ _ _ ([some v, some (.ref fp), some (.ref bp), some (.str g.1.nm), o4, o5, o6]) _
        have see : ∀ {S H}, MSt K S0 H0 fp bp (some od) gs S H → ∃ S1, Sees S H S1 ∧ Rd S1 fp (.dK (fK gs)) ∧ Rd S1 bp (.dK (bK gs)) ∧ Rl K S1 (.ref g.2) (g.1.rows.map rowD) := fun {S H} m => by
          obtain ⟨z1, e1⟩ := see_add (Sees.refl m.g.i) m.fo m.f
          obtain ⟨z2, e2⟩ := see_add z1 (by rw [upd_ne nfb.symm]; exact m.bo) m.b
          obtain ⟨a1, a2, a3, a4⟩ := m.m g gm
          obtain ⟨S3, z3, e3, rl, ne⟩ := a1.see z2 (by rw [upd_ne a4, upd_ne a3]; exact a1.out)
          exact ⟨S3, z3, .inr ⟨od, by rw [ne fp a3.symm, upd_ne nfb, upd_same]⟩, .inl (by rw [ne bp a4.symm, upd_same]), rl⟩
        obtain ⟨S1, z1, rf, rb, rr⟩ := see m1
        refine q_if (b := g.1.rows.isEmpty) z1 (et_is (et_val (ev_op rv_eqnil (ev_dget rfl rf (ev_var rfl (.str _)) hvf rr.d) (ev_lst ea_nil (lz 0 rfl)))) (by cases g.1.rows <;> rfl)) (fun h H2 g2 => ?_) fun h H2 g2 => ?_
        · have m2 := m1.step g2
          obtain ⟨S3, z3, rf3, rb3, rr3⟩ := see m2
          refine q_raise (n := some g.1.hd) z3 (ev_is (ev_op rv_sub (ev_dget rfl rb3 (ev_var rfl (.str _)) hvb (.int _)) (ev_c (.int 1))) (by show PyData.int _ = PyData.int _; rw [Int.add_sub_cancel])) fun c d H6 e => qe c d H6 ⟨g.1.hd, ?_, e.from m2.g⟩
          rw [eb]
          exact firstBad_at hs nb (by unfold segBad; rw [if_pos h])
        · have m2 := m1.step g2
          obtain ⟨S3, z3, rf3, rb3, rr3⟩ := see m2
          have hms : Ms g.1.rows := so.ms T (by have := rl g gm; omega)
          show tSeq _ _ _ ([some v, some (.ref fp), some (.ref bp), some (.str g.1.nm), o4, o5, o6]) _
          refine q_asgZ (K := K) (d := optD (wrongM g.1.rows)) z3 (ev_call (arg := fun l : List Str => [.list (l.map rowD)]) (res := fun l => optD (wrongM l)) g.1.rows hms (ea_one (ev_dget rfl rf3 (ev_var rfl (.str _)) hvf rr3.d))) (fun S v p S' => by rw [dp_opt p]; exact opt_dp _) fun v4 H3 g3 p4 => ?_
          have m3 := m2.step g3
          obtain ⟨S4, z4, rf4, rb4, rr4⟩ := see m3
          have sb : segBad g.1 = (wrongM g.1.rows).map (g.1.hd + 1 + ·) := by unfold segBad; rw [if_neg (by rw [h]; decide)]
          cases hw : wrongM g.1.rows with
          | none =>
            rw [hw] at p4 sb
            refine q_ifE (b := false) z4 (et_val (ev_op rv_notNone (ev_var rfl (p4 S4)) (ev_c .non))) (fun h => by cases h) fun _ H4 g4 => ?_
            refine ⟨S, _, _, m3.step g4, rfl, fun j t hj ht => ?_⟩
            rcases Nat.lt_or_eq_of_le (Nat.le_of_lt_succ hj) with hj | rfl
            · exact nb j t hj ht
            · rw [hs] at ht
              rw [← Option.some.inj ht]
              exact sb
          | some n =>
            rw [hw] at p4 sb
            refine q_ifE (b := true) z4 (et_val (ev_op rv_notNone (ev_var rfl (p4 S4)) (ev_c .non))) (fun _ H4 g4 => ?_) fun h => by cases h
            have m4 := m3.step g4
            obtain ⟨S5, z5, rf5, rb5, rr5⟩ := see m4
            refine q_raise (n := some (g.1.hd + 1 + n)) z5 (ev_is (ev_op rv_add (ev_dget rfl rb5 (ev_var rfl (.str _)) hvb (.int _)) (ev_var rfl (p4 S5))) (by show PyData.int _ = PyData.int _; congr 1)) fun c d H6 e => qe c d H6 ⟨g.1.hd + 1 + n, ?_, e.from m4.g⟩
            rw [eb]
            exact firstBad_at hs nb sb
      · rintro _ H2 ⟨S', o3, o4', m2, rfl, nb⟩
        refine ⟨m2.f, _, rfl, ?_⟩
        refine q (.ref fp) (upd S' fp (.dK (fK gs))) _ ?_ ⟨?_, fp, fK gs, rfl, upd_same, ?_⟩
        · have g1 : G0 S0 H0 S' (upd H2 fp (.dK (fK gs))) := m2.g.mut m2.fo (.inr hf)
          exact g1.frz m2.fo hf upd_same
        · rw [eb]
          refine firstBad_no fun j t ht => nb j t ?_ ht
          have := (List.getElem?_eq_some_iff.mp ht).1
          rw [List.length_map] at this ⊢
          exact this
        · rw [fK_names, es]⟩
end
end Zb
set_option Elab.async false
set_option linter.all false
set_option maxRecDepth 100000
set_option maxHeartbeats 4000000
namespace Zb
open PySem PySem.Spec PyProof.Rows L2
/-- an object of the law -/
inductive Th where
  | ctr (n : Nat) | reg (n : Nat) | stk (a b : Nat) | que (a b : Nat) | set (n : Nat) | agr (n : Nat) | bnk (l : List Nat) | tab (rows : List (List (Nat × Nat)))
abbrev iD (n : Nat) : PyData := .int (n : Int)
abbrev pairD (p : Nat × Nat) : PyData := .tuple [iD p.1, iD p.2]
abbrev rowsD (rows : List (List (Nat × Nat))) : List PyData := rows.map fun r => .tuple (r.map pairD)
def thD : Th → PyData
  | .ctr n => .tuple [.str "counter", iD n]
  | .reg n => .tuple [.str "register", iD n]
  | .stk a b => .tuple [.str "stack", iD a, iD b]
  | .que a b => .tuple [.str "queue", iD a, iD b]
  | .set n => .tuple [.str "set", iD n]
  | .agr n => .tuple [.str "agree", iD n]
  | .bnk l => .tuple [.str "bank", .tuple (l.map iD)]
  | .tab rows => .tuple [.str "table", .tuple (rowsD rows)]
def Small5 (n : Nat) : Prop := 2 ≤ n ∧ n ≤ 5
def Small3 (n : Nat) : Prop := 1 ≤ n ∧ n ≤ 3
structure TabOk (rows : List (List (Nat × Nat))) : Prop where
  len : 1 ≤ rows.length ∧ rows.length ≤ 6
  wide : ∃ w, 1 ≤ w ∧ w ≤ 4 ∧ ∀ r ∈ rows, r.length = w
  in_ : ∀ r ∈ rows, ∀ p ∈ r, p.1 < rows.length ∧ p.2 ≤ 9
def ThOk : Th → Prop
  | .ctr n => Small5 n
  | .reg n => Small5 n
  | .stk a b => Small3 a ∧ Small3 b
  | .que a b => Small3 a ∧ Small3 b
  | .set n => Small5 n
  | .agr n => Small5 n
  | .bnk l => (2 ≤ l.length ∧ l.length ≤ 3) ∧ ∀ x ∈ l, x ≤ 5
  | .tab rows => TabOk rows
section
variable {P : Program} {w : World} {K : PySem.W.Frag} {mg : Str → Option Value} {base : Heap}
section
variable {σ : L2.St} {S : Hp} {te ta tb : TE} {c : TT} {t t1 t2 : TS} {d z : PyData} {b : Bool}
theorem r_yes (h : EvT c σ S b) (hb : b = true) (k : Ret K t1 σ S d) : Ret K (tSeq (tIfS c t1 t2) t) σ S d := r_if h (fun _ => r_stop k) fun e => by rw [hb] at e; cases e
theorem r_no (h : EvT c σ S b) (hb : b = false) (k : Ret K t σ S d) : Ret K (tSeq (tIfS c t1 tNext) t) σ S d := r_if h (fun e => by rw [hb] at e; cases e) fun _ => r_next k
theorem q_no {z H : Hp} {D : Ends} {tz : TS} (s : Sees S H z) (h : EvT c σ z b) (hb : b = false) (k : ∀ H1, G0 S H S H1 → tz D σ H1) : tSeq (tIfS c t1 tNext) tz D σ H := q_if s h (fun e => by rw [hb] at e; cases e) fun _ H1 g => k H1 g
theorem s_no {z H : Hp} {D : Ends} (s : Sees S H z) (h : EvT c σ z b) (hb : b = false) (k : ∀ H1, G0 S H S H1 → D.nx σ H1) : tIfS c t1 tNext D σ H := q_ifE s h (fun e => by rw [hb] at e; cases e) fun _ H1 g => k H1 g
end
theorem sc_is_small : FnScope ["value", "low", "high"] ["value", "low", "high"] (defScope Zh.s_is_small) := ⟨rfl, rfl, rfl, by decide +kernel, rfl, by decide +kernel, by decide +kernel⟩
abbrev spSmall (K : PySem.W.Frag) : Sp := spF K (fun x : Int × Int × Int => [.int x.1, .int x.2.1, .int x.2.2]) (fun _ => True) fun x => .bool (decide (x.2.1 ≤ x.1) && decide (x.1 ≤ x.2.2))
theorem ok_is_small (M : Mo K mg) (D : Df K mg "is_small" Zh.s_is_small) : Fn CX0 P w K mg base "is_small" 1 ["value", "low", "high"] (spSmall K) :=
  fn_mk D.1 D.2 (fun _ _ _ _ _ _ us hl => match us, hl with | [_, _, _], _ => rfl) sc_is_small (fun _ => rfl) fun cdv A outer s H E hr => ⟨_, (pss_one (ps_ret (pe_and (pe_callB call_isi (by rfl) M.isinstance (by decide +kernel) (pa_cons (pv 0) (pa_cons (pe_bltn (v := .ty "int") (by rfl) M.int (by decide +kernel) rfl) pa_nil))) (pe_and (pe_not (pe_callB call_isi (by rfl) M.isinstance (by decide +kernel) (pa_cons (pv 0) (pa_cons (pe_bltn (v := .ty "bool") (by rfl) M.bool (by decide +kernel) rfl) pa_nil)))) (pe_one (pe_chain op_le op_le (pv 1) (pv 0) (pv 2))))))), fun x vs S hp p => by
    obtain ⟨a, lo, hi⟩ := x
    obtain ⟨v1, r, rfl, pa, pr⟩ := dpAll_cons p
    obtain ⟨v2, r2, rfl, pb, pr2⟩ := dpAll_cons pr
    obtain ⟨v3, r3, rfl, pc, pr3⟩ := dpAll_cons pr2
    obtain rfl := dpAll_nil pr3
    exact r_ret (ev_is (ev_and (ev_isi (b := true) (ev_var rfl pa) (by rfl)) fun _ => ev_and (ev_not (ev_isi (b := false) (ev_var rfl pa) (by rfl))) fun _ => ev_chain rv_le (fun _ => rv_le) (ev_var rfl pb) (ev_var rfl pa) (ev_var rfl pc)) rfl)⟩
theorem sc_is_bank : FnScope ["first", "one"] ["first"] (defScope Zh.s_is_bank) := ⟨rfl, rfl, rfl, by decide +kernel, rfl, by decide +kernel, by decide +kernel⟩
abbrev spYes (K : PySem.W.Frag) {ι : Type} (arg : ι → PyData) (pre : ι → Prop) : Sp := spF K (fun x => [arg x]) pre fun _ => .bool true
theorem ok_is_bank (M : Mo K mg) (D : Df K mg "is_bank" Zh.s_is_bank) (f_is_small : Fn CX0 P w K mg base "is_small" 1 ["value", "low", "high"] (spSmall K)) : Fn CX0 P w K mg base "is_bank" 2 ["first"] (spYes K (fun l : List Nat => .tuple (l.map iD)) fun l => ThOk (.bnk l)) :=
  fn_mk D.1 D.2 (fun _ _ _ _ _ _ us hl => match us, hl with | [_], _ => rfl) sc_is_bank (fun _ => rfl) fun cdv A outer s H E hr => ⟨_, (pss_one (ps_ret (pe_and (pe_callB call_isi (by rfl) M.isinstance (by decide +kernel) (pa_cons (pv 0) (pa_cons (pe_bltn (v := .ty "tuple") (by rfl) M.tuple (by decide +kernel) rfl) pa_nil))) (pe_and (pe_chain op_le op_le pe_int (pe_callB call_len (by rfl) M.len (by decide +kernel) (pa_cons (pv 0) pa_nil)) pe_int) (pe_one (pe_callB (cr_all rfl) (by rfl) M.all (by decide +kernel) (pa_cons (pe_lc (own := [("one", 1)]) (g := gName 1) rfl sc_is_bank.nd (pi_tup (pv 0)) (blkOk_by (own := [("one", 1)]) (N := ["first", "one"]) (sc := defScope Zh.s_is_bank) (by decide +kernel)) (fun _ _ _ _ _ => (pg_name (i := 1) sc_is_bank.nd rfl (Or.inl rfl))) (fun _ _ _ _ _ => pts_nil) (fun _ _ _ _ _ => (pe_fn f_is_small (hr.mono (by decide)) rfl (pa_cons (pv 1) (pa_cons pe_int (pa_cons pe_int pa_nil)))))) pa_nil))))))), fun l vs S hp p => by
    obtain ⟨⟨l1, l2⟩, l3⟩ := hp
    obtain ⟨v1, r, rfl, pa, pr⟩ := dpAll_cons p
    obtain rfl := dpAll_nil pr
    refine r_ret (ev_is (ev_and (ev_isi (b := true) (ev_var rfl pa) (by rfl)) fun _ => ev_and (ev_chain rv_le (fun _ => rv_le) (ev_c (.int _)) (ev_cb rc_lenT (ea_one (ev_var rfl pa))) (ev_c (.int _))) fun _ => ev_cb (rc_all (l := l.map fun _ => true)) (ea_one (ev_is (ec_tup (e := iD) (l := l) (f := fun _ => true) (g := fun x => .bool (decide ((0 : Int) ≤ x) && decide ((x : Int) ≤ 5))) (ev_var rfl pa) (by omega) (fun _ => rfl) (fun _ _ _ _ _ _ => et_yes)
      (fun x _ _ v S1 _ pv => ev_call ((x : Int), (0 : Int), (5 : Int)) trivial (ea_cons (ev_var rfl pv) (ea_cons (ev_c (.int _)) (ea_one (ev_c (.int _))))))) ?_))) ?_)
    · rw [filt_true, List.map_map]
      congr 1
      refine List.map_congr_left fun x hx => ?_
      have := l3 x hx
      show PyData.bool _ = PyData.bool true
      rw [decide_eq_true (show (0 : Int) ≤ x by omega), decide_eq_true (show (x : Int) ≤ 5 by omega)]
      rfl
    · rw [List.length_map, decide_eq_true (show (2 : Int) ≤ l.length by omega), decide_eq_true (show (l.length : Int) ≤ 3 by omega)]
      simp⟩
theorem map_at {α : Type} {f : α → PyData} {l : List α} {n : Nat} {d : PyData} (h : (l.map f)[n]? = some d) : ∃ x, l[n]? = some x ∧ d = f x := by
  rw [List.getElem?_map] at h
  cases e : l[n]? with
  | none => rw [e] at h; cases h
  | some x => rw [e] at h; exact ⟨x, rfl, (Option.some.inj h).symm⟩
theorem sc_is_table : FnScope ["rows", "row", "one"] ["rows"] (defScope Zh.s_is_table) := ⟨rfl, rfl, rfl, by decide +kernel, rfl, by decide +kernel, by decide +kernel⟩
theorem ok_is_table (M : Mo K mg) (D : Df K mg "is_table" Zh.s_is_table) (f_is_small : Fn CX0 P w K mg base "is_small" 1 ["value", "low", "high"] (spSmall K)) : Fn CX0 P w K mg base "is_table" 2 ["rows"] (spYes K (fun l : List (List (Nat × Nat)) => .tuple (rowsD l)) TabOk) :=
  fn_mk D.1 D.2 (fun _ _ _ _ _ _ us hl => match us, hl with | [_], _ => rfl) sc_is_table (fun _ => rfl) fun cdv A outer s H E hr => ⟨_, (pss_cons (ps_if (PW.pt (pw_or (pt_not (pt_val (pe_callB call_isi (by rfl) M.isinstance (by decide +kernel) (pa_cons (pv 0) (pa_cons (pe_bltn (v := .ty "tuple") (by rfl) M.tuple (by decide +kernel) rfl) pa_nil))))) (pw_or1 (pt_not (pt_chain op_le op_le pe_int (pe_callB call_len (by rfl) M.len (by decide +kernel) (pa_cons (pv 0) pa_nil)) pe_int))))) (pss_one (ps_ret pe_bl)) pss_nil)
    (pss_cons (ps_for PassesOwn.never rfl (pi_tup (pv 0)) (pg_name (i := 1) sc_is_table.nd rfl (Or.inl rfl)) (pss_cons (ps_if (PW.pt (pw_or (pt_not (pt_val (pe_callB call_isi (by rfl) M.isinstance (by decide +kernel) (pa_cons (pv 1) (pa_cons (pe_bltn (v := .ty "tuple") (by rfl) M.tuple (by decide +kernel) rfl) pa_nil))))) (pw_or1 (pt_not (pt_chain op_le op_le pe_int (pe_callB call_len (by rfl) M.len (by decide +kernel) (pa_cons (pv 1) pa_nil)) pe_int))))) (pss_one (ps_ret pe_bl)) pss_nil)
    (pss_cons (ps_if (PW.pt (pw_or (pt_not (pt_val (pe_callB call_isi (by rfl) M.isinstance (by decide +kernel) (pa_cons (pe_ix ix_tup (pv 0) pe_int (fun _ _ => rfl)) (pa_cons (pe_bltn (v := .ty "tuple") (by rfl) M.tuple (by decide +kernel) rfl) pa_nil))))) (pw_or1 (pt_cmpR op_ne (pe_callB call_len (by rfl) M.len (by decide +kernel) (pa_cons (pv 1) pa_nil)) (pe_callB call_len (by rfl) M.len (by decide +kernel) (pa_cons (pe_ix ix_tup (pv 0) pe_int (fun _ _ => rfl)) pa_nil)) (nomark _))))) (pss_one (ps_ret pe_bl)) pss_nil)
    (pss_one (ps_for PassesOwn.never rfl (pi_tup (pv 1)) (pg_name (i := 2) sc_is_table.nd rfl (Or.inl rfl)) (pss_cons (ps_if (PW.pt (pw_or (pt_not (pt_val (pe_callB call_isi (by rfl) M.isinstance (by decide +kernel) (pa_cons (pv 2) (pa_cons (pe_bltn (v := .ty "tuple") (by rfl) M.tuple (by decide +kernel) rfl) pa_nil))))) (pw_or (pt_cmpR op_ne (pe_callB call_len (by rfl) M.len (by decide +kernel) (pa_cons (pv 2) pa_nil)) pe_int (nomark _)) (pw_or1 (pt_not (pt_val (pe_fn f_is_small (hr.mono (by decide)) rfl (pa_cons (pe_ix ix_tup (pv 2) pe_int (fun _ _ => rfl)) (pa_cons pe_int (pa_cons (pe_op op_sub (pe_callB call_len (by rfl) M.len (by decide +kernel) (pa_cons (pv 0) pa_nil)) pe_int) pa_nil)))))))))) (pss_one (ps_ret pe_bl)) pss_nil)
    (pss_one (ps_if (pt_not (pt_val (pe_fn f_is_small (hr.mono (by decide)) rfl (pa_cons (pe_ix ix_tup (pv 2) pe_int (fun _ _ => rfl)) (pa_cons pe_int (pa_cons pe_int pa_nil)))))) (pss_one (ps_ret pe_bl)) pss_nil))))))))
    (pss_one (ps_ret pe_bl)))), fun rows vs S T p => by
    obtain ⟨l1, l2⟩ := T.len
    obtain ⟨wd, w1, w2, hw⟩ := T.wide
    obtain ⟨v1, r, rfl, pa, pr⟩ := dpAll_cons p
    obtain rfl := dpAll_nil pr
    intro H0 i0 D q
    have h0 : ∃ r0, rows[0]? = some r0 := by
      cases rows with
      | nil => simp at l1
      | cons a b => exact ⟨a, rfl⟩
    obtain ⟨r0, h0⟩ := h0
    have z0 : atI (rowsD rows) 0 = some (.tuple (r0.map pairD)) := atI_nat (j := 0) (by rw [List.getElem?_map, h0]; rfl)
    have m0 := hw r0 (List.mem_of_getElem? h0)
    have elen : ∀ σ, σ[0]? = some (some v1) → EvD K (tCB (fun xs H Q => ∃ x n, xs = [x] ∧ LenV K x H n ∧ Q (.int n) H) (tCons (tVar 0) tNil)) σ S (.int (rows.length : Nat)) := fun σ h => ev_is (ev_cb rc_lenT (ea_one (ev_var h pa))) (by rw [List.length_map])
    refine q_no (b := !true || !(decide ((1 : Int) ≤ rows.length) && decide ((rows.length : Int) ≤ 6))) (Sees.refl i0) (et_or (et_not (et_B (ev_isi (b := true) (ev_var rfl pa) (by rfl)))) fun _ => et_not (et_val (ev_chain rv_le (fun _ => rv_le) (ev_c (.int _)) (elen _ rfl) (ev_c (.int _))))) (by rw [decide_eq_true (show (1 : Int) ≤ rows.length by omega), decide_eq_true (show (rows.length : Int) ≤ 6 by omega)]; rfl) fun H1 g1 => ?_
    refine ⟨v1, rfl, forT_at pa (fun i σ' H' => G0 S H0 S H' ∧ ∃ o1 o2, σ' = [some v1, o1, o2]) g1.i ⟨g1, _, _, rfl⟩ (fun n σ' H' _ pv => pv.1.i) (fun n d x σ' H' hd px pv => ?_) ?_⟩
    · obtain ⟨g2, o1, o2, rfl⟩ := pv
      obtain ⟨r, hr, rfl⟩ := map_at hd
      have mr := List.mem_of_getElem? hr
      have lr := hw r mr
      refine q_no (b := !true || !(decide ((1 : Int) ≤ r.length) && decide ((r.length : Int) ≤ 4))) (Sees.refl g2.i) (et_or (et_not (et_B (ev_isi (b := true) (ev_var rfl px) (by rfl)))) fun _ => et_not (et_val (ev_is (ev_chain rv_le (fun _ => rv_le) (ev_c (.int _)) (ev_cb rc_lenT (ea_one (ev_var rfl px))) (ev_c (.int _))) (by rw [List.length_map])))) (by rw [decide_eq_true (show (1 : Int) ≤ r.length by omega), decide_eq_true (show (r.length : Int) ≤ 4 by omega)]; rfl) fun H3 g3 => ?_
      refine q_no (b := !true || !decide ((r.length : Int) = r0.length)) (Sees.refl g3.i) (et_or (et_not (et_B (ev_isi (b := true) (ev_op (rv_ixT z0) (ev_var rfl pa) (ev_c (.int _))) (by rfl)))) fun _ => et_val (ev_is (ev_op rv_nei (ev_cb rc_lenT (ea_one (ev_var rfl px))) (ev_cb rc_lenT (ea_one (ev_op (rv_ixT z0) (ev_var rfl pa) (ev_c (.int _)))))) (by rw [List.length_map, List.length_map]))) (by rw [decide_eq_true (show (r.length : Int) = r0.length by omega)]; rfl) fun H4 g4 => ?_
      have g5 := (g2.trans g3).trans g4
      refine ⟨x, rfl, forT_at px (fun i σ' H' => G0 S H0 S H' ∧ ∃ o2, σ' = [some v1, some x, o2]) g5.i ⟨g5, _, rfl⟩ (fun n σ' H' _ pv => pv.1.i) (fun n d y σ' H' hd py pv => ?_) ?_⟩
      · obtain ⟨g6, o3, rfl⟩ := pv
        obtain ⟨c, hc, rfl⟩ := map_at hd
        obtain ⟨c1, c2⟩ := T.in_ r mr c (List.mem_of_getElem? hc)
        refine q_no (b := !true || (!decide ((2 : Int) = 2) || !(decide ((0 : Int) ≤ c.1) && decide ((c.1 : Int) ≤ (rows.length : Int) - 1)))) (Sees.refl g6.i) (et_or (et_not (et_B (ev_isi (b := true) (ev_var rfl py) (by rfl)))) fun _ => et_or (et_val (ev_op rv_nei (ev_cb rc_lenT (ea_one (ev_var rfl py))) (ev_c (.int _)))) fun _ => et_not (et_B (ev_call ((c.1 : Int), (0 : Int), (rows.length : Int) - 1) trivial (ea_cons (ev_op (rv_ixT (i := 0) rfl) (ev_var rfl py) (ev_c (.int _))) (ea_cons (ev_c (.int _)) (ea_one (ev_op rv_sub (elen _ rfl) (ev_c (.int _))))))))) (by rw [decide_eq_true (show (0 : Int) ≤ c.1 by omega), decide_eq_true (show (c.1 : Int) ≤ (rows.length : Int) - 1 by omega)]; rfl) fun H5 g7 => ?_
        refine s_no (b := !(decide ((0 : Int) ≤ c.2) && decide ((c.2 : Int) ≤ 9))) (Sees.refl g7.i) (et_not (et_B (ev_call ((c.2 : Int), (0 : Int), (9 : Int)) trivial (ea_cons (ev_op (rv_ixT (i := 1) rfl) (ev_var rfl py) (ev_c (.int _))) (ea_cons (ev_c (.int _)) (ea_one (ev_c (.int _)))))))) (by rw [decide_eq_true (show (0 : Int) ≤ c.2 by omega), decide_eq_true (show (c.2 : Int) ≤ 9 by omega)]; rfl) fun H6 g8 => ⟨(g6.trans g7).trans g8, _, rfl⟩
      · rintro _ H5 ⟨g6, o3, rfl⟩
        exact ⟨g6, _, _, rfl⟩
    · rintro _ H2 ⟨g2, o1, o2, rfl⟩
      exact q _ S H2 g2 (.bl _)⟩
theorem sc_is_kind : FnScope ["value", "name"] ["value"] (defScope Zh.s_is_kind) := ⟨rfl, rfl, rfl, by decide +kernel, rfl, by decide +kernel, by decide +kernel⟩
theorem ok_is_kind (M : Mo K mg) (D : Df K mg "is_kind" Zh.s_is_kind) (f_is_small : Fn CX0 P w K mg base "is_small" 1 ["value", "low", "high"] (spSmall K)) (f_is_bank : Fn CX0 P w K mg base "is_bank" 2 ["first"] (spYes K (fun l : List Nat => .tuple (l.map iD)) fun l => ThOk (.bnk l)))
    (f_is_table : Fn CX0 P w K mg base "is_table" 2 ["rows"] (spYes K (fun l : List (List (Nat × Nat)) => .tuple (rowsD l)) TabOk)) : Fn CX0 P w K mg base "is_kind" 3 ["value"] (spYes K thD ThOk) :=
  fn_mk D.1 D.2 (fun _ _ _ _ _ _ us hl => match us, hl with | [_], _ => rfl) sc_is_kind (fun _ => rfl) fun cdv A outer s H E hr => ⟨_, (pss_cons (ps_if (PW.pt (pw_or (pt_not (pt_val (pe_callB call_isi (by rfl) M.isinstance (by decide +kernel) (pa_cons (pv 0) (pa_cons (pe_bltn (v := .ty "tuple") (by rfl) M.tuple (by decide +kernel) rfl) pa_nil))))) (pw_or (pt_cmpR op_lt (pe_callB call_len (by rfl) M.len (by decide +kernel) (pa_cons (pv 0) pa_nil)) pe_int (nomark _)) (pw_or1 (pt_not (pt_val (pe_callB call_isi (by rfl) M.isinstance (by decide +kernel) (pa_cons (pe_ix ix_tup (pv 0) pe_int (fun _ _ => rfl)) (pa_cons (pe_bltn (v := .ty "str") (by rfl) M.str (by decide +kernel) rfl) pa_nil))))))))) (pss_one (ps_ret pe_bl)) pss_nil)
    (pss_cons (ps_set (i := 1) sc_is_kind.nd rfl (Or.inl rfl) (pe_ix ix_tup (pv 0) pe_int (fun _ _ => rfl)))
    (pss_cons (ps_if (pt_cmpR op_in_seq (pv 1) (pe_tup (pa_cons pe_str (pa_cons pe_str (pa_cons pe_str (pa_cons pe_str pa_nil))))) (by rfl)) (pss_one (ps_ret (pe_and (pe_cmpR op_eq (pe_callB call_len (by rfl) M.len (by decide +kernel) (pa_cons (pv 0) pa_nil)) pe_int (nomark _)) (pe_one (pe_fn f_is_small (hr.mono (by decide)) rfl (pa_cons (pe_ix ix_tup (pv 0) pe_int (fun _ _ => rfl)) (pa_cons pe_int (pa_cons (pe_gint rfl M.MOST_VALUES) pa_nil)))))))) pss_nil)
    (pss_cons (ps_if (pt_cmpR op_in_seq (pv 1) (pe_tup (pa_cons pe_str (pa_cons pe_str pa_nil))) (by rfl)) (pss_one (ps_ret (pe_and (pe_cmpR op_eq (pe_callB call_len (by rfl) M.len (by decide +kernel) (pa_cons (pv 0) pa_nil)) pe_int (nomark _)) (pe_and (pe_fn f_is_small (hr.mono (by decide)) rfl (pa_cons (pe_ix ix_tup (pv 0) pe_int (fun _ _ => rfl)) (pa_cons pe_int (pa_cons (pe_gint rfl M.MOST_ROOM) pa_nil)))) (pe_one (pe_fn f_is_small (hr.mono (by decide)) rfl (pa_cons (pe_ix ix_tup (pv 0) pe_int (fun _ _ => rfl)) (pa_cons pe_int (pa_cons (pe_gint rfl M.MOST_ROOM) pa_nil))))))))) pss_nil)
    (pss_cons (ps_if (pt_cmpR op_eq (pv 1) pe_str (nomark _)) (pss_one (ps_ret (pe_and (pe_cmpR op_eq (pe_callB call_len (by rfl) M.len (by decide +kernel) (pa_cons (pv 0) pa_nil)) pe_int (nomark _)) (pe_one (pe_fn f_is_bank (hr.mono (by decide)) rfl (pa_cons (pe_ix ix_tup (pv 0) pe_int (fun _ _ => rfl)) pa_nil)))))) pss_nil)
    (pss_one (ps_ret (pe_and (pe_cmpR op_eq (pv 1) pe_str (nomark _)) (pe_and (pe_cmpR op_eq (pe_callB call_len (by rfl) M.len (by decide +kernel) (pa_cons (pv 0) pa_nil)) pe_int (nomark _)) (pe_one (pe_fn f_is_table (hr.mono (by decide)) rfl (pa_cons (pe_ix ix_tup (pv 0) pe_int (fun _ _ => rfl)) pa_nil)))))))))))), fun th vs S ok p => by
    obtain ⟨v, r, rfl, pv, pr⟩ := dpAll_cons p
    obtain rfl := dpAll_nil pr
    -- the first test, then the name
    have first_ : ∀ (nm : Str) (r : List PyData) (t : TS), thD th = .tuple (.str nm :: r) → 1 ≤ r.length → (∀ v1 S1, Same S S1 → Dp K S1 v1 (.str nm) → Dp K S1 v (.tuple (.str nm :: r)) →
        (∀ {σ : L2.St} {a b c d : Str}, EvD K (tTup (tCons (tC (.str a)) (tCons (tC (.str b)) (tCons (tC (.str c)) (tCons (tC (.str d)) tNil))))) σ S1 (.tuple [.str a, .str b, .str c, .str d])) →
        (∀ {σ : L2.St} {a b : Str}, EvD K (tTup (tCons (tC (.str a)) (tCons (tC (.str b)) tNil))) σ S1 (.tuple [.str a, .str b])) → Ret K t ((start ["value", "name"] [v]).set 1 (some v1)) S1 (.bool true)) →
        Ret K (tSeq (tIfS (tOr (tNot (tB (tCB (rIsi K) (tCons (tVar 0) (tCons (tC (.ty "tuple")) tNil))))) (tOr (tTest (tOp (rI0 fun i j => .bl (decide (i < j))) (tCB (fun xs H Q => ∃ x n, xs = [x] ∧ LenV K x H n ∧ Q (.int n) H) (tCons (tVar 0) tNil)) (tC (.int 2)))) (tNot (tB (tCB (rIsi K) (tCons (tOp (rIxT K) (tVar 0) (tC (.int 0))) (tCons (tC (.ty "str")) tNil))))))) (tRet (tC (.bl false))) tNext) (tSeq (tAsg (tOp (rIxT K) (tVar 0) (tC (.int 0))) (gName 1)) t)) (start ["value", "name"] [v]) S (.bool true) := fun nm r t e hr k => by
      rw [e] at pv
      refine r_no (b := !true || (decide (((r.length + 1 : Nat) : Int) < 2) || !true)) (et_or (et_not (et_B (ev_isi (b := true) (ev_var rfl pv) (by rfl)))) fun _ => et_or (et_val (ev_op rv_lt (ev_cb rc_lenT (ea_one (ev_var rfl pv))) (ev_c (.int _)))) fun _ => et_not (et_B (ev_isi (b := true) (ev_op (rv_ixT at_head) (ev_var rfl pv) (ev_c (.int _))) (by rfl)))) (by rw [decide_eq_false (show ¬ ((r.length + 1 : Nat) : Int) < 2 by omega)]; rfl) ?_
      refine r_asg (ev_op (rv_ixT at_head) (ev_var rfl pv) (ev_c (.int _))) fun v1 S1 i1 p1 => k v1 S1 i1 p1 (dp_same i1 pv) ?_ ?_
      · exact fun {_ _ _ _ _} => ev_tup (ea_cons (ev_c (.str _)) (ea_cons (ev_c (.str _)) (ea_cons (ev_c (.str _)) (ea_one (ev_c (.str _)))))) (lz 4 rfl)
      · exact fun {_ _ _} => ev_tup (ea_cons (ev_c (.str _)) (ea_one (ev_c (.str _)))) (lz 2 rfl)
    match th, ok, first_ with
    | .ctr n, ok, first_ =>
    refine first_ "counter" _ _ (by rfl) (by simp) fun v1 S1 i1 p1 pv1 str4 str2 => ?_
    obtain ⟨o1, o2⟩ := ok
    refine r_yes (et_val (ev_op (rv_inS (l := ["counter", "register", "set", "agree"]) (.inr rfl)) (ev_var rfl p1) str4)) (by decide +kernel) (r_ret ?_)
    refine ev_is (ev_and (ev_op rv_eqi (ev_cb rc_lenT (ea_one (ev_var rfl pv1))) (ev_c (.int _))) fun _ => ev_call ((n : Int), (2 : Int), (5 : Int)) trivial (ea_cons (ev_op (rv_ixT (i := 1) rfl) (ev_var rfl pv1) (ev_c (.int _))) (ea_cons (ev_c (.int _)) (ea_one (ev_c (.int _)))))) ?_
    rw [decide_eq_true (show (2 : Int) ≤ n by omega), decide_eq_true (show (n : Int) ≤ 5 by omega)]
    rfl
    | .reg n, ok, first_ =>
    refine first_ "register" _ _ (by rfl) (by simp) fun v1 S1 i1 p1 pv1 str4 str2 => ?_
    obtain ⟨o1, o2⟩ := ok
    refine r_yes (et_val (ev_op (rv_inS (l := ["counter", "register", "set", "agree"]) (.inr rfl)) (ev_var rfl p1) str4)) (by decide +kernel) (r_ret ?_)
    refine ev_is (ev_and (ev_op rv_eqi (ev_cb rc_lenT (ea_one (ev_var rfl pv1))) (ev_c (.int _))) fun _ => ev_call ((n : Int), (2 : Int), (5 : Int)) trivial (ea_cons (ev_op (rv_ixT (i := 1) rfl) (ev_var rfl pv1) (ev_c (.int _))) (ea_cons (ev_c (.int _)) (ea_one (ev_c (.int _)))))) ?_
    rw [decide_eq_true (show (2 : Int) ≤ n by omega), decide_eq_true (show (n : Int) ≤ 5 by omega)]
    rfl
    | .stk a b, ok, first_ =>
    refine first_ "stack" _ _ (by rfl) (by simp) fun v1 S1 i1 p1 pv1 str4 str2 => ?_
    obtain ⟨⟨o1, o2⟩, o3, o4⟩ := ok
    refine r_no (et_val (ev_op (rv_inS (l := ["counter", "register", "set", "agree"]) (.inr rfl)) (ev_var rfl p1) str4)) (by decide +kernel) ?_
    refine r_yes (et_val (ev_op (rv_inS (l := ["stack", "queue"]) (.inr rfl)) (ev_var rfl p1) str2)) (by decide +kernel) (r_ret ?_)
    refine ev_is (ev_and (ev_op rv_eqi (ev_cb rc_lenT (ea_one (ev_var rfl pv1))) (ev_c (.int _))) fun _ => ev_and (ev_call ((a : Int), (1 : Int), (3 : Int)) trivial (ea_cons (ev_op (rv_ixT (i := 1) rfl) (ev_var rfl pv1) (ev_c (.int _))) (ea_cons (ev_c (.int _)) (ea_one (ev_c (.int _)))))) fun _ => ev_call ((b : Int), (1 : Int), (3 : Int)) trivial (ea_cons (ev_op (rv_ixT (i := 2) rfl) (ev_var rfl pv1) (ev_c (.int _))) (ea_cons (ev_c (.int _)) (ea_one (ev_c (.int _)))))) ?_
    rw [decide_eq_true (show (1 : Int) ≤ a by omega), decide_eq_true (show (a : Int) ≤ 3 by omega), decide_eq_true (show (1 : Int) ≤ b by omega), decide_eq_true (show (b : Int) ≤ 3 by omega)]
    rfl
    | .que a b, ok, first_ =>
    refine first_ "queue" _ _ (by rfl) (by simp) fun v1 S1 i1 p1 pv1 str4 str2 => ?_
    obtain ⟨⟨o1, o2⟩, o3, o4⟩ := ok
    refine r_no (et_val (ev_op (rv_inS (l := ["counter", "register", "set", "agree"]) (.inr rfl)) (ev_var rfl p1) str4)) (by decide +kernel) ?_
    refine r_yes (et_val (ev_op (rv_inS (l := ["stack", "queue"]) (.inr rfl)) (ev_var rfl p1) str2)) (by decide +kernel) (r_ret ?_)
    refine ev_is (ev_and (ev_op rv_eqi (ev_cb rc_lenT (ea_one (ev_var rfl pv1))) (ev_c (.int _))) fun _ => ev_and (ev_call ((a : Int), (1 : Int), (3 : Int)) trivial (ea_cons (ev_op (rv_ixT (i := 1) rfl) (ev_var rfl pv1) (ev_c (.int _))) (ea_cons (ev_c (.int _)) (ea_one (ev_c (.int _)))))) fun _ => ev_call ((b : Int), (1 : Int), (3 : Int)) trivial (ea_cons (ev_op (rv_ixT (i := 2) rfl) (ev_var rfl pv1) (ev_c (.int _))) (ea_cons (ev_c (.int _)) (ea_one (ev_c (.int _)))))) ?_
    rw [decide_eq_true (show (1 : Int) ≤ a by omega), decide_eq_true (show (a : Int) ≤ 3 by omega), decide_eq_true (show (1 : Int) ≤ b by omega), decide_eq_true (show (b : Int) ≤ 3 by omega)]
    rfl
    | .set n, ok, first_ =>
    refine first_ "set" _ _ (by rfl) (by simp) fun v1 S1 i1 p1 pv1 str4 str2 => ?_
    obtain ⟨o1, o2⟩ := ok
    refine r_yes (et_val (ev_op (rv_inS (l := ["counter", "register", "set", "agree"]) (.inr rfl)) (ev_var rfl p1) str4)) (by decide +kernel) (r_ret ?_)
    refine ev_is (ev_and (ev_op rv_eqi (ev_cb rc_lenT (ea_one (ev_var rfl pv1))) (ev_c (.int _))) fun _ => ev_call ((n : Int), (2 : Int), (5 : Int)) trivial (ea_cons (ev_op (rv_ixT (i := 1) rfl) (ev_var rfl pv1) (ev_c (.int _))) (ea_cons (ev_c (.int _)) (ea_one (ev_c (.int _)))))) ?_
    rw [decide_eq_true (show (2 : Int) ≤ n by omega), decide_eq_true (show (n : Int) ≤ 5 by omega)]
    rfl
    | .agr n, ok, first_ =>
    refine first_ "agree" _ _ (by rfl) (by simp) fun v1 S1 i1 p1 pv1 str4 str2 => ?_
    obtain ⟨o1, o2⟩ := ok
    refine r_yes (et_val (ev_op (rv_inS (l := ["counter", "register", "set", "agree"]) (.inr rfl)) (ev_var rfl p1) str4)) (by decide +kernel) (r_ret ?_)
    refine ev_is (ev_and (ev_op rv_eqi (ev_cb rc_lenT (ea_one (ev_var rfl pv1))) (ev_c (.int _))) fun _ => ev_call ((n : Int), (2 : Int), (5 : Int)) trivial (ea_cons (ev_op (rv_ixT (i := 1) rfl) (ev_var rfl pv1) (ev_c (.int _))) (ea_cons (ev_c (.int _)) (ea_one (ev_c (.int _)))))) ?_
    rw [decide_eq_true (show (2 : Int) ≤ n by omega), decide_eq_true (show (n : Int) ≤ 5 by omega)]
    rfl
    | .bnk l, ok, first_ =>
    refine first_ "bank" _ _ (by rfl) (by simp) fun v1 S1 i1 p1 pv1 str4 str2 => ?_
    refine r_no (et_val (ev_op (rv_inS (l := ["counter", "register", "set", "agree"]) (.inr rfl)) (ev_var rfl p1) str4)) (by decide +kernel) ?_
    refine r_no (et_val (ev_op (rv_inS (l := ["stack", "queue"]) (.inr rfl)) (ev_var rfl p1) str2)) (by decide +kernel) ?_
    refine r_yes (et_val (ev_op rv_eqs (ev_var rfl p1) (ev_c (.str _)))) (by decide +kernel) (r_ret ?_)
    exact ev_is (ev_and (ev_op rv_eqi (ev_cb rc_lenT (ea_one (ev_var rfl pv1))) (ev_c (.int _))) fun _ => ev_call l ok (ea_one (ev_op (rv_ixT (i := 1) rfl) (ev_var rfl pv1) (ev_c (.int _))))) rfl
    | .tab rows, ok, first_ =>
    refine first_ "table" _ _ (by rfl) (by simp) fun v1 S1 i1 p1 pv1 str4 str2 => ?_
    refine r_no (et_val (ev_op (rv_inS (l := ["counter", "register", "set", "agree"]) (.inr rfl)) (ev_var rfl p1) str4)) (by decide +kernel) ?_
    refine r_no (et_val (ev_op (rv_inS (l := ["stack", "queue"]) (.inr rfl)) (ev_var rfl p1) str2)) (by decide +kernel) ?_
    refine r_no (et_val (ev_op rv_eqs (ev_var rfl p1) (ev_c (.str _)))) (by decide +kernel) (r_ret ?_)
    exact ev_is (ev_and (ev_op rv_eqs (ev_var rfl p1) (ev_c (.str _))) fun _ => ev_and (ev_op rv_eqi (ev_cb rc_lenT (ea_one (ev_var rfl pv1))) (ev_c (.int _))) fun _ => ev_call rows ok (ea_one (ev_op (rv_ixT (i := 1) rfl) (ev_var rfl pv1) (ev_c (.int _))))) rfl⟩
end
end Zb
set_option Elab.async false
set_option linter.all false
set_option maxRecDepth 100000
set_option maxHeartbeats 4000000
namespace Zb
open PySem PySem.Spec PyProof.Rows L2
abbrev Call := Str × List Int
abbrev callD (c : Call) : PyData := .tuple (.str c.1 :: c.2.map .int)
abbrev call1 (w : Str) (n : Nat) : List Call := (List.range n).map fun i : Nat => (w, [0 + (i : Int)])
abbrev moves (one other : Nat) : List Call := if decide (one ≠ other) = true then [("move", [(one : Int), (other : Int), 1]), ("move", [(one : Int), (other : Int), 2]), ("move", [(one : Int), (other : Int), 3])] else []
def bankP (m : Nat) : List Call := call1 "look" m ++ (List.range m).flatMap fun one => (List.range m).flatMap fun other => moves one other
def callsP : Th → List Call
  | .ctr n => (List.range (n - 1)).map (fun i : Nat => (("add", [1 + (i : Int)]) : Call)) ++ [(("look", []) : Call)]
  | .reg n => [(("look", []) : Call)] ++ call1 "put" n ++ call1 "trade" n
  | .stk _ b => call1 "push" b ++ [(("pop", []) : Call)]
  | .que _ b => call1 "enter" b ++ [(("leave", []) : Call)]
  | .set n => (["add", "drop", "has"] : List Str).flatMap fun w => call1 w n
  | .agr n => call1 "decide" n
  | .bnk l => bankP l.length
  | .tab rows => call1 "do" ((rows[0]?.map (·.length)).getD 0)
section
variable {P : Program} {w : World} {K : PySem.W.Frag} {mg : Str → Option Value} {base : Heap}
theorem fn_mk0 {x : Str} {st : Stmt} {N ps : List Str} {k : Nat} {ι : Type} {arg : ι → List PyData} {pre : ι → Prop}
    (F : ∃ fd, FunD K x x (defArgs st) (defBody st) (defScope st) [] [] (He.ga K x) fd) (g : mg x = some (.ref (He.ga K x)))
    (b : ∀ (kV doc pm : Value) (an : Option Addr) (cdv ct : Value) (us : List Value), us.length = ps.length → bindArgs (PySem.W.fnOf x x (defArgs st) (defBody st) (defScope st) .none kV doc pm an cdv ct) ⟨us, []⟩ = pure (ps.zip us))
    (sc : FnScope N ps (defScope st)) (hl : ∀ i, (arg i).length = ps.length)
    (hb : ∀ (cdv : Value) (A : Around) (outer : List Env) (s : Shared) (H : Hp) (E : XK), Room k (A.deeper (envOfC x (defScope st) s.heap.objs.size (He.ga K x) cdv)) →
      ∃ t, PSs (cxOf CX0 P w K mg base N x (defScope st) (He.ga K x) cdv A outer s H E).nox (defBody st) t ∧ ∀ i vs S H, Same S H → pre i → DpAll K S vs (arg i) → ∀ D : Ends, (∀ σ' H', G0 S H S H' → D.nx σ' H') → t D (start N vs) H) :
    Fn CX0 P w K mg base x (k + 1) ps (spF K arg pre fun _ => .none) := by
  obtain ⟨fd, F⟩ := F
  refine ⟨⟨fd, F.ok sc (fun vs H Q E h => ?_) (fun cdv A outer s H vs Q E hr h => ?_), F.bindsN b⟩, F.kp, g⟩
  · obtain ⟨i, S, _, p, _⟩ := h
    rw [dpAll_len p]
    exact hl i
  · obtain ⟨i, S, j, p, hp, q⟩ := h
    obtain ⟨t, h1, h2⟩ := hb cdv A outer s H E hr
    exact ⟨t, h1.nox, h2 i vs S H j hp p _ fun σ' H' g => q .non S H' g .non⟩
abbrev spNeed (K : PySem.W.Frag) : Sp := spF K (fun t : Th => [thD t]) ThOk fun _ => .none
theorem sc_need_object : FnScope ["value"] ["value"] (defScope Zh.s_need_object) := ⟨rfl, rfl, rfl, by decide +kernel, rfl, by decide +kernel, by decide +kernel⟩
theorem ok_need_object (M : Mo K mg) (D : Df K mg "need_object" Zh.s_need_object) (f_is_kind : Fn CX0 P w K mg base "is_kind" 3 ["value"] (spYes K thD ThOk)) : Fn CX0 P w K mg base "need_object" 4 ["value"] (spNeed K) :=
  fn_mk0 D.1 D.2 (fun _ _ _ _ _ _ us hl => match us, hl with | [_], _ => rfl) sc_need_object (fun _ => rfl) fun cdv A outer s H E hr => ⟨_, (pss_one (ps_if (pt_not (pt_val (pe_fn f_is_kind (hr.mono (by decide)) rfl (pa_cons (pv 0) pa_nil)))) (pss_one ps_never) pss_nil)), fun th vs S H0 i0 ok p D q => by
    obtain ⟨v, r, rfl, pv, pr⟩ := dpAll_cons p
    obtain rfl := dpAll_nil pr
    exact s_no (b := !true) (Sees.refl i0) (et_not (et_B (ev_call th ok (ea_one (ev_var rfl pv))))) rfl fun H1 g => q _ H1 g⟩
theorem moves_len (a b : Nat) : (moves a b).length ≤ 3 := by
  unfold moves
  split <;> simp
theorem flat_len {α β : Type} {l : List α} {f : α → List β} {c : Nat} (h : ∀ x, (f x).length ≤ c) : (l.flatMap f).length ≤ l.length * c := by
  induction l with
  | nil => simp
  | cons a r ih =>
    rw [List.flatMap_cons, List.length_append, List.length_cons, Nat.succ_mul]
    have := h a
    omega
theorem sc_bank_calls : FnScope ["many", "found", "k", "one", "other", "amount"] ["many"] (defScope Zh.s_bank_calls) := ⟨rfl, rfl, rfl, by decide +kernel, rfl, by decide +kernel, by decide +kernel⟩
theorem map_call1 (w : Str) (n : Nat) : (call1 w n).map callD = (List.range n).map fun i : Nat => PyData.tuple [.str w, .int (0 + (i : Int))] := by rw [List.map_map]; rfl
theorem ok_bank_calls (M : Mo K mg) (D : Df K mg "bank_calls" Zh.s_bank_calls) : Fn CX0 P w K mg base "bank_calls" 1 ["many"] (spF K (fun m : Nat => [iD m]) (fun m => m ≤ 3) fun m => .list ((bankP m).map callD)) :=
  fn_mk D.1 D.2 (fun _ _ _ _ _ _ us hl => match us, hl with | [_], _ => rfl) sc_bank_calls (fun _ => rfl) fun cdv A outer s H E hr => ⟨_, (pss_cons (ps_setLc (i := 1) (own := [("k", 2)]) (g := gName 2) rfl sc_bank_calls.nd rfl rfl (sw_true rfl rfl rfl (by decide +kernel)) (pi_range1 rfl M.range (pa_cons (pv 0) pa_nil)) (blkOk_by (own := [("k", 2)]) (N := ["many", "found", "k", "one", "other", "amount"]) (sc := defScope Zh.s_bank_calls) (by decide +kernel)) (fun _ _ _ _ _ => (pg_name (i := 2) sc_bank_calls.nd rfl (Or.inl rfl))) (fun _ _ _ _ _ => pts_nil) (fun _ _ _ _ _ => (pe_tup (pa_cons pe_str (pa_cons (pv 2) pa_nil)))))
    (pss_cons (ps_for PassesOwn.never rfl (pi_range1 rfl M.range (pa_cons (pv 0) pa_nil)) (pg_name (i := 3) sc_bank_calls.nd rfl (Or.inr rfl)) (pss_one (ps_for PassesOwn.never rfl (pi_range1 rfl M.range (pa_cons (pv 0) pa_nil)) (pg_name (i := 4) sc_bank_calls.nd rfl (Or.inr rfl)) (pss_one (ps_if (pt_cmpR op_ne (pv 3) (pv 4) (nomark _)) (pss_one (ps_expr (pe_bm PySem.F.plainAttrs_list PySem.F.slot_list_extend PySem.F.type_list_extend mt_extend (pv 1) (pa_cons (pe_lc (own := [("amount", 5)]) (g := gName 5) rfl sc_bank_calls.nd (pi_tup (pe_tup (pa_cons pe_int (pa_cons pe_int (pa_cons pe_int pa_nil))))) (blkOk_by (own := [("amount", 5)]) (N := ["many", "found", "k", "one", "other", "amount"]) (sc := defScope Zh.s_bank_calls) (by decide +kernel)) (fun _ _ _ _ _ => (pg_name (i := 5) sc_bank_calls.nd rfl (Or.inl rfl))) (fun _ _ _ _ _ => pts_nil) (fun _ _ _ _ _ => (pe_tup (pa_cons pe_str (pa_cons (pv 3) (pa_cons (pv 4) (pa_cons (pv 5) pa_nil))))))) pa_nil)))) pss_nil)))))
    (pss_one (ps_ret (pv 1))))), fun m vs S hp p => by
    obtain ⟨v, r, rfl, pv, pr⟩ := dpAll_cons p
    obtain rfl := dpAll_nil pr
    obtain rfl := dp_int pv
    intro H0 i0 D q
    refine q_asgN (K := K) (ds := (call1 "look" m).map callD) (en_is (en_range (lo := 0) (n := m) (f := fun _ => true) (g := fun i : Nat => .tuple [.str "look", .int (0 + (i : Int))]) (ir_1 (K := K) (n := (m : Nat)) (ea_one (ev_var rfl (.int _))) (by omega) (by omega)) (by omega) (fun _ => rfl) (fun _ _ _ _ => et_yes) (fun i _ _ S1 _ => ev_tup (ea_cons (ev_c (.str _)) (ea_one (ev_var rfl (.int _)))) (lz 2 rfl))) (by rw [filt_true, map_call1])) i0 fun l S1 H1 g1 hl m1 => ?_
    refine q_forR (S := S1) (ir_1 (K := K) (n := (m : Nat)) (ea_one (ev_var rfl (.int _))) (by omega) (by omega) H1 g1.i) (n := m) (lo := 0) (fun i σ' H' => ∃ Sx o2 o3 o4 o5, G0 S H0 Sx H' ∧ Mu K Sx H' l ((call1 "look" m ++ (List.range i).flatMap fun one => (List.range m).flatMap fun other => moves one other).map callD) ∧ σ' = [some (.int (m : Int)), some (.ref l), o2, o3, o4, o5]) ?_ ?_ ?_
    · exact fun S2 H2 g2 => ⟨S2, _, _, _, _, g1.trans g2, by rw [List.range_zero, List.flatMap_nil, List.append_nil]; exact m1.g0 g2, rfl⟩
    · rintro i _ H2 hi ⟨S2, o2, o3, o4, o5, g2, m2, rfl⟩
      rw [Int.zero_add]
      refine s_forR (S := S2) (ir_1 (K := K) (n := (m : Nat)) (ea_one (ev_var rfl (.int _))) (by omega) (by omega) H2 g2.i) (n := m) (lo := 0) (fun j σ' H' => ∃ Sx o2 o4 o5, G0 S H0 Sx H' ∧ Mu K Sx H' l ((call1 "look" m ++ ((List.range i).flatMap fun one => (List.range m).flatMap fun other => moves one other) ++ (List.range j).flatMap fun other => moves i other).map callD) ∧ σ' = [some (.int (m : Int)), some (.ref l), o2, some (.int (i : Int)), o4, o5]) ?_ ?_ ?_
      · exact fun S3 H3 g3 => ⟨S3, _, _, _, g2.trans g3, by rw [List.range_zero, List.flatMap_nil, List.append_nil]; exact m2.g0 g3, rfl⟩
      · rintro j _ H3 hj ⟨S3, o2, o4, o5, g3, m3, rfl⟩
        rw [Int.zero_add]
        have e : (List.range (j + 1)).flatMap (fun other => moves i other) = (List.range j).flatMap (fun other => moves i other) ++ moves i j := by rw [List.range_succ, List.flatMap_append, List.flatMap_singleton]
        refine q_ifE (b := decide (i ≠ j)) (Sees.refl g3.i) (et_is (et_val (ev_op rv_nei (ev_var rfl (.int _)) (ev_var (K := K) rfl (.int _)))) (by rw [int_nat]; simp)) (fun h H4 g4 => ?_) fun h H4 g4 => ?_
        · have hm : (moves i j).map callD = (([1, 2, 3] : List Int).filter fun _ => true).map fun a => PyData.tuple [.str "move", .int (i : Int), .int (j : Int), .int a] := by
            unfold moves
            rw [if_pos h]
            rfl
          have bound := flat_len (l := List.range i) (c := m * 3) (f := fun one => (List.range m).flatMap fun other => moves one other) fun one => by
            have := flat_len (l := List.range m) (c := 3) (f := fun other => moves one other) (moves_len one)
            rwa [List.length_range] at this
          have bound2 := flat_len (l := List.range j) (c := 3) (f := fun other => moves i other) (moves_len i)
          rw [List.length_range] at bound bound2
          have hi3 : i * (m * 3) ≤ 3 * (3 * 3) := Nat.mul_le_mul (by omega) (Nat.mul_le_mul hp (Nat.le_refl _))
          refine s_extK rfl (m3.g0 g4) (er_is (er_tup (e := PyData.int) (l := [1, 2, 3]) (f := fun _ => true) (g := fun a => PyData.tuple [.str "move", .int (i : Int), .int (j : Int), .int a]) (ev_tup (ea_cons (ev_c (.int _)) (ea_cons (ev_c (.int _)) (ea_one (ev_c (.int _))))) (lz 3 rfl)) (by decide) (fun _ => rfl) (fun _ _ _ _ _ _ => et_yes) (fun a _ _ v S5 _ pv => ev_tup (ea_cons (ev_c (.str _)) (ea_cons (ev_var rfl (.int _)) (ea_cons (ev_var rfl (.int _)) (ea_one (ev_var rfl pv))))) (lz 4 rfl))) hm.symm) g4.i ?_ fun S5 H5 g5 m5 => ?_
          · have := moves_len i j
            simp only [List.length_map, List.length_append, List.length_range] at bound bound2 ⊢
            omega
          · refine ⟨S5, _, _, _, (g3.trans g4).own g5 fun b e => .inr (e ▸ hl), ?_, rfl⟩
            rw [← List.map_append] at m5
            rw [e, ← List.append_assoc]
            exact m5
        · refine ⟨S3, _, _, _, g3.trans g4, ?_, rfl⟩
          have em : moves i j = [] := by unfold moves; rw [if_neg (by rw [h]; decide)]
          rw [e, em, List.append_nil]
          exact m3.g0 g4
      · rintro _ H3 ⟨S3, o2, o4, o5, g3, m3, rfl⟩
        refine ⟨S3, _, _, _, _, g3, ?_, rfl⟩
        rw [List.range_succ, List.flatMap_append, List.flatMap_singleton, ← List.append_assoc]
        exact m3
    · rintro _ H2 ⟨S2, o2, o3, o4, o5, g2, m2, rfl⟩
      obtain ⟨S3, g3, _, rl, _⟩ := m2.frz g2 hl
      exact ⟨_, rfl, q _ S3 H2 g3 rl.d⟩⟩
end
end Zb
set_option Elab.async false
set_option linter.all false
set_option maxRecDepth 100000
set_option maxHeartbeats 2000000
/-! Comprehensions of two loops. -/
namespace Zb
open PySem PySem.Spec PyProof.Rows L2
theorem lc_gen {J : It} {n : Nat} {G : Hp → Prop} {Y : Nat → Hp → V → Hp → Prop} (w : Walk J n G Y) {Bd : (Hp → Prop) → V → Hp → Prop} {H0 : Hp} {Qd : Hp → Prop} (Pv : Nat → Hp → Prop) (h0 : Pv 0 H0) (hG : ∀ i H, i ≤ n → Pv i H → G H)
    (hs : ∀ i x H H', i < n → Pv i H → Y i H x H' → Bd (Pv (i + 1)) x H') (hd : ∀ H, Pv n H → Qd H) :
    ∃ W : Nat → Nat → Hp → Prop, (∃ m, W 0 m H0) ∧ ∀ i m H, W i m H → (J.stop i H ∧ Qd H) ∨ (J.go i H ∧ ∃ Nx : Hp → Prop, (∀ H', Nx H' → ∃ m', m' < m ∧ W (i + 1) m' H') ∧ ∀ x H', J.yld i H x H' → Bd Nx x H') := by
  refine ⟨fun i m H => m = n - i ∧ i ≤ n ∧ Pv i H, ⟨n, rfl, Nat.zero_le _, h0⟩, ?_⟩
  rintro i m H ⟨rfl, hi, p⟩
  by_cases hlt : i < n
  · exact .inr ⟨w.goes i H hlt (hG i H hi p), Pv (i + 1), fun H' p' => ⟨n - (i + 1), by omega, rfl, hlt, p'⟩, fun x H' y => hs i x H H' hlt p (w.yields i H x H' hlt (hG i H hi p) y)⟩
  · have e : i = n := by omega
    subst e
    exact .inl ⟨w.stops H (hG i H hi p), hd H p⟩
section
variable {K : PySem.W.Frag} {σ σ2 : L2.St} {S S1 H1 H' : Hp} {te tl : TE} {D : Addr} {ds : List PyData}
theorem take_flat {α β : Type} {l : List α} {f : α → List β} {i : Nat} {a : α} (h : l[i]? = some a) : (l.take (i + 1)).flatMap f = (l.take i).flatMap f ++ f a := by
  rw [List.take_add_one, h]
  show ((l.take i) ++ [a]).flatMap f = _
  rw [List.flatMap_append, List.flatMap_singleton]
theorem en_lc2 {wi1 : TI} {l : List Str} {n : Nat} {j j1 : Nat} {vs vs1 : List Nat} {g : Str → Nat → PyData} (h : EvD K tl σ S (.tuple (l.map .str))) (hl : l.length ≤ 100) (hn : n ≤ 100)
    (hw : ∀ x, wipe ((wipe σ vs).set j (some x)) vs = wipe σ vs)
    (hi : ∀ a ∈ l, ∀ S1 H, Same S S1 → Same S1 H → ∀ R : It → Hp → Prop, (∀ S' H', G0 S1 H S' H' → R (Itr 0 n) H') → wi1 ((wipe σ vs).set j (some (.str a))) H R)
    (hw1 : ∀ (a : Str) x, wipe ((wipe ((wipe σ vs).set j (some (.str a))) vs1).set j1 (some x)) vs1 = wipe ((wipe σ vs).set j (some (.str a))) vs1)
    (he : ∀ a ∈ l, ∀ i, i < n → ∀ S1, Same S S1 → EvD K te ((wipe ((wipe σ vs).set j (some (.str a))) vs1).set j1 (some (.int (0 + (i : Int))))) S1 (g a i)) :
    EvN K (tLc2 (iTup K tl) (gName j) tYes wi1 (gName j1) tYes te vs vs1) σ S (l.flatMap fun a => (List.range n).map (g a)) := fun H i Q q => h H i _ fun v S1 H1 g1 p1 => by
  obtain ⟨a, xs, rfl, hs, ha⟩ := dp_tuple p1
  obtain rfl := strs_dpAll ha
  refine ⟨a, rfl, ⟨_, sqT_same g1.i hs⟩, fun D hD => lc_gen (walk_tup (K := K) (a := a) (xs := l.map V.str)) (Bd := fun Nx x H' => gName j x (wipe σ vs) H' fun σ2 H2 => wipe σ2 vs = wipe σ vs ∧ tYes σ2 H2 fun b H3 =>
    if b = true then wi1 σ2 H3 fun J1 H4 => ∃ W1 : Nat → Nat → Hp → Prop, (∃ m, W1 0 m H4) ∧ ∀ j k H, W1 j k H →
      (J1.stop j H ∧ Nx H) ∨ (J1.go j H ∧ ∃ Nx1 : Hp → Prop, (∀ H', Nx1 H' → ∃ k', k' < k ∧ W1 (j + 1) k' H') ∧ ∀ x H', J1.yld j H x H' → gName j1 x (wipe σ2 vs1) H' fun σ3 H5 => wipe σ3 vs1 = wipe σ2 vs1 ∧ tYes σ3 H5 fun b H6 =>
        if b = true then te σ3 H6 fun y H7 => ∃ acc, H7 D = some (.lst acc) ∧ acc.length < sizeLine ∧ Nx1 (upd H7 D (.lst (acc ++ [y]))) else Nx1 H6)
    else Nx H3) (fun m H' => Cv K S1 H1 D ((l.take m).flatMap fun a => (List.range n).map (g a)) H') (cv_start g1.i hD) ?_ ?_ ?_⟩
  · rintro m H' _ ⟨S', acc, gg, _⟩
    exact sqT_same (gg.s.trans gg.i) hs
  · rintro m x H' H2 hm c ⟨e0, hx⟩
    subst e0
    rw [List.getElem?_map] at hx
    cases e : l[m]? with
    | none => rw [e] at hx; cases hx
    | some w =>
      rw [e] at hx
      obtain rfl : V.str w = x := Option.some.inj hx
      have mw : w ∈ l := List.mem_of_getElem? e
      rw [List.length_map] at hm
      refine ⟨hw _, ?_⟩
      show wi1 _ H2 _
      obtain ⟨S', acc, gg, sD, hH, pa⟩ := c
      refine hi w mw S' H2 (g1.s.trans gg.s) gg.i _ fun S2 H4 g4 => ?_
      have c2 : Cv K S1 H1 D (((l.take m).flatMap fun a => (List.range n).map (g a)) ++ (List.range 0).map (g w)) H4 := by
        rw [List.range_zero, List.map_nil, List.append_nil]
        exact ⟨S2, acc, gg.trans g4, g4.out sD (by rw [hH]; exact Option.some_ne_none _), g4.same _ _ hH, dpAll_same g4.s pa⟩
      refine lc_gen (walk_range (lo := 0) (n := n)) (Bd := fun Nx1 x H' => gName j1 x (wipe ((wipe σ vs).set j (some (.str w))) vs1) H' fun σ3 H5 => wipe σ3 vs1 = wipe ((wipe σ vs).set j (some (.str w))) vs1 ∧ tYes σ3 H5 fun b H6 =>
        if b = true then te σ3 H6 fun y H7 => ∃ acc, H7 D = some (.lst acc) ∧ acc.length < sizeLine ∧ Nx1 (upd H7 D (.lst (acc ++ [y]))) else Nx1 H6) (fun k H' => Cv K S1 H1 D (((l.take m).flatMap fun a => (List.range n).map (g a)) ++ (List.range k).map (g w)) H') c2 (fun _ _ _ _ => trivial) ?_ ?_
      · rintro k x H5 H6 hk c3 ⟨e0, rfl⟩
        subst e0
        refine ⟨hw1 w _, ?_⟩
        have e2 : ((l.take m).flatMap fun a => (List.range n).map (g a)) ++ (List.range (k + 1)).map (g w) = (((l.take m).flatMap fun a => (List.range n).map (g a)) ++ (List.range k).map (g w)) ++ [g w k] := by
          rw [List.range_succ, List.map_append, List.map_singleton, ← List.append_assoc]
        rw [e2]
        have fl : ((l.take m).flatMap fun a => (List.range n).map (g a)).length ≤ 100 * 100 := by
          have : ∀ l : List Str, (l.flatMap fun a => (List.range n).map (g a)).length = l.length * n := by
            intro l
            induction l with
            | nil => simp
            | cons a r ih => rw [List.flatMap_cons, List.length_append, ih, List.length_map, List.length_range, List.length_cons, Nat.succ_mul, Nat.add_comm]
          rw [this]
          exact Nat.mul_le_mul (by rw [List.length_take]; omega) hn
        exact cv_turn (b := true) hD c3 (by rw [List.length_append, List.length_map, List.length_range]; omega) (fun S3 _ => et_yes) fun _ S3 h3 => he w mw k hk S3 (g1.s.trans h3)
      · intro H5 c3
        show Cv K S1 H1 D _ H5
        rw [take_flat e]
        exact c3
  · intro H' c
    rw [List.length_map, List.take_length] at c
    exact cv_end g1 hD c q
end
end Zb
set_option Elab.async false
set_option linter.all false
set_option maxRecDepth 100000
set_option maxHeartbeats 4000000
namespace Zb
open PySem PySem.Spec PyProof.Rows L2
section
variable {P : Program} {w : World} {K : PySem.W.Frag} {mg : Str → Option Value} {base : Heap}
theorem map_map_ (w : Str) (n : Nat) (u : Unit) : (call1 w n).map callD = (List.range n).map fun i : Nat => callD (w, [0 + (i : Int)]) := by rw [List.map_map]; rfl
theorem flat_congr {α β : Type} {l : List α} {f g : α → List β} (h : ∀ a, f a = g a) : l.flatMap f = l.flatMap g := by rw [funext h]
theorem calls_few {th : Th} (ok : ThOk th) : (callsP th).length < 100000 := by
  have c1 : ∀ w n, (call1 w n).length = n := fun w n => by rw [List.length_map, List.length_range]
  cases th with
  | ctr n => obtain ⟨a, b⟩ := ok; show (_ ++ _ : List Call).length < _; simp; omega
  | reg n => obtain ⟨a, b⟩ := ok; show (_ ++ _ : List Call).length < _; simp; omega
  | stk a b => obtain ⟨⟨_, _⟩, _, _⟩ := ok; show (_ ++ _ : List Call).length < _; simp; omega
  | que a b => obtain ⟨⟨_, _⟩, _, _⟩ := ok; show (_ ++ _ : List Call).length < _; simp; omega
  | set n => obtain ⟨a, b⟩ := ok; show (List.flatMap _ _).length < _; simp [List.flatMap_cons]; omega
  | agr n => obtain ⟨a, b⟩ := ok; show (call1 _ _).length < _; rw [c1]; omega
  | bnk l =>
    obtain ⟨⟨a, b⟩, _⟩ := ok
    show (bankP l.length).length < _
    unfold bankP
    have h2 := flat_len (l := List.range l.length) (c := l.length * 3) (f := fun one => (List.range l.length).flatMap fun other => moves one other) fun one => by
      have := flat_len (l := List.range l.length) (c := 3) (f := fun other => moves one other) (moves_len one)
      rwa [List.length_range] at this
    rw [List.length_range] at h2
    have : l.length * (l.length * 3) ≤ 3 * (3 * 3) := Nat.mul_le_mul b (Nat.mul_le_mul b (Nat.le_refl _))
    rw [List.length_append, c1]
    omega
  | tab rows =>
    obtain ⟨wd, w1, w2, hw⟩ := ok.wide
    show (call1 _ _).length < _
    rw [c1]
    cases rows with
    | nil => decide
    | cons r rs =>
      have := hw r (by simp)
      show r.length < _
      omega
theorem sc_calls_in : FnScope ["thing", "name", "k", "word"] ["thing"] (defScope Zh.s_calls_in) := ⟨rfl, rfl, rfl, by decide +kernel, rfl, by decide +kernel, by decide +kernel⟩
abbrev spCalls (K : PySem.W.Frag) : Sp := spF K (fun t : Th => [thD t]) ThOk fun t => .list ((callsP t).map callD)
theorem ok_calls_in (M : Mo K mg) (D : Df K mg "calls_in" Zh.s_calls_in) (f_bank_calls : Fn CX0 P w K mg base "bank_calls" 1 ["many"] (spF K (fun m : Nat => [iD m]) (fun m => m ≤ 3) fun m => .list ((bankP m).map callD))) : Fn CX0 P w K mg base "calls_in" 2 ["thing"] (spCalls K) :=
  fn_mk D.1 D.2 (fun _ _ _ _ _ _ us hl => match us, hl with | [_], _ => rfl) sc_calls_in (fun _ => rfl) fun cdv A outer s H E hr => ⟨_, (pss_cons (ps_set (i := 1) sc_calls_in.nd rfl (Or.inl rfl) (pe_ix (r := rIxT K) ix_tup (pv 0) pe_int (fun _ _ => rfl)))
    (pss_cons (ps_if (pt_cmpR op_eq (pv 1) pe_str (nomark _)) (pss_one (ps_ret (pe_op op_cat (pe_lc (own := [("k", 2)]) (g := gName 2) rfl sc_calls_in.nd (pi_range2 rfl M.range (pa_cons pe_int (pa_cons (pe_ix (r := rIxT K) ix_tup (pv 0) pe_int (fun _ _ => rfl)) pa_nil))) (blkOk_by (own := [("k", 2)]) (N := ["thing", "name", "k", "word"]) (sc := defScope Zh.s_calls_in) (by decide +kernel)) (fun _ _ _ _ _ => (pg_name (i := 2) sc_calls_in.nd rfl (Or.inl rfl))) (fun _ _ _ _ _ => pts_nil) (fun _ _ _ _ _ => (pe_tup (pa_cons pe_str (pa_cons (pv 2) pa_nil))))) (pe_lst (pa_cons (pe_tup (pa_cons pe_str pa_nil)) pa_nil))))) pss_nil)
    (pss_cons (ps_if (pt_cmpR op_eq (pv 1) pe_str (nomark _)) (pss_one (ps_ret (pe_op op_cat (pe_op op_cat (pe_lst (pa_cons (pe_tup (pa_cons pe_str pa_nil)) pa_nil)) (pe_lc (own := [("k", 2)]) (g := gName 2) rfl sc_calls_in.nd (pi_range1 rfl M.range (pa_cons (pe_ix (r := rIxT K) ix_tup (pv 0) pe_int (fun _ _ => rfl)) pa_nil)) (blkOk_by (own := [("k", 2)]) (N := ["thing", "name", "k", "word"]) (sc := defScope Zh.s_calls_in) (by decide +kernel)) (fun _ _ _ _ _ => (pg_name (i := 2) sc_calls_in.nd rfl (Or.inl rfl))) (fun _ _ _ _ _ => pts_nil) (fun _ _ _ _ _ => (pe_tup (pa_cons pe_str (pa_cons (pv 2) pa_nil)))))) (pe_lc (own := [("k", 2)]) (g := gName 2) rfl sc_calls_in.nd (pi_range1 rfl M.range (pa_cons (pe_ix (r := rIxT K) ix_tup (pv 0) pe_int (fun _ _ => rfl)) pa_nil)) (blkOk_by (own := [("k", 2)]) (N := ["thing", "name", "k", "word"]) (sc := defScope Zh.s_calls_in) (by decide +kernel)) (fun _ _ _ _ _ => (pg_name (i := 2) sc_calls_in.nd rfl (Or.inl rfl))) (fun _ _ _ _ _ => pts_nil) (fun _ _ _ _ _ => (pe_tup (pa_cons pe_str (pa_cons (pv 2) pa_nil)))))))) pss_nil)
    (pss_cons (ps_if (pt_cmpR op_eq (pv 1) pe_str (nomark _)) (pss_one (ps_ret (pe_op op_cat (pe_lc (own := [("k", 2)]) (g := gName 2) rfl sc_calls_in.nd (pi_range1 rfl M.range (pa_cons (pe_ix (r := rIxT K) ix_tup (pv 0) pe_int (fun _ _ => rfl)) pa_nil)) (blkOk_by (own := [("k", 2)]) (N := ["thing", "name", "k", "word"]) (sc := defScope Zh.s_calls_in) (by decide +kernel)) (fun _ _ _ _ _ => (pg_name (i := 2) sc_calls_in.nd rfl (Or.inl rfl))) (fun _ _ _ _ _ => pts_nil) (fun _ _ _ _ _ => (pe_tup (pa_cons pe_str (pa_cons (pv 2) pa_nil))))) (pe_lst (pa_cons (pe_tup (pa_cons pe_str pa_nil)) pa_nil))))) pss_nil)
    (pss_cons (ps_if (pt_cmpR op_eq (pv 1) pe_str (nomark _)) (pss_one (ps_ret (pe_op op_cat (pe_lc (own := [("k", 2)]) (g := gName 2) rfl sc_calls_in.nd (pi_range1 rfl M.range (pa_cons (pe_ix (r := rIxT K) ix_tup (pv 0) pe_int (fun _ _ => rfl)) pa_nil)) (blkOk_by (own := [("k", 2)]) (N := ["thing", "name", "k", "word"]) (sc := defScope Zh.s_calls_in) (by decide +kernel)) (fun _ _ _ _ _ => (pg_name (i := 2) sc_calls_in.nd rfl (Or.inl rfl))) (fun _ _ _ _ _ => pts_nil) (fun _ _ _ _ _ => (pe_tup (pa_cons pe_str (pa_cons (pv 2) pa_nil))))) (pe_lst (pa_cons (pe_tup (pa_cons pe_str pa_nil)) pa_nil))))) pss_nil)
    (pss_cons (ps_if (pt_cmpR op_eq (pv 1) pe_str (nomark _)) (pss_one (ps_ret (pe_lc2 (own := [("word", 3), ("k", 2)]) (vs1 := [2]) (g := gName 3) (g1 := gName 2) rfl sc_calls_in.nd (pi_tup (pe_tup (pa_cons pe_str (pa_cons pe_str (pa_cons pe_str pa_nil))))) (blkOk_by (own := [("word", 3), ("k", 2)]) (N := ["thing", "name", "k", "word"]) (sc := defScope Zh.s_calls_in) (by decide +kernel)) (by decide) (fun _ _ _ _ _ => (pg_name (i := 3) sc_calls_in.nd rfl (Or.inl rfl))) (fun _ _ _ _ _ => pts_nil) (fun _ _ _ _ _ => (pi_range1 rfl M.range (pa_cons (pe_ix (r := rIxT K) ix_tup (pv 0) pe_int (fun _ _ => rfl)) pa_nil))) (fun _ _ _ _ _ => (pg_name (i := 2) sc_calls_in.nd rfl (Or.inl rfl))) (fun _ _ _ _ _ => pts_nil) (fun _ _ _ _ _ => (pe_tup (pa_cons (pv 3) (pa_cons (pv 2) pa_nil)))) (fun _ => rfl) (fun _ _ => rfl)))) pss_nil)
    (pss_cons (ps_if (pt_cmpR op_eq (pv 1) pe_str (nomark _)) (pss_one (ps_ret (pe_lc (own := [("k", 2)]) (g := gName 2) rfl sc_calls_in.nd (pi_range1 rfl M.range (pa_cons (pe_ix (r := rIxT K) ix_tup (pv 0) pe_int (fun _ _ => rfl)) pa_nil)) (blkOk_by (own := [("k", 2)]) (N := ["thing", "name", "k", "word"]) (sc := defScope Zh.s_calls_in) (by decide +kernel)) (fun _ _ _ _ _ => (pg_name (i := 2) sc_calls_in.nd rfl (Or.inl rfl))) (fun _ _ _ _ _ => pts_nil) (fun _ _ _ _ _ => (pe_tup (pa_cons pe_str (pa_cons (pv 2) pa_nil))))))) pss_nil)
    (pss_cons (ps_if (pt_cmpR op_eq (pv 1) pe_str (nomark _)) (pss_one (ps_ret (pe_fn f_bank_calls (hr.mono (by decide)) rfl (pa_cons (pe_callB call_len (by rfl) M.len (by decide +kernel) (pa_cons (pe_ix (r := rIxT K) ix_tup (pv 0) pe_int (fun _ _ => rfl)) pa_nil)) pa_nil)))) pss_nil)
    (pss_one (ps_ret (pe_lc (own := [("k", 2)]) (g := gName 2) rfl sc_calls_in.nd (pi_range1 rfl M.range (pa_cons (pe_callB call_len (by rfl) M.len (by decide +kernel) (pa_cons (pe_ix (r := rIxT K) ix_tup (pe_ix (r := rIxT K) ix_tup (pv 0) pe_int (fun _ _ => rfl)) pe_int (fun _ _ => rfl)) pa_nil)) pa_nil)) (blkOk_by (own := [("k", 2)]) (N := ["thing", "name", "k", "word"]) (sc := defScope Zh.s_calls_in) (by decide +kernel)) (fun _ _ _ _ _ => (pg_name (i := 2) sc_calls_in.nd rfl (Or.inl rfl))) (fun _ _ _ _ _ => pts_nil) (fun _ _ _ _ _ => (pe_tup (pa_cons pe_str (pa_cons (pv 2) pa_nil))))))))))))))), fun th vs S ok p => by
    obtain ⟨v, r, rfl, pv, pr⟩ := dpAll_cons p
    obtain rfl := dpAll_nil pr
    have first_ : ∀ (nm : Str) (r : List PyData) (t : TS), thD th = .tuple (.str nm :: r) → (∀ v1 S1, Same S S1 → Dp K S1 v1 (.str nm) → Dp K S1 v (.tuple (.str nm :: r)) → Ret K t ((start ["thing", "name", "k", "word"] [v]).set 1 (some v1)) S1 (.list ((callsP th).map callD))) →
        Ret K (tSeq (tAsg (tOp (rIxT K) (tVar 0) (tC (.int 0))) (gName 1)) t) (start ["thing", "name", "k", "word"] [v]) S (.list ((callsP th).map callD)) := fun nm r t e k => by
      rw [e] at pv
      exact r_asg (ev_op (rv_ixT at_head) (ev_var rfl pv) (ev_c (.int _))) fun v1 S1 i1 p1 => k v1 S1 i1 p1 (dp_same i1 pv)
    match th, ok, first_ with
    | .ctr n, ok, first_ =>
      refine first_ "counter" _ _ (by rfl) fun v1 S1 i1 p1 pv1 => ?_
      obtain ⟨o1, o2⟩ := ok
      refine r_yes (et_val (ev_op rv_eqs (ev_var rfl p1) (ev_c (.str _)))) (by decide +kernel) (r_ret ?_)
      refine ev_is (en_cat (er_range (lo := (1 : Nat)) (n := n - 1) (f := fun _ => true) (g := fun i : Nat => callD ("add", [1 + (i : Int)])) (ir_2n (a := 1) (n := n) (ea_cons (ev_c (.int _)) (ea_one (ev_op (rv_ixT (i := 1) rfl) (ev_var rfl pv1) (ev_c (.int _))))) (by omega) (by omega)) (by omega) (fun _ => rfl) (fun _ _ _ _ => et_yes) (fun i _ _ S2 _ => ev_tup (ea_cons (ev_c (.str _)) (ea_one (ev_var rfl (.int _)))) (lz 2 rfl))) (en_lst (ds := [callD ("look", [])]) (ea_one (ev_tup (ea_one (ev_c (.str _))) (lz 1 rfl))) (lz 1 rfl)).r ?_).d ?_
      · rw [filt_true]
        simp only [List.length_map, List.length_range, List.length_cons, List.length_nil]
        exact Nat.le_trans (show _ ≤ 1000 by omega) (by decide)
      · rw [filt_true]
        show _ = PyData.list ((callsP (.ctr n)).map callD)
        unfold callsP
        rw [List.map_append, List.map_map]
        rfl
    | .reg n, ok, first_ =>
      refine first_ "register" _ _ (by rfl) fun v1 S1 i1 p1 pv1 => ?_
      obtain ⟨o1, o2⟩ := ok
      refine r_no (et_val (ev_op rv_eqs (ev_var rfl p1) (ev_c (.str _)))) (by decide +kernel) ?_
      refine r_yes (et_val (ev_op rv_eqs (ev_var rfl p1) (ev_c (.str _)))) (by decide +kernel) (r_ret ?_)
      exact ev_is (en_cat (en_cat (en_lst (ds := [callD ("look", [])]) (ea_one (ev_tup (ea_one (ev_c (.str _))) (lz 1 rfl))) (lz 1 rfl)).r (er_is (es := (call1 "put" n).map callD) (er_range (lo := 0) (n := n) (f := fun _ => true) (g := fun i : Nat => callD ("put", [0 + (i : Int)])) (ir_1 (K := K) (n := (n : Nat)) (ea_one (ev_op (rv_ixT (i := 1) rfl) (ev_var rfl pv1) (ev_c (.int _)))) (by omega) (by omega)) (by omega) (fun _ => rfl) (fun _ _ _ _ => et_yes) (fun i _ _ S2 _ => ev_tup (ea_cons (ev_c (.str _)) (ea_one (ev_var rfl (.int _)))) (lz 2 rfl))) (by rw [filt_true]; exact (map_map_ _ _ ()).symm)) (by simp only [List.length_map, List.length_append, List.length_range, List.length_cons, List.length_nil]; exact Nat.le_trans (show _ ≤ 1000 by omega) (by decide))).r (er_is (es := (call1 "trade" n).map callD) (er_range (lo := 0) (n := n) (f := fun _ => true) (g := fun i : Nat => callD ("trade", [0 + (i : Int)])) (ir_1 (K := K) (n := (n : Nat)) (ea_one (ev_op (rv_ixT (i := 1) rfl) (ev_var rfl pv1) (ev_c (.int _)))) (by omega) (by omega)) (by omega) (fun _ => rfl) (fun _ _ _ _ => et_yes) (fun i _ _ S2 _ => ev_tup (ea_cons (ev_c (.str _)) (ea_one (ev_var rfl (.int _)))) (lz 2 rfl))) (by rw [filt_true]; exact (map_map_ _ _ ()).symm)) (by simp only [List.length_map, List.length_append, List.length_range, List.length_cons, List.length_nil]; exact Nat.le_trans (show _ ≤ 1000 by omega) (by decide))).d (by show _ = PyData.list ((callsP (.reg n)).map callD); unfold callsP; rw [List.map_append, List.map_append]; rfl)
    | .stk a b, ok, first_ =>
      refine first_ "stack" _ _ (by rfl) fun v1 S1 i1 p1 pv1 => ?_
      obtain ⟨⟨o1, o2⟩, o3, o4⟩ := ok
      refine r_no (et_val (ev_op rv_eqs (ev_var rfl p1) (ev_c (.str _)))) (by decide +kernel) ?_
      refine r_no (et_val (ev_op rv_eqs (ev_var rfl p1) (ev_c (.str _)))) (by decide +kernel) ?_
      refine r_yes (et_val (ev_op rv_eqs (ev_var rfl p1) (ev_c (.str _)))) (by decide +kernel) (r_ret ?_)
      exact ev_is (en_cat (er_is (es := (call1 "push" b).map callD) (er_range (lo := 0) (n := b) (f := fun _ => true) (g := fun i : Nat => callD ("push", [0 + (i : Int)])) (ir_1 (K := K) (n := (b : Nat)) (ea_one (ev_op (rv_ixT (i := 2) rfl) (ev_var rfl pv1) (ev_c (.int _)))) (by omega) (by omega)) (by omega) (fun _ => rfl) (fun _ _ _ _ => et_yes) (fun i _ _ S2 _ => ev_tup (ea_cons (ev_c (.str _)) (ea_one (ev_var rfl (.int _)))) (lz 2 rfl))) (by rw [filt_true]; exact (map_map_ _ _ ()).symm)) (en_lst (ds := [callD ("pop", [])]) (ea_one (ev_tup (ea_one (ev_c (.str _))) (lz 1 rfl))) (lz 1 rfl)).r (by simp only [List.length_map, List.length_append, List.length_range, List.length_cons, List.length_nil]; exact Nat.le_trans (show _ ≤ 1000 by omega) (by decide))).d (by show _ = PyData.list ((callsP (.stk a b)).map callD); unfold callsP; rw [List.map_append]; rfl)
    | .que a b, ok, first_ =>
      refine first_ "queue" _ _ (by rfl) fun v1 S1 i1 p1 pv1 => ?_
      obtain ⟨⟨o1, o2⟩, o3, o4⟩ := ok
      refine r_no (et_val (ev_op rv_eqs (ev_var rfl p1) (ev_c (.str _)))) (by decide +kernel) ?_
      refine r_no (et_val (ev_op rv_eqs (ev_var rfl p1) (ev_c (.str _)))) (by decide +kernel) ?_
      refine r_no (et_val (ev_op rv_eqs (ev_var rfl p1) (ev_c (.str _)))) (by decide +kernel) ?_
      refine r_yes (et_val (ev_op rv_eqs (ev_var rfl p1) (ev_c (.str _)))) (by decide +kernel) (r_ret ?_)
      exact ev_is (en_cat (er_is (es := (call1 "enter" b).map callD) (er_range (lo := 0) (n := b) (f := fun _ => true) (g := fun i : Nat => callD ("enter", [0 + (i : Int)])) (ir_1 (K := K) (n := (b : Nat)) (ea_one (ev_op (rv_ixT (i := 2) rfl) (ev_var rfl pv1) (ev_c (.int _)))) (by omega) (by omega)) (by omega) (fun _ => rfl) (fun _ _ _ _ => et_yes) (fun i _ _ S2 _ => ev_tup (ea_cons (ev_c (.str _)) (ea_one (ev_var rfl (.int _)))) (lz 2 rfl))) (by rw [filt_true]; exact (map_map_ _ _ ()).symm)) (en_lst (ds := [callD ("leave", [])]) (ea_one (ev_tup (ea_one (ev_c (.str _))) (lz 1 rfl))) (lz 1 rfl)).r (by simp only [List.length_map, List.length_append, List.length_range, List.length_cons, List.length_nil]; exact Nat.le_trans (show _ ≤ 1000 by omega) (by decide))).d (by show _ = PyData.list ((callsP (.que a b)).map callD); unfold callsP; rw [List.map_append]; rfl)
    | .set n, ok, first_ =>
      refine first_ "set" _ _ (by rfl) fun v1 S1 i1 p1 pv1 => ?_
      obtain ⟨o1, o2⟩ := ok
      refine r_no (et_val (ev_op rv_eqs (ev_var rfl p1) (ev_c (.str _)))) (by decide +kernel) ?_
      refine r_no (et_val (ev_op rv_eqs (ev_var rfl p1) (ev_c (.str _)))) (by decide +kernel) ?_
      refine r_no (et_val (ev_op rv_eqs (ev_var rfl p1) (ev_c (.str _)))) (by decide +kernel) ?_
      refine r_no (et_val (ev_op rv_eqs (ev_var rfl p1) (ev_c (.str _)))) (by decide +kernel) ?_
      refine r_yes (et_val (ev_op rv_eqs (ev_var rfl p1) (ev_c (.str _)))) (by decide +kernel) (r_ret ?_)
      exact ev_is (en_lc2 (l := ["add", "drop", "has"]) (n := n) (g := fun w i => callD (w, [0 + (i : Int)])) (ev_tup (ea_cons (ev_c (.str _)) (ea_cons (ev_c (.str _)) (ea_one (ev_c (.str _))))) (lz 3 rfl)) (by decide) (by omega) (fun _ => rfl) (fun a _ S2 H2 i2 j2 => ir_1 (K := K) (n := (n : Nat)) (ea_one (ev_op (rv_ixT (i := 1) rfl) (ev_var rfl (dp_same i2 pv1)) (ev_c (.int _)))) (by omega) (by omega) H2 j2) (fun _ _ => rfl) (fun a _ i _ S2 _ => ev_tup (ea_cons (ev_var rfl (.str _)) (ea_one (ev_var rfl (.int _)))) (lz 2 rfl))).d (by show _ = PyData.list ((callsP (.set n)).map callD); unfold callsP; rw [List.map_flatMap]; congr 1; refine flat_congr fun w => ?_; rw [List.map_map]; rfl)
    | .agr n, ok, first_ =>
      refine first_ "agree" _ _ (by rfl) fun v1 S1 i1 p1 pv1 => ?_
      obtain ⟨o1, o2⟩ := ok
      refine r_no (et_val (ev_op rv_eqs (ev_var rfl p1) (ev_c (.str _)))) (by decide +kernel) ?_
      refine r_no (et_val (ev_op rv_eqs (ev_var rfl p1) (ev_c (.str _)))) (by decide +kernel) ?_
      refine r_no (et_val (ev_op rv_eqs (ev_var rfl p1) (ev_c (.str _)))) (by decide +kernel) ?_
      refine r_no (et_val (ev_op rv_eqs (ev_var rfl p1) (ev_c (.str _)))) (by decide +kernel) ?_
      refine r_no (et_val (ev_op rv_eqs (ev_var rfl p1) (ev_c (.str _)))) (by decide +kernel) ?_
      refine r_yes (et_val (ev_op rv_eqs (ev_var rfl p1) (ev_c (.str _)))) (by decide +kernel) (r_ret ?_)
      exact (er_is (es := (call1 "decide" n).map callD) (er_range (lo := 0) (n := n) (f := fun _ => true) (g := fun i : Nat => callD ("decide", [0 + (i : Int)])) (ir_1 (K := K) (n := (n : Nat)) (ea_one (ev_op (rv_ixT (i := 1) rfl) (ev_var rfl pv1) (ev_c (.int _)))) (by omega) (by omega)) (by omega) (fun _ => rfl) (fun _ _ _ _ => et_yes) (fun i _ _ S2 _ => ev_tup (ea_cons (ev_c (.str _)) (ea_one (ev_var rfl (.int _)))) (lz 2 rfl))) (by rw [filt_true]; exact (map_map_ _ _ ()).symm)).d
    | .bnk l, ok, first_ =>
      refine first_ "bank" _ _ (by rfl) fun v1 S1 i1 p1 pv1 => ?_
      obtain ⟨⟨o1, o2⟩, o3⟩ := ok
      refine r_no (et_val (ev_op rv_eqs (ev_var rfl p1) (ev_c (.str _)))) (by decide +kernel) ?_
      refine r_no (et_val (ev_op rv_eqs (ev_var rfl p1) (ev_c (.str _)))) (by decide +kernel) ?_
      refine r_no (et_val (ev_op rv_eqs (ev_var rfl p1) (ev_c (.str _)))) (by decide +kernel) ?_
      refine r_no (et_val (ev_op rv_eqs (ev_var rfl p1) (ev_c (.str _)))) (by decide +kernel) ?_
      refine r_no (et_val (ev_op rv_eqs (ev_var rfl p1) (ev_c (.str _)))) (by decide +kernel) ?_
      refine r_no (et_val (ev_op rv_eqs (ev_var rfl p1) (ev_c (.str _)))) (by decide +kernel) ?_
      refine r_yes (et_val (ev_op rv_eqs (ev_var rfl p1) (ev_c (.str _)))) (by decide +kernel) (r_ret ?_)
      exact ev_call l.length o2 (ea_one (ev_is (ev_cb rc_lenT (ea_one (ev_op (rv_ixT (i := 1) rfl) (ev_var rfl pv1) (ev_c (.int _))))) (by rw [List.length_map])))
    | .tab rows, ok, first_ =>
      refine first_ "table" _ _ (by rfl) fun v1 S1 i1 p1 pv1 => ?_
      refine r_no (et_val (ev_op rv_eqs (ev_var rfl p1) (ev_c (.str _)))) (by decide +kernel) ?_
      refine r_no (et_val (ev_op rv_eqs (ev_var rfl p1) (ev_c (.str _)))) (by decide +kernel) ?_
      refine r_no (et_val (ev_op rv_eqs (ev_var rfl p1) (ev_c (.str _)))) (by decide +kernel) ?_
      refine r_no (et_val (ev_op rv_eqs (ev_var rfl p1) (ev_c (.str _)))) (by decide +kernel) ?_
      refine r_no (et_val (ev_op rv_eqs (ev_var rfl p1) (ev_c (.str _)))) (by decide +kernel) ?_
      refine r_no (et_val (ev_op rv_eqs (ev_var rfl p1) (ev_c (.str _)))) (by decide +kernel) ?_
      refine r_no (et_val (ev_op rv_eqs (ev_var rfl p1) (ev_c (.str _)))) (by decide +kernel) ?_
      refine r_ret ?_
      have hl := ok.len
      obtain ⟨wd, w1, w2, hw⟩ := ok.wide
      obtain ⟨r0, h0⟩ : ∃ r0, rows[0]? = some r0 := by
        cases rows with
        | nil => exact absurd hl.1 (by decide)
        | cons a b => exact ⟨a, rfl⟩
      have m0 := hw r0 (List.mem_of_getElem? h0)
      have z0 : atI (rowsD rows) 0 = some (.tuple (r0.map pairD)) := atI_nat (j := 0) (by rw [List.getElem?_map, h0]; rfl)
      have e0 : callsP (.tab rows) = call1 "do" r0.length := by show call1 "do" ((rows[0]?.map (·.length)).getD 0) = _; rw [h0]; rfl
      rw [e0]
      exact (er_is (es := (call1 "do" r0.length).map callD) (er_range (lo := 0) (n := r0.length) (f := fun _ => true) (g := fun i : Nat => callD ("do", [0 + (i : Int)])) (ir_1 (K := K) (n := (r0.length : Nat)) (ea_one (ev_is (ev_cb rc_lenT (ea_one (ev_op (rv_ixT z0) (ev_op (rv_ixT (i := 1) rfl) (ev_var rfl pv1) (ev_c (.int _))) (ev_c (.int _))))) (by rw [List.length_map]))) (by omega) (by omega)) (by omega) (fun _ => rfl) (fun _ _ _ _ => et_yes) (fun i _ _ S2 _ => ev_tup (ea_cons (ev_c (.str _)) (ea_one (ev_var rfl (.int _)))) (lz 2 rfl))) (by rw [filt_true]; exact (map_map_ _ _ ()).symm)).d⟩
end
end Zb
set_option Elab.async false
set_option linter.all false
set_option maxRecDepth 100000
set_option maxHeartbeats 4000000
namespace Zb
open PySem PySem.Spec PyProof.Rows L2
/-! lines of a text -/
theorem lns_tl (text : Str) : (lns text).map TL.tl = TL.spl [10] 0 [] (TL.tl text) := by
  have h := TL.split_spl text ("\n" : Str) (by rw [nl_tl]; decide) (nl_kind text)
  rw [nl_tl] at h
  exact h
theorem lns_pos (text : Str) : 0 < (lns text).length := by
  have h := congrArg List.length (lns_tl text)
  rw [List.length_map] at h
  rw [h]
  exact spl_pos _ _ _ _
theorem lns_word {text w : Str} (h : w ∈ lns text) : w.length ≤ text.length := by
  have m : TL.tl w ∈ (lns text).map TL.tl := List.mem_map.mpr ⟨w, h, rfl⟩
  rw [lns_tl] at m
  have := spl_len _ _ _ _ _ m
  rw [len_sgn, len_sgn]
  rw [List.length_nil, Nat.zero_add] at this
  exact this
theorem lns_sh {text : Str} (h : shortL text) : ∀ x ∈ lns text, shortL x := fun x hx => Nat.lt_of_le_of_lt (lns_word hx) h
/-- what may be asked about -/
inductive VOk : PyData → Prop
  | str {text : Str} (h : shortL text) : VOk (.str text)
  | non : VOk .none
  | int (n : Int) : VOk (.int n)
  | lst (ds : List PyData) : VOk (.list ds)
abbrev wordsOf (th : Th) : List Str := (callsP th).map (·.1)
abbrev RdI := Th × PyData
abbrev postR (K : PySem.W.Frag) : RdI → Hp → Hp → V → Hp → Hp → Prop := fun i _ _ v S' _ => ∃ cells names, readV (wordsOf i.1) i.2 = .good cells names ∧ ∃ t vc p kvs, v = .ref t ∧ S' t = some (.tup [vc, .ref p]) ∧ Dp K S' vc (.tuple cells) ∧ S' p = some (.dK kvs) ∧ kvs.map (·.1) = names.map Sum.inr
abbrev errR (K : PySem.W.Frag) : RdI → Hp → Hp → Value → Option Addr → Hp → Prop := fun i S H c d H' => ∃ n, readV (wordsOf i.1) i.2 = .bad n ∧ BadErr K S H n c d H'
abbrev preR (i : RdI) : Prop := ThOk i.1 ∧ VOk i.2
abbrev argR (i : RdI) : List PyData := [thD i.1, i.2]
abbrev spRead (K : PySem.W.Frag) : Sp := spG K argR preR (postR K) (errR K)
section
variable {P : Program} {w : World} {K : PySem.W.Frag} {mg : Str → Option Value} {base : Heap}
theorem ev_lines {σ : L2.St} {S : Hp} {te ta : TE} {text : Str} (hz : shortL text) (h : EvD K te σ S (.str text)) (h2 : EvD K ta σ S (.str "\n")) :
    EvD K (tM1 (fun x xs H Q => ∃ a b, x = .str a ∧ xs = [.str b] ∧ (b.length == 0) = false ∧ a.length + 2 ≤ sizeLine ∧ rNewStrs (Txt.split a b) H Q) te ta) σ S (.list ((lns text).map .str)) :=
  ev_split h h2 (by decide +kernel) (by
    have h' : text.length < 90000 := hz
    exact Nat.le_trans (show text.length + 2 ≤ 100000 by omega) (by decide))
theorem cells_tup {line : Str} (h : isNone (cellsD line) = false) : cellsD line = .tuple (((ws line).drop 1).map cellV) := by
  unfold cellsD at h ⊢
  split at h
  · rename_i c1
    rw [if_pos c1]
    split at h
    · rename_i c2
      rw [if_pos c2]
    · cases h
  · cases h
theorem all_calls (th : Th) (names : List Str) : ((wordsOf th).all fun w => decide (w ∈ names)) = ((callsP th).filter fun c => !decide (c.1 ∈ names)).isEmpty := by
  rw [List.all_map]
  induction callsP th with
  | nil => rfl
  | cons a l ih =>
    rw [List.all_cons, List.filter_cons]
    show (decide (a.1 ∈ names) && _) = _
    cases decide (a.1 ∈ names) with
    | true => rw [Bool.true_and, Bool.not_true, if_neg Bool.false_ne_true]; exact ih
    | false => rfl
theorem sc_read_program : FnScope ["thing", "text", "lines", "cells", "methods", "call"] ["thing", "text"] (defScope Zh.s_read_program) := ⟨rfl, rfl, rfl, by decide +kernel, rfl, by decide +kernel, by decide +kernel⟩
theorem ok_read_program (M : Mo K mg) (B : Bd P K mg) (D : Df K mg "read_program" Zh.s_read_program) (f_need_object : Fn CX0 P w K mg base "need_object" 4 ["value"] (spNeed K)) (f_cells_of : Fn CX0 P w K mg base "cells_of" 3 ["line"] (spLine K cellsD)) (f_methods_of : Fn (L2.CX P w) P w K mg base "methods_of" 6 ["lines"] (spMeth K)) (f_calls_in : Fn CX0 P w K mg base "calls_in" 2 ["thing"] (spCalls K)) :
    Fn (L2.CX P w) P w K mg base "read_program" 7 ["thing", "text"] (spRead K) :=
  fn_mkE D.1 D.2 (fun _ _ _ _ _ _ us hl => match us, hl with | [_, _], _ => rfl) sc_read_program (fun _ => rfl) fun cdv A outer s H E hr => ⟨_, (pss_cons (ps_expr (pe_fn f_need_object (hr.mono (by decide)) rfl (pa_cons (pv 0) pa_nil)))
    (pss_cons (ps_if (pt_not (pt_val (pe_callB call_isi (by rfl) M.isinstance (by decide +kernel) (pa_cons (pv 1) (pa_cons (pe_bltn (v := .ty "str") (by rfl) M.str (by decide +kernel) rfl) pa_nil))))) (pss_one (ps_raiseBad rfl B.T B.gC B.sup hr (takes_of rfl rfl rfl rfl) (by exact (pa_cons pe_non pa_nil)))) pss_nil)
    (pss_cons (ps_set (i := 2) sc_read_program.nd rfl (Or.inl rfl) (pe_split (pv 1) pe_str))
    (pss_cons (ps_if (pt_cmpR op_gt (pe_callB call_len (by rfl) M.len (by decide +kernel) (pa_cons (pv 2) pa_nil)) (pe_gint rfl M.MOST_LINES) (nomark _)) (pss_one (ps_raiseBad rfl B.T B.gC B.sup hr (takes_of rfl rfl rfl rfl) (by exact (pa_cons (pe_gint rfl M.MOST_LINES) pa_nil)))) pss_nil)
    (pss_cons (ps_set (i := 3) sc_read_program.nd rfl (Or.inl rfl) (pe_fn f_cells_of (hr.mono (by decide)) rfl (pa_cons (pe_ix (r := rIxL K) ix_list (pv 2) pe_int (fun _ _ => rfl)) pa_nil)))
    (pss_cons (ps_if (pt_cmpR op_isN (pv 3) pe_non (nomark _)) (pss_one (ps_raiseBad rfl B.T B.gC B.sup hr (takes_of rfl rfl rfl rfl) (by exact (pa_cons pe_int pa_nil)))) pss_nil)
    (pss_cons (ps_set (i := 4) sc_read_program.nd rfl (Or.inr rfl) (pe_fnS f_methods_of (hr.mono (by decide)) rfl (fun σ => passAt (takes_of rfl rfl rfl rfl) σ) (pa_cons (pv 2) pa_nil)))
    (pss_cons (ps_if (pt_cmpR (op_neNil hr.units0) (pe_lc (own := [("call", 5)]) (g := gName 5) rfl sc_read_program.nd (pi_list (pe_fn f_calls_in (hr.mono (by decide)) rfl (pa_cons (pv 0) pa_nil))) (blkOk_by (own := [("call", 5)]) (N := ["thing", "text", "lines", "cells", "methods", "call"]) (sc := defScope Zh.s_read_program) (by decide +kernel)) (fun _ _ _ _ _ => (pg_name (i := 5) sc_read_program.nd rfl (Or.inl rfl))) (fun _ _ _ _ _ => pts_one (pt_cmp (pc_dnotin (hu_of hr) (pe_ix (r := rIxT K) ix_tup (pv 5) pe_int (fun _ _ => rfl)) (pv 4)) (by rfl))) (fun _ _ _ _ _ => (pv 5))) (pe_lst pa_nil) (nomark _)) (pss_one (ps_raiseBad rfl B.T B.gC B.sup hr (takes_of rfl rfl rfl rfl) (by exact (pa_cons pe_non pa_nil)))) pss_nil)
    (pss_one (ps_ret (pe_tup (pa_cons (pv 3) (pa_cons (pv 4) pa_nil))))))))))))), fun i vs S0 H0 i0 pre p D q qe => by
    obtain ⟨th, d⟩ := i
    obtain ⟨ok, vo⟩ := pre
    dsimp only at ok vo
    obtain ⟨v, r, rfl, pv, pr⟩ := dpAll_cons p
    obtain ⟨u, r2, rfl, pu, pr2⟩ := dpAll_cons pr
    obtain rfl := dpAll_nil pr2
    refine ev_call th ok (ea_one (ev_var rfl pv)) H0 i0 _ fun _ S1 H1 g1 _ => ?_
    have pv1 := dp_same g1.s pv
    have pu1 := dp_same g1.s pu
    have no : ∀ tz, kitB (tyD d) "str" = some false → readV (wordsOf th) d = .bad none → tSeq (tIfS (tNot (tB (tCB (rIsi K) (tCons (tVar 1) (tCons (tC (.ty "str")) tNil))))) (tRaiseBad (bpC K) (fun cls d _ H => E cls d H) (tCons (tC .non) tNil)) tNext) tz D (start ["thing", "text", "lines", "cells", "methods", "call"] [v, u]) H1 := fun tz e1 e2 =>
      q_if (b := !false) (Sees.refl g1.i) (et_not (et_B (ev_isi (b := false) (ev_var rfl pu1) e1))) (fun _ H2 g2 => q_raise (n := none) (Sees.refl g2.i) (ev_c .non) fun c d H3 e => qe c d H3 ⟨none, e2, e.from (g1.trans g2)⟩) fun h => by cases h
    cases vo with
    | non => exact no _ (by rfl) rfl
    | int n => exact no _ (by rfl) rfl
    | lst ds => exact no _ (by rfl) rfl
    | @str text hz =>
      clear no
      have hp := lns_pos text
      have hsh := lns_sh hz
      refine q_no (b := !true) (Sees.refl g1.i) (et_not (et_B (ev_isi (b := true) (ev_var rfl pu1) (by rfl)))) rfl fun H2 g2 => ?_
      refine q_asg (K := K) (ev_lines hz (ev_var rfl pu1) (ev_c (.str _))) g2.i fun v2 S3 H3 g3 p2 => ?_
      have g4 := (g1.trans g2).trans g3
      refine q_if (b := decide (60 < (lns text).length)) (Sees.refl g4.i) (et_is (et_val (ev_op rv_gt (ev_lenW (ev_var rfl p2)) (ev_c (.int 60)))) (decide_eq_decide.mpr (by omega))) (fun h H5 g5 => ?_) fun h H5 g5 => ?_
      · refine q_raise (n := some 60) (Sees.refl g5.i) (ev_c (.int 60)) fun c d H6 e => qe c d H6 ⟨some 60, ?_, e.from (g4.trans g5)⟩
        show readR _ _ = _
        unfold readR
        rw [if_pos (of_decide_eq_true h)]
      have h60 : ¬ 60 < (lns text).length := of_decide_eq_false h
      have g6 := g4.trans g5
      have hl0 : shortL (at' (lns text) 0) := hsh _ (at_mem hp)
      refine q_asg (K := K) (ev_call (arg := fun l : Str => [.str l]) (res := cellsD) (at' (lns text) 0) hl0 (ea_one (ev_op (rv_ixL (at_line (n := 0) hp)) (ev_var rfl p2) (ev_c (.int _))))) g6.i fun v3 S7 H7 g7 p3 => ?_
      have g8 := g6.trans g7
      refine q_if (b := isNone (cellsD (at' (lns text) 0))) (Sees.refl g8.i) (et_val (ev_op rv_isNone (ev_var rfl p3) (ev_c .non))) (fun h2 H9 g9 => ?_) fun h2 H9 g9 => ?_
      · refine q_raise (n := some 0) (Sees.refl g9.i) (ev_c (.int 0)) fun c d H6 e => qe c d H6 ⟨some 0, ?_, e.from (g8.trans g9)⟩
        show readR _ _ = _
        unfold readR
        rw [if_neg h60, if_pos h2]
      have g10 := g8.trans g9
      rw [cells_tup h2] at p3
      have p2' := dp_same g7.s p2
      refine ⟨v2, rfl, lns text, S7, g10.i, .cons p2' .nil, ⟨hp, by omega, hsh⟩, fun v4 S11 H11 g11 post => ?_, fun c d H' e => ?_⟩
      · obtain ⟨mb, pd, kvs, rfl, hpd, hk⟩ := post
        have g12 := g10.trans g11
        have pv12 := dp_same g12.s pv
        show tSeq _ _ D [some v, some u, some v2, some v3, some (.ref pd), none] H11
        refine q_if (b := !((callsP th).filter fun c => !decide (c.1 ∈ nms (segsOf (lns text)))).isEmpty) (Sees.refl g12.i) (et_is (et_val (ev_op rv_nenil (ec_list (σ := [some v, some u, some v2, some v3, some (.ref pd), none]) (j := 5) (vs := [5]) (e := callD) (l := callsP th) (f := fun c => !decide (c.1 ∈ nms (segsOf (lns text)))) (g := callD) (ev_call (arg := fun t : Th => [thD t]) (res := fun t => .list ((callsP t).map callD)) th ok (ea_one (ev_var rfl pv12))) (calls_few ok) (fun _ => rfl)
          (fun a _ x S13 i13 px => et_is (et_B (ev_dnin (j := 4) (ev_op (rv_ixT at_head) (ev_var (i := 5) rfl px) (ev_c (.int 0))) rfl (.inl (i13 _ _ hpd)))) (by rw [valV_names hk])) (fun a _ _ x S13 _ px => ev_var (i := 5) rfl px)) (ev_lst ea_nil (lz 0 rfl)))) (by rw [List.isEmpty_map])) (fun h3 H13 g13 => ?_) fun h3 H13 g13 => ?_
        · refine q_raise (n := none) (Sees.refl g13.i) (ev_c .non) fun c d H6 e => qe c d H6 ⟨none, ?_, e.from (g12.trans g13)⟩
          show readR _ _ = _
          unfold readR
          rw [if_neg h60, if_neg (by rw [h2]; decide), mb]
          dsimp only
          rw [if_neg (by rw [all_calls]; rw [Bool.not_eq_true'] at h3; rw [h3]; decide)]
        · have g14 := g12.trans g13
          refine ⟨v3, rfl, _, rfl, lz 2 rfl, fun t ht => ?_⟩
          refine q (.ref t) _ _ (g14.trans (Go.new g14.i ht)) ⟨_, _, ?_, t, v3, pd, kvs, rfl, upd_same, dp_same (Go.new (o := .tup [v3, .ref pd]) g14.i ht).s (dp_same g11.s p3), (Go.new (o := .tup [v3, .ref pd]) g14.i ht).s _ _ hpd, hk⟩
          show readR _ _ = _
          unfold readR
          rw [if_neg h60, if_neg (by rw [h2]; decide), mb]
          dsimp only
          rw [if_pos (by rw [all_calls]; rw [Bool.not_eq_false'] at h3; exact h3)]
      · obtain ⟨n, mb, eb⟩ := e
        refine qe c d H' ⟨some n, ?_, eb.from g10⟩
        show readR _ _ = _
        unfold readR
        rw [if_neg h60, if_neg (by rw [h2]; decide), mb]⟩
end
end Zb
set_option Elab.async false
set_option linter.all false
set_option maxRecDepth 100000
set_option maxHeartbeats 4000000
namespace Zb
open PySem PySem.Spec PyProof.Rows L2
/-! sorted texts: one order -/
theorem rising_pair : ∀ (p : Str) (l : List Str), risingS p l = true → (p :: l).Pairwise fun a b => sgn a ≤ sgn b
  | p, [], _ => List.pairwise_singleton _ _
  | p, x :: r, h => by
    have h' : (!ltCps x.cps.toList p.cps.toList && risingS x r) = true := h
    rw [Bool.and_eq_true, Bool.not_eq_true', ltCps_eq] at h'
    have le : sgn p ≤ sgn x := List.not_lt.mp (of_decide_eq_false h'.1)
    have ih := rising_pair x r h'.2
    refine List.pairwise_cons.mpr ⟨fun y hy => ?_, ih⟩
    rcases List.mem_cons.mp hy with rfl | hy
    · exact le
    · exact List.le_trans le ((List.pairwise_cons.mp ih).1 y hy)
theorem sorted_pair {l : List Str} (h : sortedS l = true) : l.Pairwise fun a b => sgn a ≤ sgn b := by
  cases l with
  | nil => exact .nil
  | cons p r => exact rising_pair p r h
theorem sorted_one {a b : List Str} (p : a.Perm b) (ha : sortedS a = true) (hb : sortedS b = true) : a = b :=
  List.Perm.eq_of_pairwise (fun x y _ _ h1 h2 => sgn_inj (List.le_antisymm h1 h2)) (sorted_pair ha) (sorted_pair hb) p
theorem scan_len {lines : List Str} : ∀ {i : Nat} {segs : List Seg}, scanS lines i = some segs → segs.length ≤ i
  | 0, segs, h => by
    obtain rfl : [] = segs := Option.some.inj h
    exact Nat.le_refl _
  | i + 1, segs, h => by
    obtain ⟨s0, e⟩ := scan_down h (Nat.le_succ i)
    have ih := scan_len e
    rw [scan_more e] at h
    unfold stepS at h
    split at h
    · split at h
      · cases h
      · obtain rfl := Option.some.inj h
        rw [List.length_append, List.length_singleton]
        omega
    · split at h
      · cases h
      · obtain rfl := Option.some.inj h
        unfold addRow
        split
        · exact Nat.zero_le _
        · rename_i s hs
          rw [List.length_append, List.length_singleton, List.length_dropLast]
          omega
theorem names_few {words : List Str} {d : PyData} {cells : List PyData} {names : List Str} (h : readV words d = .good cells names) : names.length ≤ 60 := by
  cases d with
  | str text =>
    have h' : readR words text = .good cells names := h
    unfold readR at h'
    split at h'
    · cases h'
    · rename_i h60
      split at h'
      · cases h'
      · split at h'
        · cases h'
        · split at h'
          · obtain ⟨_, rfl⟩ := Res.good.inj h'
            rw [List.length_map]
            unfold segsOf
            cases e : scanS (lns text) ((lns text).length - 1) with
            | none => simp
            | some s =>
              have := scan_len e
              show s.length ≤ 60
              omega
          · cases h'
  | _ => cases h
def isGood : Res → Bool
  | .bad _ => false
  | .good _ _ => true
section
variable {P : Program} {w : World} {K : PySem.W.Frag} {mg : Str → Option Value} {base : Heap}
theorem sc_is_program : FnScope ["thing", "value"] ["thing", "value"] (defScope Zh.s_is_program) := ⟨rfl, rfl, rfl, by decide +kernel, rfl, by decide +kernel, by decide +kernel⟩
theorem ok_is_program (M : Mo K mg) (B : Bd P K mg) (D : Df K mg "is_program" Zh.s_is_program) (f_need_object : Fn CX0 P w K mg base "need_object" 4 ["value"] (spNeed K)) (f_read_program : Fn (L2.CX P w) P w K mg base "read_program" 7 ["thing", "text"] (spRead K)) :
    Fn CX0 P w K mg base "is_program" 8 ["thing", "value"] (spF K argR preR fun i => .bool (isGood (readV (wordsOf i.1) i.2))) :=
  fn_mk D.1 D.2 (fun _ _ _ _ _ _ us hl => match us, hl with | [_, _], _ => rfl) sc_is_program (fun _ => rfl) fun cdv A outer s H E hr => ⟨_, (pss_cons (ps_expr (pe_fn f_need_object (hr.mono (by decide)) rfl (pa_cons (pv 0) pa_nil)))
    (pss_cons (ps_try_only (tb := fun W => tDrop (tCallS (spRead K) (WE W) (tCons (tVar 0) (tCons (tVar 1) tNil)))) (ts := fun _ _ _ => tRet (tC (.bl false))) (Wout := fun _ _ _ _ => False) rfl rfl ⟨rfl, by decide, Or.inl B.gC⟩ takes0 (fun W pn xe tk _ => pss_one (ps_expr (by exact (pe_fnS f_read_program (hr.mono (by decide)) rfl (fun σ => passAt tk σ) (pa_cons (pv 0) (pa_cons (pv 1) pa_nil)))))) (fun a oe cls d pn hz hf => pss_one (ps_ret pe_bl)))
    (pss_one (ps_ret pe_bl)))), fun i vs S pre p => by
    obtain ⟨th, d⟩ := i
    obtain ⟨v, r, rfl, pv, pr⟩ := dpAll_cons p
    obtain ⟨u, r2, rfl, pu, pr2⟩ := dpAll_cons pr
    obtain rfl := dpAll_nil pr2
    intro H0 i0 D q
    refine ev_call th pre.1 (ea_one (ev_var rfl pv)) H0 i0 _ fun _ S1 H1 g1 _ => ?_
    refine ⟨v, rfl, u, rfl, (th, d), S1, g1.i, .cons (dp_same g1.s pv) (.cons (dp_same g1.s pu) .nil), pre, fun v2 S2 H2 g2 post => ?_, fun c dd H' e => ?_⟩
    · obtain ⟨cells, names, e, _⟩ := post
      refine q (.bl true) S2 H2 (g1.trans g2) ?_
      dsimp only at e ⊢
      rw [e]
      exact .bl _
    · obtain ⟨n, e, rfl, g3, _⟩ := e
      refine ⟨true, B.te, fun _ a _ => ?_, fun h => by cases h⟩
      refine q (.bl false) S1 H' (g1.trans g3) ?_
      dsimp only at e ⊢
      rw [e]
      exact .bl _⟩
abbrev spCount (K : PySem.W.Frag) : Sp := spG K argR preR (fun i _ _ v _ _ => ∃ cells names, readV (wordsOf i.1) i.2 = .good cells names ∧ v = .int (cells.length : Nat)) (errR K)
theorem sc_cell_count : FnScope ["thing", "text"] ["thing", "text"] (defScope Zh.s_cell_count) := ⟨rfl, rfl, rfl, by decide +kernel, rfl, by decide +kernel, by decide +kernel⟩
theorem ok_cell_count (M : Mo K mg) (D : Df K mg "cell_count" Zh.s_cell_count) (f_read_program : Fn (L2.CX P w) P w K mg base "read_program" 7 ["thing", "text"] (spRead K)) : Fn (L2.CX P w) P w K mg base "cell_count" 8 ["thing", "text"] (spCount K) :=
  fn_mkE D.1 D.2 (fun _ _ _ _ _ _ us hl => match us, hl with | [_, _], _ => rfl) sc_cell_count (fun _ => rfl) fun cdv A outer s H E hr => ⟨_, (pss_one (ps_ret (pe_callB call_len (by rfl) M.len (by decide +kernel) (pa_cons (pe_ix (r := rIxT K) ix_tup (pe_fnS f_read_program (hr.mono (by decide)) rfl (fun σ => passAt (takes_of rfl rfl rfl rfl) σ) (pa_cons (pv 0) (pa_cons (pv 1) pa_nil))) pe_int (fun _ _ => rfl)) pa_nil)))), fun i vs S0 H0 i0 pre p D q qe => by
    obtain ⟨th, d⟩ := i
    obtain ⟨v, r, rfl, pv, pr⟩ := dpAll_cons p
    obtain ⟨u, r2, rfl, pu, pr2⟩ := dpAll_cons pr
    obtain rfl := dpAll_nil pr2
    refine ⟨v, rfl, u, rfl, (th, d), S0, i0, .cons pv (.cons pu .nil), pre, fun v2 S2 H2 g2 post => ?_, fun c dd H' e => qe c dd H' e⟩
    obtain ⟨cells, names, e, t, vc, pd, kvs, rfl, ht, pc, hp, hk⟩ := post
    refine ⟨t, [vc, .ref pd], 0, vc, rfl, rfl, SqT.of (g2.i _ _ ht), atI_nat (j := 0) rfl, ?_⟩
    refine rc_lenT S2 (Same.refl _) [vc] (.cons pc .nil) H2 g2.i _ fun v3 S3 H3 g3 p3 => ?_
    obtain rfl := dp_int p3
    exact q _ S3 H3 (g2.trans g3) ⟨cells, names, e, rfl⟩⟩
abbrev spNames (K : PySem.W.Frag) : Sp := spG K argR preR (fun i _ _ v S' _ => ∃ cells names ys, readV (wordsOf i.1) i.2 = .good cells names ∧ ys.Perm names ∧ sortedS ys = true ∧ Dp K S' v (.tuple (ys.map .str))) (errR K)
theorem sc_method_names : FnScope ["thing", "text"] ["thing", "text"] (defScope Zh.s_method_names) := ⟨rfl, rfl, rfl, by decide +kernel, rfl, by decide +kernel, by decide +kernel⟩
theorem ok_method_names (M : Mo K mg) (D : Df K mg "method_names" Zh.s_method_names) (f_read_program : Fn (L2.CX P w) P w K mg base "read_program" 7 ["thing", "text"] (spRead K)) : Fn (L2.CX P w) P w K mg base "method_names" 8 ["thing", "text"] (spNames K) :=
  fn_mkE D.1 D.2 (fun _ _ _ _ _ _ us hl => match us, hl with | [_, _], _ => rfl) sc_method_names (fun _ => rfl) fun cdv A outer s H E hr => ⟨_, (pss_one (ps_ret (pe_callTy call_tuple_of (by rfl) M.tuple (by decide +kernel) (pa_cons (pe_callB (call_sortedD rfl) (by rfl) M.sorted (by decide +kernel) (pa_cons (pe_ix (r := rIxT K) ix_tup (pe_fnS f_read_program (hr.mono (by decide)) rfl (fun σ => passAt (takes_of rfl rfl rfl rfl) σ) (pa_cons (pv 0) (pa_cons (pv 1) pa_nil))) pe_int (fun _ _ => rfl)) pa_nil)) pa_nil)))), fun i vs S0 H0 i0 pre p D q qe => by
    obtain ⟨th, d⟩ := i
    obtain ⟨v, r, rfl, pv, pr⟩ := dpAll_cons p
    obtain ⟨u, r2, rfl, pu, pr2⟩ := dpAll_cons pr
    obtain rfl := dpAll_nil pr2
    refine ⟨v, rfl, u, rfl, (th, d), S0, i0, .cons pv (.cons pu .nil), pre, fun v2 S2 H2 g2 post => ?_, fun c dd H' e => qe c dd H' e⟩
    obtain ⟨cells, names, e, t, vc, pd, kvs, rfl, ht, pc, hp, hk⟩ := post
    have few := names_few e
    refine ⟨t, [vc, .ref pd], 1, .ref pd, rfl, rfl, SqT.of (g2.i _ _ ht), atI_nat (j := 1) rfl, ?_⟩
    refine ⟨pd, kvs, names, rfl, .inl (g2.i _ _ hp), hk, by omega, fun ys p hys hs hpn => ?_⟩
    refine ⟨p, ys.map V.str, rfl, .inl ⟨SqL.of upd_same, fun l hl => ?_⟩⟩
    have g3 := g2.trans (Go.newM (o := .lst (ys.map V.str)) g2.i hpn)
    exact q (.ref l) _ _ (g3.trans (Go.new g3.i hl)) ⟨cells, names, ys, e, hys, hs, .tup (SqT.of upd_same) (dpAll_strs ys)⟩⟩
end
end Zb
set_option Elab.async false
set_option linter.all false
set_option maxRecDepth 100000
set_option maxHeartbeats 2000000
/-! sorted of a list of calls: a list of the same calls. -/
namespace Zb
open PySem PySem.Spec PyProof.Rows L2
open PySem.W (EachIs)
def rSortT (K : PySem.W.Frag) : List V → Hp → VK → Prop := fun vs H Q => ∃ (a : Addr) (xs : List V) (cs : List Call), vs = [.ref a] ∧ SqL K H a xs ∧ DpAll K H xs (cs.map callD) ∧ cs.length ≤ 100000 ∧
  ∀ (bs : List (V × Call)) (p : Addr), bs.Perm (xs.zip cs) → H p = none → Q (.ref p) (upd H p (.lst (bs.map (·.1))))
section
variable {K : PySem.W.Frag} {H : Hp}
abbrev cR (K : PySem.W.Frag) (H : Hp) : Value → V × Call → Prop := fun u b => RelV b.1 u ∧ Dp K H b.1 (callD b.2)
theorem each_calls : ∀ {xs : List V} {us : List Value} {cs : List Call}, DpAll K H xs (cs.map callD) → Vals xs us → EachIs (cR K H) us (xs.zip cs)
  | [], _, [], _, r => by cases r; exact .nil
  | [], _, _ :: _, h, _ => by cases h
  | _ :: _, _, [], h, _ => by cases h
  | x :: xs, _, c :: cs, h, r => by
    cases h with
    | cons h1 h2 =>
      cases r with
      | cons r1 r2 => exact .cons ⟨r1, h1⟩ (each_calls h2 r2)
theorem each_out : ∀ {out : List Value} {bs : List (V × Call)}, EachIs (cR K H) out bs → Vals (bs.map (·.1)) out ∧ DpAll K H (bs.map (·.1)) ((bs.map (·.2)).map callD)
  | [], _, h => by cases h; exact ⟨.nil, .nil⟩
  | _ :: _, _, h => by
    cases h with
    | cons h1 h2 =>
      obtain ⟨a, b⟩ := each_out h2
      exact ⟨.cons h1.1 a, .cons h1.2 b⟩
theorem alike_calls (b b' : V × Call) : PySem.W.alike (callD b.2) (callD b'.2) = true := by
  show PySem.W.alike (.tuple (.str b.2.1 :: b.2.2.map .int)) (.tuple (.str b'.2.1 :: b'.2.2.map .int)) = true
  simp only [PySem.W.alike, PySem.W.alikeAll, PySem.W.alike_ints, Bool.and_self]
theorem depth_call (b : V × Call) : (callD b.2).depth ≤ 1 := by
  show (PyData.tuple (.str b.2.1 :: b.2.2.map .int)).depth ≤ 1
  simp only [PyData.depth, PyData.depthAll, PySem.W.depth_ints]
  decide
end
theorem zip_len {α β : Type} {xs : List α} {ys : List β} (h : xs.length = ys.length) : (xs.zip ys).map (·.2) = ys := by
  rw [List.map_snd_zip]
  omega
theorem dp_zip {K : PySem.W.Frag} {S : Hp} : ∀ {xs : List V} {cs : List Call}, DpAll K S xs (cs.map callD) → ∀ b ∈ xs.zip cs, Dp K S b.1 (callD b.2)
  | [], _, _, b, hb => by cases hb
  | _ :: _, [], _, b, hb => by cases hb
  | x :: xs, c :: cs, h, b, hb => by
    cases h with
    | cons h1 h2 =>
      rcases List.mem_cons.mp hb with rfl | hb
      · exact h1
      · exact dp_zip h2 b hb
theorem zip_dp {K : PySem.W.Frag} {S : Hp} : ∀ {bs : List (V × Call)}, (∀ b ∈ bs, Dp K S b.1 (callD b.2)) → DpAll K S (bs.map (·.1)) ((bs.map (·.2)).map callD)
  | [], _ => .nil
  | b :: bs, h => .cons (h b (by simp)) (zip_dp fun c hc => h c (by simp [hc]))
theorem cr_sortT {X : Cx} (hu : X.A.units + 65 < cLine) : CallR X (.builtin "sorted") (rSortT X.K) := by
  intro pins s σ H vs us Q I r h
  obtain ⟨a, xs, cs, rfl, hs, ha, hl, q⟩ := h
  obtain ⟨its, rv, pl, hz⟩ := I.list hs
  rw [Vals.ref1 r]
  have e1 := each_calls ha rv
  have hx := dpAll_len ha
  rw [List.length_map] at hx
  have zl : (xs.zip cs).length = cs.length := by rw [List.length_zip]; omega
  refine PySem.W.sorted_data (bs := xs.zip cs) (enc := fun b => callD b.2) (R := cR X.K H) pl.isList e1 (e1.mono fun u b hb => Dp.reads I _ _ _ hb.2 hb.1) (PySem.W.AllAlike.of alike_calls) (PySem.W.Sortable.tuples fun b => ⟨_, _, rfl⟩) (by rw [zl]; exact Nat.le_trans hl (by decide)) (fun b _ => ?_) fun out ho eo => ?_
  · have := depth_call b
    omega
  · obtain ⟨ep, he'⟩ := PyProof.Rows.sortedAll_at s.heap its out.toArray
    obtain ⟨o1, o2⟩ := each_out eo
    have pm : ((xs.zip cs).mergeSort (PySem.W.dataLe false fun b => callD b.2)).Perm (xs.zip cs) := List.mergeSort_perm _ _
    have hlen : (((xs.zip cs).mergeSort (PySem.W.dataLe false fun b => callD b.2)).map (·.1)).length ≤ sizeLine := by
      rw [List.length_map, pm.length_eq, zl]
      exact Nat.le_trans hl (by decide)
    exact ⟨.ref _, upd H (s.heap.objs.size + 1) (.lst (((xs.zip cs).mergeSort (PySem.W.dataLe false fun b => callD b.2)).map (·.1))), I.laid (t' := s.toks) (fun _ _ => PyProof.Rows.sortedAll_old) (Nat.le_succ _) ⟨hlen, out, ep, o1, he'⟩, rfl, q _ _ pm (I.hok.fresh (Nat.le_succ _))⟩
end Zb
set_option Elab.async false
set_option linter.all false
set_option maxRecDepth 100000
set_option maxHeartbeats 2000000
/-! Displays of dicts: text keys, lists as values. -/
namespace Zb
open PySem PySem.Spec PyProof.Rows L2
abbrev Ent := Str × List PyData
/-- the entries of a dict, by their data -/
def KvOk (K : PySem.W.Frag) (S : Hp) : List (Key × V) → List Ent → Prop
  | [], [] => True
  | p :: ps, q :: qs => (p.1 = Sum.inr q.1 ∧ Rl K S p.2 q.2) ∧ KvOk K S ps qs
  | _, _ => False
section
variable {K : PySem.W.Frag} {σ : L2.St} {S S1 H : Hp} {tk tv ty tx : TE} {trs : List (TE × TE)} {es : List Ent} {kvs : List (Key × V)} {p : Addr} {j : Nat}
theorem kv_same (e : Same S S1) : ∀ {kvs : List (Key × V)} {es : List Ent}, KvOk K S kvs es → KvOk K S1 kvs es
  | [], [], _ => trivial
  | [], _ :: _, h => h
  | _ :: _, [], h => h
  | _ :: _, _ :: _, h => ⟨⟨h.1.1, rl_same e h.1.2⟩, kv_same e h.2⟩
theorem kv_len : ∀ {kvs : List (Key × V)} {es : List Ent}, KvOk K S kvs es → kvs.length = es.length
  | [], [], _ => rfl
  | [], _ :: _, h => h.elim
  | _ :: _, [], h => h.elim
  | _ :: _, _ :: _, h => by rw [List.length_cons, List.length_cons, kv_len h.2]
theorem kv_keys : ∀ {kvs : List (Key × V)} {es : List Ent}, KvOk K S kvs es → kvs.map (·.1) = es.map fun e => Sum.inr e.1
  | [], [], _ => rfl
  | [], _ :: _, h => h.elim
  | _ :: _, [], h => h.elim
  | _ :: _, _ :: _, h => by rw [List.map_cons, List.map_cons, kv_keys h.2, h.1.1]
/-- the entry of a key -/
def look (es : List Ent) (w : Str) : Option (List PyData) := (es.find? fun e => decide (e.1 = w)).map (·.2)
theorem kv_look (w : Str) : ∀ {kvs : List (Key × V)} {es : List Ent}, KvOk K S kvs es → match look es w with
    | some ds => ∃ v, valV kvs (Sum.inr w) = some v ∧ Rl K S v ds
    | none => valV kvs (Sum.inr w) = none
  | [], [], _ => rfl
  | [], _ :: _, h => h.elim
  | _ :: _, [], h => h.elim
  | p :: ps, e :: es, h => by
    obtain ⟨⟨h1, h2⟩, h3⟩ := h
    have ih := kv_look w h3
    by_cases c : e.1 = w
    · have l : look (e :: es) w = some e.2 := by
        unfold look
        rw [List.find?_cons_of_pos (by simpa using c)]
        rfl
      rw [l]
      exact ⟨p.2, valV_pos (h1.trans (by rw [c])), h2⟩
    · have l : look (e :: es) w = look es w := by
        unfold look
        rw [List.find?_cons_of_neg (by simpa using c)]
      rw [l, valV_neg (fun z => c (Sum.inr.inj (h1.symm.trans z)))]
      exact ih
theorem merge_new : ∀ (more acc : List (Key × V)), (more.map (·.1)).Nodup → (∀ k ∈ more.map (·.1), valV acc k = none) → mergeK acc more = acc ++ more
  | [], acc, _, _ => (List.append_nil _).symm
  | m :: more, acc, nd, h => by
    rw [List.map_cons, List.nodup_cons] at nd
    show mergeK (putK acc m.1 m.2) more = _
    rw [putK_new m.2 (h m.1 (by simp)), merge_new more (acc ++ [(m.1, m.2)]) nd.2 fun k hk => ?_, List.append_assoc]
    · rfl
    · rw [valV_snoc m.1 k m.2 acc (h m.1 (by simp)), if_neg (fun z => nd.1 (by rw [← z]; exact hk))]
      exact h k (by rw [List.map_cons]; exact List.mem_cons_of_mem _ hk)
/-- the pairs of a display -/
def EvPs (K : PySem.W.Frag) (trs : List (TE × TE)) (σ : L2.St) (S : Hp) (es : List Ent) : Prop := ∀ H, Same S H → ∀ Q : List (V × V) → Hp → Prop, (∀ kvs S' H', G0 S H S' H' → KvOk K S' kvs es → Q (kvs.map fun kv => (kV kv.1, kv.2)) H') → tPairs trs σ H Q
theorem eps_nil : EvPs K [] σ S [] := fun H i Q q => q [] S H (Go.refl i) trivial
theorem EvPs.mono (e : Same S S1) (h : EvPs K trs σ S es) : EvPs K trs σ S1 es := fun H i Q q => h H (e.trans i) Q fun kvs S' H' g p => by
  obtain ⟨g1, g2⟩ := g.join e i
  exact q kvs _ H' g1 (kv_same g2 p)
theorem eps_cons {k : Str} {ds : List PyData} (hk : EvD K tk σ S (.str k)) (hv : EvR K tv σ S ds) (hr : EvPs K trs σ S es) : EvPs K ((tk, tv) :: trs) σ S ((k, ds) :: es) := fun H i Q q =>
  hk H i _ fun x S1 H1 g1 p1 => (hv.mono g1.s) H1 g1.i _ fun y S2 H2 g2 p2 => (hr.mono (g1.s.trans g2.s)) H2 g2.i _ fun kvs S3 H3 g3 p3 => by
    obtain rfl := dp_str p1
    exact q ((Sum.inr k, y) :: kvs) S3 H3 ((g1.trans g2).trans g3) ⟨⟨rfl, rl_same g3.s p2⟩, p3⟩
/-- a dict of the region by its data -/
def Di (K : PySem.W.Frag) (S : Hp) (v : V) (es : List Ent) : Prop := ∃ p kvs, v = .ref p ∧ S p = some (.dK kvs) ∧ KvOk K S kvs es
theorem Di.same (e : Same S S1) {v : V} (h : Di K S v es) : Di K S1 v es := by
  obtain ⟨p, kvs, rfl, h1, h2⟩ := h
  exact ⟨p, kvs, rfl, e _ _ h1, kv_same e h2⟩
def EvDi (K : PySem.W.Frag) (te : TE) (σ : L2.St) (S : Hp) (es : List Ent) : Prop := ∀ H, Same S H → ∀ Q : VK, (∀ v S' H', G0 S H S' H' → Di K S' v es → Q v H') → te σ H Q
theorem ev_disp (h : EvPs K trs σ S es) (nd : (es.map (·.1)).Nodup) (hl : es.length ≤ 15) : EvDi K (tDisp trs) σ S es := fun H i Q q => fun p hp => by
  have g0 := Go.newM (o := .dK []) i hp
  refine h _ g0.i _ fun kvs S1 H1 g1 kv => ?_
  have e1 : H1 p = some (.dK []) := g1.same _ _ upd_same
  have s0 : S p = none := i.free hp
  have s1 : S1 p = none := g1.out s0 (by rw [upd_same]; exact Option.some_ne_none _)
  refine ⟨e1, kvs, rfl, by rw [kv_len kv]; exact hl, ?_⟩
  have nk : (kvs.map (·.1)).Nodup := by
    rw [kv_keys kv, show (es.map fun e => (Sum.inr e.1 : Key)) = (es.map (·.1)).map Sum.inr by rw [List.map_map]; rfl]
    exact List.Pairwise.map _ (fun a b n z => n (Sum.inr.inj z)) nd
  rw [merge_new kvs [] nk fun _ _ => rfl, List.nil_append]
  have g2 : G0 S H S1 (upd H1 p (.dK kvs)) := (g0.trans g1).mut s1 (.inr hp)
  exact q (.ref p) (upd S1 p (.dK kvs)) _ (g2.frz s1 hp upd_same) ⟨p, kvs, rfl, upd_same, kv_same (same_upd s1) kv⟩
/-- d[w], there -/
theorem er_get {td : TE} {w : Str} {ds : List PyData} (h : EvDi K td σ S es) (hk : EvD K ty σ S (.str w)) (hl : look es w = some ds) : EvR K (tDGet td ty) σ S ds := fun H i Q q =>
  h H i _ fun x S1 H1 g1 d1 => (hk.mono g1.s) H1 g1.i _ fun y S2 H2 g2 p2 => by
    obtain rfl := dp_str p2
    obtain ⟨p, kvs, rfl, e, kv⟩ := d1.same g2.s
    have := kv_look w kv
    rw [hl] at this
    obtain ⟨v, hv, rv⟩ := this
    exact ⟨p, v, rfl, .inl ⟨kvs, Sum.inr w, .inl (g2.i _ _ e), rfl, hv.symm⟩, q v S2 H2 (g1.trans g2) rv⟩
/-- d.get(w, x) of a dict of the region -/
theorem er_get2 {w : Str} {ds : List PyData} {v : V} (hv : σ[j]? = some (some v)) (hd : Di K S v es) (hk : EvD K ty σ S (.str w)) (hx : EvR K tx σ S ds) : EvR K (tDGet2 (tVar j) ty tx) σ S ((look es w).getD ds) := fun H i Q q => by
  obtain ⟨p, kvs, rfl, e, kv⟩ := hd
  refine ⟨_, hv, p, rfl, ?_, hk H i _ fun y S1 H1 g1 p1 => ?_⟩
  · exact .inl ⟨kvs, .inl (i _ _ e)⟩
  · obtain rfl := dp_str p1
    refine (hx.mono g1.s) H1 g1.i _ fun z S2 H2 g2 r2 => ?_
    have g3 := g1.trans g2
    have kv2 := kv_look w (kv_same g3.s kv)
    refine ⟨valV kvs (Sum.inr w), .inl ⟨kvs, Sum.inr w, .inl (g3.i _ _ (g3.s _ _ e)), rfl, rfl⟩, ?_⟩
    cases hl : look es w with
    | none =>
      rw [hl] at kv2
      rw [show valV kvs (Sum.inr w) = none from kv2]
      exact q z S2 H2 g3 (by rw [hl]; exact r2)
    | some d2 =>
      rw [hl] at kv2
      obtain ⟨u, hu, ru⟩ := kv2
      rw [hu]
      exact q u S2 H2 g3 (by rw [hl]; exact ru)
theorem q_asgDi {D : Ends} {tz : TS} {te : TE} (h : EvDi K te σ S es) (i : Same S H) (k : ∀ v S1 H1, G0 S H S1 H1 → Di K S1 v es → tz D (σ.set j (some v)) H1) : tSeq (tAsg te (gName j)) tz D σ H := h H i _ k
theorem q_par3 {i j l : Nat} {ta tb tc : TE} {x y : PyData} {ds : List PyData} {D : Ends} {tz : TS} (ha : EvD K ta σ S x) (hb : EvD K tb σ S y) (hc : EvR K tc σ S ds) (i0 : Same S H)
    (k : ∀ u v w S1 H1, G0 S H S1 H1 → Dp K S1 u x → Dp K S1 v y → Rl K S1 w ds → tz D (((σ.set i (some u)).set j (some v)).set l (some w)) H1) : tSeq (tPar3 i j l (tCons ta (tCons tb (tCons tc tNil)))) tz D σ H :=
  ha H i0 _ fun u S1 H1 g1 p1 => (hb.mono g1.s) H1 g1.i _ fun v S2 H2 g2 p2 => (hc.mono (g1.s.trans g2.s)) H2 g2.i _ fun w S3 H3 g3 r3 => ⟨u, v, w, rfl, k u v w S3 H3 ((g1.trans g2).trans g3) (dp_same (g2.s.trans g3.s) p1) (dp_same g3.s p2) r3⟩
end
end Zb
set_option Elab.async false
set_option linter.all false
set_option maxRecDepth 100000
set_option maxHeartbeats 4000000
namespace Zb
open PySem PySem.Spec PyProof.Rows L2
abbrev sL (l : List Str) : List PyData := l.map .str
def wordsE : List Ent := [("counter", sL ["add"]), ("register", sL ["put", "trade"]), ("stack", sL ["push"]), ("queue", sL ["enter"]), ("set", sL ["add", "drop", "has"]), ("agree", sL ["decide"])]
def moreE : List Ent := [("counter", [callD ("look", [])]), ("register", [callD ("look", [])]), ("stack", [callD ("pop", [])]), ("queue", [callD ("leave", [])])]
abbrev call2 (lo hi : Nat) (w : Str) : List Call := (List.range (hi - lo)).map fun i : Nat => (w, [(lo : Int) + (i : Int)])
/-- the kinds that go by their words -/
structure ByW (th : Th) (nm : Str) (r : List PyData) (W : List Str) (lo hi : Nat) (X : List Call) : Prop where
  e : thD th = .tuple (.str nm :: r)
  nb : decide (nm = "bank") = false
  nt : decide (nm = "table") = false
  w : look wordsE nm = some (sL W)
  lo_ : (if decide (nm = "counter") = true then (1 : Int) else 0) = (lo : Int)
  hi_ : atI (PyData.str nm :: r) (-1) = some (iD hi)
  x : (look moreE nm).getD [] = X.map callD
  p : (W.flatMap (call2 lo hi) ++ X).Perm (callsP th)
  len : W.length ≤ 3 ∧ lo ≤ 1 ∧ hi ≤ 5 ∧ X.length ≤ 1
theorem call2_0 (w : Str) (n : Nat) : call2 0 n w = call1 w n := rfl
theorem byw {th : Th} (ok : ThOk th) : (∃ nm r W lo hi X, ByW th nm r W lo hi X) ∨ (∃ l, th = .bnk l) ∨ ∃ rows, th = .tab rows := by
  cases th with
  | ctr n =>
    obtain ⟨a, b⟩ := ok
    exact .inl ⟨"counter", [iD n], ["add"], 1, n, [("look", [])], rfl, by decide +kernel, by decide +kernel, by rfl, by rfl, rfl, by rfl, by
      show (List.flatMap (call2 1 n) ["add"] ++ _).Perm (_ ++ _)
      rw [List.flatMap_singleton]
      exact List.Perm.refl _, by decide, by decide, b, by decide⟩
  | reg n =>
    obtain ⟨a, b⟩ := ok
    refine .inl ⟨"register", [iD n], ["put", "trade"], 0, n, [("look", [])], rfl, by decide +kernel, by decide +kernel, by rfl, by rfl, rfl, by rfl, ?_, by decide, by decide, b, by decide⟩
    show (List.flatMap (call2 0 n) ["put", "trade"] ++ _).Perm (_ ++ _ ++ _)
    rw [List.flatMap_cons, List.flatMap_singleton, call2_0, call2_0, List.append_assoc [_]]
    exact List.perm_append_comm
  | stk c n =>
    obtain ⟨_, a, b⟩ := ok
    exact .inl ⟨"stack", [iD c, iD n], ["push"], 0, n, [("pop", [])], rfl, by decide +kernel, by decide +kernel, by rfl, by rfl, rfl, by rfl, by
      show (List.flatMap (call2 0 n) ["push"] ++ _).Perm (_ ++ _)
      rw [List.flatMap_singleton, call2_0], by decide, by decide, by omega, by decide⟩
  | que c n =>
    obtain ⟨_, a, b⟩ := ok
    exact .inl ⟨"queue", [iD c, iD n], ["enter"], 0, n, [("leave", [])], rfl, by decide +kernel, by decide +kernel, by rfl, by rfl, rfl, by rfl, by
      show (List.flatMap (call2 0 n) ["enter"] ++ _).Perm (_ ++ _)
      rw [List.flatMap_singleton, call2_0], by decide, by decide, by omega, by decide⟩
  | set n =>
    obtain ⟨a, b⟩ := ok
    exact .inl ⟨"set", [iD n], ["add", "drop", "has"], 0, n, [], rfl, by decide +kernel, by decide +kernel, by rfl, by rfl, rfl, by rfl, by
      rw [List.append_nil]
      exact List.Perm.refl _, by decide, by decide, b, by decide⟩
  | agr n =>
    obtain ⟨a, b⟩ := ok
    exact .inl ⟨"agree", [iD n], ["decide"], 0, n, [], rfl, by decide +kernel, by decide +kernel, by rfl, by rfl, rfl, by rfl, by
      rw [List.append_nil, List.flatMap_singleton]
      exact List.Perm.refl _, by decide, by decide, b, by decide⟩
  | bnk l => exact .inr (.inl ⟨l, rfl⟩)
  | tab rows => exact .inr (.inr ⟨rows, rfl⟩)
section
variable {P : Program} {w : World} {K : PySem.W.Frag} {mg : Str → Option Value} {base : Heap}
abbrev spLCalls (K : PySem.W.Frag) : Sp := spG K (fun t : Th => [thD t]) ThOk (fun t _ _ v S' _ => ∃ cs : List Call, cs.Perm (callsP t) ∧ Dp K S' v (.list (cs.map callD))) noErr
theorem sc_L_calls : FnScope ["_law_thing", "_law_name", "_law_found", "_law_k", "_law_one", "_law_other", "_law_words", "_law_low", "_law_high", "_law_word", "_law_more"] ["_law_thing"] (defScope Zh.s_L_calls) := ⟨rfl, rfl, rfl, by decide +kernel, rfl, by decide +kernel, by decide +kernel⟩
theorem ok_L_calls (M : Mo K mg) (D : Df K mg "_law_calls" Zh.s_L_calls) : Fn CX0 P w K mg base "_law_calls" 1 ["_law_thing"] (spLCalls K) :=
  fn_mkG D.1 D.2 (fun _ _ _ _ _ _ us hl => match us, hl with | [_], _ => rfl) sc_L_calls (fun _ => rfl) fun cdv A outer s H E hr => ⟨_, (pss_cons (ps_set (i := 1) sc_L_calls.nd rfl (Or.inl rfl) (pe_ix (r := rIxT K) ix_tup (pv 0) pe_int (fun _ _ => rfl)))
    (pss_cons (ps_if (pt_cmpR op_eq (pv 1) pe_str (nomark _)) (pss_cons (ps_setLc (i := 2) (own := [("_law_k", 3)]) (g := gName 3) rfl sc_L_calls.nd rfl rfl (sw_true rfl rfl rfl (by decide +kernel)) (pi_range1 rfl M.range (pa_cons (pe_callB (id := "len") call_len (by rfl) M.len (by decide +kernel) (pa_cons (pe_ix (r := rIxT K) ix_tup (pv 0) pe_int (fun _ _ => rfl)) pa_nil)) pa_nil)) (blkOk_by (own := [("_law_k", 3)]) (N := ["_law_thing", "_law_name", "_law_found", "_law_k", "_law_one", "_law_other", "_law_words", "_law_low", "_law_high", "_law_word", "_law_more"]) (sc := defScope Zh.s_L_calls) (by decide +kernel)) (fun _ _ _ _ _ => (pg_name (i := 3) sc_L_calls.nd rfl (Or.inl rfl))) (fun _ _ _ _ _ => pts_nil) (fun _ _ _ _ _ => (pe_tup (pa_cons pe_str (pa_cons (pv 3) pa_nil)))))
    (pss_cons (ps_for PassesOwn.never rfl (pi_range1 rfl M.range (pa_cons (pe_callB (id := "len") call_len (by rfl) M.len (by decide +kernel) (pa_cons (pe_ix (r := rIxT K) ix_tup (pv 0) pe_int (fun _ _ => rfl)) pa_nil)) pa_nil)) (pg_name (i := 4) sc_L_calls.nd rfl (Or.inr rfl)) (pss_one (ps_for PassesOwn.never rfl (pi_range1 rfl M.range (pa_cons (pe_callB (id := "len") call_len (by rfl) M.len (by decide +kernel) (pa_cons (pe_ix (r := rIxT K) ix_tup (pv 0) pe_int (fun _ _ => rfl)) pa_nil)) pa_nil)) (pg_name (i := 5) sc_L_calls.nd rfl (Or.inr rfl)) (pss_one (ps_if (pt_cmpR op_ne (pv 4) (pv 5) (nomark _)) (pss_one (ps_set (i := 2) sc_L_calls.nd rfl (Or.inl rfl) (pe_op op_cat (pv 2) (pe_lc (own := [("_law_k", 3)]) (g := gName 3) rfl sc_L_calls.nd (pi_list (pe_lst (pa_cons pe_int (pa_cons pe_int (pa_cons pe_int pa_nil))))) (blkOk_by (own := [("_law_k", 3)]) (N := ["_law_thing", "_law_name", "_law_found", "_law_k", "_law_one", "_law_other", "_law_words", "_law_low", "_law_high", "_law_word", "_law_more"]) (sc := defScope Zh.s_L_calls) (by decide +kernel)) (fun _ _ _ _ _ => (pg_name (i := 3) sc_L_calls.nd rfl (Or.inl rfl))) (fun _ _ _ _ _ => pts_nil) (fun _ _ _ _ _ => (pe_tup (pa_cons pe_str (pa_cons (pv 4) (pa_cons (pv 5) (pa_cons (pv 3) pa_nil)))))))))) pss_nil)))))
    (pss_one (ps_ret (pe_callB (id := "sorted") (cr_sortT (Room.u65 hr)) (by rfl) M.sorted (by decide +kernel) (pa_cons (pv 2) pa_nil)))))) pss_nil)
    (pss_cons (ps_if (pt_cmpR op_eq (pv 1) pe_str (nomark _)) (pss_one (ps_ret (pe_lc (own := [("_law_k", 3)]) (g := gName 3) rfl sc_L_calls.nd (pi_range1 rfl M.range (pa_cons (pe_callB (id := "len") call_len (by rfl) M.len (by decide +kernel) (pa_cons (pe_ix (r := rIxT K) ix_tup (pe_ix (r := rIxT K) ix_tup (pv 0) pe_int (fun _ _ => rfl)) pe_int (fun _ _ => rfl)) pa_nil)) pa_nil)) (blkOk_by (own := [("_law_k", 3)]) (N := ["_law_thing", "_law_name", "_law_found", "_law_k", "_law_one", "_law_other", "_law_words", "_law_low", "_law_high", "_law_word", "_law_more"]) (sc := defScope Zh.s_L_calls) (by decide +kernel)) (fun _ _ _ _ _ => (pg_name (i := 3) sc_L_calls.nd rfl (Or.inl rfl))) (fun _ _ _ _ _ => pts_nil) (fun _ _ _ _ _ => (pe_tup (pa_cons pe_str (pa_cons (pv 3) pa_nil))))))) pss_nil)
    (pss_cons (ps_set (i := 6) sc_L_calls.nd rfl (Or.inl rfl) (pe_dget (hu_of hr) (pe_disp (pps_cons pe_str (pe_lst (pa_cons pe_str pa_nil)) (pps_cons pe_str (pe_lst (pa_cons pe_str (pa_cons pe_str pa_nil))) (pps_cons pe_str (pe_lst (pa_cons pe_str pa_nil)) (pps_cons pe_str (pe_lst (pa_cons pe_str pa_nil)) (pps_cons pe_str (pe_lst (pa_cons pe_str (pa_cons pe_str (pa_cons pe_str pa_nil)))) (pps_cons pe_str (pe_lst (pa_cons pe_str pa_nil)) pps_nil)))))) (by rfl) (by rfl) (fun z => by cases z) (by decide)) (pv 1) (fun _ _ => rfl)))
    (pss_cons (ps_par3 (i := 7) (j := 8) (l := 2) rfl sc_L_calls.nd rfl rfl rfl (by decide) (by decide) (by decide) rfl rfl rfl (pa_cons (pe_callTy call_int1 (by rfl) M.int (by decide +kernel) (pa_cons (pe_cmpR op_eq (pv 1) pe_str (nomark _)) pa_nil)) (pa_cons (pe_ix (r := rIxT K) ix_tup (pv 0) (pe_un un_neg pe_int) (fun _ _ => rfl)) (pa_cons (pe_lst pa_nil) pa_nil))) (by rfl))
    (pss_cons (ps_for PassesOwn.never rfl (pi_list (pv 6)) (pg_name (i := 9) sc_L_calls.nd rfl (Or.inr rfl)) (pss_one (ps_set (i := 2) sc_L_calls.nd rfl (Or.inl rfl) (pe_op op_cat (pv 2) (pe_lc (own := [("_law_k", 3)]) (g := gName 3) rfl sc_L_calls.nd (pi_range2 rfl M.range (pa_cons (pv 7) (pa_cons (pv 8) pa_nil))) (blkOk_by (own := [("_law_k", 3)]) (N := ["_law_thing", "_law_name", "_law_found", "_law_k", "_law_one", "_law_other", "_law_words", "_law_low", "_law_high", "_law_word", "_law_more"]) (sc := defScope Zh.s_L_calls) (by decide +kernel)) (fun _ _ _ _ _ => (pg_name (i := 3) sc_L_calls.nd rfl (Or.inl rfl))) (fun _ _ _ _ _ => pts_nil) (fun _ _ _ _ _ => (pe_tup (pa_cons (pv 9) (pa_cons (pv 3) pa_nil)))))))))
    (pss_cons (ps_set (i := 10) sc_L_calls.nd rfl (Or.inl rfl) (pe_disp (pps_cons pe_str (pe_lst (pa_cons (pe_tup (pa_cons pe_str pa_nil)) pa_nil)) (pps_cons pe_str (pe_lst (pa_cons (pe_tup (pa_cons pe_str pa_nil)) pa_nil)) (pps_cons pe_str (pe_lst (pa_cons (pe_tup (pa_cons pe_str pa_nil)) pa_nil)) (pps_cons pe_str (pe_lst (pa_cons (pe_tup (pa_cons pe_str pa_nil)) pa_nil)) pps_nil)))) (by rfl) (by rfl) (fun z => by cases z) (by decide)))
    (pss_one (ps_ret (pe_callB (id := "sorted") (cr_sortT (Room.u65 hr)) (by rfl) M.sorted (by decide +kernel) (pa_cons (pe_op op_cat (pv 2) (pe_dget2 (hu_of hr) (pv 10) (pv 1) (pe_lst pa_nil) ⟨rfl, rfl, rfl, rfl⟩)) pa_nil))))))))))), fun th vs S H0 i0 ok p D q => by
    obtain ⟨v, r, rfl, pv, pr⟩ := dpAll_cons p
    obtain rfl := dpAll_nil pr
    -- sorted and handed back
    have fin : ∀ {te : TE} {cs : List Call} {σ : L2.St} {S1 H1 : Hp} {D' : Ends}, G0 S H0 S1 H1 → EvD K te σ S1 (.list (cs.map callD)) → cs.length ≤ 100000 → cs.Perm (callsP th) → D'.rt = D.rt → tRet (tCB (rSortT K) (tCons te tNil)) D' σ H1 := fun {te cs σ S1 H1 D'} g h hl hp e => by
      refine h H1 g.i _ fun v2 S2 H2 g2 p2 => ?_
      obtain ⟨a, xs, rfl, hs, ha⟩ := dp_list p2
      have hx := dpAll_len ha
      rw [List.length_map] at hx
      refine ⟨a, xs, cs, rfl, sqL_same g2.i hs, dpAll_same g2.i ha, hl, fun bs p pm hn => ?_⟩
      rw [e]
      have pc := pm.map (·.2)
      rw [zip_len hx] at pc
      have g3 := (g.trans g2).trans (Go.new (o := .lst (bs.map (·.1))) g2.i hn)
      refine q (.ref p) _ _ g3 ⟨bs.map (·.2), pc.trans hp, .lst (SqL.of upd_same) (dpAll_same (Go.new (o := .lst (bs.map (·.1))) g2.i hn).s (zip_dp fun b hb => dp_zip ha b (pm.mem_iff.mp hb)))⟩
    rcases byw ok with ⟨nm, r, W, lo, hi, X, B⟩ | ⟨l, rfl⟩ | ⟨rows, rfl⟩
    · have pv0 := pv
      rw [B.e] at pv0
      refine q_asg (K := K) (ev_op (rv_ixT at_head) (ev_var rfl pv0) (ev_c (.int _))) i0 fun v1 S1 H1 g1 p1 => ?_
      refine q_no (Sees.refl g1.i) (et_val (ev_op rv_eqs (ev_var rfl p1) (ev_c (.str _)))) B.nb fun H2 g2 => ?_
      refine q_no (Sees.refl g2.i) (et_val (ev_op rv_eqs (ev_var rfl p1) (ev_c (.str _)))) B.nt fun H3 g3 => ?_
      have g4 := (g1.trans g2).trans g3
      have s1 : ∀ {σ : L2.St} {S : Hp} {a : Str}, EvR K (tLst (tCons (tC (.str a)) tNil)) σ S (sL [a]) := (en_lst (ea_one (ev_c (.str _))) (lz 1 rfl)).r
      refine q_asgR (K := K) (ds := sL W) (er_get (es := wordsE) (ev_disp (eps_cons (ev_c (.str _)) s1 (eps_cons (ev_c (.str _)) (en_lst (ea_cons (ev_c (.str _)) (ea_one (ev_c (.str _)))) (lz 2 rfl)).r (eps_cons (ev_c (.str _)) s1 (eps_cons (ev_c (.str _)) s1 (eps_cons (ev_c (.str _)) (en_lst (ea_cons (ev_c (.str _)) (ea_cons (ev_c (.str _)) (ea_one (ev_c (.str _))))) (lz 3 rfl)).r (eps_cons (ev_c (.str _)) s1 eps_nil)))))) (by decide +kernel) (by decide)) (ev_var rfl p1) B.w) g4.i fun v6 S5 H5 g5 r6 => ?_
      have g6 := g4.trans g5
      have pv6 := dp_same g6.s pv0
      refine q_par3 (K := K) (ds := []) (ev_cb rc_int1b (ea_one (ev_op rv_eqs (ev_var rfl (dp_same g5.s p1)) (ev_c (.str "counter"))))) (ev_op (rv_ixT B.hi_) (ev_var rfl pv6) ev_m1) (en_lst ea_nil (lz 0 rfl)).r g5.i fun v7 v8 v2 S9 H9 g9 p7 p8 r2 => ?_
      rw [B.lo_] at p7
      obtain rfl := dp_int p7
      obtain rfl := dp_int p8
      have g10 := g6.trans g9
      have r6' := rl_same g9.s r6
      obtain ⟨w1, w2, w3, w4⟩ := B.len
      have flen : ∀ l : List Str, (l.flatMap (call2 lo hi)).length ≤ l.length * 5 := fun l => flat_len fun x => by rw [List.length_map, List.length_range]; omega
      refine ⟨v6, rfl, forL_at r6'.d (fun i σ' H' => ∃ Sx vf o3 o9, G0 S H0 Sx H' ∧ Same S9 Sx ∧ Rl K Sx vf (((W.take i).flatMap (call2 lo hi)).map callD) ∧ σ' = [some v, some v1, some vf, o3, none, none, some v6, some (.int (lo : Int)), some (.int (hi : Int)), o9, none]) g9.i ?_ ?_ ?_ ?_⟩
      · exact ⟨S9, v2, none, none, g10, Same.refl _, r2, rfl⟩
      · rintro n σ' H' _ ⟨Sx, _, _, _, g, sx, _⟩
        exact sx.trans g.i
      · rintro n d x σ' H' hd px ⟨Sx, vf, o3, o9, g, sx, rf, rfl⟩
        obtain ⟨w, hw, rfl⟩ := map_at hd
        obtain rfl := dp_str px
        have fl := flen (W.take n)
        rw [List.length_take] at fl
        refine s_asgR (K := K) (ds := ((W.take (n + 1)).flatMap (call2 lo hi)).map callD) (er_is (en_cat (er_var rfl rf) (er_range (lo := (lo : Nat)) (n := hi - lo) (f := fun _ => true) (g := fun i : Nat => callD (w, [(lo : Int) + (i : Int)])) (ir_2n (K := K) (a := lo) (n := hi) (ea_cons (ev_var rfl (.int _)) (ea_one (ev_var rfl (.int _)))) (by omega) (by omega)) (by omega) (fun _ => rfl) (fun _ _ _ _ => et_yes) (fun i _ _ S2 _ => ev_tup (ea_cons (ev_var rfl (.str _)) (ea_one (ev_var rfl (.int _)))) (lz 2 rfl))) ?_).r ?_) g.i fun v10 S11 H11 g11 r11 => ?_
        · rw [filt_true]
          simp only [List.length_map, List.length_range]
          exact Nat.le_trans (show _ ≤ 1000 by omega) (by decide)
        · rw [filt_true, take_flat hw, List.map_append, List.map_map]
          rfl
        · exact ⟨S11, v10, _, _, g.trans g11, sx.trans g11.s, r11, rfl⟩
      · rintro _ H10 ⟨Sx, vf, o3, o9, g, sx, rf, rfl⟩
        rw [List.length_map, List.take_length] at rf
        have p1x := dp_same sx (dp_same (g5.trans g9).s p1)
        have c1 : ∀ {σ : L2.St} {S : Hp} {a : Str}, EvR K (tLst (tCons (tTup (tCons (tC (.str a)) tNil)) tNil)) σ S [callD (a, [])] := (en_lst (ea_one (ev_tup (ea_one (ev_c (.str _))) (lz 1 rfl))) (lz 1 rfl)).r
        refine q_asgDi (K := K) (es := moreE) (ev_disp (eps_cons (ev_c (.str _)) c1 (eps_cons (ev_c (.str _)) c1 (eps_cons (ev_c (.str _)) c1 (eps_cons (ev_c (.str _)) c1 eps_nil)))) (by decide +kernel) (by decide)) g.i fun v10 S11 H11 g11 d11 => ?_
        have fl := flen W
        have c : EvN K (tOp rCat (tVar 2) (tDGet2 (tVar 10) (tVar 1) (tLst tNil))) [some v, some v1, some vf, o3, none, none, some v6, some (.int (lo : Int)), some (.int (hi : Int)), o9, some v10] S11 ((W.flatMap (call2 lo hi) ++ X).map callD) := by
          rw [List.map_append]
          refine en_cat (er_var rfl (rl_same g11.s rf)) (er_is (er_get2 (ds := []) rfl d11 (ev_var rfl (dp_same g11.s p1x)) (en_lst ea_nil (lz 0 rfl)).r) B.x) ?_
          simp only [List.length_map]
          exact Nat.le_trans (show _ ≤ 1000 by omega) (by decide)
        refine fin (g.trans g11) c.d ?_ B.p rfl
        · rw [List.length_append]
          omega
    · have ok0 := ok
      obtain ⟨⟨o1, o2⟩, _⟩ := ok
      refine q_asg (K := K) (ev_op (rv_ixT at_head) (ev_var rfl pv) (ev_c (.int _))) i0 fun v1 S1 H1 g1 p1 => ?_
      refine q_if (Sees.refl g1.i) (et_val (ev_op rv_eqs (ev_var rfl p1) (ev_c (.str _)))) (fun _ H2 g2 => ?_) fun h => absurd h (by decide +kernel)
      obtain ⟨m, em⟩ : ∃ m, m = l.length := ⟨_, rfl⟩
      have elen : ∀ {σ : L2.St} {S2 : Hp}, σ[0]? = some (some v) → Same S S2 → EvA K (tCons (tCB (fun xs H Q => ∃ x n, xs = [x] ∧ LenV K x H n ∧ Q (.int n) H) (tCons (tOp (rIxT K) (tVar 0) (tC (.int 1))) tNil)) tNil) σ S2 [.int (m : Nat)] := fun h hs => ea_one (ev_is (ev_cb rc_lenT (ea_one (ev_op (rv_ixT (i := 1) rfl) (ev_var h (dp_same hs pv)) (ev_c (.int _))))) (by rw [List.length_map, em]))
      have g3 := g1.trans g2
      refine q_asgR (K := K) (ds := (call1 "look" m).map callD) (er_is (er_range (lo := 0) (n := m) (f := fun _ => true) (g := fun i : Nat => callD ("look", [0 + (i : Int)])) (ir_1 (K := K) (n := (m : Nat)) (elen rfl g3.s) (by omega) (by omega)) (by omega) (fun _ => rfl) (fun _ _ _ _ => et_yes) (fun i _ _ S1 _ => ev_tup (ea_cons (ev_c (.str _)) (ea_one (ev_var rfl (.int _)))) (lz 2 rfl))) (by rw [filt_true]; exact (map_map_ _ _ ()).symm)) g3.i fun vf S4 H4 g4 r4 => ?_
      have g5 := g3.trans g4
      refine q_forR (S := S4) (ir_1 (K := K) (n := (m : Nat)) (elen rfl g5.s) (by omega) (by omega) H4 g4.i) (n := m) (lo := 0) (fun i σ' H' => ∃ Sx vf o3 o4 o5, G0 S H0 Sx H' ∧ Rl K Sx vf ((call1 "look" m ++ (List.range i).flatMap fun one => (List.range m).flatMap fun other => moves one other).map callD) ∧ σ' = [some v, some v1, some vf, o3, o4, o5, none, none, none, none, none]) ?_ ?_ ?_
      · exact fun S6 H6 g6 => ⟨S6, vf, _, _, _, g5.trans g6, by rw [List.range_zero, List.flatMap_nil, List.append_nil]; exact rl_same g6.s r4, rfl⟩
      · rintro i _ H6 hi ⟨S6, vf, o3, o4, o5, g6, r6, rfl⟩
        rw [Int.zero_add]
        refine s_forR (S := S6) (ir_1 (K := K) (n := (m : Nat)) (elen rfl g6.s) (by omega) (by omega) H6 g6.i) (n := m) (lo := 0) (fun j σ' H' => ∃ Sx vf o3 o5, G0 S H0 Sx H' ∧ Rl K Sx vf ((call1 "look" m ++ ((List.range i).flatMap fun one => (List.range m).flatMap fun other => moves one other) ++ (List.range j).flatMap fun other => moves i other).map callD) ∧ σ' = [some v, some v1, some vf, o3, some (.int (i : Int)), o5, none, none, none, none, none]) ?_ ?_ ?_
        · exact fun S7 H7 g7 => ⟨S7, vf, _, _, g6.trans g7, by rw [List.range_zero, List.flatMap_nil, List.append_nil]; exact rl_same g7.s r6, rfl⟩
        · rintro j _ H7 hj ⟨S7, vf, o3, o5, g7, r7, rfl⟩
          rw [Int.zero_add]
          have e : (List.range (j + 1)).flatMap (fun other => moves i other) = (List.range j).flatMap (fun other => moves i other) ++ moves i j := by rw [List.range_succ, List.flatMap_append, List.flatMap_singleton]
          refine q_ifE (b := decide (i ≠ j)) (Sees.refl g7.i) (et_is (et_val (ev_op rv_nei (ev_var rfl (.int _)) (ev_var (K := K) rfl (.int _)))) (by rw [int_nat]; simp)) (fun h H8 g8 => ?_) fun h H8 g8 => ?_
          · have hm : (moves i j).map callD = (([1, 2, 3] : List Int).filter fun _ => true).map fun a => PyData.tuple [.str "move", .int (i : Int), .int (j : Int), .int a] := by
              unfold moves
              rw [if_pos h]
              rfl
            have bound := flat_len (l := List.range i) (c := m * 3) (f := fun one => (List.range m).flatMap fun other => moves one other) fun one => by
              have := flat_len (l := List.range m) (c := 3) (f := fun other => moves one other) (moves_len one)
              rwa [List.length_range] at this
            have bound2 := flat_len (l := List.range j) (c := 3) (f := fun other => moves i other) (moves_len i)
            rw [List.length_range] at bound bound2
            have hi3 : i * (m * 3) ≤ 3 * (3 * 3) := Nat.mul_le_mul (by omega) (Nat.mul_le_mul (by omega) (Nat.le_refl _))
            have g9 := g7.trans g8
            refine s_asgR (K := K) (ds := (call1 "look" m ++ ((List.range i).flatMap fun one => (List.range m).flatMap fun other => moves one other) ++ (List.range (j + 1)).flatMap fun other => moves i other).map callD) (er_is (en_cat (er_var rfl r7) (er_list (e := PyData.int) (l := [1, 2, 3]) (f := fun _ => true) (g := fun a => PyData.tuple [.str "move", .int (i : Int), .int (j : Int), .int a]) (ev_lst (ea_cons (ev_c (.int _)) (ea_cons (ev_c (.int _)) (ea_one (ev_c (.int _))))) (lz 3 rfl)) (by decide) (fun _ => rfl) (fun _ _ _ _ _ _ => et_yes) (fun a _ _ v S5 _ pv => ev_tup (ea_cons (ev_c (.str _)) (ea_cons (ev_var rfl (.int _)) (ea_cons (ev_var rfl (.int _)) (ea_one (ev_var rfl pv))))) (lz 4 rfl))) ?_).r ?_) g9.i fun v10 S11 H11 g11 r11 => ?_
            · have := moves_len i j
              rw [← hm]
              simp only [List.length_map, List.length_append, List.length_range] at bound bound2 ⊢
              exact Nat.le_trans (show _ ≤ 1000 by omega) (by decide)
            · rw [← hm, ← List.map_append, e, ← List.append_assoc]
            · exact ⟨S11, v10, _, _, g9.trans g11, r11, rfl⟩
          · refine ⟨S7, vf, _, _, g7.trans g8, ?_, rfl⟩
            have em : moves i j = [] := by unfold moves; rw [if_neg (by rw [h]; decide)]
            rw [e, em, List.append_nil]
            exact r7
        · rintro _ H7 ⟨S7, vf, o3, o5, g7, r7, rfl⟩
          refine ⟨S7, vf, _, _, _, g7, ?_, rfl⟩
          rw [List.range_succ, List.flatMap_append, List.flatMap_singleton, ← List.append_assoc]
          exact r7
      · rintro _ H6 ⟨S6, vf, o3, o4, o5, g6, r6, rfl⟩
        have e : (call1 "look" m ++ (List.range m).flatMap fun one => (List.range m).flatMap fun other => moves one other) = callsP (.bnk l) := by rw [em]; rfl
        rw [e] at r6
        exact fin (cs := callsP (.bnk l)) g6 (ev_var rfl r6.d) (Nat.le_of_lt (calls_few (th := .bnk l) ok0)) (List.Perm.refl _) rfl
    · have hl := ok.len
      obtain ⟨wd, w1, w2, hw⟩ := ok.wide
      obtain ⟨r0, h0⟩ : ∃ r0, rows[0]? = some r0 := by
        cases rows with
        | nil => exact absurd hl.1 (by decide)
        | cons a b => exact ⟨a, rfl⟩
      have m0 := hw r0 (List.mem_of_getElem? h0)
      have z0 : atI (rowsD rows) 0 = some (.tuple (r0.map pairD)) := atI_nat (j := 0) (by rw [List.getElem?_map, h0]; rfl)
      have e0 : callsP (.tab rows) = call1 "do" r0.length := by show call1 "do" ((rows[0]?.map (·.length)).getD 0) = _; rw [h0]; rfl
      refine q_asg (K := K) (ev_op (rv_ixT at_head) (ev_var rfl pv) (ev_c (.int _))) i0 fun v1 S1 H1 g1 p1 => ?_
      have pv1 := dp_same g1.s pv
      refine q_no (Sees.refl g1.i) (et_val (ev_op rv_eqs (ev_var rfl p1) (ev_c (.str _)))) (by decide +kernel) fun H2 g2 => ?_
      refine q_if (Sees.refl g2.i) (et_val (ev_op rv_eqs (ev_var rfl p1) (ev_c (.str _)))) (fun _ H3 g3 => ?_) fun h => absurd h (by decide +kernel)
      have g4 := (g1.trans g2).trans g3
      exact (er_is (es := (call1 "do" r0.length).map callD) (er_range (lo := 0) (n := r0.length) (f := fun _ => true) (g := fun i : Nat => callD ("do", [0 + (i : Int)])) (ir_1 (K := K) (n := (r0.length : Nat)) (ea_one (ev_is (ev_cb rc_lenT (ea_one (ev_op (rv_ixT z0) (ev_op (rv_ixT (i := 1) rfl) (ev_var (i := 0) (σ := [some v, some v1, none, none, none, none, none, none, none, none, none]) rfl pv1) (ev_c (.int 1))) (ev_c (.int 0))))) (by rw [List.length_map]))) (by omega) (by omega)) (by omega) (fun _ => rfl) (fun _ _ _ _ => et_yes) (fun i _ _ S2 _ => ev_tup (ea_cons (ev_c (.str _)) (ea_one (ev_var rfl (.int _)))) (lz 2 rfl))) (by rw [filt_true]; exact (map_map_ _ _ ()).symm)).d H3 g3.i _ fun v2 S5 H5 g5 p5 => q v2 S5 H5 (g4.trans g5) ⟨_, by rw [e0], p5⟩⟩
end
end Zb
set_option Elab.async false
set_option linter.all false
set_option maxRecDepth 100000
set_option maxHeartbeats 4000000
namespace Zb
open PySem PySem.Spec PyProof.Rows L2
def badTail : Option Nat → PyData
  | none => .str "none"
  | some n => .int (n : Int)
abbrev badD (n : Option Nat) : PyData := .tuple [.str "bad", badTail n]
/-- what the law's own reading hands back -/
def Due (K : PySem.W.Frag) (S : Hp) (v : V) : Res → Prop
  | .bad n => Dp K S v (badD n)
  | .good cells names => ∃ t vc p kvs, v = .ref t ∧ S t = some (.tup [vc, .ref p]) ∧ Dp K S vc (.tuple cells) ∧ S p = some (.dK kvs) ∧ kvs.map (·.1) = names.map Sum.inr
abbrev spLProg (K : PySem.W.Frag) : Sp := spG K argR preR (fun i _ _ v S' _ => Due K S' v (readV (wordsOf i.1) i.2)) noErr
/-! lines by their words -/
theorem ws_inj {a b : Str} (h : ws a = ws b) : a = b := sgn_inj (by rw [ws_back, ws_back, h])
theorem two_words {line : Str} (h : (ws line).length = 2) : ws line = [wd (ws line) 0, wd (ws line) 1] := by
  match e : ws line, h with
  | [a, b], _ => rfl
theorem on_sgn {line nm : Str} (h : ws line = [("on" : Str), nm]) : sgn line = [111, 110, 32] ++ sgn nm := by
  rw [ws_back, h]
  show [111, 110] ++ ([32] ++ sgn nm) = _
  rfl
theorem on_cut {line nm : Str} (h : ws line = [("on" : Str), nm]) : cutS line (some 3) none = nm := by
  refine sgn_inj ?_
  unfold cutS
  rw [sgn_mk, HT.sIx_none]
  have e : line.length = 3 + (sgn nm).length := by rw [len_sgn, on_sgn h]; simp; omega
  have e2 : HT.sIx line.length 0 (some 3) = 3 := by
    rw [show (3 : Int) = ((3 : Nat) : Int) from rfl, HT.sIx_nat, e]
    omega
  rw [e2, show line.cps.toList = sgn line from rfl, on_sgn h, e]
  show List.take (3 + (sgn nm).length - 3) (sgn nm) = sgn nm
  exact List.take_of_length_le (by omega)
theorem seg_line {s : Seg} {lines : List Str} (h : SegOk s lines) : ws (at' lines s.hd) = [("on" : Str), s.nm] := by
  rw [two_words h.line.1, h.line.2.1, h.line.2.2]
theorem seg_same {s : Seg} {lines : List Str} {line : Str} (h : SegOk s lines) (h2 : (ws line).length = 2) (h0 : wd (ws line) 0 = "on") : decide (at' lines s.hd = line) = decide (s.nm = wd (ws line) 1) := by
  refine decide_eq_decide.mpr ⟨fun e => ?_, fun e => ws_inj ?_⟩
  · rw [← e, h.line.2.2]
  · rw [seg_line h, two_words h2, h0, e]
section
variable {P : Program} {w : World} {K : PySem.W.Frag} {mg : Str → Option Value} {base : Heap}
/-! the first line, as the law asks -/
def cellBad (l : List Str) : Bool := !decide (wd l 0 = "cells") || (!(decide ((2 : Int) ≤ l.length) && decide ((l.length : Int) ≤ 7)) || !((l.drop 1).filter fun w : Str => !decide (w = "none") && (!decide ((w.length : Int) = 1) || !isDig w)).isEmpty)
theorem cell_bad (w : Str) : (!decide (w = "none") && (!decide ((w.length : Int) = 1) || !isDig w)) = !isCell w := by
  unfold isCell
  cases e : isDig w with
  | true =>
    have : decide ((w.length : Int) = 1) = true := by
      unfold isDig at e
      exact (Bool.and_eq_true_iff.mp e).1
    rw [this, Bool.or_true]
    simp
  | false => rw [Bool.or_false]; simp
theorem cellBad_is (line : Str) : cellBad (ws line) = isNone (cellsD line) := by
  unfold cellBad cellsD cC
  rw [show ((ws line).drop 1).filter (fun w : Str => !decide (w = "none") && (!decide ((w.length : Int) = 1) || !isDig w)) = ((ws line).drop 1).filter fun w => !isCell w from List.filter_congr fun w _ => cell_bad w, filt_none]
  cases decide (wd (ws line) 0 = "cells") <;> cases (decide ((2 : Int) ≤ (ws line).length) && decide (((ws line).length : Int) ≤ 7)) <;> cases ((ws line).drop 1).all isCell <;> rfl
theorem names_any (segs : List Seg) (nm : Str) : (!((segs.filter fun s => decide (s.nm = nm)).map fun s => PyData.int (s.hd : Nat)).isEmpty) = decide (nm ∈ nms segs) := by
  rw [List.isEmpty_map]
  induction segs with
  | nil => rfl
  | cons a l ih =>
    rw [List.filter_cons]
    show _ = decide (nm ∈ a.nm :: nms l)
    by_cases c : a.nm = nm
    · rw [if_pos (by rw [decide_eq_true c]), decide_eq_true (by rw [c]; exact List.mem_cons_self)]
      rfl
    · rw [if_neg (by rw [decide_eq_false c]; decide), ih]
      refine decide_eq_decide.mpr ?_
      rw [List.mem_cons]
      exact ⟨.inr, fun h => h.elim (fun z => absurd z.symm c) id⟩
theorem perm_empty {α : Type} {a b : List α} (p : a.Perm b) : a.isEmpty = b.isEmpty := by
  cases a with
  | nil => rw [List.nil_perm.mp p]
  | cons x r =>
    cases b with
    | nil => exact absurd p.length_eq (by simp)
    | cons y s => rfl
theorem q_retT2 {ta : TE} {σ : L2.St} {S H : Hp} {x : PyData} {w : V} {j : Nat} {D : Ends} (ha : EvD K ta σ S x) (i : Same S H) (hb : σ[j]? = some (some w)) (k : ∀ v S1 H1 t, G0 S H S1 H1 → Dp K S1 v x → H1 t = none → D.rt (.ref t) (upd H1 t (.tup [v, w]))) :
    tRet (tTup (tCons ta (tCons (tVar j) tNil))) D σ H := ha H i _ fun v S1 H1 g p => ⟨w, hb, lz 2 rfl, fun t ht => k v S1 H1 t g p ht⟩
theorem cells_all {line : Str} (h : isNone (cellsD line) = false) : ((ws line).drop 1).all isCell = true := by
  unfold cellsD at h
  split at h
  · split at h
    · rename_i c; exact c
    · cases h
  · cases h
theorem cut_mid (xs : List PyData) {a b : Nat} (ha : a ≤ xs.length) (hb : b ≤ xs.length) : cutD xs (some (a : Int)) (some (b : Int)) = (xs.drop a).take (b - a) := by
  unfold cutD
  rw [HT.sIx_nat, HT.sIx_nat, Nat.min_eq_left ha, Nat.min_eq_left hb]
theorem take_snoc' {α : Type} {l : List α} {k : Nat} {x : α} (h : l[k]? = some x) : l.take (k + 1) = l.take k ++ [x] := by
  rw [List.take_add_one, h]
  rfl
theorem nm_new {segs : List Seg} {k : Nat} {s : Seg} (nd : (nms segs).Nodup) (hs : segs[k]? = some s) : s.nm ∉ nms (segs.take k) := by
  intro h
  have e : nms segs = nms (segs.take k) ++ nms (segs.drop k) := by rw [← List.map_append, List.take_append_drop]
  rw [e, List.nodup_append] at nd
  have hk : k < segs.length := (List.getElem?_eq_some_iff.mp hs).1
  refine nd.2.2 s.nm h s.nm ?_ rfl
  refine List.mem_map.mpr ⟨s, ?_, rfl⟩
  have : (segs.drop k)[0]? = some s := by rw [List.getElem?_drop]; exact hs
  exact List.mem_of_getElem? this
theorem sc_L_program : FnScope ["_law_thing", "_law_text", "_law_lines", "_law_words", "_law_word", "_law_heads", "_law_at", "_law_one", "_law_methods", "_law_ends", "_law_k", "_law_rows", "_law_wrong", "_law_call"] ["_law_thing", "_law_text"] (defScope Zh.s_L_program) := ⟨rfl, rfl, rfl, by decide +kernel, rfl, by decide +kernel, by decide +kernel⟩
theorem ok_L_program (M : Mo K mg) (D : Df K mg "_law_program" Zh.s_L_program) (f_L_is_name : Fn CX0 P w K mg base "_law_is_name" 1 ["_law_word"] (spName K)) (f_L_is_line : Fn CX0 P w K mg base "_law_is_line" 2 ["_law_line"] (spLine K fun line => .bool (lineB line)))
    (f_L_wrong_method : Fn CX0 P w K mg base "_law_wrong_method" 3 ["_law_lines"] (spF K (fun l : List Str => [.list (l.map .str)]) Ms fun l => optD (wrongM l))) (f_L_calls : Fn CX0 P w K mg base "_law_calls" 1 ["_law_thing"] (spLCalls K)) :
    Fn CX0 P w K mg base "_law_program" 4 ["_law_thing", "_law_text"] (spLProg K) :=
  fn_mkG D.1 D.2 (fun _ _ _ _ _ _ us hl => match us, hl with | [_, _], _ => rfl) sc_L_program (fun _ => rfl) fun cdv A outer s H E hr => ⟨_, (pss_cons (ps_if (pt_not (pt_val (pe_callB (id := "isinstance") call_isi (by rfl) M.isinstance (by decide +kernel) (pa_cons (pv 1) (pa_cons (pe_bltn (v := .ty "str") (by rfl) M.str (by decide +kernel) rfl) pa_nil))))) (pss_one (ps_ret (pe_tup (pa_cons pe_str (pa_cons pe_str pa_nil))))) pss_nil)
    (pss_cons (ps_set (i := 2) sc_L_program.nd rfl (Or.inr rfl) (pe_split (pv 1) pe_str))
    (pss_cons (ps_if (pt_cmpR op_gt (pe_callB (id := "len") call_len (by rfl) M.len (by decide +kernel) (pa_cons (pv 2) pa_nil)) pe_int (nomark _)) (pss_one (ps_ret (pe_tup (pa_cons pe_str (pa_cons pe_int pa_nil))))) pss_nil)
    (pss_cons (ps_set (i := 3) sc_L_program.nd rfl (Or.inl rfl) (pe_split (pe_ix (r := rIxL K) ix_list (pv 2) pe_int (fun _ _ => rfl)) pe_str))
    (pss_cons (ps_if (PW.pt (pw_or (pt_cmpR op_ne (pe_ix (r := rIxL K) ix_list (pv 3) pe_int (fun _ _ => rfl)) pe_str (nomark _)) (pw_or (pt_not (pt_chain op_le op_le pe_int (pe_callB (id := "len") call_len (by rfl) M.len (by decide +kernel) (pa_cons (pv 3) pa_nil)) pe_int)) (pw_or1 (pt_cmpR (op_neNil hr.units0) (pe_lc (own := [("_law_word", 4)]) (g := gName 4) rfl sc_L_program.nd (pi_list (pe_slice sl_list (pv 3) (po_some pe_int) po_none)) (blkOk_by (own := [("_law_word", 4)]) (N := ["_law_thing", "_law_text", "_law_lines", "_law_words", "_law_word", "_law_heads", "_law_at", "_law_one", "_law_methods", "_law_ends", "_law_k", "_law_rows", "_law_wrong", "_law_call"]) (sc := defScope Zh.s_L_program) (by decide +kernel)) (fun _ _ _ _ _ => (pg_name (i := 4) sc_L_program.nd rfl (Or.inl rfl))) (fun _ _ _ _ _ => pts_one (PW.pt (pw_and (pt_cmpR op_ne (pv 4) pe_str (nomark _)) (pw_and1 (PW.pt (pw_or (pt_cmpR op_ne (pe_callB (id := "len") call_len (by rfl) M.len (by decide +kernel) (pa_cons (pv 4) pa_nil)) pe_int (nomark _)) (pw_or1 (pt_cmpR op_notIn_sign (pv 4) pe_str (by rfl))))))))) (fun _ _ _ _ _ => (pv 4))) (pe_lst pa_nil) (nomark _)))))) (pss_one (ps_ret (pe_tup (pa_cons pe_str (pa_cons pe_int pa_nil))))) pss_nil)
    (pss_cons (ps_set (i := 5) sc_L_program.nd rfl (Or.inl rfl) (pe_lst pa_nil))
    (pss_cons (ps_for PassesOwn.never rfl (pi_range2 rfl M.range (pa_cons pe_int (pa_cons (pe_callB (id := "len") call_len (by rfl) M.len (by decide +kernel) (pa_cons (pv 2) pa_nil)) pa_nil))) (pg_name (i := 6) sc_L_program.nd rfl (Or.inr rfl)) (pss_cons (ps_set (i := 3) sc_L_program.nd rfl (Or.inl rfl) (pe_split (pe_ix (r := rIxL K) ix_list (pv 2) (pv 6) (fun _ _ => rfl)) pe_str))
    (pss_one (ps_if (pt_cmpR op_eq (pe_ix (r := rIxL K) ix_list (pv 3) pe_int (fun _ _ => rfl)) pe_str (nomark _)) (pss_cons (ps_if (PW.pt (pw_or (pt_cmpR op_ne (pe_callB (id := "len") call_len (by rfl) M.len (by decide +kernel) (pa_cons (pv 3) pa_nil)) pe_int (nomark _)) (pw_or (pt_not (pt_val (pe_fn f_L_is_name (hr.mono (by decide)) rfl (pa_cons (pe_ix (r := rIxL K) ix_list (pv 3) pe_int (fun _ _ => rfl)) pa_nil)))) (pw_or1 (pt_cmpR (op_neNil hr.units0) (pe_lc (own := [("_law_one", 7)]) (g := gName 7) rfl sc_L_program.nd (pi_list (pv 5)) (blkOk_by (own := [("_law_one", 7)]) (N := ["_law_thing", "_law_text", "_law_lines", "_law_words", "_law_word", "_law_heads", "_law_at", "_law_one", "_law_methods", "_law_ends", "_law_k", "_law_rows", "_law_wrong", "_law_call"]) (sc := defScope Zh.s_L_program) (by decide +kernel)) (fun _ _ _ _ _ => (pg_name (i := 7) sc_L_program.nd rfl (Or.inl rfl))) (fun _ _ _ _ _ => pts_one (pt_cmpR op_eq (pe_ix (r := rIxL K) ix_list (pv 2) (pv 7) (fun _ _ => rfl)) (pe_ix (r := rIxL K) ix_list (pv 2) (pv 6) (fun _ _ => rfl)) (nomark _))) (fun _ _ _ _ _ => (pv 7))) (pe_lst pa_nil) (nomark _)))))) (pss_one (ps_ret (pe_tup (pa_cons pe_str (pa_cons (pv 6) pa_nil))))) pss_nil)
    (pss_one (ps_expr (pe_bm PySem.F.plainAttrs_list PySem.F.slot_list_append PySem.F.type_list_append mt_append (pv 5) (pa_cons (pv 6) pa_nil))))) (pss_one (ps_if (PW.pt (pw_or (pt_cmpR (op_eqNil hr.units0) (pv 5) (pe_lst pa_nil) (nomark _)) (pw_or1 (pt_not (pt_val (pe_fn f_L_is_line (hr.mono (by decide)) rfl (pa_cons (pe_ix (r := rIxL K) ix_list (pv 2) (pv 6) (fun _ _ => rfl)) pa_nil))))))) (pss_one (ps_ret (pe_tup (pa_cons pe_str (pa_cons (pv 6) pa_nil))))) pss_nil))))))
    (pss_cons (ps_asg (pe_tup (pa_cons pe_dnewK (pa_cons (pe_op op_cat (pv 5) (pe_lst (pa_cons (pe_callB (id := "len") call_len (by rfl) M.len (by decide +kernel) (pa_cons (pv 2) pa_nil)) pa_nil))) pa_nil))) (pg_tup rfl (pgs_cons (pg_name (i := 8) sc_L_program.nd rfl (Or.inr rfl)) (pgs_cons (pg_name (i := 9) sc_L_program.nd rfl (Or.inl rfl)) pgs_nil))))
    (pss_cons (ps_for PassesOwn.never rfl (pi_range1 rfl M.range (pa_cons (pe_callB (id := "len") call_len (by rfl) M.len (by decide +kernel) (pa_cons (pv 5) pa_nil)) pa_nil)) (pg_name (i := 10) sc_L_program.nd rfl (Or.inl rfl)) (pss_cons (ps_set (i := 11) sc_L_program.nd rfl (Or.inl rfl) (pe_slice sl_list (pv 2) (po_some (pe_op op_add (pe_ix (r := rIxL K) ix_list (pv 5) (pv 10) (fun _ _ => rfl)) pe_int)) (po_some (pe_ix (r := rIxL K) ix_list (pv 9) (pe_op op_add (pv 10) pe_int) (fun _ _ => rfl)))))
    (pss_cons (ps_if (pt_cmpR (op_eqNil hr.units0) (pv 11) (pe_lst pa_nil) (nomark _)) (pss_one (ps_ret (pe_tup (pa_cons pe_str (pa_cons (pe_ix (r := rIxL K) ix_list (pv 5) (pv 10) (fun _ _ => rfl)) pa_nil))))) pss_nil)
    (pss_cons (ps_set (i := 12) sc_L_program.nd rfl (Or.inl rfl) (pe_fn f_L_wrong_method (hr.mono (by decide)) rfl (pa_cons (pv 11) pa_nil)))
    (pss_cons (ps_if (pt_cmpR op_notN (pv 12) pe_non (nomark _)) (pss_one (ps_ret (pe_tup (pa_cons pe_str (pa_cons (pe_op op_add (pe_op op_add (pe_ix (r := rIxL K) ix_list (pv 5) (pv 10) (fun _ _ => rfl)) pe_int) (pv 12)) pa_nil))))) pss_nil)
    (pss_one (ps_dput (hu_of hr) (pv 8) (pe_slice sl_str (pe_ix (r := rIxL K) ix_list (pv 2) (pe_ix (r := rIxL K) ix_list (pv 5) (pv 10) (fun _ _ => rfl)) (fun _ _ => rfl)) (po_some pe_int) po_none) (pv 11) rfl)))))))
    (pss_cons (ps_if (pt_cmpR (op_neNil hr.units0) (pe_lc (own := [("_law_call", 13)]) (g := gName 13) rfl sc_L_program.nd (pi_list (pe_fn f_L_calls (hr.mono (by decide)) rfl (pa_cons (pv 0) pa_nil))) (blkOk_by (own := [("_law_call", 13)]) (N := ["_law_thing", "_law_text", "_law_lines", "_law_words", "_law_word", "_law_heads", "_law_at", "_law_one", "_law_methods", "_law_ends", "_law_k", "_law_rows", "_law_wrong", "_law_call"]) (sc := defScope Zh.s_L_program) (by decide +kernel)) (fun _ _ _ _ _ => (pg_name (i := 13) sc_L_program.nd rfl (Or.inl rfl))) (fun _ _ _ _ _ => pts_one (pt_cmp (pc_dnotin (hu_of hr) (pe_ix (r := rIxT K) ix_tup (pv 13) pe_int (fun _ _ => rfl)) (pv 8)) (by rfl))) (fun _ _ _ _ _ => (pv 13))) (pe_lst pa_nil) (nomark _)) (pss_one (ps_ret (pe_tup (pa_cons pe_str (pa_cons pe_str pa_nil))))) pss_nil)
    (pss_one (ps_ret (pe_tup (pa_cons (pe_callTy call_tuple_of (by rfl) M.tuple (by decide +kernel) (pa_cons (pe_lc (own := [("_law_word", 4)]) (g := gName 4) rfl sc_L_program.nd (pi_list (pe_slice sl_list (pe_split (pe_ix (r := rIxL K) ix_list (pv 2) pe_int (fun _ _ => rfl)) pe_str) (po_some pe_int) po_none)) (blkOk_by (own := [("_law_word", 4)]) (N := ["_law_thing", "_law_text", "_law_lines", "_law_words", "_law_word", "_law_heads", "_law_at", "_law_one", "_law_methods", "_law_ends", "_law_k", "_law_rows", "_law_wrong", "_law_call"]) (sc := defScope Zh.s_L_program) (by decide +kernel)) (fun _ _ _ _ _ => (pg_name (i := 4) sc_L_program.nd rfl (Or.inl rfl))) (fun _ _ _ _ _ => pts_nil) (fun _ _ _ _ _ => (pe_ifExp (pt_cmpR op_eq (pv 4) pe_str (nomark _)) pe_non (pe_callTy call_int_str (by rfl) M.int (by decide +kernel) (pa_cons (pv 4) pa_nil))))) pa_nil)) (pa_cons (pv 8) pa_nil))))))))))))))), fun i vs S0 H0 i0 pre p D q => by
    obtain ⟨th, d⟩ := i
    obtain ⟨ok, vo⟩ := pre
    dsimp only at ok vo q
    obtain ⟨v, r, rfl, pv, pr⟩ := dpAll_cons p
    obtain ⟨u, r2, rfl, pu, pr2⟩ := dpAll_cons pr
    obtain rfl := dpAll_nil pr2
    have due : ∀ {S1 H1 : Hp} {v1 : V} {n : Option Nat}, G0 S0 H0 S1 H1 → Dp K S1 v1 (badD n) → readV (wordsOf th) d = .bad n → D.rt v1 H1 := fun g p e => q _ _ _ g (by rw [e]; exact p)
    have no : ∀ tz, kitB (tyD d) "str" = some false → readV (wordsOf th) d = .bad none → tSeq (tIfS (tNot (tB (tCB (rIsi K) (tCons (tVar 1) (tCons (tC (.ty "str")) tNil))))) (tRet (tTup (tCons (tC (.str "bad")) (tCons (tC (.str "none")) tNil)))) tNext) tz D (start ["_law_thing", "_law_text", "_law_lines", "_law_words", "_law_word", "_law_heads", "_law_at", "_law_one", "_law_methods", "_law_ends", "_law_k", "_law_rows", "_law_wrong", "_law_call"] [v, u]) H0 := fun tz e1 e2 =>
      q_if (b := !false) (Sees.refl i0) (et_not (et_B (ev_isi (b := false) (ev_var rfl pu) e1))) (fun _ H2 g2 => q_ret (ev_tup (ea_cons (ev_c (.str _)) (ea_one (ev_c (.str _)))) (lz 2 rfl)) g2.i fun v1 S3 H3 g3 p3 => due (n := none) (g2.trans g3) p3 e2) fun h => by cases h
    cases vo with
    | non => exact no _ (by rfl) rfl
    | int n => exact no _ (by rfl) rfl
    | lst ds => exact no _ (by rfl) rfl
    | @str text hz =>
      clear no
      have hp := lns_pos text
      have hsh := lns_sh hz
      have rd : ∀ {r}, readR (wordsOf th) text = r → readV (wordsOf th) (.str text) = r := fun e => e
      refine q_no (b := !true) (Sees.refl i0) (et_not (et_B (ev_isi (b := true) (ev_var rfl pu) (by rfl)))) rfl fun H2 g2 => ?_
      refine q_asg (K := K) (ev_lines hz (ev_var rfl pu) (ev_c (.str _))) g2.i fun v2 S3 H3 g3 p2 => ?_
      have g4 := g2.trans g3
      obtain ⟨lines, hlines⟩ : ∃ lines, lines = lns text := ⟨_, rfl⟩
      rw [← hlines] at hp hsh p2
      refine q_if (b := decide (60 < lines.length)) (Sees.refl g4.i) (et_is (et_val (ev_op rv_gt (ev_lenW (ev_var rfl p2)) (ev_c (.int 60)))) (decide_eq_decide.mpr (by omega))) (fun h H5 g5 => ?_) fun h H5 g5 => ?_
      · refine q_ret (ev_tup (ea_cons (ev_c (.str "bad")) (ea_one (ev_c (.int 60)))) (lz 2 rfl)) g5.i fun v1 S6 H6 g6 p6 => due (n := some 60) ((g4.trans g5).trans g6) p6 (rd ?_)
        unfold readR
        rw [← hlines, if_pos (of_decide_eq_true h)]
      have h60 : ¬ 60 < lines.length := of_decide_eq_false h
      have T : Tx lines := ⟨hp, by omega, hsh⟩
      have g6 := g4.trans g5
      have hl0 : shortL (at' lines 0) := hsh _ (at_mem hp)
      refine q_asg (K := K) (ev_words hl0 (ev_op (rv_ixL (at_line (n := 0) hp)) (ev_var rfl p2) (ev_c (.int _))) (ev_c (.str _))) g6.i fun v3 S7 H7 g7 p3 => ?_
      have g8 := g6.trans g7
      have W0 := ws_wds hl0
      refine q_if (b := cellBad (ws (at' lines 0))) (Sees.refl g8.i) (et_or (et_val (ev_op rv_nes (ev_w (ws_pos _) (ev_var rfl p3) (ev_c (.int _))) (ev_c (.str _)))) fun _ => et_or (et_not (et_val (ev_chain rv_le (fun _ => rv_le) (ev_c (.int _)) (ev_lenW (ev_var rfl p3)) (ev_c (.int _))))) fun _ => et_is (et_val (ev_op rv_nenil (ec_list (e := PyData.str) (l := (ws (at' lines 0)).drop 1) (f := fun w : Str => !decide (w = "none") && (!decide ((w.length : Int) = 1) || !isDig w)) (g := PyData.str) (ev_from (ev_var rfl p3) (ev_c (.int _))) (by rw [List.length_drop]; have := W0.lt; omega) (fun _ => rfl)
        (fun a ha x S9 _ px => et_and (et_val (ev_op rv_nes (ev_var rfl px) (ev_c (.str _)))) fun _ => et_or (et_val (ev_op rv_nei (ev_cb (rc_lenS (W0.sh a (List.mem_of_mem_drop ha)).le) (ea_one (ev_var rfl px))) (ev_c (.int _)))) fun h1 => ?_) (fun a _ _ x S9 _ px => ev_var rfl px)) (ev_lst ea_nil (lz 0 rfl)))) (by rw [List.isEmpty_map])) (fun h H9 g9 => ?_) fun h H9 g9 => ?_
      · obtain ⟨c, rfl⟩ := one_sign (w := a) (by have := of_decide_eq_true (Bool.not_eq_eq_eq_not.mp h1); omega)
        exact et_is (et_val (ev_op rv_nsign (ev_var rfl px) (ev_c (.str _)))) (by rw [one_dig])
      · refine q_ret (ev_tup (ea_cons (ev_c (.str "bad")) (ea_one (ev_c (.int 0)))) (lz 2 rfl)) g9.i fun v1 S6 H6 g6 p6 => due (n := some 0) ((g8.trans g9).trans g6) p6 (rd ?_)
        unfold readR
        rw [← hlines, if_neg h60, if_pos (by rw [← cellBad_is]; exact h)]
      have hcell : isNone (cellsD (at' lines 0)) = false := by rw [← cellBad_is]; exact h
      have g10 := g8.trans g9
      have p2a := dp_same ((g5.trans g7).trans g9).s p2
      refine q_asgN (K := K) (ds := nD []) (en_lst ea_nil (lz 0 rfl)) g10.i fun lh S11 H11 g11 hlh mh => ?_
      have g12 := g10.trans g11
      have h0 : H0 lh = none := g10.fresh hlh
      have p2b := dp_same g11.s p2a
      refine q_forR (S := S11) (ir_2n (K := K) (a := 1) (n := lines.length) (ea_cons (ev_c (.int _)) (ea_one (ev_lenW (ev_var rfl p2b)))) (by omega) (by omega) H11 g12.i) (n := lines.length - 1) (lo := 1) (fun i σ' H' => ∃ Sx segs o3 o4 o6 o7, G0 S0 H0 Sx H' ∧ Same S11 Sx ∧ scanS lines i = some segs ∧ segs.length ≤ i ∧ Mu K Sx H' lh (nD (segs.map (·.hd))) ∧ σ' = [some v, some u, some v2, o3, o4, some (.ref lh), o6, o7, none, none, none, none, none, none]) ?_ ?_ ?_
      · exact fun S13 H13 g13 => ⟨S13, [], _, _, _, _, g12.trans g13, g13.s, rfl, Nat.le_refl _, mh.g0 g13, rfl⟩
      · rintro i _ H13 hi ⟨S13, segs, o3, o4, o6, o7, g13, s13, sc, sl, m13, rfl⟩
        have e1 : ((1 : Int) + i) = ((i + 1 : Nat) : Int) := by omega
        rw [e1]
        have hn : i + 1 < lines.length := by omega
        have sok := scan_ok (Nat.lt_of_succ_lt hn) sc
        have hs1 : shortL (at' lines (i + 1)) := hsh _ (at_mem hn)
        have p2c := dp_same s13 p2b
        refine q_asg (K := K) (ev_words hs1 (ev_op (rv_ixL (at_line hn)) (ev_var rfl p2c) (ev_var rfl (.int _))) (ev_c (.str _))) g13.i fun v3 S14 H14 g14 p14 => ?_
        have g15 := g13.trans g14
        have m15 := m13.g0 g14
        have W1 := ws_wds hs1
        have bad : ∀ {S1 H1 : Hp} {v1 : V}, G0 S0 H0 S1 H1 → Dp K S1 v1 (.tuple [.str "bad", .int ((i + 1 : Nat) : Int)]) → scanS lines (i + 1) = none → D.rt v1 H1 := fun g p e => due (n := some (i + 1)) g p (rd (by
          unfold readR
          rw [← hlines, if_neg h60, if_neg (by rw [hcell]; decide), methBad_line hn sc e]))
        refine q_ifE (b := isOn (at' lines (i + 1))) (Sees.refl g15.i) (et_val (ev_op rv_eqs (ev_w (ws_pos _) (ev_var rfl p14) (ev_c (.int _))) (ev_c (.str _)))) (fun h H16 g16 => ?_) fun h H16 g16 => ?_
        · have g17 := g15.trans g16
          have m17 := m15.g0 g16
          obtain ⟨S18, z18, e18, rl18, _⟩ := m17.see1 g17.i
          have p18 := dp_same e18 p14
          have p2d := dp_same (g14.s.trans e18) p2c
          have l2 : (!decide (((ws (at' lines (i + 1))).length : Int) = 2)) = false → 1 < (ws (at' lines (i + 1))).length := fun h => by
            have := of_decide_eq_true (Bool.not_eq_eq_eq_not.mp h)
            omega
          refine q_if (b := onBad (nms segs) (at' lines (i + 1))) z18 (et_or (et_val (ev_op rv_nei (ev_lenW (ev_var rfl p18)) (ev_c (.int _)))) fun h1 => et_or (et_not (et_B (ev_call (wd (ws (at' lines (i + 1))) 1) (W1.wd (l2 h1)) (ea_one (ev_w (l2 h1) (ev_var rfl p18) (ev_c (.int _))))))) fun _ => et_is (et_val (ev_op rv_nenil (ec_list (e := fun s : Seg => PyData.int (s.hd : Nat)) (l := segs) (f := fun s => decide (s.nm = wd (ws (at' lines (i + 1))) 1)) (g := fun s => PyData.int (s.hd : Nat)) (ev_is (ev_var rfl rl18.d) (by show PyData.list ((segs.map (·.hd)).map fun n : Nat => PyData.int (n : Int)) = _; rw [List.map_map]; rfl)) (by omega) (fun _ => rfl)
            (fun s hs x S19 i19 px => ?_) (fun s _ _ x S19 _ px => ev_var rfl px)) (ev_lst ea_nil (lz 0 rfl)))) (names_any _ _)) (fun h2 H19 g19 => ?_) fun h2 H19 g19 => ?_
          · have so := sok.ok s hs
            obtain rfl := dp_int px
            have p2e := dp_same i19 p2d
            exact et_is (et_val (ev_op rv_eqs (ev_op (rv_ixL (at_line so.lt)) (ev_var rfl p2e) (ev_var rfl (.int _))) (ev_op (rv_ixL (at_line hn)) (ev_var rfl p2e) (ev_var rfl (.int _))))) (seg_same so (by have := l2 h1; have := of_decide_eq_true (Bool.not_eq_eq_eq_not.mp h1); omega) (of_decide_eq_true h))
          · exact q_ret (ev_tup (ea_cons (ev_c (.str "bad")) (ea_one (ev_var rfl (.int _)))) (lz 2 rfl)) g19.i fun v1 S20 H20 g20 p20 => bad ((g17.trans g19).trans g20) p20 (by rw [scan_more sc, stepS_on h, if_pos h2])
          · have g20 := g17.trans g19
            refine s_appK rfl (m17.g0 g19) (ev_var rfl (.int _)) g19.i (by rw [List.length_map, List.length_map]; omega) fun S21 H21 g21 m21 => ?_
            refine ⟨S21, segs ++ [⟨wd (ws (at' lines (i + 1))) 1, i + 1, []⟩], _, _, _, _, g20.own g21 fun b e => .inr (e ▸ h0), s13.trans (g14.s.trans (g16.s.trans (g19.s.trans g21.s))), ?_, ?_, ?_, rfl⟩
            · rw [scan_more sc, stepS_on h, if_neg (by rw [h2]; decide)]
            · rw [List.length_append, List.length_singleton]
              omega
            · rw [List.map_append]
              show Mu K S21 H21 lh (nD (_ ++ [i + 1]))
              rw [nD_snoc]
              exact m21
        · have g17 := g15.trans g16
          have m17 := m15.g0 g16
          obtain ⟨S18, z18, e18, rl18, _⟩ := m17.see1 g17.i
          have p2d := dp_same (g14.s.trans e18) p2c
          refine q_ifE (b := segs.isEmpty || !lineB (at' lines (i + 1))) z18 (et_or (et_is (et_val (ev_op rv_eqnil (ev_var rfl rl18.d) (ev_lst ea_nil (lz 0 rfl)))) (by cases segs <;> rfl)) fun _ => et_not (et_B (ev_call (at' lines (i + 1)) hs1 (ea_one (ev_op (rv_ixL (at_line hn)) (ev_var rfl p2d) (ev_var rfl (.int _))))))) (fun h2 H19 g19 => ?_) fun h2 H19 g19 => ?_
          · rw [lineB_eq, Bool.not_not, Bool.or_comm] at h2
            exact q_ret (ev_tup (ea_cons (ev_c (.str "bad")) (ea_one (ev_var rfl (.int _)))) (lz 2 rfl)) g19.i fun v1 S20 H20 g20 p20 => bad ((g17.trans g19).trans g20) p20 (by rw [scan_more sc, stepS_row h, if_pos h2])
          · rw [lineB_eq, Bool.not_not, Bool.or_comm] at h2
            have hne : segs ≠ [] := fun z => by rw [z] at h2; rw [Bool.or_eq_false_iff] at h2; cases h2.2
            obtain ⟨pre, s, rfl⟩ : ∃ l x, segs = l ++ [x] := ⟨segs.dropLast, segs.getLast hne, (List.dropLast_concat_getLast hne).symm⟩
            refine ⟨S14, pre ++ [⟨s.nm, s.hd, s.rows ++ [at' lines (i + 1)]⟩], _, _, _, _, g17.trans g19, s13.trans g14.s, ?_, ?_, ?_, rfl⟩
            · rw [scan_more sc, stepS_row h, if_neg (by rw [h2]; decide), addRow_snoc]
            · rw [List.length_append, List.length_singleton] at sl ⊢
              omega
            · have := m17.g0 g19
              rw [List.map_append] at this ⊢
              exact this
      · rintro _ H13 ⟨S13, segs, o3, o4, o6, o7, g13, s13, sc, sl, m13, rfl⟩
        have sok := scan_ok (by omega) sc
        have es := segsOf_is sc
        have eb := methBad_seg sc
        obtain ⟨S14, g14, e14, rl14, _⟩ := m13.frz g13 h0
        have p2c := dp_same (s13.trans e14) p2b
        have pvc := dp_same g14.s pv
        have hl : ∀ l : List Nat, ∀ {k x : Nat}, l[k]? = some x → atI (nD l) (k : Int) = some (.int (x : Int)) := fun l k x e => atI_nat (by rw [List.getElem?_map, e]; rfl)
        refine fun pm hpm => ?_
        have gm := Go.newM (o := .dK []) g14.i hpm
        refine en_cat (K := K) (σ := [some v, some u, some v2, o3, o4, some (.ref lh), o6, o7, none, none, none, none, none, none]) (er_var (j := 5) rfl rl14) (en_lst (ds := [.int (lines.length : Nat)]) (ea_one (ev_lenW (ev_var (i := 2) rfl p2c))) (lz 1 rfl)).r (by rw [List.length_map, List.length_map]; exact Nat.le_trans (show _ ≤ 1000 by simp; omega) (by decide)) _ gm.i _ fun le xe S15 H15 g15 a1 a2 a3 pe => ?_
        have g16 := (g14.trans gm).trans g15
        have hle0 : H0 le = none := (g14.trans gm).fresh a1
        have hpm0 : H0 pm = none := g14.fresh hpm
        have hpmS : S15 pm = none := g15.out (g14.i.free hpm) (by rw [upd_same]; exact Option.some_ne_none _)
        have hpmH : H15 pm = some (.dK []) := g15.same _ _ upd_same
        have npl : pm ≠ le := fun e => by rw [e] at hpmH; rw [hpmH] at a3; cases a3
        have g17 := g16.frz a2 hle0 a3
        refine ⟨lz 2 rfl, fun t ht => ⟨t, _, rfl, SqT.of upd_same, rfl, _, _, rfl, _, _, rfl, rfl, ?_⟩⟩
        have gt := Go.newM (o := .tup [.ref pm, .ref le]) g17.i ht
        have g18 := g17.trans gt
        obtain ⟨S17, hS17⟩ : ∃ S17, S17 = upd S15 le (.lst xe) := ⟨_, rfl⟩
        have sS : Same S15 S17 := by rw [hS17]; exact same_upd a2
        rw [← hS17] at g17 gt g18
        have pends : Dp K S17 (.ref le) (.list (nD (segs.map (·.hd) ++ [lines.length]))) := by
          rw [nD_snoc]
          exact .lst (SqL.of (by rw [hS17]; exact upd_same)) (dpAll_same sS pe)
        have hpm17 : S17 pm = none := by rw [hS17, upd_ne npl]; exact hpmS
        have rl17 : Dp K S17 (.ref lh) (.list (nD (segs.map (·.hd)))) := (rl_same (g15.s.trans sS) rl14).d
        have p2d := dp_same (g15.s.trans sS) p2c
        have hpmH' : (upd H15 t (.tup [.ref pm, .ref le])) pm = some (.dK []) := by
          rw [upd_ne, hpmH]
          rintro rfl
          rw [hpmH] at ht
          cases ht
        refine q_forR (S := S17) (ir_1 (K := K) (n := (segs.length : Nat)) (ea_one (ev_is (ev_cb rc_lenL (ea_one (ev_var (i := 5) rfl rl17))) (by rw [List.length_map, List.length_map]))) (by omega) (by omega) _ g18.i) (n := segs.length) (lo := 0) (fun k σ' H' => ∃ Sx kvs o3 o4 o6 o7 o10 o11 o12, G0 S0 H0 Sx H' ∧ Same S17 Sx ∧ Sx pm = none ∧ H' pm = some (.dK kvs) ∧ kvs.map (·.1) = (nms (segs.take k)).map Sum.inr ∧ (∀ j t, j < k → segs[j]? = some t → segBad t = none) ∧ σ' = [some v, some u, some v2, o3, o4, some (.ref lh), o6, o7, some (.ref pm), some (.ref le), o10, o11, o12, none]) ?_ ?_ ?_
        · exact fun S19 H19 g19 => ⟨S19, [], _, _, _, _, _, _, _, g18.trans g19, g19.s, g19.out hpm17 (by rw [hpmH']; exact Option.some_ne_none _), g19.same _ _ hpmH', rfl, by omega, rfl⟩
        · rintro k _ H19 hk ⟨S19, kvs, o3, o4, o6, o7, o10, o11, o12, g19, s19, m19, h19, kk, nb, rfl⟩
          rw [Int.zero_add]
          obtain ⟨s, hs⟩ : ∃ s, segs[k]? = some s := ⟨_, List.getElem?_eq_getElem hk⟩
          have so := sok.ok s (List.mem_of_getElem? hs)
          have hhd : (segs.map (·.hd))[k]? = some s.hd := by rw [List.getElem?_map, hs]; rfl
          obtain ⟨en, hen⟩ : ∃ en, en = (segs[k + 1]?.map (·.hd)).getD lines.length := ⟨_, rfl⟩
          have hends : (segs.map (·.hd) ++ [lines.length])[k + 1]? = some en := by
            cases e : segs[k + 1]? with
            | none =>
              rw [e] at hen
              have : segs.length = k + 1 := by
                have := List.getElem?_eq_none_iff.mp e
                omega
              rw [List.getElem?_append_right (by rw [List.length_map]; omega), List.length_map, this, Nat.sub_self, hen]
              rfl
            | some s2 =>
              rw [e] at hen
              rw [List.getElem?_append_left (by rw [List.length_map]; exact (List.getElem?_eq_some_iff.mp e).1), List.getElem?_map, e, hen]
              rfl
          have hen2 : en ≤ lines.length := by
            cases e : segs[k + 1]? with
            | none => rw [hen, e]; exact Nat.le_refl _
            | some s2 => rw [hen, e]; exact Nat.le_of_lt (sok.ok s2 (List.mem_of_getElem? e)).lt
          have hrows : s.rows = (lines.drop (s.hd + 1)).take (en - (s.hd + 1)) := by
            have := slc_at sok.slc hs
            rw [show lines.length - 1 + 1 = lines.length by omega, ← hen] at this
            exact this
          have q2 := dp_same s19 p2d
          have qh := dp_same s19 rl17
          have qe := dp_same s19 pends
          have ehd : ∀ {σ : L2.St} {S1 : Hp}, Same S19 S1 → σ[5]? = some (some (.ref lh)) → σ[10]? = some (some (.int (k : Int))) → EvD K (tOp (rIxL K) (tVar 5) (tVar 10)) σ S1 (.int (s.hd : Nat)) := fun h a b => ev_op (rv_ixL (hl _ hhd)) (ev_var a (dp_same h qh)) (ev_var b (.int _))
          refine q_asg (K := K) (d := .list (s.rows.map .str)) (ev_is (ev_slL (ev_var rfl q2) (eo_some (i := ((s.hd + 1 : Nat) : Int)) (ev_op rv_add (ehd (Same.refl _) rfl rfl) (ev_c (.int 1)))) (eo_some (i := (en : Int)) (ev_op (rv_ixL (i := ((k + 1 : Nat) : Int)) (hl _ hends)) (ev_var rfl qe) (ev_op rv_add (ev_var rfl (.int _)) (ev_c (.int 1)))))) (by rw [cut_mid _ (by rw [List.length_map]; exact so.lt) (by rw [List.length_map]; exact hen2), hrows, List.map_take, List.map_drop])) g19.i fun v11 S20 H20 g20 p20 => ?_
          have g21 := g19.trans g20
          have badk : ∀ {S1 H1 : Hp} {v1 : V} {n : Nat}, G0 S0 H0 S1 H1 → Dp K S1 v1 (.tuple [.str "bad", .int (n : Int)]) → segBad s = some n → D.rt v1 H1 := fun {S1 H1 v1 n} g p e => due (n := some n) g p (rd (by
            unfold readR
            rw [← hlines, if_neg h60, if_neg (by rw [hcell]; decide), eb, firstBad_at hs nb e]))
          refine q_if (b := s.rows.isEmpty) (Sees.refl g21.i) (et_is (et_val (ev_op rv_eqnil (ev_var rfl p20) (ev_lst ea_nil (lz 0 rfl)))) (by rw [List.isEmpty_map])) (fun h H22 g22 => ?_) fun h H22 g22 => ?_
          · exact q_ret (ev_tup (ea_cons (ev_c (.str "bad")) (ea_one (ehd g20.s rfl rfl))) (lz 2 rfl)) g22.i fun v1 S23 H23 g23 p23 => badk ((g21.trans g22).trans g23) p23 (by unfold segBad; rw [if_pos h])
          have g23 := g21.trans g22
          have ms : Ms s.rows := so.ms T (by
            rw [hrows, List.length_take, List.length_drop]
            omega)
          have sb : segBad s = (wrongM s.rows).map (s.hd + 1 + ·) := by unfold segBad; rw [if_neg (by rw [h]; decide)]
          refine q_asg (K := K) (d := optD (wrongM s.rows)) (ev_call (arg := fun l : List Str => [.list (l.map .str)]) (res := fun l => optD (wrongM l)) s.rows ms (ea_one (ev_var rfl p20))) g23.i fun v12 S24 H24 g24 p24 => ?_
          obtain rfl := dp_opt p24
          have g25 := g23.trans g24
          have g1925 := (g20.trans g22).trans g24
          cases hw : wrongM s.rows with
          | some n =>
            rw [hw] at sb p24
            refine q_if (b := true) (Sees.refl g25.i) (et_val (ev_op rv_notNone (ev_var rfl p24) (ev_c .non))) (fun _ H26 g26 => ?_) fun h => by cases h
            exact q_ret (ev_tup (ea_cons (ev_c (.str "bad")) (ea_one (ev_is (y := .int ((s.hd + 1 + n : Nat) : Int)) (ev_op rv_add (ev_op rv_add (ehd g1925.s rfl rfl) (ev_c (.int 1))) (ev_var rfl (.int (n : Int)))) rfl))) (lz 2 rfl)) g26.i fun v1 S27 H27 g27 p27 => badk ((g25.trans g26).trans g27) p27 sb
          | none =>
            rw [hw] at sb p24
            refine q_if (b := false) (Sees.refl g25.i) (et_val (ev_op rv_notNone (ev_var rfl p24) (ev_c .non))) (fun h => by cases h) fun _ H26 g26 => ?_
            have g27 := g25.trans g26
            have s1926 := g1925.trans g26
            have q2' := dp_same s1926.s q2
            have ln := seg_line so
            have hshd : shortL (at' lines s.hd) := hsh _ (at_mem so.lt)
            refine ⟨_, rfl, _, rfl, ?_⟩
            refine ev_slS (K := K) (σ := [some v, some u, some v2, o3, o4, some (.ref lh), o6, o7, some (.ref pm), some (.ref le), some (.int (k : Int)), some v11, some (optV none), none]) (ev_op (rv_ixL (at_line so.lt)) (ev_var (i := 2) rfl q2') (ehd s1926.s rfl rfl)) (eo_some (ev_c (K := K) (.int 3))) eo_none hshd.s.le H26 g27.i _ fun y S28 H28 g28 p28 => ?_
            rw [on_cut ln] at p28
            obtain rfl := dp_str p28
            have g29 := g27.trans g28
            have s1928 := s1926.trans g28
            have h28 : H28 pm = some (.dK kvs) := s1928.same _ _ h19
            have m28 : S28 pm = none := s1928.out m19 (by rw [h19]; exact Option.some_ne_none _)
            have klen : kvs.length ≤ 60 := by
              have := congrArg List.length kk
              rw [List.length_map, List.length_map, List.length_map, List.length_take] at this
              omega
            have vn : valV kvs (Sum.inr s.nm) = none := by
              have := valV_names kk s.nm
              rw [decide_eq_false (nm_new sok.nd hs)] at this
              exact Option.isNone_iff_eq_none.mp (by rw [← Option.not_isSome, this]; rfl)
            refine ⟨pm, _, rfl, DPut.k (k := Sum.inr s.nm) h28 (Nat.lt_of_le_of_lt klen (by decide)), S28, putK kvs (Sum.inr s.nm) v11, _, _, _, _, _, _, _, g29.mut m28 (.inr hpm0), s19.trans s1928.s, m28, upd_same, ?_, ?_, rfl⟩
            · rw [putK_new _ vn, List.map_append, kk, take_snoc' hs]
              simp [nms]
            · intro j t hj ht
              rcases Nat.lt_or_eq_of_le (Nat.le_of_lt_succ hj) with hj | rfl
              · exact nb j t hj ht
              · rw [hs] at ht
                rw [← Option.some.inj ht]
                exact sb
        · rintro _ H19 ⟨S19, kvs, o3, o4, o6, o7, o10, o11, o12, g19, s19, m19, h19, kk, nb, rfl⟩
          rw [List.take_length] at kk
          have mb : methBad lines = none := by
            rw [eb]
            exact firstBad_no fun j t ht => nb j t (List.getElem?_eq_some_iff.mp ht).1 ht
          have g20 := g19.frz m19 hpm0 h19
          have e20 : Same S19 (upd S19 pm (.dK kvs)) := same_upd m19
          have pv20 := dp_same g20.s pv
          have hpd : (upd S19 pm (.dK kvs)) pm = some (.dK kvs) := upd_same
          have tst : EvT (tTest (tOp (rEqNil K true) (tLc (iList K (tCall (spLCalls K) [] E0 (tCons (tVar 0) tNil))) (gName 13) (tB (tDNotIn (tOp (rIxT K) (tVar 13) (tC (.int 0))) (tVar 8))) (tVar 13) [13]) (tLst tNil))) [some v, some u, some v2, o3, o4, some (.ref lh), o6, o7, some (.ref pm), some (.ref le), o10, o11, o12, none] (upd S19 pm (.dK kvs)) (!((callsP th).filter fun c => !decide (c.1 ∈ nms segs)).isEmpty) := fun H21 i21 Q q21 => by
            refine ⟨v, rfl, th, _, i21, .cons pv20 .nil, ok, fun vc S22 H22 g22 post => ?_, fun _ _ _ z => z.elim⟩
            obtain ⟨cs, pc, pd⟩ := post
            show tTest (tOp (rEqNil K true) (tLc (iList K (tC vc)) (gName 13) (tB (tDNotIn (tOp (rIxT K) (tVar 13) (tC (.int 0))) (tVar 8))) (tVar 13) [13]) (tLst tNil)) [some v, some u, some v2, o3, o4, some (.ref lh), o6, o7, some (.ref pm), some (.ref le), o10, o11, o12, none] H22 Q
            have fe : ((cs.filter fun c => !decide (c.1 ∈ nms segs)).map callD).isEmpty = ((callsP th).filter fun c => !decide (c.1 ∈ nms segs)).isEmpty := by
              have pf := pc.filter fun c => !decide (c.1 ∈ nms segs)
              rw [List.isEmpty_map]
              exact perm_empty pf
            refine (et_is (et_val (ev_op rv_nenil (ec_list (e := callD) (l := cs) (f := fun c => !decide (c.1 ∈ nms segs)) (g := callD) (ev_c pd) (by rw [pc.length_eq]; exact calls_few ok) (fun _ => rfl)
              (fun a _ x S23 i23 px => et_is (et_B (ev_dnin (ev_op (rv_ixT at_head) (ev_var rfl px) (ev_c (.int _))) rfl (.inl (i23 _ _ (g22.s _ _ hpd))))) (by rw [valV_names kk])) (fun a _ _ x S23 _ px => ev_var rfl px)) (ev_lst ea_nil (lz 0 rfl)))) (by rw [fe])) H22 g22.i Q fun H24 g24 => q21 H24 (g22.trans g24.keep).keep
          refine q_if (Sees.refl g20.i) tst (fun h3 H21 g21 => ?_) fun h3 H21 g21 => ?_
          · refine q_ret (ev_tup (ea_cons (ev_c (.str "bad")) (ea_one (ev_c (.str "none")))) (lz 2 rfl)) g21.i fun v1 S22 H22 g22 p22 => due (n := none) ((g20.trans g21).trans g22) p22 (rd ?_)
            unfold readR
            rw [← hlines, if_neg h60, if_neg (by rw [hcell]; decide), mb]
            dsimp only
            rw [es, if_neg (by rw [all_calls]; rw [Bool.not_eq_true'] at h3; rw [h3]; decide)]
          · have g22 := g20.trans g21
            have fin : readV (wordsOf th) (.str text) = .good (((ws (at' lines 0)).drop 1).map cellV) (nms segs) := rd (by
              unfold readR
              rw [← hlines, if_neg h60, if_neg (by rw [hcell]; decide), mb]
              dsimp only
              rw [es, if_pos (by rw [all_calls]; rw [Bool.not_eq_false'] at h3; exact h3)])
            have p2e := dp_same (s19.trans e20) p2d
            have W0 := ws_wds hl0
            have cells_ok : ∀ a ∈ (ws (at' lines 0)).drop 1, isCell a = true := by
              have := cells_all hcell
              exact fun a ha => List.all_eq_true.mp this a ha
            refine q_retT2 (K := K) (x := .tuple (((ws (at' lines 0)).drop 1).map cellV)) (ev_cb rc_tupleL (ea_one (ev_is (ec_list (e := PyData.str) (l := (ws (at' lines 0)).drop 1) (f := fun _ => true) (g := cellV) (ev_from (ev_words hl0 (ev_op (rv_ixL (at_line (n := 0) hp)) (ev_var rfl p2e) (ev_c (.int _))) (ev_c (.str _))) (ev_c (.int _))) (by rw [List.length_drop]; have := W0.lt; omega) (fun _ => rfl) (fun _ _ _ _ _ _ => et_yes)
              (fun a ha _ x S23 _ px => ev_if (et_val (ev_op rv_eqs (ev_var rfl px) (ev_c (.str _)))) (fun h => ?_) fun h => ?_)) (by rw [filt_true])))) g22.i rfl fun vc S24 H24 t g24 p24 ht => ?_
            · unfold cellV
              rw [if_pos (of_decide_eq_true h)]
              exact ev_c .non
            · have ca := cells_ok a ha
              unfold isCell at ca
              rw [h, Bool.false_or] at ca
              unfold cellV
              rw [if_neg (of_decide_eq_false h)]
              exact ev_cb (rc_intS (dig_text ca) (by have := of_decide_eq_true (Bool.and_eq_true_iff.mp ca).1; omega)) (ea_one (ev_var rfl px))
            · have gt := Go.new (o := .tup [vc, .ref pm]) g24.i ht
              refine q _ _ _ ((g22.trans g24).trans gt) ?_
              rw [fin]
              exact ⟨t, vc, pm, kvs, rfl, upd_same, dp_same gt.s p24, gt.s _ _ (g24.s _ _ hpd), kk⟩⟩
end
end Zb
set_option Elab.async false
set_option linter.all false
set_option maxRecDepth 100000
set_option maxHeartbeats 4000000
namespace Zb
open PySem PySem.Spec PyProof.Rows L2
/-- the law's row: the script, a place in it, a seed, a rest -/
structure RwE (K : PySem.W.Frag) (S H : Hp) (row : Addr) (ns : List Int) (i s r : Int) : Prop where
  out : S row = none
  has : ∃ va, H row = some (.lst [va, .int i, .int s, .int r]) ∧ Dp K S va (.list (ns.map .int))
  i0 : 0 ≤ i
  s0 : 0 ≤ s ∧ s < 2147483647
def Rw (K : PySem.W.Frag) (S H : Hp) (row : Addr) : Prop := ∃ ns i s r, RwE K S H row ns i s r
section
variable {K : PySem.W.Frag} {M : Addr → Prop} {σ : L2.St} {S S0 S1 S' H H0 H1 H' : Hp} {row : Addr} {ns : List Int} {i s r n : Int} {te tm ta tb : TE} {D : Ends} {tz : TS} {E : XK} {Q : VK} {j : Nat}
theorem RwE.ne (w : RwE K S H row ns i s r) : H row ≠ none := by
  obtain ⟨va, e, _⟩ := w.has
  rw [e]
  exact Option.some_ne_none _
theorem RwE.go (w : RwE K S H row ns i s r) (g : Go M S H S' H') (h : ¬ M row) : RwE K S' H' row ns i s r := by
  obtain ⟨va, e, p⟩ := w.has
  exact ⟨g.out w.out w.ne, ⟨va, g.at_ h e, dp_same g.s p⟩, w.i0, w.s0⟩
theorem Rw.go (w : Rw K S H row) (g : Go M S H S' H') (h : ¬ M row) : Rw K S' H' row := by
  obtain ⟨ns, i, s, r, w⟩ := w
  exact ⟨ns, i, s, r, w.go g h⟩
theorem Rw.g0 (w : Rw K S H row) (g : G0 S H S' H') : Rw K S' H' row := w.go g fun z => z
theorem Rw.ne (w : Rw K S H row) : H row ≠ none := by
  obtain ⟨ns, i, s, r, w⟩ := w
  exact w.ne
theorem RwE.see (w : RwE K S H row ns i s r) (hi : Same S H) : ∃ S1, Sees S H S1 ∧ Same S S1 ∧ Dp K S1 (.ref row) (.list [.list (ns.map .int), .int i, .int s, .int r]) := by
  obtain ⟨va, e, p⟩ := w.has
  obtain ⟨z, e1⟩ := see_add (Sees.refl hi) w.out e
  exact ⟨_, z, e1, .lst (SqL.of upd_same) (.cons (dp_same e1 p) (.cons (.int _) (.cons (.int _) (.cons (.int _) .nil))))⟩
/-- row[k] = n -/
theorem q_setRow {k : Nat} {i2 s2 r2 : Int} (w : RwE K S H row ns i s r) (hv : σ[0]? = some (some (.ref row))) (z : Sees S H S1) (h : EvD K te σ S1 (.int n)) (hk : k < 4) (hx : [i, s, r].set (k - 1) n = [i2, s2, r2] ∧ 0 < k) (hi2 : 0 ≤ i2) (hs2 : 0 ≤ s2 ∧ s2 < 2147483647)
    (kont : ∀ H1, Go (· = row) S H S H1 → RwE K S H1 row ns i2 s2 r2 → tz D σ H1) : tSeq (tAsg te (gSub (tVar 0) (tC (.int (k : Int))) rSetL)) tz D σ H :=
  h H z.i _ fun v S2 H1 g p => by
    obtain rfl := dp_int p
    have g1 : G0 S H S H1 := g.thaw z.s
    obtain ⟨va, e, pa⟩ := w.has
    have e1 := g1.same _ _ e
    refine ⟨_, hv, row, _, (k : Int), k, rfl, rfl, e1, ?_, ?_⟩
    · show ixN 4 (k : Int) = some k
      unfold ixN
      rw [if_pos (by omega), if_pos (by omega)]
      rfl
    · refine kont _ ((g1.weak fun _ z => z.elim).mut w.out (.inl rfl)) ⟨w.out, ⟨va, ?_, pa⟩, hi2, hs2⟩
      rw [upd_same]
      obtain ⟨hx, h0⟩ := hx
      match k, hk, h0 with
      | 1, _, _ => cases hx; rfl
      | 2, _, _ => cases hx; rfl
      | 3, _, _ => cases hx; rfl
end
/-- row, many: a number below many; the row has turned -/
def spTaken (K : PySem.W.Frag) : Sp := fun vs H Q _ => ∃ (S : Hp) (row : Addr) (m : Nat), Same S H ∧ vs = [.ref row, .int (m : Int)] ∧ Rw K S H row ∧ 1 ≤ m ∧ m ≤ 1000000 ∧ ∀ (n : Nat) H', n < m → Go (· = row) S H S H' → Rw K S H' row → Q (.int (n : Int)) H'
section
variable {P : Program} {w : World} {K : PySem.W.Frag} {mg : Str → Option Value} {base : Heap}
theorem fn_mkS {x : Str} {st : Stmt} {N ps : List Str} {k : Nat} {sp : Sp}
    (F : ∃ fd, FunD K x x (defArgs st) (defBody st) (defScope st) [] [] (He.ga K x) fd) (g : mg x = some (.ref (He.ga K x)))
    (b : ∀ (kV doc pm : Value) (an : Option Addr) (cdv ct : Value) (us : List Value), us.length = ps.length → bindArgs (PySem.W.fnOf x x (defArgs st) (defBody st) (defScope st) .none kV doc pm an cdv ct) ⟨us, []⟩ = pure (ps.zip us))
    (sc : FnScope N ps (defScope st)) (hl : ∀ vs H Q E, sp vs H Q E → vs.length = ps.length)
    (hb : ∀ (cdv : Value) (A : Around) (outer : List Env) (s : Shared) (H : Hp) (E : XK), Room k (A.deeper (envOfC x (defScope st) s.heap.objs.size (He.ga K x) cdv)) →
      ∃ t, PSs (cxOf CX0 P w K mg base N x (defScope st) (He.ga K x) cdv A outer s H E).nox (defBody st) t ∧ ∀ vs H Q, sp vs H Q E → t { nx := fun _ H' => Q .non H', rt := Q } (start N vs) H) :
    Fn CX0 P w K mg base x (k + 1) ps sp := by
  obtain ⟨fd, F⟩ := F
  refine ⟨⟨fd, F.ok sc hl (fun cdv A outer s H vs Q E hr h => ?_), F.bindsN b⟩, F.kp, g⟩
  obtain ⟨t, h1, h2⟩ := hb cdv A outer s H E hr
  exact ⟨t, h1.nox, h2 vs H Q h⟩
theorem sc_L_taken : FnScope ["_law_row", "_law_many", "_law_found", "_law_cell"] ["_law_row", "_law_many"] (defScope Zh.s_L_taken) := ⟨rfl, rfl, rfl, by decide +kernel, rfl, by decide +kernel, by decide +kernel⟩
theorem rv_pow {i j : Int} {S : Hp} (h : CPow i j) : RvD K (rI CPow fun i j => .int (i ^ j.toNat)) S (.int i) (.int j) (.int (i ^ j.toNat)) := rv_I h
theorem rv_mod {i j : Int} {S : Hp} (h : 0 < j) : RvD K (rI (fun _ j => 0 < j) fun i j => .int (i % j)) S (.int i) (.int j) (.int (i % j)) := rv_I h
theorem rv_div {i j : Int} {S : Hp} (h : 0 < j ∧ j < 1073741824) : RvD K (rI CDiv fun i j => .int (i / j)) S (.int i) (.int j) (.int (i / j)) := rv_I h
theorem rv_mul {i j : Int} {S : Hp} (h : -(2 ^ 64) < j ∧ j < 2 ^ 64) : RvD K (rI CMul fun i j => .int (i * j)) S (.int i) (.int j) (.int (i * j)) := rv_I (.inr h)
theorem ok_L_taken (M : Mo K mg) (D : Df K mg "_law_taken" Zh.s_L_taken) : Fn CX0 P w K mg base "_law_taken" 1 ["_law_row", "_law_many"] (spTaken K) :=
  fn_mkS D.1 D.2 (fun _ _ _ _ _ _ us hl => match us, hl with | [_, _], _ => rfl) sc_L_taken (fun vs H Q E h => by obtain ⟨_, _, _, _, rfl, _⟩ := h; rfl) fun cdv A outer s0 H E hr => ⟨_, (pss_cons (ps_if (pt_cmpR op_gt (pe_ix (r := rIxL K) ix_list (pv 0) pe_int (fun _ _ => rfl)) pe_int (nomark _)) (pss_cons (ps_set (i := 2) sc_L_taken.nd rfl (Or.inl rfl) (pe_op op_mod (pe_callTy call_int1 (by rfl) M.int (by decide +kernel) (pa_cons (pe_ix (r := rIxL K) ix_list (pv 0) pe_int (fun _ _ => rfl)) pa_nil)) (pv 1)))
    (pss_cons (ps_asg (pe_op op_fdiv (pe_ix (r := rIxL K) ix_list (pv 0) pe_int (fun _ _ => rfl)) (pv 1)) (pg_sub (pv 0) pe_int set_list))
    (pss_one (ps_ret (pv 2))))) pss_nil)
    (pss_cons (ps_asg (pe_op op_add (pe_ix (r := rIxL K) ix_list (pv 0) pe_int (fun _ _ => rfl)) pe_int) (pg_sub (pv 0) pe_int set_list))
    (pss_cons (ps_if (pt_cmpR op_gt (pe_ix (r := rIxL K) ix_list (pv 0) pe_int (fun _ _ => rfl)) (pe_callB (id := "len") call_len (by rfl) M.len (by decide +kernel) (pa_cons (pe_ix (r := rIxL K) ix_list (pv 0) pe_int (fun _ _ => rfl)) pa_nil)) (nomark _)) (pss_cons (ps_asg (pe_op op_mod (pe_callTy call_int1 (by rfl) M.int (by decide +kernel) (pa_cons (pe_op op_add (pe_op op_mul (pe_ix (r := rIxL K) ix_list (pv 0) pe_int (fun _ _ => rfl)) pe_int) pe_int) pa_nil)) pe_int) (pg_sub (pv 0) pe_int set_list))
    (pss_one (ps_ret (pe_op op_mod (pe_callTy call_int1 (by rfl) M.int (by decide +kernel) (pa_cons (pe_op op_fdiv (pe_ix (r := rIxL K) ix_list (pv 0) pe_int (fun _ _ => rfl)) pe_int) pa_nil)) (pv 1))))) pss_nil)
    (pss_cons (ps_set (i := 3) sc_L_taken.nd rfl (Or.inl rfl) (pe_ix (r := rIxL K) ix_list (pe_ix (r := rIxL K) ix_list (pv 0) pe_int (fun _ _ => rfl)) (pe_op op_sub (pe_ix (r := rIxL K) ix_list (pv 0) pe_int (fun _ _ => rfl)) pe_int) (fun _ _ => rfl)))
    (pss_cons (ps_asg (pe_op op_mod (pe_callTy call_int1 (by rfl) M.int (by decide +kernel) (pa_cons (pe_op op_add (pe_op op_add (pe_op op_mul (pe_ix (r := rIxL K) ix_list (pv 0) pe_int (fun _ _ => rfl)) pe_int) (pv 3)) pe_int) pa_nil)) pe_int) (pg_sub (pv 0) pe_int set_list))
    (pss_cons (ps_if (pt_cmpR op_ge (pv 3) (pe_op op_pow pe_int pe_int) (nomark _)) (pss_one (ps_asg (pe_op op_fdiv (pv 3) (pv 1)) (pg_sub (pv 0) pe_int set_list))) pss_nil)
    (pss_one (ps_ret (pe_op op_mod (pe_callTy call_int1 (by rfl) M.int (by decide +kernel) (pa_cons (pv 3) pa_nil)) (pv 1)))))))))), fun vs H Q h => by
    obtain ⟨S, row, m, hi, rfl, ⟨ns, i, s, r, w⟩, m1, m2, q⟩ := h
    have mp : (0 : Int) < (m : Int) := by omega
    have lt : ∀ x : Int, ∃ n : Nat, n < m ∧ x % (m : Int) = (n : Int) := fun x => ⟨(x % (m : Int)).toNat, by
      have h1 := Int.emod_nonneg x (show (m : Int) ≠ 0 by omega)
      have h2 := Int.emod_lt_of_pos x mp
      omega, by
      have h1 := Int.emod_nonneg x (show (m : Int) ≠ 0 by omega)
      omega⟩
    have md : ∀ x : Int, 0 ≤ x % 2147483647 ∧ x % 2147483647 < 2147483647 := fun x => ⟨Int.emod_nonneg x (by decide), Int.emod_lt_of_pos x (by decide)⟩
    obtain ⟨S1, z1, e1, p1⟩ := w.see hi
    refine q_if (b := decide (r > 0)) z1 (et_val (ev_op rv_gt (ev_op (rv_ixL (i := 3) rfl) (ev_var rfl p1) (ev_c (.int _))) (ev_c (.int _)))) (fun h H2 g2 => ?_) fun h H2 g2 => ?_
    · have w2 := w.go g2 fun z => z
      obtain ⟨S2, z2, e2, p2⟩ := w2.see g2.i
      obtain ⟨n, hn, en⟩ := lt r
      refine q_asgZ (K := K) (d := .int (n : Int)) z2 (ev_is (ev_op (rv_mod mp) (ev_cb rc_int1 (ea_one (ev_op (rv_ixL (i := 3) rfl) (ev_var rfl p2) (ev_c (.int _))))) (ev_var rfl (.int _))) (by rw [en])) (fun _ v p S' => by rw [dp_int p]; exact .int _) fun v3 H3 g3 p3 => ?_
      obtain rfl := dp_int (p3 S)
      have w3 := w2.go g3 fun z => z
      obtain ⟨S4, z4, e4, p4⟩ := w3.see g3.i
      refine q_setRow (k := 3) (i2 := i) (s2 := s) (r2 := r / m) w3 rfl z4 (ev_op (rv_div ⟨mp, by omega⟩) (ev_op (rv_ixL (i := 3) rfl) (ev_var rfl p4) (ev_c (.int _))) (ev_var rfl (.int _))) (by decide) ⟨rfl, by decide⟩ w.i0 w.s0 fun H5 g5 w5 => ?_
      exact ⟨_, rfl, q n H5 hn ((g2.g.trans g3.g).trans g5) ⟨_, _, _, _, w5⟩⟩
    · have w2 := w.go g2 fun z => z
      obtain ⟨S2, z2, e2, p2⟩ := w2.see g2.i
      refine q_setRow (k := 1) (i2 := i + 1) (s2 := s) (r2 := r) w2 rfl z2 (ev_op rv_add (ev_op (rv_ixL (i := 1) rfl) (ev_var rfl p2) (ev_c (.int _))) (ev_c (.int _))) (by decide) ⟨rfl, by decide⟩ (by have := w.i0; omega) w.s0 fun H3 g3 w3 => ?_
      have g23 := g2.g.trans g3
      obtain ⟨S4, z4, e4, p4⟩ := w3.see g3.i
      refine q_if (b := decide (i + 1 > (ns.length : Int))) z4 (et_val (ev_op rv_gt (ev_op (rv_ixL (i := 1) rfl) (ev_var rfl p4) (ev_c (.int _))) (ev_is (ev_cb rc_lenL (ea_one (ev_op (rv_ixL (i := 0) rfl) (ev_var rfl p4) (ev_c (.int _))))) (by rw [List.length_map])))) (fun h5 H5 g5 => ?_) fun h5 H5 g5 => ?_
      · have w5 := w3.go g5 fun z => z
        obtain ⟨S6, z6, e6, p6⟩ := w5.see g5.i
        refine q_setRow (k := 2) (i2 := i + 1) (s2 := (s * 48271 + 11) % 2147483647) (r2 := r) w5 rfl z6 (ev_op (rv_mod (by decide)) (ev_cb rc_int1 (ea_one (ev_op rv_add (ev_op (rv_mul (by decide)) (ev_op (rv_ixL (i := 2) rfl) (ev_var rfl p6) (ev_c (.int _))) (ev_c (.int _))) (ev_c (.int _))))) (ev_c (.int _))) (by decide) ⟨rfl, by decide⟩ w5.i0 (md _) fun H7 g7 w7 => ?_
        obtain ⟨S8, z8, e8, p8⟩ := w7.see g7.i
        obtain ⟨n, hn, en⟩ := lt ((s * 48271 + 11) % 2147483647 / 7)
        have ev : EvD K _ _ S8 (.int (n : Int)) := ev_is (ev_op (rv_mod mp) (ev_cb rc_int1 (ea_one (ev_op (rv_div (by decide)) (ev_op (rv_ixL (i := 2) rfl) (ev_var (i := 0) (σ := [some (.ref row), some (.int (m : Int)), none, none]) rfl p8) (ev_c (.int 2))) (ev_c (.int 7))))) (ev_var (i := 1) rfl (.int _))) (by rw [en])
        refine ev H7 z8.i _ fun v9 S9 H9 g9 p9 => ?_
        obtain rfl := dp_int p9
        have g10 := g9.thaw z8.s
        exact q n H9 hn (((g23.trans g5.g).trans g7).trans g10.g) ⟨_, _, _, _, w7.go g10 fun z => z⟩
      · have w5 := w3.go g5 fun z => z
        obtain ⟨S6, z6, e6, p6⟩ := w5.see g5.i
        have hlt : i.toNat < ns.length := by
          have h5 := of_decide_eq_false h5
          have := w.i0
          omega
        have hat : atI (ns.map PyData.int) (i + 1 - 1) = some (.int (ns[i.toNat]'hlt)) := by
          have e : i + 1 - 1 = ((i.toNat : Nat) : Int) := by
            have := w.i0
            omega
          rw [e]
          unfold atI
          rw [show ixN (ns.map PyData.int).length ((i.toNat : Nat) : Int) = some i.toNat by
            unfold ixN
            rw [List.length_map, if_pos (by omega), if_pos (by omega)]
            rfl]
          show (ns.map PyData.int)[i.toNat]? = _
          rw [List.getElem?_map, List.getElem?_eq_getElem hlt]
          rfl
        refine q_asgZ (K := K) (d := .int (ns[i.toNat]'hlt)) z6 (ev_op (rv_ixL hat) (ev_op (rv_ixL (i := 0) rfl) (ev_var rfl p6) (ev_c (.int _))) (ev_op rv_sub (ev_op (rv_ixL (i := 1) rfl) (ev_var rfl p6) (ev_c (.int _))) (ev_c (.int _)))) (fun _ v p S' => by rw [dp_int p]; exact .int _) fun v7 H7 g7 p7 => ?_
        obtain rfl := dp_int (p7 S)
        have w7 := w5.go g7 fun z => z
        obtain ⟨S8, z8, e8, p8⟩ := w7.see g7.i
        refine q_setRow (k := 2) (i2 := i + 1) (s2 := (s * 48271 + ns[i.toNat]'hlt + 11) % 2147483647) (r2 := r) w7 rfl z8 (ev_op (rv_mod (by decide)) (ev_cb rc_int1 (ea_one (ev_op rv_add (ev_op rv_add (ev_op (rv_mul (by decide)) (ev_op (rv_ixL (i := 2) rfl) (ev_var rfl p8) (ev_c (.int _))) (ev_c (.int _))) (ev_var rfl (.int _))) (ev_c (.int _))))) (ev_c (.int _))) (by decide) ⟨rfl, by decide⟩ w7.i0 (md _) fun H9 g9 w9 => ?_
        have g09 := ((g23.trans g5.g).trans g7.g).trans g9
        obtain ⟨n, hn, en⟩ := lt (ns[i.toNat]'hlt)
        obtain ⟨Sa, za, ea, pa⟩ := w9.see g9.i
        refine q_if (b := decide (ns[i.toNat]'hlt ≥ ((10 ^ (18 : Int).toNat : Int)))) za (et_val (K := K) (ev_op rv_ge (ev_var rfl (.int _)) (ev_op (rv_pow ⟨by decide, by decide, by decide⟩) (ev_c (.int _)) (ev_c (.int _))))) (fun _ Hb gb => ?_) fun _ Hb gb => ?_
        · have wb := w9.go gb fun z => z
          obtain ⟨Sc, zc, ec, pc⟩ := wb.see gb.i
          refine q_setRow (k := 3) (i2 := i + 1) (s2 := (s * 48271 + ns[i.toNat]'hlt + 11) % 2147483647) (r2 := (ns[i.toNat]'hlt) / m) wb rfl zc (ev_op (rv_div ⟨mp, by omega⟩) (ev_var rfl (.int _)) (ev_var rfl (.int _))) (by decide) ⟨rfl, by decide⟩ wb.i0 wb.s0 fun Hd gd wd => ?_
          refine q_ret (K := K) (ev_is (ev_op (rv_mod mp) (ev_cb rc_int1 (ea_one (ev_var rfl (.int _)))) (ev_var rfl (.int _))) (by rw [en])) gd.i fun v1 S1 H1 g1 p1 => ?_
          obtain rfl := dp_int p1
          exact q n H1 hn (((g09.trans gb.g).trans gd).trans g1.keep.g) ⟨_, _, _, _, wd.go g1.keep fun z => z⟩
        · have wb := w9.go gb fun z => z
          refine q_ret (K := K) (ev_is (ev_op (rv_mod mp) (ev_cb rc_int1 (ea_one (ev_var rfl (.int _)))) (ev_var rfl (.int _))) (by rw [en])) gb.i fun v1 S1 H1 g1 p1 => ?_
          obtain rfl := dp_int p1
          exact q n H1 hn ((g09.trans gb.g).trans g1.keep.g) ⟨_, _, _, _, wb.go g1.keep fun z => z⟩⟩
end
end Zb
set_option Elab.async false
set_option linter.all false
set_option maxRecDepth 100000
set_option maxHeartbeats 4000000
/-! Expressions that turn the law's row. -/
namespace Zb
open PySem PySem.Spec PyProof.Rows L2
abbrev GoR (row : Addr) : Hp → Hp → Hp → Hp → Prop := Go (· = row)
def EvM (K : PySem.W.Frag) (row : Addr) (te : TE) (σ : L2.St) (S : Hp) (P : PyData → Prop) : Prop := ∀ S1 H, Same S S1 → Same S1 H → Rw K S1 H row → ∀ Q : VK, (∀ d v S' H', P d → GoR row S1 H S' H' → Rw K S' H' row → Dp K S' v d → Q v H') → te σ H Q
def EvMR (K : PySem.W.Frag) (row : Addr) (te : TE) (σ : L2.St) (S : Hp) (P : List PyData → Prop) : Prop := ∀ S1 H, Same S S1 → Same S1 H → Rw K S1 H row → ∀ Q : VK, (∀ d v S' H', P d → GoR row S1 H S' H' → Rw K S' H' row → Rl K S' v d → Q v H') → te σ H Q
def EvMA (K : PySem.W.Frag) (row : Addr) (ta : TA) (σ : L2.St) (S : Hp) (P : List PyData → Prop) : Prop := ∀ S1 H, Same S S1 → Same S1 H → Rw K S1 H row → ∀ Q : List V → Hp → Prop, (∀ d v S' H', P d → GoR row S1 H S' H' → Rw K S' H' row → DpAll K S' v d → Q v H') → ta σ H Q
section
variable {K : PySem.W.Frag} {row : Addr} {σ : L2.St} {S S0 S1 H H1 : Hp} {te ta tb : TE} {tA tr : TA} {d : PyData} {ds : List PyData} {P R T : PyData → Prop} {PL RL TL : List PyData → Prop} {r : R2} {n : Nat} {j : Nat}
theorem EvM.mono (e : Same S S0) (h : EvM K row te σ S P) : EvM K row te σ S0 P := fun S1 H e1 i w Q q => h S1 H (e.trans e1) i w Q q
theorem em_d (h : EvD K te σ S d) (p : P d) : EvM K row te σ S P := fun S1 H e i w Q q => (h.mono e) H i _ fun v S' H' g pv => q d v S' H' p g.g (w.g0 g) pv
theorem emr_d (h : EvR K te σ S ds) (p : PL ds) : EvMR K row te σ S PL := fun S1 H e i w Q q => (h.mono e) H i _ fun v S' H' g pv => q ds v S' H' p g.g (w.g0 g) pv
theorem em_w (h : EvM K row te σ S P) (f : ∀ d, P d → R d) : EvM K row te σ S R := fun S1 H e i w Q q => h S1 H e i w Q fun d v S' H' p g w' pv => q d v S' H' (f d p) g w' pv
theorem emr_w (h : EvMR K row te σ S PL) (f : ∀ d, PL d → RL d) : EvMR K row te σ S RL := fun S1 H e i w Q q => h S1 H e i w Q fun d v S' H' p g w' pv => q d v S' H' (f d p) g w' pv
theorem em_r (h : EvMR K row te σ S PL) (f : ∀ ds, PL ds → P (.list ds)) : EvM K row te σ S P := fun S1 H e i w Q q => h S1 H e i w Q fun d v S' H' p g w' pv => q _ v S' H' (f d p) g w' pv.d
theorem ema_nil : EvMA K row tNil σ S (· = []) := fun S1 H e i w Q q => q [] [] S1 H rfl (Go.refl i) w .nil
theorem ema_cons (ha : EvM K row ta σ S P) (hr : EvMA K row tr σ S RL) (f : ∀ d ds, P d → RL ds → TL (d :: ds)) : EvMA K row (tCons ta tr) σ S TL := fun S1 H e i w Q q =>
  ha S1 H e i w _ fun d v S2 H2 p g2 w2 pv => hr S2 H2 (e.trans g2.s) g2.i w2 _ fun ds vs S3 H3 p3 g3 w3 pvs => q _ _ S3 H3 (f d ds p p3) (g2.trans g3) w3 (.cons (dp_same g3.s pv) pvs)
theorem ema_one (ha : EvM K row ta σ S P) : EvMA K row (tCons ta tNil) σ S (fun ds => ∃ d, ds = [d] ∧ P d) := ema_cons ha ema_nil fun d ds p e => ⟨d, by rw [e], p⟩
theorem em_op (ha : EvM K row ta σ S P) (hb : EvM K row tb σ S R) (hr : ∀ d e, P d → R e → ∃ z, RvD K r S d e z ∧ T z) : EvM K row (tOp r ta tb) σ S T := fun S1 H e i w Q q =>
  ha S1 H e i w _ fun d v S2 H2 p2 g2 w2 pv => hb S2 H2 (e.trans g2.s) g2.i w2 _ fun d3 v3 S3 H3 p3 g3 w3 pv3 => by
    obtain ⟨z, h, t⟩ := hr d d3 p2 p3
    exact h S3 ((e.trans g2.s).trans g3.s) v v3 (dp_same g3.s pv) pv3 H3 g3.i _ fun v4 S4 H4 g4 p4 => q z v4 S4 H4 t ((g2.trans g3).trans g4.g) (w3.g0 g4) p4
theorem em_cb {r : List V → Hp → VK → Prop} (hr : ∀ ds, PL ds → ∃ z, RcD K r S ds z ∧ T z) (ha : EvMA K row tA σ S PL) : EvM K row (tCB r tA) σ S T := fun S1 H e i w Q q =>
  ha S1 H e i w _ fun ds vs S2 H2 p2 g2 w2 pv => by
    obtain ⟨z, h, t⟩ := hr ds p2
    exact h S2 (e.trans g2.s) vs pv H2 g2.i _ fun v4 S4 H4 g4 p4 => q z v4 S4 H4 t (g2.trans g4.g) (w2.g0 g4) p4
theorem em_tup (ha : EvMA K row tA σ S PL) (f : ∀ ds, PL ds → ds.length ≤ sizeLine ∧ T (.tuple ds)) : EvM K row (tTup tA) σ S T := fun S1 H e i w Q q =>
  ha S1 H e i w _ fun ds vs S2 H2 p2 g2 w2 pv => ⟨by rw [dpAll_len pv]; exact (f ds p2).1, fun p hp => by
    have g3 : G0 S2 H2 (upd S2 p (.tup vs)) (upd H2 p (.tup vs)) := Go.new g2.i hp
    exact q _ (.ref p) _ _ (f ds p2).2 (g2.trans g3.g) (w2.g0 g3) (.tup (SqT.of upd_same) (dpAll_same g3.s pv))⟩
theorem emr_lst (ha : EvMA K row tA σ S PL) (f : ∀ ds, PL ds → ds.length ≤ sizeLine ∧ RL ds) : EvMR K row (tLst tA) σ S RL := fun S1 H e i w Q q =>
  ha S1 H e i w _ fun ds vs S2 H2 p2 g2 w2 pv => ⟨by rw [dpAll_len pv]; exact (f ds p2).1, fun p hp => by
    have g3 : G0 S2 H2 (upd S2 p (.lst vs)) (upd H2 p (.lst vs)) := Go.new g2.i hp
    exact q _ (.ref p) _ _ (f ds p2).2 (g2.trans g3.g) (w2.g0 g3) ⟨p, vs, rfl, upd_same, dpAll_same g3.s pv⟩⟩
theorem emr_cat (ha : EvMR K row ta σ S PL) (hb : EvMR K row tb σ S RL) (f : ∀ ds es, PL ds → RL es → ds.length + es.length ≤ sizeLine ∧ TL (ds ++ es)) : EvMR K row (tOp rCat ta tb) σ S TL := fun S1 H e i w Q q =>
  ha S1 H e i w _ fun ds v S2 H2 p2 g2 w2 pv => hb S2 H2 (e.trans g2.s) g2.i w2 _ fun es v3 S3 H3 p3 g3 w3 pv3 => by
    obtain ⟨l, xs, rfl, e1, d1⟩ := rl_same g3.s pv
    obtain ⟨l2, ys, rfl, e2, d2⟩ := pv3
    refine ⟨l, l2, xs, ys, rfl, rfl, g3.i _ _ e1, g3.i _ _ e2, by rw [dpAll_len d1, dpAll_len d2]; exact (f ds es p2 p3).1, fun p hp => ?_⟩
    have g4 : G0 S3 H3 (upd S3 p (.lst (xs ++ ys))) (upd H3 p (.lst (xs ++ ys))) := Go.new g3.i hp
    exact q _ _ _ _ (f ds es p2 p3).2 ((g2.trans g3).trans g4.g) (w3.g0 g4) ⟨p, _, rfl, upd_same, dpAll_same g4.s (dpAll_append d1 d2)⟩
/-- [.. for k in range(n)], the elements turn the row -/
theorem emr_range {N : Nat → Prop} {j : Nat} {vs : List Nat} {wi : TI} (hi : ∀ S1 H, Same S S1 → Same S1 H → Rw K S1 H row → ∀ R : It → Hp → Prop, (∀ n S' H', N n → GoR row S1 H S' H' → Rw K S' H' row → R (Itr 0 n) H') → wi σ H R) (hz : ∀ n, N n → n < 100000)
    (hw : ∀ x, wipe ((wipe σ vs).set j (some x)) vs = wipe σ vs) (he : ∀ i n, N n → i < n → EvM K row te ((wipe σ vs).set j (some (.int (0 + (i : Int))))) S P)
    (f : ∀ n ds, N n → ds.length = n → (∀ d ∈ ds, P d) → RL ds) : EvMR K row (tLc wi (gName j) tYes te vs) σ S RL := fun S1 H e i w Q q => hi S1 H e i w _ fun n S2 H2 hn g2 w2 => fun D hD =>
  lc_range (lo := 0) (n := n) (fun m H' => ∃ S' acc ds, GoR row S2 H2 S' H' ∧ Rw K S' H' row ∧ S' D = none ∧ H' D = some (.lst acc) ∧ DpAll K S' acc ds ∧ ds.length = m ∧ ∀ d ∈ ds, P d)
    (by
      have gn : G0 S2 H2 S2 (upd H2 D (.lst [])) := Go.newM g2.i hD
      exact ⟨S2, [], [], gn.g, w2.g0 gn, g2.i.free hD, upd_same, .nil, rfl, fun _ z => absurd z (List.not_mem_nil)⟩)
    (fun m H' hm c => ⟨hw _, by
      obtain ⟨S', acc, ds, g, w3, sD, hH, pa, hl, hp⟩ := c
      show te _ H' _
      refine he m n hn hm S' H' ((e.trans g2.s).trans g.s) g.i w3 _ fun d v S4 H4 p4 g4 w4 pv => ?_
      have nD : D ≠ row := fun z => by
        have := w2.ne
        rw [← z] at this
        exact this hD
      have h4 : H4 D = some (.lst acc) := g4.at_ nD hH
      have s4 : S4 D = none := g4.out sD (by rw [hH]; exact Option.some_ne_none _)
      have gm : Go (· = D) S4 H4 S4 (upd H4 D (.lst (acc ++ [v]))) := (Go.refl g4.i).mut s4 (.inl rfl)
      refine ⟨acc, h4, by rw [dpAll_len pa, hl]; exact Nat.lt_of_lt_of_le (Nat.lt_trans hm (hz n hn)) (by decide), S4, acc ++ [v], ds ++ [d], ?_, w4.go gm fun z => nD z.symm, s4, upd_same, dpAll_append (dpAll_same g4.s pa) (.cons pv .nil), by rw [List.length_append, hl]; rfl, fun x hx => ?_⟩
      · exact Go.own (g.trans g4) gm fun b hb => .inr (by rw [hb]; exact hD)
      · rcases List.mem_append.mp hx with h | h
        · exact hp x h
        · rw [List.mem_singleton.mp h]
          exact p4⟩)
    (fun H' c => by
      obtain ⟨S', acc, ds, g, w3, sD, hH, pa, hl, hp⟩ := c
      have gt := g2.trans g
      exact q ds (.ref D) (upd S' D (.lst acc)) H' (f n ds hn hl hp) (gt.frz sD (by
        by_cases y : H D = none
        · exact y
        · exact absurd hD (g2.t D y)) hH) (by
          obtain ⟨ns, a, b, c, w⟩ := w3
          obtain ⟨va, e1, p1⟩ := w.has
          have nD : row ≠ D := fun z => by
            have := w2.ne
            rw [z] at this
            exact this hD
          exact ⟨ns, a, b, c, ⟨by rw [upd_ne nD]; exact w.out, ⟨va, e1, dp_same (same_upd sD) p1⟩, w.i0, w.s0⟩⟩) ⟨D, acc, rfl, upd_same, dpAll_same (same_upd sD) pa⟩)
theorem im_1 {N : Nat → Prop} (h : EvMA K row tA σ S (fun ds => ∃ n : Nat, ds = [.int (n : Int)] ∧ N n)) (hz : ∀ n, N n → n < 100000) : ∀ S1 H, Same S S1 → Same S1 H → Rw K S1 H row → ∀ R : It → Hp → Prop, (∀ n S' H', N n → GoR row S1 H S' H' → Rw K S' H' row → R (Itr 0 n) H') → iRng1 tA σ H R := fun S1 H e i w R q =>
  h S1 H e i w _ fun ds us S2 H2 p g w2 pa => by
    obtain ⟨n, rfl, hn⟩ := p
    obtain ⟨v, r, rfl, pv, pr⟩ := dpAll_cons pa
    rw [dpAll_nil pr, dp_int pv]
    have := hz n hn
    exact ⟨n, rfl, by omega, by omega, q n S2 H2 hn g w2⟩
/-! calls -/
theorem em_taken {m : Nat} {E : XK} (hv : σ[j]? = some (some (.ref row))) (h : EvD K te σ S (.int (m : Int))) (h1 : 1 ≤ m) (h2 : m ≤ 1000000) (f : ∀ n : Nat, n < m → P (.int (n : Int))) : EvM K row (tCall (spTaken K) [] E (tCons (tVar j) (tCons te tNil))) σ S P := fun S1 H e i w Q q =>
  ⟨.ref row, hv, (h.mono e) H i _ fun v S2 H2 g p => by
    obtain rfl := dp_int p
    exact ⟨S2, row, m, g.i, rfl, w.g0 g, h1, h2, fun n H' hn g' w' => q _ _ S2 H' (f n hn) (g.g.trans g') w' (.int _)⟩⟩
/-- row, things: one of them; the row has turned -/
def spPick (K : PySem.W.Frag) : Sp := fun vs H Q _ => ∃ (S : Hp) (row a : Addr) (xs : List V), Same S H ∧ vs = [.ref row, .ref a] ∧ Rw K S H row ∧ SqL K S a xs ∧ (1 ≤ xs.length ∧ xs.length ≤ 1000000) ∧ ∀ u H', u ∈ xs → GoR row S H S H' → Rw K S H' row → Q u H'
theorem dpAll_mem {K : PySem.W.Frag} {S : Hp} : ∀ {xs : List V} {ds : List PyData} {u : V}, DpAll K S xs ds → u ∈ xs → ∃ d, d ∈ ds ∧ Dp K S u d
  | _, _, _, .nil, h => absurd h List.not_mem_nil
  | _, _, u, .cons a b, h => by
    rcases List.mem_cons.mp h with rfl | h
    · exact ⟨_, List.mem_cons_self, a⟩
    · obtain ⟨d, h1, h2⟩ := dpAll_mem b h
      exact ⟨d, List.mem_cons_of_mem _ h1, h2⟩
theorem em_pick {E : XK} (hv : σ[j]? = some (some (.ref row))) (h : EvM K row te σ S P) (f : ∀ d, P d → ∃ ds, d = .list ds ∧ (1 ≤ ds.length ∧ ds.length ≤ 1000000) ∧ ∀ x ∈ ds, R x) : EvM K row (tCall (spPick K) [] E (tCons (tVar j) (tCons te tNil))) σ S R := fun S1 H e i w Q q =>
  ⟨.ref row, hv, h S1 H e i w _ fun d v S2 H2 p g w2 pv => by
    obtain ⟨ds, rfl, hl, hr⟩ := f d p
    obtain ⟨a, xs, rfl, hs, ha⟩ := dp_list pv
    refine ⟨S2, row, a, xs, g.i, rfl, w2, hs, by rw [dpAll_len ha]; exact hl, fun u H' hu g' w' => ?_⟩
    obtain ⟨x, hx, pu⟩ := dpAll_mem ha hu
    exact q x u S2 H' (hr x hx) (g.trans g') w' pu⟩
/-! statements -/
theorem q_asgM {D : Ends} {tz : TS} (h : EvM K row te σ S P) (i : Same S H) (w : Rw K S H row) (k : ∀ d v S1 H1, P d → GoR row S H S1 H1 → Rw K S1 H1 row → Dp K S1 v d → tz D (σ.set j (some v)) H1) : tSeq (tAsg te (gName j)) tz D σ H := h S H (Same.refl S) i w _ k
theorem q_asgMR {D : Ends} {tz : TS} (h : EvMR K row te σ S PL) (i : Same S H) (w : Rw K S H row) (k : ∀ d v S1 H1, PL d → GoR row S H S1 H1 → Rw K S1 H1 row → Rl K S1 v d → tz D (σ.set j (some v)) H1) : tSeq (tAsg te (gName j)) tz D σ H := h S H (Same.refl S) i w _ k
theorem s_asgMR {D : Ends} (h : EvMR K row te σ S PL) (i : Same S H) (w : Rw K S H row) (k : ∀ d v S1 H1, PL d → GoR row S H S1 H1 → Rw K S1 H1 row → Rl K S1 v d → D.nx (σ.set j (some v)) H1) : tAsg te (gName j) D σ H := h S H (Same.refl S) i w _ k
theorem q_retM {D : Ends} (h : EvM K row te σ S P) (i : Same S H) (w : Rw K S H row) (k : ∀ d v S1 H1, P d → GoR row S H S1 H1 → Rw K S1 H1 row → Dp K S1 v d → D.rt v H1) : tRet te D σ H := h S H (Same.refl S) i w _ k
/-- l.append(e) -/
theorem s_appM {D : Ends} {l : Addr} (hv : σ[j]? = some (some (.ref l))) (m : Mu K S H l ds) (h : EvM K row te σ S P) (i : Same S H) (w : Rw K S H row) (hz : ds.length < 100000)
    (nl : l ≠ row) (k : ∀ d S1 H1, P d → Go (fun b => b = row ∨ b = l) S H S1 H1 → Rw K S1 H1 row → Mu K S1 H1 l (ds ++ [d]) → D.nx σ H1) : tDrop (tBM K "list" rAppend (tVar j) (tCons te tNil)) D σ H := by
  obtain ⟨xs, e, p⟩ := m.has
  refine ⟨.ref l, hv, .inl ⟨rfl, xs, SqL.of e⟩, h S H (Same.refl S) i w _ fun d v S1 H1 pd g w1 pv => ?_⟩
  have m1 := m.go g nl
  have e1 : H1 l = some (.lst xs) := g.at_ nl e
  refine ⟨l, xs, v, rfl, rfl, e1, ?_, ?_⟩
  · rw [dpAll_len p]
    exact Nat.lt_of_lt_of_le hz (by decide)
  · have gm : Go (· = l) S1 H1 S1 (upd H1 l (.lst (xs ++ [v]))) := (Go.refl g.i).mut m1.out (.inl rfl)
    exact k d S1 _ pd ((g.weak fun _ z => .inl z).trans (gm.weak fun _ z => .inr z)) (w1.go gm fun z => nl z.symm) ⟨m1.out, xs ++ [v], upd_same, dpAll_append (dpAll_same g.s p) (.cons pv .nil)⟩
end
end Zb
set_option Elab.async false
set_option linter.all false
set_option maxRecDepth 100000
set_option maxHeartbeats 4000000
namespace Zb
open PySem PySem.Spec PyProof.Rows L2
/-- row: an object; the row has turned -/
def spObj (K : PySem.W.Frag) : Sp := fun vs H Q _ => ∃ (S : Hp) (row : Addr), Same S H ∧ vs = [.ref row] ∧ Rw K S H row ∧ ∀ th v S' H', ThOk th → GoR row S H S' H' → Rw K S' H' row → Dp K S' v (thD th) → Q v H'
section
variable {K : PySem.W.Frag} {row : Addr} {σ : L2.St} {S S0 S1 H H1 : Hp} {te ta tb : TE} {tA tr : TA} {d : PyData} {ds : List PyData} {j : Nat}
theorem em_plus {E : XK} {a m : Nat} (hv : σ[j]? = some (some (.ref row))) (h : EvD K te σ S (.int (m : Int))) (ht : EvD K ta σ S (.int (a : Int))) (h1 : 1 ≤ m) (h2 : m ≤ 1000000) :
    EvM K row (tOp (rI0 fun i j => .int (i + j)) ta (tCall (spTaken K) [] E (tCons (tVar j) (tCons te tNil)))) σ S (fun d => ∃ n : Nat, (a ≤ n ∧ n < a + m) ∧ d = iD n) :=
  em_op (P := (· = .int (a : Int))) (R := fun d => ∃ n : Nat, n < m ∧ d = iD n) (em_d ht rfl) (em_taken hv h h1 h2 fun n hn => ⟨n, hn, rfl⟩) fun d e p r => by
    subst p
    obtain ⟨n, hn, rfl⟩ := r
    exact ⟨_, rv_add, a + n, ⟨by omega, by omega⟩, by rw [show iD (a + n) = .int ((a : Int) + (n : Int)) by simp [iD]]⟩
theorem em_tag1 {word : Str} {tw : TE} {a b : Nat} (hw : EvD K tw σ S (.str word)) (hp : EvM K row te σ S (fun d => ∃ n : Nat, (a ≤ n ∧ n < b) ∧ d = iD n)) (f : ∀ n, a ≤ n → n < b → ∃ th, ThOk th ∧ .tuple [.str word, iD n] = thD th) : EvM K row (tTup (tCons tw (tCons te tNil))) σ S (fun d => ∃ th, ThOk th ∧ d = thD th) := by
  refine em_tup (PL := fun ds => ∃ n : Nat, (a ≤ n ∧ n < b) ∧ ds = [.str word, iD n]) (ema_cons (P := (· = .str word)) (em_d hw rfl) (ema_one hp) fun d ds p r => ?_) fun ds p => ?_
  · obtain ⟨e, rfl, n, hn, rfl⟩ := r
    exact ⟨n, hn, by rw [p]⟩
  · obtain ⟨n, ⟨h1, h2⟩, rfl⟩ := p
    obtain ⟨th, ok, e⟩ := f n h1 h2
    exact ⟨lz 2 rfl, th, ok, e⟩
theorem em_tag2 {word : Str} {tw : TE} {a b : Nat} (hw : EvD K tw σ S (.str word)) (hp : EvM K row ta σ S (fun d => ∃ n : Nat, (a ≤ n ∧ n < b) ∧ d = iD n)) (hq : EvM K row tb σ S (fun d => ∃ n : Nat, (a ≤ n ∧ n < b) ∧ d = iD n)) (f : ∀ n m, a ≤ n → n < b → a ≤ m → m < b → ∃ th, ThOk th ∧ .tuple [.str word, iD n, iD m] = thD th) : EvM K row (tTup (tCons tw (tCons ta (tCons tb tNil)))) σ S (fun d => ∃ th, ThOk th ∧ d = thD th) := by
  refine em_tup (PL := fun ds => ∃ n m : Nat, ((a ≤ n ∧ n < b) ∧ a ≤ m ∧ m < b) ∧ ds = [.str word, iD n, iD m]) (ema_cons (P := (· = .str word)) (em_d hw rfl) (ema_cons (TL := fun ds => ∃ n m : Nat, ((a ≤ n ∧ n < b) ∧ a ≤ m ∧ m < b) ∧ ds = [iD n, iD m]) hp (ema_one hq) fun d ds p r => ?_) fun d ds p r => ?_) fun ds p => ?_
  · obtain ⟨n, hn, rfl⟩ := p
    obtain ⟨e, rfl, m, hm, rfl⟩ := r
    exact ⟨n, m, ⟨hn, hm⟩, rfl⟩
  · obtain ⟨n, m, h, rfl⟩ := r
    exact ⟨n, m, h, by rw [p]⟩
  · obtain ⟨n, m, ⟨⟨h1, h2⟩, h3, h4⟩, rfl⟩ := p
    obtain ⟨th, ok, e⟩ := f n m h1 h2 h3 h4
    exact ⟨lz 3 rfl, th, ok, e⟩
theorem Rw.wide (w : Rw K S H row) (e : Same S S1) (h : S1 row = none) : Rw K S1 H row := by
  obtain ⟨ns, a, b, c, w⟩ := w
  obtain ⟨va, e1, p1⟩ := w.has
  exact ⟨ns, a, b, c, ⟨h, ⟨va, e1, dp_same e p1⟩, w.i0, w.s0⟩⟩
theorem Rw.out (w : Rw K S H row) : S row = none := by
  obtain ⟨ns, a, b, c, w⟩ := w
  exact w.out
theorem Go.drop {M M' : Addr → Prop} {S S1 H H1 : Hp} (a : Go M S H S1 H1) (h : ∀ b, M b → M' b ∨ H b = none) : Go M' S H S1 H1 :=
  ⟨a.s, a.i, fun b u m e => a.h b u (fun z => (h b z).elim m fun y => by rw [y] at e; cases e) e, a.t, a.n⟩
theorem q_par3M {i j l n : Nat} {P R : PyData → Prop} {D : Ends} {tz : TS} (hn : n = 3) (ha : EvM K row ta σ S P) (hb : EvM K row tb σ S R) (i0 : Same S H) (w : Rw K S H row)
    (k : ∀ x y u v c S1 H1, P x → R y → GoR row S H S1 H1 → Rw K S1 H1 row → Dp K S1 u x → Dp K S1 v y → H c = none → Mu K S1 H1 c [] → tz D (((σ.set i (some u)).set j (some v)).set l (some (.ref c))) H1) : tSeq (tAsg (tTup (tCons ta (tCons tb (tCons (tLst tNil) tNil)))) (gTup K n (gCons (gName i) (gCons (gName j) (gCons (gName l) gNil))))) tz D σ H :=
  ha S H (Same.refl S) i0 w _ fun x u S1 H1 px g1 w1 p1 => hb S1 H1 g1.s g1.i w1 _ fun y v S2 H2 py g2 w2 p2 => ⟨lz 0 rfl, fun c hc => ⟨lz 3 rfl, fun t ht => by
    have gn : G0 S2 H2 S2 (upd H2 c (.lst [])) := Go.newM g2.i hc
    have gt : G0 S2 (upd H2 c (.lst [])) S2 (upd (upd H2 c (.lst [])) t (.tup [u, v, .ref c])) := Go.newM gn.i ht
    have mu : Mu K S2 (upd H2 c (.lst [])) c [] := ⟨g2.i.free hc, [], upd_same, .nil⟩
    exact ⟨t, [u, v, .ref c], rfl, SqT.of upd_same, hn.symm, _, _, rfl, _, _, rfl, _, _, rfl, rfl, k x y u v c S2 _ px py (((g1.trans g2).trans gn.g).trans gt.g) ((w2.g0 gn).g0 gt) (dp_same g2.s p1) p2 ((g1.trans g2).fresh hc) (mu.g0 gt)⟩⟩⟩
/-- a row of the table -/
def TRow (many wide : Nat) (r : List (Nat × Nat)) : Prop := r.length = wide ∧ ∀ p ∈ r, p.1 < many ∧ p.2 ≤ 9
theorem ex_map {β : Type} {g : β → PyData} {Ok : β → Prop} : ∀ {ds : List PyData}, (∀ d ∈ ds, ∃ b, Ok b ∧ d = g b) → ∃ l : List β, ds = l.map g ∧ l.length = ds.length ∧ ∀ b ∈ l, Ok b
  | [], _ => ⟨[], rfl, rfl, fun _ z => absurd z List.not_mem_nil⟩
  | d :: ds, h => by
    obtain ⟨b, ok, rfl⟩ := h _ List.mem_cons_self
    obtain ⟨l, rfl, hl, hok⟩ := ex_map (ds := ds) fun x hx => h x (List.mem_cons_of_mem _ hx)
    exact ⟨b :: l, rfl, by rw [List.length_cons, List.length_cons, hl], fun x hx => by
      rcases List.mem_cons.mp hx with rfl | hx
      · exact ok
      · exact hok x hx⟩
end
section
variable {P : Program} {w : World} {K : PySem.W.Frag} {mg : Str → Option Value} {base : Heap}
theorem sc_L_pick : FnScope ["_law_row", "_law_things"] ["_law_row", "_law_things"] (defScope Zh.s_L_pick) := ⟨rfl, rfl, rfl, by decide +kernel, rfl, by decide +kernel, by decide +kernel⟩
theorem ok_L_pick (M : Mo K mg) (D : Df K mg "_law_pick" Zh.s_L_pick) (f_L_taken : Fn CX0 P w K mg base "_law_taken" 1 ["_law_row", "_law_many"] (spTaken K)) : Fn CX0 P w K mg base "_law_pick" 2 ["_law_row", "_law_things"] (spPick K) :=
  fn_mkS D.1 D.2 (fun _ _ _ _ _ _ us hl => match us, hl with | [_, _], _ => rfl) sc_L_pick (fun vs H Q E h => by obtain ⟨_, _, _, _, _, rfl, _⟩ := h; rfl) fun cdv A outer s0 H E hr => ⟨_, (pss_one (ps_ret (pe_ix (r := rIxL K) ix_list (pv 1) (pe_fn f_L_taken (hr.mono (by decide)) rfl (pa_cons (pv 0) (pa_cons (pe_callB (id := "len") call_len (by rfl) M.len (by decide +kernel) (pa_cons (pv 1) pa_nil)) pa_nil))) (fun _ _ => rfl)))), fun vs H Q h => by
    obtain ⟨S, row, a, xs, hi, rfl, w, hs, ⟨l1, l2⟩, q⟩ := h
    refine ⟨_, rfl, ⟨_, rfl, _, rfl, ?_⟩⟩
    refine ⟨_, _, rfl, .inl ⟨xs, sqL_same hi hs, rfl⟩, ?_⟩
    refine ⟨S, row, xs.length, hi, rfl, w, l1, l2, fun n H' hn g w' => ?_⟩
    refine ⟨a, xs, (n : Int), xs[n]'hn, rfl, rfl, sqL_same g.i hs, ?_, q _ H' (List.getElem_mem hn) g w'⟩
    unfold atI ixN
    rw [if_pos (by omega), if_pos (by omega)]
    exact List.getElem?_eq_getElem hn⟩
theorem sc_L_object : FnScope ["_law_row", "_law_kind", "_law_k", "_law_many", "_law_wide", "_law_rows", "_law_j"] ["_law_row"] (defScope Zh.s_L_object) := ⟨rfl, rfl, rfl, by decide +kernel, rfl, by decide +kernel, by decide +kernel⟩
theorem ok_L_object (M : Mo K mg) (D : Df K mg "_law_object" Zh.s_L_object) (f_L_taken : Fn CX0 P w K mg base "_law_taken" 1 ["_law_row", "_law_many"] (spTaken K)) : Fn CX0 P w K mg base "_law_object" 2 ["_law_row"] (spObj K) :=
  fn_mkS D.1 D.2 (fun _ _ _ _ _ _ us hl => match us, hl with | [_], _ => rfl) sc_L_object (fun vs H Q E h => by obtain ⟨_, _, _, rfl, _⟩ := h; rfl) fun cdv A outer s0 H E hr => ⟨_, (pss_cons (ps_set (i := 1) sc_L_object.nd rfl (Or.inl rfl) (pe_fn f_L_taken (hr.mono (by decide)) rfl (pa_cons (pv 0) (pa_cons pe_int pa_nil))))
    (pss_cons (ps_if (pt_cmpR op_lt (pv 1) pe_int (nomark _)) (pss_one (ps_ret (pe_tup (pa_cons (pe_ix (r := rIxL K) ix_list (pe_lst (pa_cons pe_str (pa_cons pe_str pa_nil))) (pv 1) (fun _ _ => rfl)) (pa_cons (pe_op op_add pe_int (pe_fn f_L_taken (hr.mono (by decide)) rfl (pa_cons (pv 0) (pa_cons pe_int pa_nil)))) pa_nil))))) pss_nil)
    (pss_cons (ps_if (pt_cmpR op_lt (pv 1) pe_int (nomark _)) (pss_one (ps_ret (pe_tup (pa_cons (pe_ix (r := rIxL K) ix_list (pe_lst (pa_cons pe_str (pa_cons pe_str pa_nil))) (pe_op op_sub (pv 1) pe_int) (fun _ _ => rfl)) (pa_cons (pe_op op_add pe_int (pe_fn f_L_taken (hr.mono (by decide)) rfl (pa_cons (pv 0) (pa_cons pe_int pa_nil)))) (pa_cons (pe_op op_add pe_int (pe_fn f_L_taken (hr.mono (by decide)) rfl (pa_cons (pv 0) (pa_cons pe_int pa_nil)))) pa_nil)))))) pss_nil)
    (pss_cons (ps_if (pt_cmpR op_lt (pv 1) pe_int (nomark _)) (pss_one (ps_ret (pe_tup (pa_cons (pe_ix (r := rIxL K) ix_list (pe_lst (pa_cons pe_str (pa_cons pe_str pa_nil))) (pe_op op_sub (pv 1) pe_int) (fun _ _ => rfl)) (pa_cons (pe_op op_add pe_int (pe_fn f_L_taken (hr.mono (by decide)) rfl (pa_cons (pv 0) (pa_cons pe_int pa_nil)))) pa_nil))))) pss_nil)
    (pss_cons (ps_if (pt_cmpR op_eq (pv 1) pe_int (nomark _)) (pss_one (ps_ret (pe_tup (pa_cons pe_str (pa_cons (pe_callTy call_tuple_of (by rfl) M.tuple (by decide +kernel) (pa_cons (pe_lc (own := [("_law_k", 2)]) (g := gName 2) rfl sc_L_object.nd (pi_range1 rfl M.range (pa_cons (pe_op op_add pe_int (pe_fn f_L_taken (hr.mono (by decide)) rfl (pa_cons (pv 0) (pa_cons pe_int pa_nil)))) pa_nil)) (blkOk_by (own := [("_law_k", 2)]) (N := ["_law_row", "_law_kind", "_law_k", "_law_many", "_law_wide", "_law_rows", "_law_j"]) (sc := defScope Zh.s_L_object) (by decide +kernel)) (fun _ _ _ _ _ => (pg_name (i := 2) sc_L_object.nd rfl (Or.inl rfl))) (fun _ _ _ _ _ => pts_nil) (fun _ _ _ _ _ => (pe_fn f_L_taken (hr.mono (by decide)) rfl (pa_cons (pv 0) (pa_cons pe_int pa_nil))))) pa_nil)) pa_nil))))) pss_nil)
    (pss_cons (ps_asg (pe_tup (pa_cons (pe_op op_add pe_int (pe_fn f_L_taken (hr.mono (by decide)) rfl (pa_cons (pv 0) (pa_cons pe_int pa_nil)))) (pa_cons (pe_op op_add pe_int (pe_fn f_L_taken (hr.mono (by decide)) rfl (pa_cons (pv 0) (pa_cons pe_int pa_nil)))) (pa_cons (pe_lst pa_nil) pa_nil)))) (pg_tup rfl (pgs_cons (pg_name (i := 3) sc_L_object.nd rfl (Or.inr rfl)) (pgs_cons (pg_name (i := 4) sc_L_object.nd rfl (Or.inl rfl)) (pgs_cons (pg_name (i := 5) sc_L_object.nd rfl (Or.inl rfl)) pgs_nil)))))
    (pss_cons (ps_for PassesOwn.never rfl (pi_range1 rfl M.range (pa_cons (pv 3) pa_nil)) (pg_name (i := 2) sc_L_object.nd rfl (Or.inl rfl)) (pss_one (ps_expr (pe_bm PySem.F.plainAttrs_list PySem.F.slot_list_append PySem.F.type_list_append mt_append (pv 5) (pa_cons (pe_callTy call_tuple_of (by rfl) M.tuple (by decide +kernel) (pa_cons (pe_lc (own := [("_law_j", 6)]) (g := gName 6) rfl sc_L_object.nd (pi_range1 rfl M.range (pa_cons (pv 4) pa_nil)) (blkOk_by (own := [("_law_j", 6)]) (N := ["_law_row", "_law_kind", "_law_k", "_law_many", "_law_wide", "_law_rows", "_law_j"]) (sc := defScope Zh.s_L_object) (by decide +kernel)) (fun _ _ _ _ _ => (pg_name (i := 6) sc_L_object.nd rfl (Or.inl rfl))) (fun _ _ _ _ _ => pts_nil) (fun _ _ _ _ _ => (pe_tup (pa_cons (pe_fn f_L_taken (hr.mono (by decide)) rfl (pa_cons (pv 0) (pa_cons (pv 3) pa_nil))) (pa_cons (pe_fn f_L_taken (hr.mono (by decide)) rfl (pa_cons (pv 0) (pa_cons pe_int pa_nil))) pa_nil))))) pa_nil)) pa_nil)))))
    (pss_one (ps_ret (pe_tup (pa_cons pe_str (pa_cons (pe_callTy call_tuple_of (by rfl) M.tuple (by decide +kernel) (pa_cons (pv 5) pa_nil)) pa_nil)))))))))))), fun vs H Q h => by
    obtain ⟨S, row, hi, rfl, w, q⟩ := h
    refine q_asgM (K := K) (row := row) (P := fun d => ∃ n : Nat, n < 9 ∧ d = .int (n : Int)) (em_taken (m := 9) rfl (ev_c (.int _)) (by decide) (by decide) fun n h => ⟨n, h, rfl⟩) hi w fun d v S1 H1 hp g1 w1 pv => ?_
    obtain ⟨kd, hk, rfl⟩ := hp
    obtain rfl := dp_int pv
    have lst2 : ∀ {σ : L2.St} {S : Hp} {x y : Str}, EvD K (tLst (tCons (tC (.str x)) (tCons (tC (.str y)) tNil))) σ S (.list [.str x, .str y]) := ev_lst (ea_cons (ev_c (.str _)) (ea_one (ev_c (.str _)))) (lz 2 rfl)
    refine q_if (b := decide ((kd : Int) < 2)) (Sees.refl g1.i) (et_val (K := K) (ev_op rv_lt (ev_var rfl (.int _)) (ev_c (.int _)))) (fun h H2 g2 => ?_) fun h H2 g2 => ?_
    · have h := of_decide_eq_true h
      have w2 := w1.g0 g2
      have fin : ∀ {d v S' H'}, (∃ th, ThOk th ∧ d = thD th) → GoR row S1 H2 S' H' → Rw K S' H' row → Dp K S' v d → Q v H' := fun p g w p2 => by
        obtain ⟨th, ok, rfl⟩ := p
        exact q th _ _ _ ok ((g1.trans g2.g).trans g) w p2
      obtain rfl | rfl : kd = 0 ∨ kd = 1 := by omega
      · exact q_retM (K := K) (row := row) (em_tag1 (ev_op (rv_ixL (i := 0) rfl) lst2 (ev_var rfl (.int 0))) (em_plus (a := 2) (m := 3) rfl (ev_c (.int 3)) (ev_c (.int 2)) (by decide) (by decide)) fun n h1 h2 => ⟨.ctr n, ⟨h1, by omega⟩, rfl⟩) g2.i w2 fun d v S' H' p g w p2 => fin p g w p2
      · exact q_retM (K := K) (row := row) (em_tag1 (ev_op (rv_ixL (i := 1) rfl) lst2 (ev_var rfl (.int 1))) (em_plus (a := 2) (m := 3) rfl (ev_c (.int 3)) (ev_c (.int 2)) (by decide) (by decide)) fun n h1 h2 => ⟨.reg n, ⟨h1, by omega⟩, rfl⟩) g2.i w2 fun d v S' H' p g w p2 => fin p g w p2
    have h := of_decide_eq_false h
    have w2 := w1.g0 g2
    refine q_if (b := decide ((kd : Int) < 4)) (Sees.refl g2.i) (et_val (K := K) (ev_op rv_lt (ev_var rfl (.int _)) (ev_c (.int _)))) (fun h3 H3 g3 => ?_) fun h3 H3 g3 => ?_
    · have h3 := of_decide_eq_true h3
      have w3 := w2.g0 g3
      have fin : ∀ {d v S' H'}, (∃ th, ThOk th ∧ d = thD th) → GoR row S1 H3 S' H' → Rw K S' H' row → Dp K S' v d → Q v H' := fun p g w p2 => by
        obtain ⟨th, ok, rfl⟩ := p
        exact q th _ _ _ ok (((g1.trans g2.g).trans g3.g).trans g) w p2
      obtain rfl | rfl : kd = 2 ∨ kd = 3 := by omega
      · exact q_retM (K := K) (row := row) (em_tag2 (ev_op (rv_ixL (i := 2 - 2) rfl) lst2 (ev_op rv_sub (ev_var rfl (.int 2)) (ev_c (.int 2)))) (em_plus (a := 1) (m := 2) rfl (ev_c (.int 2)) (ev_c (.int 1)) (by decide) (by decide)) (em_plus (a := 1) (m := 2) rfl (ev_c (.int 2)) (ev_c (.int 1)) (by decide) (by decide)) fun n m h1 h2 h3 h4 => ⟨.stk n m, ⟨⟨h1, by omega⟩, h3, by omega⟩, rfl⟩) g3.i w3 fun d v S' H' p g w p2 => fin p g w p2
      · exact q_retM (K := K) (row := row) (em_tag2 (ev_op (rv_ixL (i := 3 - 2) rfl) lst2 (ev_op rv_sub (ev_var rfl (.int 3)) (ev_c (.int 2)))) (em_plus (a := 1) (m := 2) rfl (ev_c (.int 2)) (ev_c (.int 1)) (by decide) (by decide)) (em_plus (a := 1) (m := 2) rfl (ev_c (.int 2)) (ev_c (.int 1)) (by decide) (by decide)) fun n m h1 h2 h3 h4 => ⟨.que n m, ⟨⟨h1, by omega⟩, h3, by omega⟩, rfl⟩) g3.i w3 fun d v S' H' p g w p2 => fin p g w p2
    have h3 := of_decide_eq_false h3
    have w3 := w2.g0 g3
    refine q_if (b := decide ((kd : Int) < 6)) (Sees.refl g3.i) (et_val (K := K) (ev_op rv_lt (ev_var rfl (.int _)) (ev_c (.int _)))) (fun h4 H4 g4 => ?_) fun h4 H4 g4 => ?_
    · have h4 := of_decide_eq_true h4
      have w4 := w3.g0 g4
      have fin : ∀ {d v S' H'}, (∃ th, ThOk th ∧ d = thD th) → GoR row S1 H4 S' H' → Rw K S' H' row → Dp K S' v d → Q v H' := fun p g w p2 => by
        obtain ⟨th, ok, rfl⟩ := p
        exact q th _ _ _ ok ((((g1.trans g2.g).trans g3.g).trans g4.g).trans g) w p2
      obtain rfl | rfl : kd = 4 ∨ kd = 5 := by omega
      · exact q_retM (K := K) (row := row) (em_tag1 (ev_op (rv_ixL (i := 4 - 4) rfl) lst2 (ev_op rv_sub (ev_var rfl (.int 4)) (ev_c (.int 4)))) (em_plus (a := 2) (m := 2) rfl (ev_c (.int 2)) (ev_c (.int 2)) (by decide) (by decide)) fun n h1 h2 => ⟨.set n, ⟨h1, by omega⟩, rfl⟩) g4.i w4 fun d v S' H' p g w p2 => fin p g w p2
      · exact q_retM (K := K) (row := row) (em_tag1 (ev_op (rv_ixL (i := 5 - 4) rfl) lst2 (ev_op rv_sub (ev_var rfl (.int 5)) (ev_c (.int 4)))) (em_plus (a := 2) (m := 2) rfl (ev_c (.int 2)) (ev_c (.int 2)) (by decide) (by decide)) fun n h1 h2 => ⟨.agr n, ⟨h1, by omega⟩, rfl⟩) g4.i w4 fun d v S' H' p g w p2 => fin p g w p2
    have h4 := of_decide_eq_false h4
    have w4 := w3.g0 g4
    have g14 := ((g1.trans g2.g).trans g3.g).trans g4.g
    refine q_if (b := decide ((kd : Int) = 6)) (Sees.refl g4.i) (et_val (K := K) (ev_op rv_eqi (ev_var rfl (.int _)) (ev_c (.int _)))) (fun h5 H5 g5 => ?_) fun h5 H5 g5 => ?_
    · refine q_retM (K := K) (row := row) (P := fun d => ∃ th, ThOk th ∧ d = thD th) (em_tup (PL := fun ds => ∃ l : List Nat, ((2 ≤ l.length ∧ l.length ≤ 3) ∧ ∀ x ∈ l, x ≤ 5) ∧ ds = [.str "bank", .tuple (l.map iD)]) (ema_cons (P := (· = .str "bank")) (em_d (ev_c (.str _)) rfl) (ema_one (em_cb (T := fun d => ∃ l : List Nat, ((2 ≤ l.length ∧ l.length ≤ 3) ∧ ∀ x ∈ l, x ≤ 5) ∧ d = .tuple (l.map iD)) (fun ds p => ?_)
        (ema_one (em_r (P := fun d => ∃ l : List Nat, ((2 ≤ l.length ∧ l.length ≤ 3) ∧ ∀ x ∈ l, x ≤ 5) ∧ d = .list (l.map iD)) (emr_range (N := fun n => 2 ≤ n ∧ n ≤ 3) (P := fun d => ∃ n : Nat, n ≤ 5 ∧ d = iD n) (RL := fun ds => ∃ l : List Nat, ((2 ≤ l.length ∧ l.length ≤ 3) ∧ ∀ x ∈ l, x ≤ 5) ∧ ds = l.map iD)
          (im_1 (ema_cons (em_plus (a := 2) (m := 2) rfl (ev_c (.int 2)) (ev_c (.int 2)) (by decide) (by decide)) ema_nil fun d ds p e => ?_) fun n h => by omega) (fun n h => by omega) (fun _ => rfl) (fun i n hn hi => em_taken (m := 6) rfl (ev_c (.int 6)) (by decide) (by decide) fun n h => ⟨n, by omega, rfl⟩) fun n ds hn hl hp => ?_) ?_)))) fun d ds p r => ?_) fun ds p => ?_) g5.i (w4.g0 g5) fun d v S' H' p g w p2 => ?_
      · obtain ⟨d, rfl, l, hl, rfl⟩ := p
        exact ⟨_, rc_tupleL, l, hl, rfl⟩
      · obtain ⟨n, hn, rfl⟩ := p
        exact ⟨n, by rw [e], by omega⟩
      · obtain ⟨l, e, h1, h2⟩ := ex_map (g := iD) (Ok := fun n => n ≤ 5) hp
        exact ⟨l, ⟨by omega, h2⟩, e⟩
      · rintro ds ⟨l, hl, rfl⟩
        exact ⟨l, hl, rfl⟩
      · obtain ⟨e, rfl, l, hl, rfl⟩ := r
        exact ⟨l, hl, by rw [p]⟩
      · obtain ⟨l, hl, rfl⟩ := p
        exact ⟨lz 2 rfl, .bnk l, hl, rfl⟩
      · obtain ⟨th, ok, rfl⟩ := p
        exact q th _ _ _ ok ((g14.trans g5.g).trans g) w p2
    · have w5 := w4.g0 g5
      refine q_par3M (K := K) (row := row) (i := 3) (j := 4) (l := 5) rfl (em_plus (a := 1) (m := 4) rfl (ev_c (.int 4)) (ev_c (.int 1)) (by decide) (by decide)) (em_plus (a := 1) (m := 3) rfl (ev_c (.int 3)) (ev_c (.int 1)) (by decide) (by decide)) g5.i w5 fun x y u v rl S6 H6 px py g6 w6 pu pv hc m6 => ?_
      obtain ⟨many, hm, rfl⟩ := px
      obtain ⟨wide, hw, rfl⟩ := py
      obtain rfl := dp_int pu
      obtain rfl := dp_int pv
      have nl : rl ≠ row := fun z => by
        have := w5.ne
        rw [← z] at this
        exact this hc
      refine q_forR (lo := 0) (n := many) (ir_1 (K := K) (S := S6) (n := (many : Int)) (ea_one (ev_var rfl (.int _))) (by omega) (by omega) H6 g6.i) (fun k σ' H' => ∃ o2 o6 S' rs, σ' = [some (.ref row), some (.int (kd : Int)), o2, some (.int (many : Int)), some (.int (wide : Int)), some (.ref rl), o6] ∧ Go (fun b => b = row ∨ b = rl) S6 H6 S' H' ∧ Rw K S' H' row ∧ Mu K S' H' rl (rowsD rs) ∧ rs.length = k ∧ ∀ r ∈ rs, TRow many wide r) (fun S7 H7 g7 => ?_) ?_ ?_
      · exact ⟨_, _, S7, [], rfl, g7.g, w6.g0 g7, m6.g0 g7, rfl, fun _ z => absurd z List.not_mem_nil⟩
      · rintro k σ' H' hk ⟨o2, o6, S', rs, rfl, g7, w7, m7, hl, hr⟩
        have tk : ∀ (n : Nat) (o : Option V), 1 ≤ n → n ≤ 10 → ∀ te : TE, EvD K te [some (.ref row), some (.int (kd : Int)), some (.int (0 + (k : Int))), some (.int (many : Int)), some (.int (wide : Int)), some (.ref rl), o] S' (.int (n : Int)) → EvM K row (tCall (spTaken K) [] E0 (tCons (tVar 0) (tCons te tNil))) [some (.ref row), some (.int (kd : Int)), some (.int (0 + (k : Int))), some (.int (many : Int)), some (.int (wide : Int)), some (.ref rl), o] S' (fun d => ∃ a : Nat, a < n ∧ d = iD a) :=
          fun n o h1 h2 te h => em_taken (m := n) rfl h h1 (by omega) fun a ha => ⟨a, ha, rfl⟩
        refine s_appM (K := K) (row := row) (P := fun d => ∃ r, TRow many wide r ∧ d = .tuple (r.map pairD)) rfl m7 (em_cb (PL := fun ds => ∃ r, TRow many wide r ∧ ds = [.list (r.map pairD)]) ?_ (ema_cons (em_r (P := fun d => ∃ r, TRow many wide r ∧ d = .list (r.map pairD)) (emr_range (N := (· = wide)) (P := fun d => ∃ p : Nat × Nat, (p.1 < many ∧ p.2 ≤ 9) ∧ d = pairD p) (RL := fun ds => ∃ r, TRow many wide r ∧ ds = r.map pairD)
          (im_1 (ema_cons (em_d (P := (· = iD wide)) (ev_var rfl (.int _)) rfl) ema_nil fun d ds p e => ?_) fun n h => by omega) (fun n h => by omega) (fun _ => rfl) (fun i n hn hi => em_tup (PL := fun ds => ∃ p : Nat × Nat, (p.1 < many ∧ p.2 ≤ 9) ∧ ds = [iD p.1, iD p.2]) (ema_cons (tk many _ hm.1 (by omega) _ (ev_var rfl (.int _))) (ema_one (tk 4 _ (by decide) (by decide) _ (ev_c (.int 4)))) fun d ds p r => ?_) fun ds p => ?_) fun n ds hn hl hp => ?_) ?_) ema_nil fun d ds p e => ?_)) g7.i w7 (by rw [List.length_map, hl]; omega) nl fun d S8 H8 p8 g8 w8 m8 => ?_
        · rintro ds ⟨r, hr, rfl⟩
          exact ⟨_, rc_tupleL, r, hr, rfl⟩
        · exact ⟨wide, by rw [e, p], rfl⟩
        · obtain ⟨a, ha, rfl⟩ := p
          obtain ⟨e, rfl, b, hb, rfl⟩ := r
          exact ⟨(a, b), ⟨ha, by show b ≤ 9; omega⟩, rfl⟩
        · obtain ⟨p, hp, rfl⟩ := p
          exact ⟨lz 2 rfl, p, hp, rfl⟩
        · obtain ⟨r, e, h1, h2⟩ := ex_map (g := pairD) (Ok := fun p : Nat × Nat => p.1 < many ∧ p.2 ≤ 9) hp
          exact ⟨r, ⟨by omega, h2⟩, e⟩
        · rintro ds ⟨r, hr, rfl⟩
          exact ⟨r, hr, rfl⟩
        · obtain ⟨r, hr, rfl⟩ := p
          exact ⟨r, hr, by rw [e]⟩
        · obtain ⟨r, h8, rfl⟩ := p8
          refine ⟨_, _, S8, rs ++ [r], rfl, g7.trans g8, w8, ?_, by rw [List.length_append, hl]; rfl, fun x hx => ?_⟩
          · show Mu K S8 H8 rl ((rs ++ [r]).map fun r => .tuple (r.map pairD))
            rw [List.map_append]
            exact m8
          · rcases List.mem_append.mp hx with h | h
            · exact hr x h
            · rw [List.mem_singleton.mp h]
              exact h8
      · rintro σ' H' ⟨o2, o6, S', rs, rfl, g7, w7, m7, hl, hr⟩
        have g67 := (g6.weak (M' := fun b => b = row ∨ b = rl) fun _ z => .inl z).trans g7
        obtain ⟨S8, g8, e8, rl8, hb⟩ := m7.frz g67 hc
        have w8 := w7.wide e8 (by rw [hb _ fun z => nl z.symm]; exact w7.out)
        have g8' := g8.drop (M' := (· = row)) fun b h => h.elim .inl fun z => .inr (by rw [z]; exact hc)
        refine q_ret (K := K) (ev_tup (ea_cons (ev_c (.str _)) (ea_one (ev_cb rc_tupleL (ea_one (ev_var rfl rl8.d))))) (lz 2 rfl)) g8.i fun v S9 H9 g9 p9 => ?_
        exact q (.tab rs) v S9 H9 ⟨by omega, ⟨wide, by omega, by omega, fun r h => (hr r h).1⟩, fun r h p hp => by rw [hl]; exact (hr r h).2 p hp⟩ (((g14.trans g5.g).trans g8').trans g9.g) (w8.g0 g9) p9⟩
end
end Zb
set_option Elab.async false
set_option linter.all false
set_option maxRecDepth 100000
set_option maxHeartbeats 4000000
namespace Zb
open PySem PySem.Spec PyProof.Rows L2
def FlatD : PyData → Prop
  | .bool _ => True
  | .int _ => True
  | .str _ => True
  | _ => False
def FlatT : PyData → Prop
  | .tuple ds => (∀ x ∈ ds, FlatD x) ∧ ds.length < 10000
  | _ => False
abbrev spAl (K : PySem.W.Frag) (ok : PyData → Prop) : Sp := spF K (fun d : PyData => [d, d]) ok (fun _ => .bool true)
abbrev spNo : Sp := fun _ _ _ _ => False
theorem rv_eqSame {K : PySem.W.Frag} {S : Hp} {d : PyData} (h : FlatD d) : RvD K rEq S d d (.bool true) := by
  match d, h with
  | .bool b, _ => exact (show decide (b = b) = true by simp) ▸ rv_eqb (a := b) (c := b)
  | .int b, _ => exact (show decide (b = b) = true by simp) ▸ rv_eqi (a := b) (c := b)
  | .str b, _ => exact (show decide (b = b) = true by simp) ▸ rv_eqs (a := b) (c := b)
section
variable {P : Program} {w : World} {K : PySem.W.Frag} {mg : Str → Option Value} {base : Heap}
theorem sc_L_alike : FnScope ["_law_found", "_law_due", "_law_k"] ["_law_found", "_law_due"] (defScope Zh.s_L_alike) := ⟨rfl, rfl, rfl, by decide +kernel, rfl, by decide +kernel, by decide +kernel⟩
theorem ok_L_alike0 (D : Df K mg "_law_alike" Zh.s_L_alike) : Fn CX0 P w K mg base "_law_alike" 1 ["_law_found", "_law_due"] spNo := by
  obtain ⟨⟨fd, F⟩, g⟩ := D
  exact ⟨⟨fd, F.ok sc_L_alike (fun vs H Q E h => h.elim) (fun cdv A outer s H vs Q E hr h => h.elim), F.bindsN (fun _ _ _ _ _ _ us hl => match us, hl with | [_, _], _ => rfl)⟩, F.kp, g⟩
theorem ok_L_alike1 (M : Mo K mg) (D : Df K mg "_law_alike" Zh.s_L_alike) (f_L_alike : Fn CX0 P w K mg base "_law_alike" 1 ["_law_found", "_law_due"] spNo) : Fn CX0 P w K mg base "_law_alike" 2 ["_law_found", "_law_due"] (spAl K FlatD) :=
  fn_mk D.1 D.2 (fun _ _ _ _ _ _ us hl => match us, hl with | [_, _], _ => rfl) sc_L_alike (fun _ => rfl) fun cdv A outer s H E hr => ⟨_, (pss_cons (ps_if (pt_val (pe_callB (id := "isinstance") call_isiT (by rfl) M.isinstance (by decide +kernel) (pa_cons (pv 1) (pa_cons (pe_tup (pa_cons (pe_bltn (v := .ty "tuple") (by rfl) M.tuple (by decide +kernel) rfl) (pa_cons (pe_bltn (v := .ty "list") (by rfl) M.list (by decide +kernel) rfl) pa_nil))) pa_nil)))) (pss_cons (ps_if (PW.pt (pw_or (pt_not (pt_val (pe_callB (id := "isinstance") call_isiT (by rfl) M.isinstance (by decide +kernel) (pa_cons (pv 0) (pa_cons (pe_tup (pa_cons (pe_bltn (v := .ty "tuple") (by rfl) M.tuple (by decide +kernel) rfl) (pa_cons (pe_bltn (v := .ty "list") (by rfl) M.list (by decide +kernel) rfl) pa_nil))) pa_nil))))) (pw_or1 (pt_cmpR op_ne (pe_callB (id := "isinstance") call_isi (by rfl) M.isinstance (by decide +kernel) (pa_cons (pv 0) (pa_cons (pe_bltn (v := .ty "list") (by rfl) M.list (by decide +kernel) rfl) pa_nil))) (pe_callB (id := "isinstance") call_isi (by rfl) M.isinstance (by decide +kernel) (pa_cons (pv 1) (pa_cons (pe_bltn (v := .ty "list") (by rfl) M.list (by decide +kernel) rfl) pa_nil))) (nomark _))))) (pss_one (ps_ret pe_bl)) pss_nil)
    (pss_cons (ps_if (pt_cmpR op_ne (pe_callB (id := "len") call_len (by rfl) M.len (by decide +kernel) (pa_cons (pv 0) pa_nil)) (pe_callB (id := "len") call_len (by rfl) M.len (by decide +kernel) (pa_cons (pv 1) pa_nil)) (nomark _)) (pss_one (ps_ret pe_bl)) pss_nil)
    (pss_one (ps_ret (pe_cmpR (op_eqNil hr.units0) (pe_lc (own := [("_law_k", 2)]) (g := gName 2) rfl sc_L_alike.nd (pi_range1 rfl M.range (pa_cons (pe_callB (id := "len") call_len (by rfl) M.len (by decide +kernel) (pa_cons (pv 1) pa_nil)) pa_nil)) (blkOk_by (own := [("_law_k", 2)]) (N := ["_law_found", "_law_due", "_law_k"]) (sc := defScope Zh.s_L_alike) (by decide +kernel)) (fun _ _ _ _ _ => (pg_name (i := 2) sc_L_alike.nd rfl (Or.inl rfl))) (fun _ _ _ _ _ => pts_one (pt_not (pt_val (pe_fn f_L_alike (hr.mono (by decide)) rfl (pa_cons (pe_ix (r := rIxT K) ix_tup (pv 0) (pv 2) (fun _ _ => rfl)) (pa_cons (pe_ix (r := rIxT K) ix_tup (pv 1) (pv 2) (fun _ _ => rfl)) pa_nil)))))) (fun _ _ _ _ _ => (pv 2))) (pe_lst pa_nil) (nomark _)))))) pss_nil)
    (pss_cons (ps_if (PW.pt (pw_or (pt_cmpR op_isN (pv 1) pe_non (nomark _)) (pw_or1 (pt_val (pe_callB (id := "isinstance") call_isi (by rfl) M.isinstance (by decide +kernel) (pa_cons (pv 1) (pa_cons (pe_bltn (v := .ty "str") (by rfl) M.str (by decide +kernel) rfl) pa_nil))))))) (pss_one (ps_ret (pe_and (pe_cmpR op_eq (pv 0) (pv 1) (nomark _)) (pe_one (pe_cmpR op_eq (pe_callB (id := "isinstance") call_isi (by rfl) M.isinstance (by decide +kernel) (pa_cons (pv 0) (pa_cons (pe_bltn (v := .ty "str") (by rfl) M.str (by decide +kernel) rfl) pa_nil))) (pe_callB (id := "isinstance") call_isi (by rfl) M.isinstance (by decide +kernel) (pa_cons (pv 1) (pa_cons (pe_bltn (v := .ty "str") (by rfl) M.str (by decide +kernel) rfl) pa_nil))) (nomark _)))))) pss_nil)
    (pss_one (ps_ret (pe_and (pe_callB (id := "isinstance") call_isi (by rfl) M.isinstance (by decide +kernel) (pa_cons (pv 0) (pa_cons (pe_bltn (v := .ty "int") (by rfl) M.int (by decide +kernel) rfl) pa_nil))) (pe_and (pe_cmpR op_eq (pe_callB (id := "isinstance") call_isi (by rfl) M.isinstance (by decide +kernel) (pa_cons (pv 0) (pa_cons (pe_bltn (v := .ty "bool") (by rfl) M.bool (by decide +kernel) rfl) pa_nil))) (pe_callB (id := "isinstance") call_isi (by rfl) M.isinstance (by decide +kernel) (pa_cons (pv 1) (pa_cons (pe_bltn (v := .ty "bool") (by rfl) M.bool (by decide +kernel) rfl) pa_nil))) (nomark _)) (pe_one (pe_cmpR op_eq (pv 0) (pv 1) (nomark _))))))))), fun d vs S hd p => by
    obtain ⟨v, r, rfl, pv, pr⟩ := dpAll_cons p
    obtain ⟨u, r2, rfl, pu, pr2⟩ := dpAll_cons pr
    obtain rfl := dpAll_nil pr2
    have e1 : kitB (tyD d) "tuple" = some false := by match d, hd with | .bool b, _ => rfl | .int b, _ => rfl | .str b, _ => rfl
    have e2 : kitB (tyD d) "list" = some false := by match d, hd with | .bool b, _ => rfl | .int b, _ => rfl | .str b, _ => rfl
    refine r_if (K := K) (b := false) (et_B (ev_isi2 (ev_var rfl pu) e1 e2)) (fun z => by cases z) fun _ => ?_
    refine r_next ?_
    by_cases hs : ∃ x, d = .str x
    · obtain ⟨x, rfl⟩ := hs
      refine r_if (K := K) (b := true) (et_or (a := false) (et_val (ev_op rv_isNone (ev_var rfl pu) (ev_c .non))) fun _ => et_B (ev_isi (ev_var rfl pu) rfl)) (fun _ => ?_) fun z => by cases z
      exact r_stop (r_ret (ev_is (ev_and (a := true) (c := true) (ev_op (rv_eqSame hd) (ev_var rfl pv) (ev_var rfl pu)) fun _ => ev_op rv_eqb (ev_isi (ev_var rfl pv) rfl) (ev_isi (ev_var rfl pu) rfl)) rfl))
    · have e3 : kitB (tyD d) "str" = some false := by
        match d, hd with
        | .bool b, _ => rfl
        | .int b, _ => rfl
        | .str b, _ => exact absurd ⟨b, rfl⟩ hs
      have e4 : isNone d = false := by match d, hd with | .bool b, _ => rfl | .int b, _ => rfl | .str b, _ => rfl
      have e5 : kitB (tyD d) "int" = some true := by
        match d, hd with
        | .bool b, _ => rfl
        | .int b, _ => rfl
        | .str b, _ => exact absurd ⟨b, rfl⟩ hs
      obtain ⟨b6, e6⟩ : ∃ b6, kitB (tyD d) "bool" = some b6 := by match d, hd with | .bool b, _ => exact ⟨_, rfl⟩ | .int b, _ => exact ⟨_, rfl⟩ | .str b, _ => exact ⟨_, rfl⟩
      refine r_if (K := K) (b := false) (et_is (et_or (et_val (ev_op rv_isNone (ev_var rfl pu) (ev_c .non))) fun _ => et_B (ev_isi (ev_var rfl pu) e3)) (by rw [e4]; rfl)) (fun z => by cases z) fun _ => ?_
      refine r_next (r_ret (ev_is (ev_and (ev_isi (ev_var rfl pv) e5) fun _ => ev_and (ev_op rv_eqb (ev_isi (ev_var rfl pv) e6) (ev_isi (ev_var rfl pu) e6)) fun _ => ev_op (rv_eqSame hd) (ev_var rfl pv) (ev_var rfl pu)) (by simp)))⟩
theorem ok_L_alike2 (M : Mo K mg) (D : Df K mg "_law_alike" Zh.s_L_alike) (f_L_alike : Fn CX0 P w K mg base "_law_alike" 2 ["_law_found", "_law_due"] (spAl K FlatD)) : Fn CX0 P w K mg base "_law_alike" 3 ["_law_found", "_law_due"] (spAl K fun d => FlatD d ∨ FlatT d) :=
  fn_mk D.1 D.2 (fun _ _ _ _ _ _ us hl => match us, hl with | [_, _], _ => rfl) sc_L_alike (fun _ => rfl) fun cdv A outer s H E hr => ⟨_, (pss_cons (ps_if (pt_val (pe_callB (id := "isinstance") call_isiT (by rfl) M.isinstance (by decide +kernel) (pa_cons (pv 1) (pa_cons (pe_tup (pa_cons (pe_bltn (v := .ty "tuple") (by rfl) M.tuple (by decide +kernel) rfl) (pa_cons (pe_bltn (v := .ty "list") (by rfl) M.list (by decide +kernel) rfl) pa_nil))) pa_nil)))) (pss_cons (ps_if (PW.pt (pw_or (pt_not (pt_val (pe_callB (id := "isinstance") call_isiT (by rfl) M.isinstance (by decide +kernel) (pa_cons (pv 0) (pa_cons (pe_tup (pa_cons (pe_bltn (v := .ty "tuple") (by rfl) M.tuple (by decide +kernel) rfl) (pa_cons (pe_bltn (v := .ty "list") (by rfl) M.list (by decide +kernel) rfl) pa_nil))) pa_nil))))) (pw_or1 (pt_cmpR op_ne (pe_callB (id := "isinstance") call_isi (by rfl) M.isinstance (by decide +kernel) (pa_cons (pv 0) (pa_cons (pe_bltn (v := .ty "list") (by rfl) M.list (by decide +kernel) rfl) pa_nil))) (pe_callB (id := "isinstance") call_isi (by rfl) M.isinstance (by decide +kernel) (pa_cons (pv 1) (pa_cons (pe_bltn (v := .ty "list") (by rfl) M.list (by decide +kernel) rfl) pa_nil))) (nomark _))))) (pss_one (ps_ret pe_bl)) pss_nil)
    (pss_cons (ps_if (pt_cmpR op_ne (pe_callB (id := "len") call_len (by rfl) M.len (by decide +kernel) (pa_cons (pv 0) pa_nil)) (pe_callB (id := "len") call_len (by rfl) M.len (by decide +kernel) (pa_cons (pv 1) pa_nil)) (nomark _)) (pss_one (ps_ret pe_bl)) pss_nil)
    (pss_one (ps_ret (pe_cmpR (op_eqNil hr.units0) (pe_lc (own := [("_law_k", 2)]) (g := gName 2) rfl sc_L_alike.nd (pi_range1 rfl M.range (pa_cons (pe_callB (id := "len") call_len (by rfl) M.len (by decide +kernel) (pa_cons (pv 1) pa_nil)) pa_nil)) (blkOk_by (own := [("_law_k", 2)]) (N := ["_law_found", "_law_due", "_law_k"]) (sc := defScope Zh.s_L_alike) (by decide +kernel)) (fun _ _ _ _ _ => (pg_name (i := 2) sc_L_alike.nd rfl (Or.inl rfl))) (fun _ _ _ _ _ => pts_one (pt_not (pt_val (pe_fn f_L_alike (hr.mono (by decide)) rfl (pa_cons (pe_ix (r := rIxT K) ix_tup (pv 0) (pv 2) (fun _ _ => rfl)) (pa_cons (pe_ix (r := rIxT K) ix_tup (pv 1) (pv 2) (fun _ _ => rfl)) pa_nil)))))) (fun _ _ _ _ _ => (pv 2))) (pe_lst pa_nil) (nomark _)))))) pss_nil)
    (pss_cons (ps_if (PW.pt (pw_or (pt_cmpR op_isN (pv 1) pe_non (nomark _)) (pw_or1 (pt_val (pe_callB (id := "isinstance") call_isi (by rfl) M.isinstance (by decide +kernel) (pa_cons (pv 1) (pa_cons (pe_bltn (v := .ty "str") (by rfl) M.str (by decide +kernel) rfl) pa_nil))))))) (pss_one (ps_ret (pe_and (pe_cmpR op_eq (pv 0) (pv 1) (nomark _)) (pe_one (pe_cmpR op_eq (pe_callB (id := "isinstance") call_isi (by rfl) M.isinstance (by decide +kernel) (pa_cons (pv 0) (pa_cons (pe_bltn (v := .ty "str") (by rfl) M.str (by decide +kernel) rfl) pa_nil))) (pe_callB (id := "isinstance") call_isi (by rfl) M.isinstance (by decide +kernel) (pa_cons (pv 1) (pa_cons (pe_bltn (v := .ty "str") (by rfl) M.str (by decide +kernel) rfl) pa_nil))) (nomark _)))))) pss_nil)
    (pss_one (ps_ret (pe_and (pe_callB (id := "isinstance") call_isi (by rfl) M.isinstance (by decide +kernel) (pa_cons (pv 0) (pa_cons (pe_bltn (v := .ty "int") (by rfl) M.int (by decide +kernel) rfl) pa_nil))) (pe_and (pe_cmpR op_eq (pe_callB (id := "isinstance") call_isi (by rfl) M.isinstance (by decide +kernel) (pa_cons (pv 0) (pa_cons (pe_bltn (v := .ty "bool") (by rfl) M.bool (by decide +kernel) rfl) pa_nil))) (pe_callB (id := "isinstance") call_isi (by rfl) M.isinstance (by decide +kernel) (pa_cons (pv 1) (pa_cons (pe_bltn (v := .ty "bool") (by rfl) M.bool (by decide +kernel) rfl) pa_nil))) (nomark _)) (pe_one (pe_cmpR op_eq (pv 0) (pv 1) (nomark _))))))))), fun d vs S hd p => by
    obtain ⟨v, r, rfl, pv, pr⟩ := dpAll_cons p
    obtain ⟨u, r2, rfl, pu, pr2⟩ := dpAll_cons pr
    obtain rfl := dpAll_nil pr2
    rcases hd with hd | hd
    · have e1 : kitB (tyD d) "tuple" = some false := by match d, hd with | .bool b, _ => rfl | .int b, _ => rfl | .str b, _ => rfl
      have e2 : kitB (tyD d) "list" = some false := by match d, hd with | .bool b, _ => rfl | .int b, _ => rfl | .str b, _ => rfl
      refine r_if (K := K) (b := false) (et_B (ev_isi2 (ev_var rfl pu) e1 e2)) (fun z => by cases z) fun _ => ?_
      refine r_next ?_
      by_cases hs : ∃ x, d = .str x
      · obtain ⟨x, rfl⟩ := hs
        refine r_if (K := K) (b := true) (et_or (a := false) (et_val (ev_op rv_isNone (ev_var rfl pu) (ev_c .non))) fun _ => et_B (ev_isi (ev_var rfl pu) rfl)) (fun _ => ?_) fun z => by cases z
        exact r_stop (r_ret (ev_is (ev_and (a := true) (c := true) (ev_op (rv_eqSame hd) (ev_var rfl pv) (ev_var rfl pu)) fun _ => ev_op rv_eqb (ev_isi (ev_var rfl pv) rfl) (ev_isi (ev_var rfl pu) rfl)) rfl))
      · have e3 : kitB (tyD d) "str" = some false := by
          match d, hd with
          | .bool b, _ => rfl
          | .int b, _ => rfl
          | .str b, _ => exact absurd ⟨b, rfl⟩ hs
        have e4 : isNone d = false := by match d, hd with | .bool b, _ => rfl | .int b, _ => rfl | .str b, _ => rfl
        have e5 : kitB (tyD d) "int" = some true := by
          match d, hd with
          | .bool b, _ => rfl
          | .int b, _ => rfl
          | .str b, _ => exact absurd ⟨b, rfl⟩ hs
        obtain ⟨b6, e6⟩ : ∃ b6, kitB (tyD d) "bool" = some b6 := by match d, hd with | .bool b, _ => exact ⟨_, rfl⟩ | .int b, _ => exact ⟨_, rfl⟩ | .str b, _ => exact ⟨_, rfl⟩
        refine r_if (K := K) (b := false) (et_is (et_or (et_val (ev_op rv_isNone (ev_var rfl pu) (ev_c .non))) fun _ => et_B (ev_isi (ev_var rfl pu) e3)) (by rw [e4]; rfl)) (fun z => by cases z) fun _ => ?_
        refine r_next (r_ret (ev_is (ev_and (ev_isi (ev_var rfl pv) e5) fun _ => ev_and (ev_op rv_eqb (ev_isi (ev_var rfl pv) e6) (ev_isi (ev_var rfl pu) e6)) fun _ => ev_op (rv_eqSame hd) (ev_var rfl pv) (ev_var rfl pu)) (by simp)))
    match d, hd, pv, pu with
    | .tuple ds, hd, pv, pu =>
      obtain ⟨hd, hl⟩ := hd
      refine r_if (K := K) (b := true) (et_B (ev_isi2 (a := true) (b := false) (ev_var rfl pu) rfl rfl)) (fun _ => ?_) fun z => by cases z
      refine r_stop (r_if (K := K) (b := false) (et_is (et_or (et_not (et_B (ev_isi2 (a := true) (b := false) (ev_var rfl pv) rfl rfl))) fun _ => et_val (ev_op rv_neb (ev_isi (b := false) (ev_var rfl pv) rfl) (ev_isi (b := false) (ev_var rfl pu) rfl))) rfl) (fun z => by cases z) fun _ => ?_)
      refine r_next (r_if (K := K) (b := false) (et_is (et_val (ev_op rv_nei (ev_cb rc_lenT (ea_one (ev_var rfl pv))) (ev_cb rc_lenT (ea_one (ev_var rfl pu))))) (by simp)) (fun z => by cases z) fun _ => ?_)
      refine r_next (r_ret (ev_is (ev_op rv_eqnil (ec_range (lo := 0) (n := ds.length) (f := fun _ => false) (g := fun i => .int (0 + (i : Int))) (ir_1 (ea_one (ev_cb rc_lenT (ea_one (ev_var rfl pu)))) (by omega) (by omega)) (by omega) (fun _ => rfl) (fun i hi S1 e => ?_) (fun i hi hf => by cases hf)) (ev_lst ea_nil (lz 0 rfl))) ?_))
      · have at1 : atI ds (0 + (i : Int)) = some (ds[i]'hi) := by
          unfold atI ixN
          rw [if_pos (by omega), if_pos (by omega)]
          rw [show ((0 : Int) + (i : Int)).toNat = i by omega]
          exact List.getElem?_eq_getElem hi
        refine et_is (et_not (et_B (ev_call (arg := fun d : PyData => [d, d]) (pre := FlatD) (res := fun _ => .bool true) (ds[i]'hi) (hd _ (List.getElem_mem hi)) (ea_cons (ev_op (rv_ixT at1) (ev_var rfl (dp_same e pv)) (ev_var rfl (.int _))) (ea_one (ev_op (rv_ixT at1) (ev_var rfl (dp_same e pu)) (ev_var rfl (.int _)))))))) rfl
      · simp⟩
end
end Zb
set_option Elab.async false
set_option linter.all false
set_option maxRecDepth 100000
set_option maxHeartbeats 4000000
/-! set(texts), sorted of it: some of the texts. -/
namespace Zb
open PySem PySem.Spec PyProof.Rows L2
/-- a member: one of the texts -/
def GdS (w : World) (xs : List Str) (e : Int × Value) : Prop := ∃ k tk, k ∈ xs ∧ e.2 = Value.str k tk ∧ e.1 = hashStr w k
structure SetX (w : World) (h : Heap) (a : Addr) (xs : List Str) (n : Nat) (o : Obj) (es : Array (Int × Value)) (ep : Nat) (t : SetTable) : Prop where
  ob : h.get? a = some o
  ex : o.ExactSet
  dat : o.data = .set es ep t
  mem : ∀ e ∈ es.toList, GdS w xs e
  sz : es.size < scanBound
  fit : t.fits es.size = true
  few : es.size ≤ n
  ris : Ris t.place.toList
  led : w.params.followText "set-order" = true ∨ t.led = true
def SetS (w : World) (h : Heap) (a : Addr) (xs : List Str) (n : Nat) : Prop := ∃ o es ep t, SetX w h a xs n o es ep t
section
variable {P : Program} {w : World} {h h' : Heap} {a : Addr} {xs : List Str} {n : Nat}
theorem SetS.at (R : SetS w h a xs n) (k : ∀ o, h.get? a = some o → h'.get? a = some o) : SetS w h' a xs n := by
  obtain ⟨o, es, ep, t, r⟩ := R
  exact ⟨o, es, ep, t, k o r.ob, r.ex, r.dat, r.mem, r.sz, r.fit, r.few, r.ris, r.led⟩
theorem is_txt (k : Str) (u : Tok) : (PySem.strKind P w).is k (.str k u) = true := by
  show Value.isStrOf k (.str k u) = true
  simp [Value.isStrOf]
theorem elems_txt {l : List (Int × Value)} (g : ∀ e ∈ l, GdS w xs e) : ElemsOf (PySem.strKind P w) l := fun e he => by
  obtain ⟨k, tk, _, h1, h2⟩ := g e he
  exact ⟨⟨k, by rw [h1]; exact is_txt k tk, h2⟩, by rw [h1] <;> rfl⟩
end
section
variable {P : Program} {w : World} {A : Around} {E : Value → Shared → Prop} {s : Shared} {a : Addr} {xs : List Str} {n : Nat}
theorem setS_tail {g : Bool → Sem Unit} (hg : ∀ (b : Bool) (s₁ : Shared) (Q' : Unit → Shared → Prop), Q' () s₁ → wpAny (model P w) A (g b) Q' E s₁)
    {o : Obj} {es : Array (Int × Value)} {ep : Nat} {t : SetTable} (ho : s.heap.get? a = some o) (hex : o.ExactSet) (hd : o.data = .set es ep t)
    {es1 : Array (Int × Value)} {t2 : SetTable} (g1 : ∀ e ∈ es1.toList, GdS w xs e) (hn : es1.size ≤ n)
    (hb1 : es1.size < scanBound) (hf2 : t2.fits es1.size = true) (hr : Ris t2.place.toList) (hl : w.params.followText "set-order" = true ∨ t2.led = true) {wasDummy : Bool} {R : Option Bool → Shared → Prop}
    (hR : ∀ h', Heap.SameBut a s.heap h' → SetS w h' a xs n → R (some true) { s with heap := h' }) :
    wpAny (model P w) A (do
        storeSet a es1 t2
        if (!wasDummy && t2.tooFull) = true then do
            g (relayAll t2 es1 (SetTable.grown es1.size)).2.2
            storeSet a (relayAll t2 es1 (SetTable.grown es1.size)).1 (relayAll t2 es1 (SetTable.grown es1.size)).2.1
            pure (some true)
          else pure (some true)) R E s := by
  refine wpAny_bind (wpAny_storeSet_of ho hd ?_ (fits_of_scanBound hb1))
  have ho1 := store_at (es' := es1) (t' := t2) ho hd
  have sb1 := Heap.SameBut.update s.heap a (Obj.putSet es1 t2)
  split
  · have pm := relayAll_perm t2 es1 (SetTable.grown es1.size)
    have hf3 := relayAll_fits t2 es1 (SetTable.grown es1.size)
    have hr3 := relayAll_ris t2 es1 (SetTable.grown es1.size)
    have hl3 := relayAll_led t2 es1 (SetTable.grown es1.size)
    generalize relayAll t2 es1 (SetTable.grown es1.size) = Z at pm hf3 hr3 hl3 ⊢
    obtain ⟨es2, t3, gave⟩ := Z
    dsimp only at pm hf3 hr3 hl3 ⊢
    have hsz : es2.size = es1.size := by rw [← Array.length_toList, pm.length_eq, Array.length_toList]
    have hb2 : es2.size < scanBound := by rw [hsz]; exact hb1
    refine wpAny_bind (hg _ _ _ ?_)
    refine wpAny_bind (wpAny_storeSet_of ho1 rfl ?_ (fits_of_scanBound hb2))
    have ho2 := store_at (es' := es2) (t' := t3) ho1 rfl
    exact wpAny_pure (hR _ (sb1.trans (Heap.SameBut.update _ a _)) ⟨_, es2, _, t3, ho2, hex, rfl, fun e he => g1 e (pm.mem_iff.mp he), hb2, by rw [hsz]; rw [hsz] at hf3; exact hf3, by rw [hsz]; exact hn, hr3, hl.imp id fun z => by rw [hl3]; exact z⟩)
  · exact wpAny_pure (hR _ sb1 ⟨_, es1, _, t2, ho1, hex, rfl, g1, hb1, hf2, hn, hr, hl⟩)
theorem setS_add {k : Str} {tk : Tok} {Q : Bool → Shared → Prop} (R : SetS w s.heap a xs n) (hk : k ∈ xs) (room : n + 1 < scanBound)
    (hQ : ∀ h' b, Heap.SameBut a s.heap h' → SetS w h' a xs (n + 1) → Q b { s with heap := h' }) :
    wpAny (model P w) A (setAddHashed a (.str k tk) ((PySem.strKind P w).hash k)) Q E s := by
  obtain ⟨o, es, ep, t, ⟨ho, hex, hd, g, hb, hf, hn, hr, hl⟩⟩ := R
  have hkey : (PySem.strKind P w).is k (.str k tk) = true := is_txt k tk
  have hsc : (Value.str k tk).scannable = true := rfl
  have hel : ElemsOf (PySem.strKind P w) es.toList := elems_txt g
  unfold setAddHashed setAddHashedIn
  refine wpAny_holding (wpAny_bind (wpAny_setState_of ho hd hf ?_))
  dsimp only
  rw [byScan_of hsc hb hel]
  simp only [↓reduceIte]
  unfold setAddByScan
  refine wpAny_bind ?_
  refine wpAny_bind (wpAny_rule ?_)
  refine wpAny_bind (wpAny_setScan_of hkey ho hd hf hel ?_)
  cases hfi : List.findIdx? (fun e => (PySem.strKind P w).is k e.2) es.toList with
  | some j =>
    dsimp only
    exact wpAny_pure (wpAny_pure (hQ s.heap _ (Heap.SameBut.refl a s.heap) ⟨o, es, ep, t, ho, hex, hd, g, hb, hf, by omega, hr, hl⟩))
  | none =>
    dsimp only
    have hgw : ∀ (b : Bool) {s₁ : Shared} {Q' : Unit → Shared → Prop}, Q' () s₁ → wpAny (model P w) A (match b with | true => rule "set.scan.the-table-gave-way" | false => pure ()) Q' E s₁ :=
      fun b s₁ Q' q => by cases b <;> first | exact wpAny_pure q | exact wpAny_rule q
    have pm := layNew_perm t es ((PySem.strKind P w).hash k) (.str k tk)
    have hf1 := layNew_fits t es ((PySem.strKind P w).hash k) (.str k tk)
    have hr1 := layNew_ris t es ((PySem.strKind P w).hash k) (.str k tk) hr
    have hl1 := layNew_led t es ((PySem.strKind P w).hash k) (.str k tk)
    generalize layNew t es ((PySem.strKind P w).hash k) (.str k tk) = Z at pm hf1 hr1 hl1 ⊢
    obtain ⟨es1, t1, wasDummy, gave⟩ := Z
    dsimp only at pm hf1 hr1 hl1 ⊢
    rw [Array.toList_push] at pm
    have pc : es1.toList.Perm (((PySem.strKind P w).hash k, Value.str k tk) :: es.toList) := pm.trans (List.perm_append_singleton _ _)
    have g1 : ∀ e ∈ es1.toList, GdS w xs e := fun e he => by
      rcases List.mem_cons.mp (pc.mem_iff.mp he) with z | z
      · rw [z]; exact ⟨k, tk, hk, rfl, rfl⟩
      · exact g e z
    have hsz : es1.size ≤ n + 1 := by rw [← Array.length_toList, pc.length_eq, List.length_cons, Array.length_toList]; omega
    have hb1 : es1.size < scanBound := by omega
    have hled : w.params.followText "set-order" = true ∨ t1.led = true := hl.imp id fun z => by rw [hl1]; exact z
    refine wpAny_bind (hgw _ ?_)
    split
    · refine wpAny_bind ?_
      rw [hashByValue_scannable 8 hsc]
      refine wpAny_pure ?_
      refine setS_tail ?_ ho hex hd g1 hsz hb1 ?_ ?_ ?_ ?_
      · intro b s₁ Q' q; cases b <;> first | exact wpAny_pure q | exact wpAny_rule q
      · first | (split <;> first | exact hf1 | exact SetTable.fits_plain_off hf1) | exact hf1
      · first | (split <;> exact hr1) | exact hr1
      · first | (split <;> exact hled) | exact hled
      · intro h' sb r; dsimp only; exact wpAny_pure (hQ h' _ sb r)
    · refine wpAny_bind (wpAny_pure ?_)
      simp only [↓reduceIte]
      refine setS_tail ?_ ho hex hd g1 hsz hb1 hf1 hr1 hled ?_
      · intro b s₁ Q' q; cases b <;> first | exact wpAny_pure q | exact wpAny_rule q
      · intro h' sb r; dsimp only; exact wpAny_pure (hQ h' _ sb r)
end
theorem setS_new {w : World} {h : Heap} {a : Addr} {xs : List Str} (ho : h.get? a = some { cls := .type "set", dict := none, data := .set #[] 0 (.fresh 0 0 (!w.params.followText "set-order")) }) : SetS w h a xs 0 :=
  ⟨_, #[], 0, _, ho, ⟨rfl, rfl, rfl⟩, rfl, (fun e he => by simp at he), (by decide), (by rfl), (by simp), List.Pairwise.nil, by
    show _ ∨ (!w.params.followText "set-order") = true
    cases w.params.followText "set-order"
    · exact .inr rfl
    · exact .inl rfl⟩
section
variable {P : Program} {w : World} {A : Around} {E : Value → Shared → Prop} {s : Shared}
theorem setS_update {I : Addr} {fp wr : List Addr} {G : Array GenState → Array GenState → Prop} {n : Nat} {Pv : Nat → Value → Prop} {St : Nat → Shared → Prop} {R : Result → Shared → Prop}
    (W : WalksS P w A.in1 I fp wr G n Pv St) (S : Addr) (hSf : S ∉ fp) (xs : List Str) (hb : n + 1 < scanBound) (hval : ∀ i v, Pv i v → ∃ k t, k ∈ xs ∧ v = .str k t) :
    ∀ (k i : Nat) (s : Shared), n - i = k → i ≤ n → St i s → SetS w s.heap S xs i →
      (∀ s', Moved (S :: wr) G s s' → SetS w s'.heap S xs n → R (.ok (.ret .none)) s') →
      codeAny (model P w) A (.builtin "set.update.loop" ⟨[.ref S, .ref I], []⟩) R s := by
  have hSw : S ∉ wr := fun h => hSf (W.sub _ h)
  have hsub : ∀ b ∈ wr, b ∈ S :: wr := fun b hb => List.mem_cons_of_mem _ hb
  intro k
  induction k with
  | zero =>
    intro i s hk' hi hst hS hR
    have hin : i = n := by omega
    subst hin
    refine codeAny_builtin F.entry_set_update_loop ?_
    rw [Around.under_plainId F.plain_set_update_loop _]
    show wpAny _ A.in1 (pyNext (.ref I) >>= _) _ _ s
    refine wpAny_bind (W.done s _ _ hst fun s' hm => ?_)
    show wpAny _ A.in1 (ret Value.none) _ _ s'
    exact wpAny_pure (hR s' (hm.mono hsub) (hS.at fun o e => hm.heap S o hSw e))
  | succ k ih =>
    intro i s hk' hi hst hS hR
    have hlt : i < n := by omega
    refine codeAny_builtin F.entry_set_update_loop ?_
    rw [Around.under_plainId F.plain_set_update_loop _]
    show wpAny _ A.in1 (pyNext (.ref I) >>= _) _ _ s
    refine wpAny_bind (W.item i s _ _ hlt hst fun v s' hP hst' hm => ?_)
    obtain ⟨z, t, hz, rfl⟩ := hval i v hP
    have hS' : SetS w s'.heap S xs i := hS.at fun o e => hm.heap S o hSw e
    show wpAny _ A.in1 (holding [Value.str z t] (setAdd S (.str z t)) >>= _) _ _ s'
    refine wpAny_bind (wpAny_holding ?_)
    unfold setAdd
    refine wpAny_holding ?_
    refine wpAny_bind ((PySem.strKind P w).pyHash (k := z) (is_txt _ _) ?_)
    refine setS_add (s := { s' with toks := s'.toks + 1 }) hS' hz (by omega) fun h' b hsb hS2 => ?_
    refine wpAny_pure ⟨plainId_quiet F.plain_set_update_loop _, ih (i + 1) _ (by omega) hlt (W.frame _ s' _ _ hst' (Nat.le_succ _) fun b hb o e => ?_) hS2 fun s'' hm'' hS'' => ?_⟩
    · rw [hsb.2 b (fun h : b = S => hSf (by rw [← h]; exact hb))]; exact e
    · refine hR s'' (Moved.trans W.gtrans ((hm.mono hsub).then_heap (Nat.le_succ _) fun b o hb e => ?_) hm'') hS''
      rw [hsb.2 b (fun h : b = S => hb (by rw [h]; exact List.mem_cons_self))]; exact e
set_option maxRecDepth 100000 in
set_option maxHeartbeats 3200000 in
theorem call_setS {l : Addr} {items : Array Value} (xs : List Str) {Q : Value → Shared → Prop} (hh : A.handled = none) (hl : s.heap.IsList l items) (hit : StrsAre items.toList xs) (hb : xs.length + 1 < scanBound)
    (h : ∀ (h' : Heap) (tk : Nat), SetS w h' s.heap.objs.size xs xs.length → (∀ b o, s.heap.get? b = some o → h'.get? b = some o) → Q (.ref s.heap.objs.size) { s with heap := h', toks := tk }) :
    wpAny (model P w) A (call (.type "set") [.ref l]) Q E s := by
  have hisz : items.size = xs.length := by
    have q := StrsAre.length hit
    rw [Array.length_toList] at q
    exact q
  obtain ⟨c, tl, hmro⟩ := F.called_set.mro
  have hmade := F.called_set.made
  have hsub := F.called_set.sub
  refine wpAny_call (codeAny_of_tree ?_)
  show wpAny _ _ (callAny (.type "set") _) _ _ _
  refine wpAny_pure ⟨Code.quiet_builtin _ (by decide +kernel), codeAny_builtin F.entry_type_call ?_⟩
  rw [Around.under_plain (weight_type_call_type "set" [.ref l] []) rfl]
  have h1 := F.called_set.notType
  have h2 := F.called_set.canCreate
  have hct := F.typeCall_set_1 (.ref l)
  repeat (any_goals (first | assumption | wp_step))
  refine codeAny_mono (code_set_led1 (.ref l) (E := E) (Q₁ := fun obj s₁ => obj = .ref s.heap.objs.size ∧ s₁ = { s with heap := s.heap.push { cls := .type "set", dict := none, data := .set #[] 0 (.fresh 0 0 (!w.params.followText "set-order")) } }) ⟨rfl, rfl⟩) fun r s₁ hr => ?_
  cases r with
  | error e => exact hr
  | ok fl =>
    cases fl with
    | ret obj =>
      obtain ⟨rfl, rfl⟩ := hr
      have hS : (s.heap.push { cls := .type "set", dict := none, data := .set #[] 0 (.fresh 0 0 (!w.params.followText "set-order")) }).get? s.heap.objs.size = some { cls := .type "set", dict := none, data := .set #[] 0 (.fresh 0 0 (!w.params.followText "set-order")) } := Heap.get?_push_size _ rfl
      have hT : Shared.TypeIs { s with heap := s.heap.push { cls := .type "set", dict := none, data := .set #[] 0 (.fresh 0 0 (!w.params.followText "set-order")) } } (.ref s.heap.objs.size) "set" := ⟨_, hS, rfl⟩
      have hli := F.called_set.init.lookup
      have hbi := F.called_set.init.bind (.ref s.heap.objs.size)
      repeat (any_goals (first | assumption | wp_step))
      refine codeAny_mono (codeAny_call_builtin (R := wants (fun r s₂ => r = .none ∧ ∃ h' tk, s₂ = { s with heap := h', toks := tk } ∧ SetS w h' s.heap.objs.size xs xs.length ∧
          (∀ b o, s.heap.get? b = some o → h'.get? b = some o)) E) F.called_set.init.plain F.entry_set_init (check_set_init_1 hT ?_)) fun r₂ s₂ hr₂ => ?_
      · obtain ⟨ol, hol, hcl, nl, hdl⟩ := hl
        obtain ⟨ocls, odict, odata, oslots⟩ := ol
        simp only at hcl hdl
        subst hcl; subst hdl
        have hol' : (s.heap.push { cls := .type "set", dict := none, data := .set #[] 0 (.fresh 0 0 (!w.params.followText "set-order")) }).get? l = some { cls := .type "list", dict := odict, data := .seq items nl, slots := oslots } := Heap.get?_push_of_some _ hol
        have hsls := F.sub_list_set
        have hslf := F.sub_list_frozenset
        have hne : (Value.type "list" == Value.type "dict") = false := by decide
        have hl1 : (s.heap.push { cls := .type "set", dict := none, data := .set #[] 0 (.fresh 0 0 (!w.params.followText "set-order")) }).IsList l items := ⟨_, hol', rfl, nl, rfl⟩
        unfold Builtin.«set.__init__» noKeywords Builtin.Frozenset.updateFrom
        generalize hPI : pyIter = PI
        wp_walk
        subst hPI
        refine wpAny_pyIter_list hl1 ?_
        refine wpAny_bind (wpAny_runValue ?_)
        have hlS : l < s.heap.objs.size := Heap.lt_size hol
        have hh3 : A.in1.in1.in1.handled = none := by simp [hh]
        have hneI : l ≠ (s.heap.push { cls := .type "set", dict := none, data := .set #[] 0 (.fresh 0 0 (!w.params.followText "set-order")) }).objs.size := by
          rw [Heap.size_push]; exact Nat.ne_of_lt (Nat.lt_succ_of_lt hlS)
        have hSf : s.heap.objs.size ∉ [(s.heap.push { cls := .type "set", dict := none, data := .set #[] 0 (.fresh 0 0 (!w.params.followText "set-order")) }).objs.size, l] := by
          rw [Heap.size_push]; simp only [List.mem_cons, List.mem_singleton, List.not_mem_nil, or_false, not_or]
          exact ⟨Nat.ne_of_lt (Nat.lt_succ_self _), Nat.ne_of_gt hlS⟩
        have hval : ∀ (i : Nat) (v : Value), items[i]? = some v → ∃ k t, k ∈ xs ∧ v = .str k t := fun i v hv => by
          have hi : i < xs.length := by rw [← hisz]; exact (Array.getElem?_eq_some_iff.mp hv).1
          obtain ⟨t, e⟩ := SS.strs_at hit i v (by rw [Array.getElem?_toList]; exact hv)
          refine ⟨xs[i], t, List.getElem_mem hi, ?_⟩
          rw [e, List.getD_eq_getElem?_getD, List.getElem?_eq_getElem hi] <;> rfl
        refine setS_update ((Walks.list hh3 _ l hneI items).toS) s.heap.objs.size
          hSf xs (by omega) hval (items.size - 0) 0 _ (by omega) (Nat.zero_le _)
          ⟨⟨_, Heap.get?_push_size _ rfl, rfl, rfl⟩, (hl1.push _)⟩ ?hS0 ?hR
        case hS0 =>
          have hget : ((s.heap.push { cls := .type "set", dict := none, data := .set #[] 0 (.fresh 0 0 (!w.params.followText "set-order")) }).push { cls := .type "list_iterator", data := .fields #[.ref l, .int 0 0] }).get? s.heap.objs.size
              = some { cls := .type "set", dict := none, data := .set #[] 0 (.fresh 0 0 (!w.params.followText "set-order")) } := Heap.get?_push_of_some _ hS
          exact setS_new hget
        case hR =>
          intro s' hm hS'
          obtain ⟨h', g2, d', tk', os'⟩ := s'
          have eg : g2 = s.gens := hm.gens
          have ed : d' = s.drawn := hm.drawn
          have eo : os' = s.os := hm.os
          subst eg; subst ed; subst eo
          show wpAny _ _ _ _ _ _
          refine wpAny_pure ?_
          show wpAny _ _ (ret Value.none) _ _ _
          rw [hisz] at hS'
          refine wpAny_pure ⟨rfl, h', tk', rfl, hS', fun b o e => ?_⟩
          have hb0 : b < s.heap.objs.size := Heap.lt_size e
          have hb1 : b ≠ s.heap.objs.size := Nat.ne_of_lt hb0
          have hb2 : b ≠ (s.heap.push { cls := .type "set", dict := none, data := .set #[] 0 (.fresh 0 0 (!w.params.followText "set-order")) }).objs.size := by
            rw [Heap.size_push]; exact Nat.ne_of_lt (Nat.lt_succ_of_lt hb0)
          exact hm.heap b o (by simp only [List.mem_cons, List.mem_singleton, List.not_mem_nil, or_false, not_or]; exact ⟨hb1, hb2⟩) (Heap.get?_push_of_some _ (Heap.get?_push_of_some _ e))
      · cases r₂ with
        | error e => exact hr₂
        | ok fl₂ =>
          cases fl₂ with
          | ret r =>
            obtain ⟨rfl, h', tk, rfl, hS', hk'⟩ := hr₂
            repeat (any_goals (first | assumption | wp_step))
            exact h _ _ hS' hk'
          | _ => exact hr₂.elim
    | _ => exact hr.elim
def txtOf : Value → Str
  | .str k _ => k
  | _ => Str.empty
theorem strs_of : ∀ (l : List Value), (∀ v ∈ l, ∃ k tk, v = Value.str k tk) → StrsAre l (l.map txtOf)
  | [], _ => .nil
  | v :: l, h => by
    obtain ⟨k, tk, rfl⟩ := h v List.mem_cons_self
    exact .cons k tk (strs_of l fun u hu => h u (List.mem_cons_of_mem _ hu))
theorem sorted_setS {a : Addr} {xs : List Str} {n : Nat} {Q : Value → Shared → Prop} (R : SetS w s.heap a xs n) (hh : A.handled = none) (hz0 : n ≤ sizeLine)
    (hQ : ∀ s' p (out : Array Value) (c : Nat) (ys : List Str), (∀ b o, s.heap.get? b = some o → s'.heap.get? b = some o) → s'.gens = s.gens → s'.os = s.os → s.heap.objs.size ≤ p →
      s'.heap.get? p = some (seqObj "list" out c) → StrsAre out.toList ys → (∀ k ∈ ys, k ∈ xs) → ys.length ≤ n → Q (.ref p) s') :
    wpAny (model P w) A (call (.builtin "sorted") [.ref a]) Q E s := by
  obtain ⟨o, es, ep, t, ⟨ho, hex, hd, g, hb, hf, hn, hr, hl⟩⟩ := R
  refine Calls.call_function_entry kind_sorted plain_sorted entry_sorted (args_sorted1 _) ?_
  unfold Builtin.«sorted»
  refine wpAny_bind (m := checkCount "sorted" 1 1 _) (wpAny_pure ?_)
  refine wpAny_bind (collect_set (A := A.in1) hh ⟨o, ho, hex.1, hd⟩ hf hb hr hl fun s1 vs k1 hz g1 o1 pm => ?_)
  have hvl : vs.length ≤ n := by rw [pm.length_eq, List.length_map, Array.length_toList]; exact hn
  have hv : ∀ v ∈ vs, ∃ k tk, k ∈ xs ∧ v = Value.str k tk := fun v hv => by
    obtain ⟨e, he, q⟩ := List.mem_map.mp (pm.mem_iff.mp hv)
    obtain ⟨k, tk, hk, h1, _⟩ := g e he
    exact ⟨k, tk, hk, by rw [← q]; exact h1⟩
  have hI : StrsAre vs (vs.map txtOf) := strs_of vs fun v h => by
    obtain ⟨k, tk, _, e⟩ := hv v h
    exact ⟨k, tk, e⟩
  have hL : vs.length ≤ sizeLine := Nat.le_trans hvl hz0
  refine wpAny_bind (wpAny_newList ?_ hL)
  have hoL : (s1.heap.push (seqObj "list" vs.toArray 0)).get? s1.heap.objs.size = some (seqObj "list" vs.toArray 0) := Heap.get?_push_size _ rfl
  refine wpAny_bind (wpAny_holding (wpAny_call_entry slot_list_sort ⟨_, hoL, rfl⟩ entry_list_sort (list_sort_treeKAny strKind_oneLt hoL hI.keysOf (fun v₁ v₂ rest e => keyKind_strs (by rw [← e]; exact hI)) hL fun st' hp hs => ⟨_, rfl, ?_⟩) (args_list_sort _)))
  obtain ⟨ys, a1, a2, a3⟩ := sorted_out_str hI hp hs
  obtain ⟨c, hc⟩ := sortedHeap_at (vs := vs) (out := (arrOf st').map (·.2)) hoL
  refine wpAny_pure ⟨_, rfl, hQ _ s1.heap.objs.size _ c ys (fun b u e => ?_) g1 o1 hz hc a1 (fun k hk => ?_) ?_⟩
  · have q := k1 b u e
    have hlt := Heap.lt_size q
    show (sortedHeap (s1.heap.push (seqObj "list" vs.toArray 0)) s1.heap.objs.size vs _).get? b = some u
    rw [sortedHeap_old (Nat.ne_of_lt hlt) (by rw [size_push']; exact Nat.lt_succ_of_lt hlt)]
    exact Heap.get?_push_of_some _ q
  · obtain ⟨v, hv1, hv2⟩ := List.mem_map.mp (a2.mem_iff.mp hk)
    obtain ⟨k2, tk, h2, rfl⟩ := hv v hv1
    rw [← hv2]
    exact h2
  · rw [a2.length_eq, List.length_map]
    exact hvl
end
/-! the rules -/
def SetSO (w : World) (a : Addr) (xs : List Str) (n : Nat) : HO := .ext fun h => SetS w h a xs n
section
variable {X : Cx}
theorem setSO_new {w : World} {P : Program} {H : Hp} {h : Heap} {a : Addr} {xs : List Str} {n : Nat} (R : SetS w h a xs n) : ObjOk P w H h a (SetSO w a xs n) := by
  have ⟨o, _, _, _, r⟩ := R
  exact ⟨R, ⟨o, r.ob⟩, fun h1 h2 p k => SetS.at p k⟩
theorem setSO_get {pins : List (Addr × Obj)} {σ : L2.St} {H : Hp} {s : Shared} {a : Addr} {xs : List Str} {n : Nat} (I : Inv X pins σ H s) (ha : H a = some (SetSO X.w a xs n)) : SetS X.w s.heap a xs n := (I.hok a _ ha).1
/-- set(texts) -/
def rSetTx (K : PySem.W.Frag) (w : World) : List V → Hp → VK → Prop := fun vs H Q => ∃ (a : Addr) (xs : List Str), vs = [V.ref a] ∧ SqL K H a (xs.map V.str) ∧ xs.length + 1 < scanBound ∧ ∀ p, H p = none → Q (.ref p) (upd H p (SetSO w p xs xs.length))
theorem cr_setTx (hc : X.calm = true) : CallR X (.type "set") (rSetTx X.K X.w) := by
  intro pins s σ H vs us Q I r h
  obtain ⟨a, xs, rfl, hs, hb, q⟩ := h
  obtain ⟨its, rv, hl, _⟩ := I.list hs
  rw [Vals.ref1 r]
  refine call_setS xs (I.ok.hd hc) hl.isList (by simpa using strsAre_of rv) hb fun h' tk hS hk => ?_
  exact ⟨.ref _, upd H s.heap.objs.size (SetSO X.w s.heap.objs.size xs xs.length), I.laid (t' := tk) hk (Nat.le_refl _) (setSO_new hS), rfl, q _ (I.hok.fresh (Nat.le_refl _))⟩
/-- sorted(set of texts) -/
def rSortTx (w : World) : List V → Hp → VK → Prop := fun vs H Q => ∃ (a : Addr) (xs : List Str) (n : Nat), vs = [V.ref a] ∧ H a = some (SetSO w a xs n) ∧ n ≤ sizeLine ∧
  ∀ (ys : List Str) (p : Addr), (∀ k ∈ ys, k ∈ xs) → ys.length ≤ n → H p = none → Q (.ref p) (upd H p (.lst (ys.map V.str)))
theorem cr_sortTx (hc : X.calm = true) : CallR X (.builtin "sorted") (rSortTx X.w) := by
  intro pins s σ H vs us Q I r h
  obtain ⟨a, xs, n, rfl, ha, hz, q⟩ := h
  have R := setSO_get I ha
  rw [Vals.ref1 r]
  refine sorted_setS R (I.ok.hd hc) hz fun s' p out c ys k g o hp hg hi hm hl => ?_
  have hlen : (ys.map V.str).length ≤ sizeLine := by rw [List.length_map]; exact Nat.le_trans hl hz
  have hn : H p = none := I.hok.fresh hp
  have J : Inv X pins σ (upd H p (.lst (ys.map V.str))) { s with heap := s'.heap, gens := s'.gens, drawn := s'.drawn, toks := s'.toks } :=
    I.call (ch := []) (Un.laid k hp hn) (I.hok.laid k hp ⟨hlen, out.toList, c, vals_of_strs hi, hg⟩) (by rw [g]; exact I.bare) (fun _ z => nomatch z)
  have e : s' = { s with heap := s'.heap, gens := s'.gens, drawn := s'.drawn, toks := s'.toks } := by
    cases s'
    cases s
    cases o
    rfl
  rw [e]
  exact ⟨.ref p, _, J, rfl, q ys p hm hl hn⟩
end
end Zb
set_option Elab.async false
set_option linter.all false
set_option maxRecDepth 100000
set_option maxHeartbeats 4000000
/-! Lists of texts while the row turns; their sizes. -/
namespace Zb
open PySem PySem.Spec PyProof.Rows L2
def tot (ls : List Str) : Nat := (ls.map fun x => x.length + 1).sum
theorem tot_nil : tot [] = 0 := rfl
theorem tot_cons (x : Str) (l : List Str) : tot (x :: l) = x.length + 1 + tot l := rfl
theorem tot_app (a b : List Str) : tot (a ++ b) = tot a + tot b := by
  unfold tot
  rw [List.map_append, List.sum_append]
theorem tot_len : ∀ l : List Str, l.length ≤ tot l
  | [] => Nat.zero_le _
  | x :: l => by
    have := tot_len l
    rw [tot_cons, List.length_cons]
    omega
theorem tot_mem : ∀ {l : List Str} {x : Str}, x ∈ l → x.length + 1 ≤ tot l
  | y :: l, x, h => by
    rw [tot_cons]
    rcases List.mem_cons.mp h with rfl | h
    · omega
    · have := tot_mem h
      omega
theorem tot_take (l : List Str) (n : Nat) : tot (l.take n) ≤ tot l := by
  have := tot_app (l.take n) (l.drop n)
  rw [List.take_append_drop] at this
  omega
theorem tot_drop (l : List Str) (n : Nat) : tot (l.drop n) ≤ tot l := by
  have := tot_app (l.take n) (l.drop n)
  rw [List.take_append_drop] at this
  omega
theorem tot_sum (l : List Str) : tot l = (l.map (·.length)).sum + l.length * 1 := by
  induction l with
  | nil => rfl
  | cons x l ih =>
    rw [tot_cons, ih, List.map_cons, List.sum_cons, List.length_cons]
    omega
theorem joinL_len (s : Nat) : ∀ {ps : List (List Nat)}, ps ≠ [] → (TL.joinL [s] ps).length + 1 = (ps.map fun p => p.length + 1).sum
  | [p], _ => rfl
  | p :: q :: r, _ => by
    have := joinL_len s (ps := q :: r) (by simp)
    show ((p ++ ([s] ++ TL.joinL [s] (q :: r))).length) + 1 = p.length + 1 + ((q :: r).map fun p => p.length + 1).sum
    rw [← this, List.length_append, List.length_append, List.length_singleton]
    omega
theorem sum_tl (l : List Str) : ((l.map TL.tl).map fun p => p.length + 1).sum = tot l := by
  unfold tot
  rw [List.map_map]
  congr 1
theorem lns_tot (text : Str) : tot (lns text) = text.length + 1 := by
  have h : sgn text = TL.joinL [10] ((lns text).map TL.tl) := by
    rw [lns_tl, spl_back]
    rfl
  rw [← sum_tl, ← joinL_len 10 (by
    intro z
    have := lns_pos text
    rw [List.map_eq_nil_iff.mp z] at this
    exact absurd this (by decide)), ← h, len_sgn]
theorem join_len {sep : Str} {s : Nat} (hs : TL.tl sep = [s]) (l : List Str) : (Txt.join sep l).length ≤ tot l := by
  have h := TL.tl_join sep l
  rw [← TL.join_eq] at h
  cases l with
  | nil =>
    rw [len_sgn]
    show (TL.tl (Txt.join sep [])).length ≤ _
    rw [h]
    exact Nat.le_refl _
  | cons x r =>
    have e := joinL_len s (ps := (x :: r).map TL.tl) (by simp)
    rw [sum_tl] at e
    rw [len_sgn]
    show (TL.tl (Txt.join sep (x :: r))).length ≤ _
    rw [h, hs]
    omega
/-- data: texts -/
def TP (P : List Str → Prop) : List PyData → Prop := fun ds => ∃ xs : List Str, ds = xs.map .str ∧ P xs
/-- data: a text no longer than b -/
def TxB (b : Nat) : PyData → Prop := fun d => ∃ x : Str, d = .str x ∧ x.length ≤ b
/-- a new list of texts -/
def EvMX (K : PySem.W.Frag) (row : Addr) (te : TE) (σ : L2.St) (S : Hp) (P : List Str → Prop) : Prop := ∀ S1 H, Same S S1 → Same S1 H → Rw K S1 H row → ∀ Q : VK, (∀ xs l S' H', P xs → GoR row S1 H S' H' → Rw K S' H' row → H l = none → Mu K S' H' l (xs.map .str) → Q (.ref l) H') → te σ H Q
section
variable {K : PySem.W.Frag} {row : Addr} {σ : L2.St} {S S0 S1 H H1 : Hp} {te ta tb : TE} {tA tr : TA} {d : PyData} {ds : List PyData} {P R T : List Str → Prop} {j : Nat} {D : Ends} {tz : TS} {b c : Nat}
theorem emx_lst (ha : EvMA K row tA σ S (TP P)) (hl : ∀ xs, P xs → xs.length ≤ sizeLine) : EvMX K row (tLst tA) σ S P := fun S1 H e i w Q q =>
  ha S1 H e i w _ fun ds vs S2 H2 p2 g2 w2 pv => by
    obtain ⟨xs, rfl, px⟩ := p2
    have := hl xs px
    exact ⟨by rw [dpAll_len pv, List.length_map]; exact this, fun p hp => by
      have gn : G0 S2 H2 S2 (upd H2 p (.lst vs)) := Go.newM g2.i hp
      exact q xs p S2 _ px (g2.trans gn.g) (w2.g0 gn) (g2.fresh hp) ⟨g2.i.free hp, vs, upd_same, pv⟩⟩
theorem emx_cat (ha : EvMR K row ta σ S (TP P)) (hb : EvMR K row tb σ S (TP R)) (f : ∀ xs ys, P xs → R ys → xs.length + ys.length ≤ sizeLine ∧ T (xs ++ ys)) : EvMX K row (tOp rCat ta tb) σ S T := fun S1 H e i w Q q =>
  ha S1 H e i w _ fun ds v S2 H2 p2 g2 w2 pv => hb S2 H2 (e.trans g2.s) g2.i w2 _ fun es v3 S3 H3 p3 g3 w3 pv3 => by
    obtain ⟨xs, rfl, px⟩ := p2
    obtain ⟨ys, rfl, py⟩ := p3
    obtain ⟨l, us, rfl, e1, d1⟩ := rl_same g3.s pv
    obtain ⟨l2, vs, rfl, e2, d2⟩ := pv3
    refine ⟨l, l2, us, vs, rfl, rfl, g3.i _ _ e1, g3.i _ _ e2, by rw [dpAll_len d1, dpAll_len d2, List.length_map, List.length_map]; exact (f xs ys px py).1, fun p hp => ?_⟩
    have g := g2.trans g3
    have gn : G0 S3 H3 S3 (upd H3 p (.lst (us ++ vs))) := Go.newM g3.i hp
    exact q (xs ++ ys) p S3 _ (f xs ys px py).2 (g.trans gn.g) (w3.g0 gn) (g.fresh hp) ⟨g3.i.free hp, _, upd_same, by rw [List.map_append]; exact dpAll_append d1 d2⟩
theorem emx_r (h : EvMX K row te σ S P) : EvMR K row te σ S (TP P) := fun S1 H e i w Q q => h S1 H e i w _ fun xs l S2 H2 px g w2 h0 m => by
  obtain ⟨S3, g3, e3, r3, hb⟩ := m.frz g h0
  have nl : row ≠ l := fun z => by
    have := w.ne
    rw [z] at this
    exact this h0
  exact q _ _ S3 H2 ⟨xs, rfl, px⟩ g3 (w2.wide e3 (by rw [hb _ nl]; exact w2.out)) r3
theorem emx_w (h : EvMX K row te σ S P) (f : ∀ xs, P xs → R xs) : EvMX K row te σ S R := fun S1 H e i w Q q => h S1 H e i w _ fun xs l S2 H2 px g w2 h0 m => q xs l S2 H2 (f xs px) g w2 h0 m
theorem s_asgMX (h : EvMX K row te σ S P) (i : Same S H) (w : Rw K S H row) (k : ∀ xs l S1 H1, P xs → GoR row S H S1 H1 → Rw K S1 H1 row → H l = none → Mu K S1 H1 l (xs.map .str) → D.nx (σ.set j (some (.ref l))) H1) : tAsg te (gName j) D σ H := h S H (Same.refl S) i w _ k
theorem q_asgMX (h : EvMX K row te σ S P) (i : Same S H) (w : Rw K S H row) (k : ∀ xs l S1 H1, P xs → GoR row S H S1 H1 → Rw K S1 H1 row → H l = none → Mu K S1 H1 l (xs.map .str) → tz D (σ.set j (some (.ref l))) H1) : tSeq (tAsg te (gName j)) tz D σ H := h S H (Same.refl S) i w _ k
theorem em_catS (ha : EvM K row ta σ S (TxB b)) (hb : EvM K row tb σ S (TxB c)) (hz : b + c ≤ 16777216) : EvM K row (tOp (fun x y H Q => ∃ i j, x = .str i ∧ y = .str j ∧ i.length + j.length ≤ sizeLine ∧ Q (.str (i ++ j)) H) ta tb) σ S (TxB (b + c)) :=
  em_op ha hb fun d e p q => by
    obtain ⟨x, rfl, hx⟩ := p
    obtain ⟨y, rfl, hy⟩ := q
    have e : (x ++ y).length = x.length + y.length := by
      rw [len_sgn, sgn_app, List.length_append, ← len_sgn, ← len_sgn]
    exact ⟨_, rv_cat (by
      rw [sizeLine_eq]
      omega), _, rfl, by rw [e]; omega⟩
theorem em_join {sep : Str} {s : Nat} (hs : TL.tl sep = [s]) (h2 : EvM K row ta σ S (fun d => ∃ ls : List Str, d = .list (ls.map .str) ∧ tot ls ≤ b)) (hz : b ≤ 16777216) :
    EvM K row (tM1 (fun x xs H Q => ∃ a p, ∃ ys : List Str, x = .str a ∧ xs = [.ref p] ∧ (SqL K H p (ys.map V.str) ∨ SqT K H p (ys.map V.str)) ∧ (ys.map (·.length)).sum + ys.length * a.length ≤ 16777216 ∧ Q (.str (Txt.join a ys)) H) (tC (.str sep)) ta) σ S (TxB b) := fun S1 H e i w Q q =>
  ⟨⟨sep, rfl⟩, h2 S1 H e i w _ fun d u S2 H2 p g2 w2 p2 => by
    obtain ⟨l, rfl, hl⟩ := p
    obtain ⟨a, xs, rfl, hq, ha⟩ := dp_list p2
    rw [strs_dpAll ha] at hq
    have h1 : sep.length = 1 := by rw [len_sgn]; show (TL.tl sep).length = 1; rw [hs]; rfl
    have := tot_sum l
    have hj := join_len hs l
    exact ⟨sep, a, l, rfl, rfl, .inl (sqL_same g2.i hq), by rw [h1]; omega, q _ _ S2 H2 ⟨_, rfl, by omega⟩ g2 w2 (.str _)⟩⟩
theorem tp_nil : TP (· = []) [] := ⟨[], rfl, rfl⟩
/-- a display of texts -/
theorem ema_txt {N : List Str → Prop} (ha : EvM K row ta σ S (TxB b)) (hr : EvMA K row tr σ S (TP N)) (f : ∀ x xs, x.length ≤ b → N xs → T (x :: xs)) : EvMA K row (tCons ta tr) σ S (TP T) :=
  ema_cons ha hr fun d ds p r => by
    obtain ⟨x, rfl, hx⟩ := p
    obtain ⟨xs, rfl, hn⟩ := r
    exact ⟨x :: xs, rfl, f x xs hx hn⟩
theorem ema_txt0 : EvMA K row tNil σ S (TP (fun xs => tot xs ≤ 0)) := fun S1 H e i w Q q => q [] [] S1 H ⟨[], rfl, Nat.le_refl _⟩ (Go.refl i) w .nil
theorem ema_tot (ha : EvM K row ta σ S (TxB b)) (hr : EvMA K row tr σ S (TP fun xs => tot xs ≤ c)) : EvMA K row (tCons ta tr) σ S (TP fun xs => tot xs ≤ b + 1 + c) :=
  ema_txt ha hr fun x xs h1 h2 => by
    rw [tot_cons]
    omega
theorem em_txt {x : Str} (h : x.length ≤ b) : EvM K row (tC (.str x)) σ S (TxB b) := em_d (ev_c (.str x)) ⟨x, rfl, h⟩
/-- pick of texts -/
theorem em_pickT {E : XK} {n : Nat} (hv : σ[j]? = some (some (.ref row))) (ha : EvMA K row tA σ S (TP fun xs => (1 ≤ xs.length ∧ xs.length ≤ 1000) ∧ ∀ x ∈ xs, x.length ≤ b)) : EvM K row (tCall (spPick K) [] E (tCons (tVar j) (tCons (tLst tA) tNil))) σ S (TxB b) :=
  em_pick hv (em_r (P := fun d => ∃ xs : List Str, d = .list (xs.map .str) ∧ (1 ≤ xs.length ∧ xs.length ≤ 1000) ∧ ∀ x ∈ xs, x.length ≤ b) (emr_lst (RL := TP fun xs => (1 ≤ xs.length ∧ xs.length ≤ 1000) ∧ ∀ x ∈ xs, x.length ≤ b) ha fun ds p => by
    obtain ⟨xs, rfl, h⟩ := p
    exact ⟨by rw [List.length_map, sizeLine_eq]; omega, xs, rfl, h⟩) fun ds p => by
      obtain ⟨xs, rfl, h⟩ := p
      exact ⟨xs, rfl, h⟩) fun d p => by
        obtain ⟨xs, rfl, ⟨h1, h2⟩, h3⟩ := p
        refine ⟨_, rfl, by rw [List.length_map]; omega, fun y hy => ?_⟩
        obtain ⟨x, hx, rfl⟩ := List.mem_map.mp hy
        exact ⟨x, rfl, h3 x hx⟩
theorem emr_tot (ha : EvMA K row tA σ S (TP fun xs => tot xs ≤ b)) (h : b ≤ 16777216) : EvMX K row (tLst tA) σ S (fun xs => tot xs ≤ b) := emx_lst ha fun xs p => by
  have := tot_len xs
  rw [sizeLine_eq]
  omega
theorem emx_tot (ha : EvMR K row ta σ S (TP fun xs => tot xs ≤ b)) (hb : EvMR K row tb σ S (TP fun xs => tot xs ≤ c)) (h : b + c ≤ 16777216) : EvMX K row (tOp rCat ta tb) σ S (fun xs => tot xs ≤ b + c) := emx_cat ha hb fun xs ys h1 h2 => by
  have := tot_len xs
  have := tot_len ys
  exact ⟨by rw [sizeLine_eq]; omega, by rw [tot_app]; omega⟩
end
/-! set, sorted -/
section
variable {K : PySem.W.Frag} {w : World} {σ : L2.St} {S H : Hp} {te : TE} {xs : List Str}
theorem er_sortset (h : EvD K te σ S (.list (xs.map .str))) (hz : xs.length < 1000) (i : Same S H) (Q : VK) (q : ∀ (ys : List Str) v S' H', G0 S H S' H' → (∀ k ∈ ys, k ∈ xs) → ys.length ≤ xs.length → Rl K S' v (ys.map PyData.str) → Q v H') : tCB (rSortTx w) (tCons (tCB (rSetTx K w) (tCons te tNil)) tNil) σ H Q :=
  h H i _ fun v S1 H1 g1 p1 => by
    obtain ⟨a, us, rfl, hs, ha⟩ := dp_list p1
    rw [strs_dpAll ha] at hs
    refine ⟨a, xs, rfl, sqL_same g1.i hs, by unfold scanBound; omega, fun p hp => ?_⟩
    have g2 : G0 S1 H1 S1 (upd H1 p (SetSO w p xs xs.length)) := Go.newM g1.i hp
    refine ⟨p, xs, xs.length, rfl, upd_same, by rw [sizeLine_eq]; omega, fun ys c h1 h2 hc => ?_⟩
    exact q ys (.ref c) _ _ ((g1.trans g2).trans (Go.new g2.i hc)) h1 h2 ⟨c, _, rfl, upd_same, dpAll_strs ys⟩
end
end Zb
set_option Elab.async false
set_option linter.all false
set_option maxRecDepth 100000
set_option maxHeartbeats 4000000
namespace Zb
open PySem PySem.Spec PyProof.Rows L2
theorem calls_50 {th : Th} (ok : ThOk th) : (callsP th).length < 50 := by
  have c1 : ∀ w n, (call1 w n).length = n := fun w n => by rw [List.length_map, List.length_range]
  cases th with
  | ctr n => obtain ⟨a, b⟩ := ok; show (_ ++ _ : List Call).length < _; simp; omega
  | reg n => obtain ⟨a, b⟩ := ok; show (_ ++ _ : List Call).length < _; simp; omega
  | stk a b => obtain ⟨⟨_, _⟩, _, _⟩ := ok; show (_ ++ _ : List Call).length < _; simp; omega
  | que a b => obtain ⟨⟨_, _⟩, _, _⟩ := ok; show (_ ++ _ : List Call).length < _; simp; omega
  | set n => obtain ⟨a, b⟩ := ok; show (List.flatMap _ _).length < _; simp [List.flatMap_cons]; omega
  | agr n => obtain ⟨a, b⟩ := ok; show (call1 _ _).length < _; rw [c1]; omega
  | bnk l =>
    obtain ⟨⟨a, b⟩, _⟩ := ok
    show (bankP l.length).length < _
    unfold bankP
    have h2 := flat_len (l := List.range l.length) (c := l.length * 3) (f := fun one => (List.range l.length).flatMap fun other => moves one other) fun one => by
      have := flat_len (l := List.range l.length) (c := 3) (f := fun other => moves one other) (moves_len one)
      rwa [List.length_range] at this
    rw [List.length_range] at h2
    have : l.length * (l.length * 3) ≤ 3 * (3 * 3) := Nat.mul_le_mul b (Nat.mul_le_mul b (Nat.le_refl _))
    rw [List.length_append, c1]
    omega
  | tab rows =>
    obtain ⟨wd, w1, w2, hw⟩ := ok.wide
    show (call1 _ _).length < _
    rw [c1]
    cases rows with
    | nil => decide
    | cons r rs =>
      have := hw r (by simp)
      show r.length < _
      omega
theorem call1_word {w : Str} {n : Nat} {c : Call} (h : c ∈ call1 w n) : c.1 = w := by
  obtain ⟨i, _, rfl⟩ := List.mem_map.mp h
  rfl
theorem moves_word {a b : Nat} {c : Call} (h : c ∈ moves a b) : c.1 = "move" := by
  unfold moves at h
  split at h
  · simp at h
    rcases h with rfl | rfl | rfl <;> rfl
  · exact absurd h List.not_mem_nil
theorem calls_word {th : Th} {c : Call} (h : c ∈ callsP th) : c.1.length ≤ 10 := by
  have k1 : ∀ {w : Str} {n : Nat}, c ∈ call1 w n → w.length ≤ 10 → c.1.length ≤ 10 := fun h z => by rw [call1_word h]; exact z
  cases th with
  | ctr n =>
    rcases List.mem_append.mp h with h | h
    · obtain ⟨i, _, rfl⟩ := List.mem_map.mp h
      show ("add" : Str).length ≤ 10
      decide
    · rw [List.mem_singleton.mp h]; decide
  | reg n =>
    rcases List.mem_append.mp h with h | h
    · rcases List.mem_append.mp h with h | h
      · rw [List.mem_singleton.mp h]; decide
      · exact k1 h (by decide)
    · exact k1 h (by decide)
  | stk a b =>
    rcases List.mem_append.mp h with h | h
    · exact k1 h (by decide)
    · rw [List.mem_singleton.mp h]; decide
  | que a b =>
    rcases List.mem_append.mp h with h | h
    · exact k1 h (by decide)
    · rw [List.mem_singleton.mp h]; decide
  | set n =>
    obtain ⟨w, hw, h⟩ := List.mem_flatMap.mp h
    refine k1 h ?_
    simp at hw
    rcases hw with rfl | rfl | rfl <;> decide
  | agr n => exact k1 h (by decide)
  | bnk l =>
    rcases List.mem_append.mp h with h | h
    · exact k1 h (by decide)
    · obtain ⟨a, _, h⟩ := List.mem_flatMap.mp h
      obtain ⟨b, _, h⟩ := List.mem_flatMap.mp h
      rw [moves_word h]
      decide
  | tab rows => exact k1 h (by decide)
theorem tot_le {b : Nat} : ∀ {l : List Str}, (∀ x ∈ l, x.length ≤ b) → tot l ≤ l.length * (b + 1)
  | [], _ => by rw [tot_nil]; omega
  | x :: l, h => by
    have h1 := h x List.mem_cons_self
    have h2 := tot_le (l := l) fun y hy => h y (List.mem_cons_of_mem _ hy)
    rw [tot_cons, List.length_cons, Nat.succ_mul]
    omega
def PK (n b : Nat) (xs : List Str) : Prop := xs.length = n ∧ ∀ x ∈ xs, x.length ≤ b
section
variable {K : PySem.W.Frag} {row : Addr} {σ : L2.St} {S S0 S1 H H1 : Hp} {te ta tb : TE} {tA tr : TA} {j : Nat} {D : Ends} {tz : TS} {b c n : Nat}
theorem ema_k0 : EvMA K row tNil σ S (TP (PK 0 b)) := fun S1 H e i w Q q => q [] [] S1 H ⟨[], rfl, rfl, fun _ z => absurd z List.not_mem_nil⟩ (Go.refl i) w .nil
theorem ema_kc (ha : EvM K row ta σ S (TxB b)) (hr : EvMA K row tr σ S (TP (PK n b))) : EvMA K row (tCons ta tr) σ S (TP (PK (n + 1) b)) :=
  ema_txt ha hr fun x xs h1 h2 => ⟨by rw [List.length_cons, h2.1], fun y hy => by
    rcases List.mem_cons.mp hy with rfl | hy
    · exact h1
    · exact h2.2 y hy⟩
theorem em_le {c : Nat} (h : EvM K row ta σ S (TxB b)) (l : b ≤ c) : EvM K row ta σ S (TxB c) := em_w h fun d p => by
  obtain ⟨x, e, h⟩ := p
  exact ⟨x, e, Nat.le_trans h l⟩
theorem em_pickK {E : XK} (hv : σ[j]? = some (some (.ref row))) (ha : EvMA K row tA σ S (TP (PK n b))) (h1 : 1 ≤ n) (h2 : n ≤ 1000) : EvM K row (tCall (spPick K) [] E (tCons (tVar j) (tCons (tLst tA) tNil))) σ S (TxB b) :=
  em_pick hv (em_r (P := fun d => ∃ xs : List Str, d = .list (xs.map .str) ∧ PK n b xs) (emr_lst (RL := TP (PK n b)) ha fun ds p => by
    obtain ⟨xs, rfl, h⟩ := p
    exact ⟨by rw [List.length_map, h.1, sizeLine_eq]; omega, xs, rfl, h⟩) fun ds p => by
      obtain ⟨xs, rfl, h⟩ := p
      exact ⟨xs, rfl, h⟩) fun d p => by
        obtain ⟨xs, rfl, h1, h3⟩ := p
        refine ⟨_, rfl, by rw [List.length_map]; omega, fun y hy => ?_⟩
        obtain ⟨x, hx, rfl⟩ := List.mem_map.mp hy
        exact ⟨x, rfl, h3 x hx⟩
theorem emx_k (ha : EvMA K row tA σ S (TP (PK n b))) (h : n * (b + 1) ≤ 1000000) : EvMX K row (tLst tA) σ S (fun xs => tot xs ≤ n * (b + 1)) := fun S1 H e i w Q q => emx_lst ha (fun xs p => by
  have := p.1
  have : n ≤ n * (b + 1) := Nat.le_mul_of_pos_right _ (Nat.succ_pos _)
  rw [sizeLine_eq]
  omega) S1 H e i w Q fun xs l S' H' px => q xs l S' H' (by
    have := tot_le px.2
    rw [px.1] at this
    exact this)
theorem emx_catK (hl : EvMR K row ta σ S (TP fun xs => tot xs ≤ c)) (ha : EvMA K row tA σ S (TP (PK n b))) (hc : c ≤ 1000000) (h : n * (b + 1) ≤ 1000000) : EvMX K row (tOp rCat ta (tLst tA)) σ S (fun xs => tot xs ≤ c + n * (b + 1)) :=
  emx_tot hl (emx_r (emx_k ha h)) (by omega)
theorem emr_var {v : V} {xs : List Str} (hv : σ[j]? = some (some v)) (p : Rl K S v (xs.map .str)) (h : tot xs ≤ c) : EvMR K row (tVar j) σ S (TP fun xs => tot xs ≤ c) := emr_d (er_var hv p) ⟨xs, rfl, h⟩
theorem q_forNames {w : World} {v : V} {th : Th} {tb : TS} (hv : σ[1]? = some (some v)) (pv : Dp K S v (thD th)) (ok : ThOk th) (i : Same S H) (hw : ∀ x, wipe ((wipe σ [5]).set 5 (some x)) [5] = wipe σ [5]) (h5 : ∀ x, ((wipe σ [5]).set 5 (some x))[5]? = some (some x))
    (k : ∀ (ys : List Str) u S1 H1, G0 S H S1 H1 → ys.length < 50 → (∀ y ∈ ys, y.length ≤ 10) → Dp K S1 u (.list (ys.map .str)) → tSeq (tFor (iList K (tC u)) (gName 4) tb) tz D σ H1) :
    tSeq (tFor (iList K (tCB (rSortTx w) (tCons (tCB (rSetTx K w) (tCons (tLc (iList K (tCall (spLCalls K) [] E0 (tCons (tVar 1) tNil))) (gName 5) tYes (tOp (rIxT K) (tVar 5) (tC (.int 0))) [5]) tNil)) tNil))) (gName 4) tb) tz D σ H := by
  refine ⟨v, hv, th, S, i, .cons pv .nil, ok, fun vc S1 H1 g1 post => ?_, fun _ _ _ z => z.elim⟩
  obtain ⟨cs, pc, pd⟩ := post
  show tCB (rSortTx w) (tCons (tCB (rSetTx K w) (tCons (tLc (iList K (tC vc)) (gName 5) tYes (tOp (rIxT K) (tVar 5) (tC (.int 0))) [5]) tNil)) tNil) σ H1 fun u H2 => tSeq (tFor (iList K (tC u)) (gName 4) tb) tz D σ H2
  have hl : cs.length < 50 := by rw [pc.length_eq]; exact calls_50 ok
  refine er_sortset (K := K) (xs := cs.map (·.1)) (ev_is (ec_list (e := callD) (l := cs) (f := fun _ => true) (g := fun c => PyData.str c.1) (ev_c pd) (by omega) hw (fun a _ x S2 _ px => et_yes) (fun a _ _ x S2 _ px => ev_op (rv_ixT at_head) (ev_var (h5 x) px) (ev_c (.int _)))) (by rw [filt_true, List.map_map]; rfl)) (by rw [List.length_map]; omega) g1.i _ fun ys u S2 H2 g2 h1 h2 r => ?_
  refine k ys u S2 H2 (g1.trans g2) (by rw [List.length_map] at h2; omega) (fun y hy => ?_) r.d
  obtain ⟨c, hc, rfl⟩ := List.mem_map.mp (h1 y hy)
  exact calls_word (pc.mem_iff.mp hc)
end
/-- row, object: a text that is not long; the row has turned -/
def spWrite (K : PySem.W.Frag) : Sp := fun vs H Q _ => ∃ (S : Hp) (row : Addr) (v : V) (th : Th), Same S H ∧ vs = [.ref row, v] ∧ Rw K S H row ∧ ThOk th ∧ Dp K S v (thD th) ∧ ∀ (x : Str) S' H', x.length ≤ 20000 → GoR row S H S' H' → Rw K S' H' row → Q (.str x) H'
section
variable {P : Program} {w : World} {K : PySem.W.Frag} {mg : Str → Option Value} {base : Heap}
theorem sc_L_write_program : FnScope ["_law_row", "_law_thing", "_law_lines", "_law_k", "_law_name", "_law_call", "_law_kind"] ["_law_row", "_law_thing"] (defScope Zh.s_L_write_program) := ⟨rfl, rfl, rfl, by decide +kernel, rfl, by decide +kernel, by decide +kernel⟩
theorem ok_L_write (M : Mo K mg) (D : Df K mg "_law_write_program" Zh.s_L_write_program) (f_L_taken : Fn CX0 P w K mg base "_law_taken" 1 ["_law_row", "_law_many"] (spTaken K)) (f_L_pick : Fn CX0 P w K mg base "_law_pick" 2 ["_law_row", "_law_things"] (spPick K)) (f_L_calls : Fn CX0 P w K mg base "_law_calls" 1 ["_law_thing"] (spLCalls K)) : Fn CX0 P w K mg base "_law_write_program" 3 ["_law_row", "_law_thing"] (spWrite K) :=
  fn_mkS D.1 D.2 (fun _ _ _ _ _ _ us hl => match us, hl with | [_, _], _ => rfl) sc_L_write_program (fun vs H Q E h => by obtain ⟨_, _, _, _, _, rfl, _⟩ := h; rfl) fun cdv A outer s0 H E hr => ⟨_, (pss_cons (ps_set (i := 2) sc_L_write_program.nd rfl (Or.inl rfl) (pe_lst (pa_cons (pe_op op_add_str pe_str (pe_join pe_str (pe_lc (own := [("_law_k", 3)]) (g := gName 3) rfl sc_L_write_program.nd (pi_range1 rfl M.range (pa_cons (pe_op op_add pe_int (pe_fn f_L_taken (hr.mono (by decide)) rfl (pa_cons (pv 0) (pa_cons pe_int pa_nil)))) pa_nil)) (blkOk_by (own := [("_law_k", 3)]) (N := ["_law_row", "_law_thing", "_law_lines", "_law_k", "_law_name", "_law_call", "_law_kind"]) (sc := defScope Zh.s_L_write_program) (by decide +kernel)) (fun _ _ _ _ _ => (pg_name (i := 3) sc_L_write_program.nd rfl (Or.inl rfl))) (fun _ _ _ _ _ => pts_nil) (fun _ _ _ _ _ => (pe_fn f_L_pick (hr.mono (by decide)) rfl (pa_cons (pv 0) (pa_cons (pe_lst (pa_cons pe_str (pa_cons pe_str (pa_cons pe_str (pa_cons pe_str pa_nil))))) pa_nil))))))) pa_nil)))
    (pss_cons (ps_for PassesOwn.never rfl (pi_list (pe_callB (id := "sorted") (cr_sortTx rfl) (by rfl) M.sorted (by decide +kernel) (pa_cons (pe_callTy (cr_setTx rfl) (by rfl) M.set (by decide +kernel) (pa_cons (pe_lc (own := [("_law_call", 5)]) (g := gName 5) rfl sc_L_write_program.nd (pi_list (pe_fn f_L_calls (hr.mono (by decide)) rfl (pa_cons (pv 1) pa_nil))) (blkOk_by (own := [("_law_call", 5)]) (N := ["_law_row", "_law_thing", "_law_lines", "_law_k", "_law_name", "_law_call", "_law_kind"]) (sc := defScope Zh.s_L_write_program) (by decide +kernel)) (fun _ _ _ _ _ => (pg_name (i := 5) sc_L_write_program.nd rfl (Or.inl rfl))) (fun _ _ _ _ _ => pts_nil) (fun _ _ _ _ _ => (pe_ix (r := rIxT K) ix_tup (pv 5) pe_int (fun _ _ => rfl)))) pa_nil)) pa_nil))) (pg_name (i := 4) sc_L_write_program.nd rfl (Or.inl rfl)) (pss_cons (ps_expr (pe_bm PySem.F.plainAttrs_list PySem.F.slot_list_append PySem.F.type_list_append mt_append (pv 2) (pa_cons (pe_op op_add_str pe_str (pv 4)) pa_nil)))
    (pss_cons (ps_set (i := 6) sc_L_write_program.nd rfl (Or.inl rfl) (pe_fn f_L_taken (hr.mono (by decide)) rfl (pa_cons (pv 0) (pa_cons pe_int pa_nil))))
    (pss_one (ps_if (pt_cmpR op_eq (pv 6) pe_int (nomark _)) (pss_one (ps_set (i := 2) sc_L_write_program.nd rfl (Or.inl rfl) (pe_op op_cat (pv 2) (pe_lst (pa_cons pe_str (pa_cons pe_str pa_nil)))))) (pss_one (ps_if (pt_cmpR op_eq (pv 6) pe_int (nomark _)) (pss_one (ps_set (i := 2) sc_L_write_program.nd rfl (Or.inl rfl) (pe_op op_cat (pv 2) (pe_lst (pa_cons pe_str (pa_cons pe_str (pa_cons pe_str (pa_cons pe_str pa_nil)))))))) (pss_one (ps_if (pt_cmpR op_eq (pv 6) pe_int (nomark _)) (pss_one (ps_set (i := 2) sc_L_write_program.nd rfl (Or.inl rfl) (pe_op op_cat (pv 2) (pe_lst (pa_cons pe_str (pa_cons pe_str (pa_cons pe_str (pa_cons pe_str (pa_cons pe_str (pa_cons (pe_op op_add_str pe_str (pe_fn f_L_pick (hr.mono (by decide)) rfl (pa_cons (pv 0) (pa_cons (pe_lst (pa_cons pe_str (pa_cons pe_str (pa_cons pe_str (pa_cons pe_str pa_nil))))) pa_nil)))) pa_nil)))))))))) (pss_one (ps_if (pt_cmpR op_eq (pv 6) pe_int (nomark _)) (pss_one (ps_set (i := 2) sc_L_write_program.nd rfl (Or.inl rfl) (pe_op op_cat (pv 2) (pe_lst (pa_cons pe_str (pa_cons pe_str (pa_cons pe_str (pa_cons pe_str (pa_cons pe_str (pa_cons pe_str (pa_cons pe_str (pa_cons pe_str (pa_cons pe_str (pa_cons pe_str pa_nil)))))))))))))) (pss_cons (ps_set (i := 2) sc_L_write_program.nd rfl (Or.inl rfl) (pe_op op_cat (pv 2) (pe_lst (pa_cons (pe_fn f_L_pick (hr.mono (by decide)) rfl (pa_cons (pv 0) (pa_cons (pe_lst (pa_cons pe_str (pa_cons pe_str (pa_cons pe_str pa_nil)))) pa_nil))) (pa_cons pe_str pa_nil)))))
    (pss_one (ps_set (i := 2) sc_L_write_program.nd rfl (Or.inl rfl) (pe_op op_cat (pv 2) (pe_lst (pa_cons (pe_op op_add_str (pe_op op_add_str pe_str (pe_fn f_L_pick (hr.mono (by decide)) rfl (pa_cons (pv 0) (pa_cons (pe_lst (pa_cons pe_str (pa_cons pe_str (pa_cons pe_str pa_nil)))) pa_nil)))) pe_str) (pa_cons pe_str (pa_cons (pe_op op_add_str pe_str (pe_fn f_L_pick (hr.mono (by decide)) rfl (pa_cons (pv 0) (pa_cons (pe_lst (pa_cons pe_str (pa_cons pe_str (pa_cons pe_str (pa_cons pe_str pa_nil))))) pa_nil)))) pa_nil)))))))))))))))))))
    (pss_one (ps_ret (pe_join pe_str (pv 2)))))), fun vs H Q h => by
    obtain ⟨S, row, v, th, hi, rfl, w, ok, pv, q⟩ := h
    refine q_asgMX (K := K) (row := row) (emx_k (n := 1) (b := 20) (ema_kc (em_le (em_catS (b := 6) (c := 10) (em_txt (by decide)) (em_join sp_tl (em_r (P := fun d => ∃ ls : List Str, d = .list (ls.map .str) ∧ tot ls ≤ 10) (emr_range (N := fun n => 1 ≤ n ∧ n ≤ 2) (P := TxB 4) (RL := TP fun xs => tot xs ≤ 10)
      (im_1 (ema_cons (em_plus (a := 1) (m := 2) rfl (ev_c (.int 2)) (ev_c (.int 1)) (by decide) (by decide)) ema_nil fun d ds p e => ?_) fun n h => by omega) (fun n h => by omega) (fun _ => rfl) (fun i n hn hi => em_pickK (n := 4) rfl ?_ (by decide) (by decide)) fun n ds hn hl hp => ?_) ?_) (by decide)) (by decide)) (by decide)) ema_k0) (by decide)) hi w fun xs l S1 H1 hx g1 w1 hl m1 => ?_
    · obtain ⟨n, hn, rfl⟩ := p
      exact ⟨n, by rw [e], by omega⟩
    · exact ema_kc (em_txt (by decide)) (ema_kc (em_txt (by decide)) (ema_kc (em_txt (by decide)) (ema_kc (em_txt (by decide)) ema_k0)))
    · obtain ⟨ls, e, h1, h2⟩ := ex_map (g := PyData.str) (Ok := fun x : Str => x.length ≤ 4) (ds := ds) fun d hd => by
        obtain ⟨x, e, h⟩ := hp d hd
        exact ⟨x, h, e⟩
      have := tot_le h2
      exact ⟨ls, e, by omega⟩
    · rintro ds ⟨ls, rfl, h⟩
      exact ⟨ls, rfl, h⟩
    refine q_forNames (K := K) (S := S1) rfl (dp_same g1.s pv) ok g1.i (fun _ => rfl) (fun _ => rfl) fun ys u S2 H2 g2 y1 y2 pu => ?_
    refine forL_at pu (fun k σ' H' => ∃ l o3 o4 o5 o6 S' xs, σ' = [some (.ref row), some v, some (.ref l), o3, o4, o5, o6] ∧ Same S2 S' ∧ GoR row S H S' H' ∧ Rw K S' H' row ∧ Mu K S' H' l (xs.map .str) ∧ H l = none ∧ tot xs ≤ 21 + k * 224) g2.i ?_ ?_ ?_ ?_
    · exact ⟨l, none, none, none, none, S2, xs, rfl, Same.refl S2, g1.trans g2.g, w1.g0 g2, m1.g0 g2, hl, by omega⟩
    · rintro n σ' H' hn ⟨l, o3, o4, o5, o6, S', xs, rfl, e, g, _⟩
      exact e.trans g.i
    · rintro k d y σ' H' hd py ⟨l, o3, o4, o5, o6, S3, xs, rfl, e3, g3, w3, m3, hl3, hx3⟩
      obtain ⟨name, hname, rfl⟩ : ∃ name : Str, name ∈ ys ∧ d = .str name := by
        rw [List.getElem?_map] at hd
        cases e : ys[k]? with
        | none => rw [e] at hd; cases hd
        | some z =>
          rw [e] at hd
          exact ⟨z, List.mem_of_getElem? e, (Option.some.inj hd).symm⟩
      have hk : k < 50 := by
        have := (List.getElem?_eq_some_iff.mp hd).1
        rw [List.length_map] at this
        omega
      have ln := y2 name hname
      have nl : row ≠ l := fun z => by
        have := w.ne
        rw [z] at this
        exact this hl3
      have hon : (("on " : Str) ++ name).length ≤ 13 := by
        rw [len_sgn, sgn_app, List.length_append, ← len_sgn, ← len_sgn]
        have : ("on " : Str).length = 3 := by decide
        omega
      refine q_app (K := K) (S := S3) rfl m3 (ev_op (rv_cat (by rw [sizeLine_eq]; have : ("on " : Str).length = 3 := by decide
                                                                omega)) (ev_c (.str _)) (ev_var rfl (dp_same e3 py))) g3.i (by have := tot_len xs; rw [List.length_map]; omega) fun S4 H4 g4 m4 => ?_
      have g04 : GoR row S H S4 H4 := Go.own g3 g4 fun b hb => .inr (by rw [hb]; exact hl3)
      have w4 : Rw K S4 H4 row := w3.go g4 nl
      refine q_asgM (K := K) (row := row) (P := fun d => ∃ n : Nat, n < 5 ∧ d = .int (n : Int)) (em_taken (m := 5) rfl (ev_c (.int 5)) (by decide) (by decide) fun n h => ⟨n, h, rfl⟩) g4.i w4 fun d v5 S5 H5 hp g5 w5 pv5 => ?_
      obtain ⟨kd, hk5, rfl⟩ := hp
      obtain rfl := dp_int pv5
      have m5 := m4.go g5 fun z => nl z.symm
      obtain ⟨S6, g6, e6, r6, hb6⟩ := m5.frz (g04.trans g5) hl3
      have w6 := w5.wide e6 (by rw [hb6 _ nl]; exact w5.out)
      have e26 : Same S2 S6 := ((e3.trans g4.s).trans g5.s).trans e6
      have r6 : Rl K S6 (.ref l) ((xs ++ [("on " : Str) ++ name]).map .str) := by rw [List.map_append]; exact r6
      have t6 : tot (xs ++ [("on " : Str) ++ name]) ≤ 35 + k * 224 := by
        rw [tot_app, tot_cons, tot_nil]
        omega
      have fin : ∀ (b : Nat) (σx : L2.St) (xs' : List Str) (l' : Addr) (S' H' H7 : Hp), (σx = [some (.ref row), some v, some (.ref l'), o3, some y, o5, some (.int (kd : Int))]) → G0 S6 H5 S6 H7 → b ≤ 210 → tot xs' ≤ 35 + k * 224 + b → GoR row S6 H7 S' H' → Rw K S' H' row → H7 l' = none → Mu K S' H' l' (xs'.map .str) →
          ∃ l o3 o4 o5 o6 S' xs, σx = ([some (.ref row), some v, some (.ref l), o3, o4, o5, o6] : L2.St) ∧ Same S2 S' ∧ GoR row S H S' H' ∧ Rw K S' H' row ∧ Mu K S' H' l (xs.map .str) ∧ H l = none ∧ tot xs ≤ 21 + (k + 1) * 224 := fun b σx xs' l' S' H' H7 e g7 hb hx' g' w' hl' m' =>
        ⟨l', o3, some y, o5, some (.int (kd : Int)), S', xs', e, e26.trans g'.s, (g6.trans g7.g).trans g', w', m', (g6.trans g7.g).fresh hl', by omega⟩
      refine q_ifE (b := decide ((kd : Int) = 0)) (Sees.refl g6.i) (et_val (K := K) (ev_op rv_eqi (ev_var rfl (.int _)) (ev_c (.int _)))) (fun h7 H7 g7 => ?_) fun h7 H7 g7 => ?_
      · exact s_asgMX (K := K) (row := row) (emx_catK (n := 2) (b := 20) (emr_var rfl r6 t6) (ema_kc (em_txt (by decide)) (ema_kc (em_txt (by decide)) ema_k0)) (by omega) (by decide)) g7.i (w6.g0 g7) fun xs' l' S' H' hx' g' w' hl' m' => fin 42 _ xs' l' S' H' H7 rfl g7 (by decide) hx' g' w' hl' m'
      refine q_ifE (b := decide ((kd : Int) = 1)) (Sees.refl g7.i) (et_val (K := K) (ev_op rv_eqi (ev_var rfl (.int _)) (ev_c (.int _)))) (fun h8 H8 g8 => ?_) fun h8 H8 g8 => ?_
      · exact s_asgMX (K := K) (row := row) (emx_catK (n := 4) (b := 20) (emr_var rfl r6 t6) (ema_kc (em_txt (by decide)) (ema_kc (em_txt (by decide)) (ema_kc (em_txt (by decide)) (ema_kc (em_txt (by decide)) ema_k0)))) (by omega) (by decide)) g8.i ((w6.g0 g7).g0 g8) fun xs' l' S' H' hx' g' w' hl' m' => fin 84 _ xs' l' S' H' H8 rfl (g7.trans g8) (by decide) hx' g' w' hl' m'
      refine q_ifE (b := decide ((kd : Int) = 2)) (Sees.refl g8.i) (et_val (K := K) (ev_op rv_eqi (ev_var rfl (.int _)) (ev_c (.int _)))) (fun h9 H9 g9 => ?_) fun h9 H9 g9 => ?_
      · exact s_asgMX (K := K) (row := row) (emx_catK (n := 6) (b := 20) (emr_var rfl r6 t6) (ema_kc (em_txt (by decide)) (ema_kc (em_txt (by decide)) (ema_kc (em_txt (by decide)) (ema_kc (em_txt (by decide)) (ema_kc (em_txt (by decide)) (ema_kc (em_le (em_catS (b := 7) (c := 4) (em_txt (by decide)) (em_pickK (n := 4) (b := 4) rfl (ema_kc (em_txt (by decide)) (ema_kc (em_txt (by decide)) (ema_kc (em_txt (by decide)) (ema_kc (em_txt (by decide)) ema_k0)))) (by decide) (by decide)) (by decide)) (by decide)) ema_k0)))))) (by omega) (by decide)) g9.i (((w6.g0 g7).g0 g8).g0 g9) fun xs' l' S' H' hx' g' w' hl' m' => fin 126 _ xs' l' S' H' H9 rfl ((g7.trans g8).trans g9) (by decide) hx' g' w' hl' m'
      refine q_ifE (b := decide ((kd : Int) = 3)) (Sees.refl g9.i) (et_val (K := K) (ev_op rv_eqi (ev_var rfl (.int _)) (ev_c (.int _)))) (fun ha Ha ga => ?_) fun ha Ha ga => ?_
      · exact s_asgMX (K := K) (row := row) (emx_catK (n := 10) (b := 20) (emr_var rfl r6 t6) (ema_kc (em_txt (by decide)) (ema_kc (em_txt (by decide)) (ema_kc (em_txt (by decide)) (ema_kc (em_txt (by decide)) (ema_kc (em_txt (by decide)) (ema_kc (em_txt (by decide)) (ema_kc (em_txt (by decide)) (ema_kc (em_txt (by decide)) (ema_kc (em_txt (by decide)) (ema_kc (em_txt (by decide)) ema_k0)))))))))) (by omega) (by decide)) ga.i ((((w6.g0 g7).g0 g8).g0 g9).g0 ga) fun xs' l' S' H' hx' g' w' hl' m' => fin 210 _ xs' l' S' H' Ha rfl (((g7.trans g8).trans g9).trans ga) (by decide) hx' g' w' hl' m'
      have g7a := ((g7.trans g8).trans g9).trans ga
      refine q_asgMX (K := K) (row := row) (emx_catK (n := 2) (b := 20) (emr_var rfl r6 t6) (ema_kc (em_pickK (n := 3) (b := 20) rfl (ema_kc (em_txt (by decide)) (ema_kc (em_txt (by decide)) (ema_kc (em_txt (by decide)) ema_k0))) (by decide) (by decide)) (ema_kc (em_txt (by decide)) ema_k0)) (by omega) (by decide)) ga.i (w6.g0 g7a) fun xb lb Sb Hb hxb gb wb hlb mb => ?_
      obtain ⟨Sc, gc, ec, rc, hbc⟩ := mb.frz gb hlb
      have nlb : row ≠ lb := fun z => by
        have := (w6.g0 g7a).ne
        rw [z] at this
        exact this hlb
      have wc := wb.wide ec (by rw [hbc _ nlb]; exact wb.out)
      exact s_asgMX (K := K) (row := row) (emx_catK (n := 3) (b := 20) (emr_var rfl rc hxb) (ema_kc (em_le (em_catS (b := 7) (c := 2) (em_catS (b := 6) (c := 1) (em_txt (by decide)) (em_pickK (n := 3) (b := 1) rfl (ema_kc (em_txt (by decide)) (ema_kc (em_txt (by decide)) (ema_kc (em_txt (by decide)) ema_k0))) (by decide) (by decide)) (by decide)) (em_txt (by decide)) (by decide)) (by decide)) (ema_kc (em_txt (by decide)) (ema_kc (em_le (em_catS (b := 7) (c := 4) (em_txt (by decide)) (em_pickK (n := 4) (b := 4) rfl (ema_kc (em_txt (by decide)) (ema_kc (em_txt (by decide)) (ema_kc (em_txt (by decide)) (ema_kc (em_txt (by decide)) ema_k0)))) (by decide) (by decide)) (by decide)) (by decide)) ema_k0))) (by omega) (by decide)) gc.i wc fun xs' l' S' H' hx' g' w' hl' m' => fin 105 _ xs' l' S' H' Ha rfl g7a (by decide) (by omega) (gc.trans g') w' (gc.fresh hl') m'
    · rintro σ' H' ⟨l, o3, o4, o5, o6, S3, xs, rfl, e3, g3, w3, m3, hl3, hx3⟩
      obtain ⟨S6, g6, e6, r6, hb6⟩ := m3.frz g3 hl3
      have nl : row ≠ l := fun z => by
        have := w.ne
        rw [z] at this
        exact this hl3
      have w6 := w3.wide e6 (by rw [hb6 _ nl]; exact w3.out)
      refine q_retM (K := K) (row := row) (em_join (b := 20000) nl_tl (em_d (ev_var rfl r6.d) ⟨xs, rfl, by rw [List.length_map] at hx3; omega⟩) (by decide)) g6.i w6 fun d u S7 H7 hd g7 w7 p7 => ?_
      obtain ⟨x, rfl, hx⟩ := hd
      rw [dp_str p7]
      exact q x S7 H7 hx (g6.trans g7) w7⟩
end
end Zb
set_option Elab.async false
set_option linter.all false
set_option maxRecDepth 100000
set_option maxHeartbeats 4000000
namespace Zb
open PySem PySem.Spec PyProof.Rows L2
def EvMAL (K : PySem.W.Frag) (row : Addr) (n : Nat) (ta : TA) (σ : L2.St) (S : Hp) (P : List PyData → Prop) : Prop := ∀ S1 H, Same S S1 → Same S1 H → Rw K S1 H row → ∀ Q : List V → Hp → Prop, (∀ vs S' H', vs.length = n → (∀ v ∈ vs, ∃ ds, P ds ∧ Rl K S' v ds) → GoR row S1 H S' H' → Rw K S' H' row → Q vs H') → ta σ H Q
section
variable {K : PySem.W.Frag} {row : Addr} {σ : L2.St} {S S0 S1 H H1 : Hp} {te ta tb : TE} {tA tr : TA} {j : Nat} {D : Ends} {tz : TS} {b c n : Nat} {P R : PyData → Prop} {PL : List PyData → Prop}
theorem emal_nil : EvMAL K row 0 tNil σ S PL := fun S1 H e i w Q q => q [] S1 H rfl (fun _ z => absurd z List.not_mem_nil) (Go.refl i) w
theorem emal_cons (ha : EvMR K row ta σ S PL) (hr : EvMAL K row n tr σ S PL) : EvMAL K row (n + 1) (tCons ta tr) σ S PL := fun S1 H e i w Q q =>
  ha S1 H e i w _ fun ds v S2 H2 p2 g2 w2 pv => hr S2 H2 (e.trans g2.s) g2.i w2 _ fun vs S3 H3 hn h3 g3 w3 => q (v :: vs) S3 H3 (by rw [List.length_cons, hn]) (fun u hu => by
    rcases List.mem_cons.mp hu with rfl | hu
    · exact ⟨ds, p2, rl_same g3.s pv⟩
    · exact h3 u hu) (g2.trans g3) w3
/-- pick of lists -/
theorem emr_pickL {E : XK} (hv : σ[j]? = some (some (.ref row))) (ha : EvMAL K row n tA σ S PL) (h1 : 1 ≤ n) (h2 : n ≤ 1000) : EvMR K row (tCall (spPick K) [] E (tCons (tVar j) (tCons (tLst tA) tNil))) σ S PL := fun S1 H e i w Q q =>
  ⟨.ref row, hv, ha S1 H e i w _ fun vs S2 H2 hn hr g w2 => ⟨by rw [hn, sizeLine_eq]; omega, fun p hp => by
    have gn : G0 S2 H2 (upd S2 p (.lst vs)) (upd H2 p (.lst vs)) := Go.new g.i hp
    refine ⟨upd S2 p (.lst vs), row, p, vs, gn.i, rfl, w2.g0 gn, SqL.of upd_same, by omega, fun u H' hu g' w' => ?_⟩
    obtain ⟨ds, pd, r⟩ := hr u hu
    exact q ds u _ H' pd ((g.trans gn.g).trans g') w' (rl_same gn.s r)⟩⟩
theorem er_rep {x : Str} : EvR K (tOp rRep (tLst (tCons (tC (.str x)) tNil)) (tC (.int 60))) σ S ((List.replicate 60 x).map .str) := fun H i Q q =>
  ⟨lz 1 rfl, fun p hp => by
    have g1 : G0 S H (upd S p (.lst [.str x])) (upd H p (.lst [.str x])) := Go.new i hp
    refine ⟨p, 60, [.str x], rfl, rfl, upd_same, by decide, by decide, by rw [sizeLine_eq]; show 1 * 60 ≤ 16777216; decide, fun p2 hp2 => ?_⟩
    have e : (List.replicate (60 : Int).toNat [V.str x]).flatten = (List.replicate 60 x).map V.str := rfl
    rw [e]
    have g2 : G0 (upd S p (.lst [.str x])) (upd H p (.lst [.str x])) (upd (upd S p (.lst [.str x])) p2 (.lst ((List.replicate 60 x).map V.str))) (upd (upd H p (.lst [.str x])) p2 (.lst ((List.replicate 60 x).map V.str))) := Go.new g1.i hp2
    exact q _ _ _ (g1.trans g2) ⟨p2, _, rfl, upd_same, dpAll_strs _⟩⟩
theorem er_split {w sep : Str} (h : EvD K te σ S (.str w)) (h2 : EvD K ta σ S (.str sep)) (h0 : (sep.length == 0) = false) (hz : w.length + 2 ≤ sizeLine) :
    EvR K (tM1 (fun x xs H Q => ∃ a b, x = .str a ∧ xs = [.str b] ∧ (b.length == 0) = false ∧ a.length + 2 ≤ sizeLine ∧ rNewStrs (Txt.split a b) H Q) te ta) σ S ((Txt.split w sep).map .str) := fun H i Q q =>
  h H i _ fun v S1 H1 g1 p1 => ⟨⟨w, dp_str p1⟩, (h2.mono g1.s) H1 g1.i _ fun u S2 H2 g2 p2 => by
    rw [dp_str p2, dp_str p1]
    refine ⟨w, sep, rfl, rfl, h0, hz, fun p hp => q (.ref p) _ _ ((g1.trans g2).trans (Go.new g2.i hp)) ⟨p, _, rfl, upd_same, dpAll_strs _⟩⟩⟩
theorem emr_sl {tl th : TO} {lo hi : Option Int} {xs : List Str} (p : EvD K te σ S (.list (xs.map .str))) (hl : EvO tl σ S lo) (hu : EvO th σ S hi) (h : tot xs ≤ c) : EvMR K row (tSl (rSlL K) te tl th) σ S (TP fun ys => tot ys ≤ c) :=
  emr_d (en_slL p hl hu).r (by
    unfold cutD
    rw [List.length_map, ← List.map_drop, ← List.map_take]
    exact ⟨_, rfl, Nat.le_trans (Nat.le_trans (tot_take _ _) (tot_drop _ _)) h⟩)
theorem cutS_len (w : Str) (lo hi : Option Int) : (cutS w lo hi).length ≤ w.length := by
  unfold cutS
  rw [len_sgn, sgn_mk, List.length_take, List.length_drop]
  have := len_sgn w
  show min _ ((sgn w).length - _) ≤ _
  omega
theorem q_par2M {i j : Nat} (ha : EvM K row ta σ S P) (hb : EvM K row tb σ S R) (i0 : Same S H) (w : Rw K S H row)
    (k : ∀ x y u v S1 H1, P x → R y → GoR row S H S1 H1 → Rw K S1 H1 row → Dp K S1 u x → Dp K S1 v y → tz D ((σ.set i (some u)).set j (some v)) H1) : tSeq (tPar i j (tCons ta (tCons tb tNil))) tz D σ H :=
  ha S H (Same.refl S) i0 w _ fun x u S1 H1 px g1 w1 p1 => hb S1 H1 g1.s g1.i w1 _ fun y v S2 H2 py g2 w2 p2 => ⟨u, v, rfl, k x y u v S2 H2 px py (g1.trans g2) w2 (dp_same g2.s p1) p2⟩
end
/-- row, text: a text; the row has turned -/
def spBent (K : PySem.W.Frag) : Sp := fun vs H Q _ => ∃ (S : Hp) (row : Addr) (x : Str), Same S H ∧ vs = [.ref row, .str x] ∧ Rw K S H row ∧ x.length ≤ 20000 ∧ ∀ (y : Str) S' H', y.length ≤ 80000 → GoR row S H S' H' → Rw K S' H' row → Q (.str y) H'
section
variable {P : Program} {w : World} {K : PySem.W.Frag} {mg : Str → Option Value} {base : Heap}
theorem sc_L_bent : FnScope ["_law_row", "_law_text", "_law_lines", "_law_k", "_law_way", "_law_more"] ["_law_row", "_law_text"] (defScope Zh.s_L_bent) := ⟨rfl, rfl, rfl, by decide +kernel, rfl, by decide +kernel, by decide +kernel⟩
theorem ok_L_bent (M : Mo K mg) (D : Df K mg "_law_bent" Zh.s_L_bent) (f_L_taken : Fn CX0 P w K mg base "_law_taken" 1 ["_law_row", "_law_many"] (spTaken K)) (f_L_pick : Fn CX0 P w K mg base "_law_pick" 2 ["_law_row", "_law_things"] (spPick K)) : Fn CX0 P w K mg base "_law_bent" 3 ["_law_row", "_law_text"] (spBent K) :=
  fn_mkS D.1 D.2 (fun _ _ _ _ _ _ us hl => match us, hl with | [_, _], _ => rfl) sc_L_bent (fun vs H Q E h => by obtain ⟨_, _, _, _, rfl, _⟩ := h; rfl) fun cdv A outer s0 H E hr => ⟨_, (pss_cons (ps_set (i := 2) sc_L_bent.nd rfl (Or.inl rfl) (pe_split (pv 1) pe_str))
    (pss_cons (ps_par (i := 3) (j := 4) rfl sc_L_bent.nd rfl rfl (by decide) rfl rfl (pa_cons (pe_fn f_L_taken (hr.mono (by decide)) rfl (pa_cons (pv 0) (pa_cons (pe_callB (id := "len") call_len (by rfl) M.len (by decide +kernel) (pa_cons (pv 2) pa_nil)) pa_nil))) (pa_cons (pe_fn f_L_taken (hr.mono (by decide)) rfl (pa_cons (pv 0) (pa_cons pe_int pa_nil))) pa_nil)) (by rfl))
    (pss_cons (ps_set (i := 5) sc_L_bent.nd rfl (Or.inl rfl) (pe_lst (pa_cons pe_str (pa_cons pe_str (pa_cons pe_str (pa_cons pe_str (pa_cons pe_str (pa_cons pe_str (pa_cons pe_str (pa_cons pe_str (pa_cons pe_str (pa_cons pe_str (pa_cons pe_str (pa_cons pe_str (pa_cons pe_str (pa_cons pe_str (pa_cons pe_str (pa_cons pe_str pa_nil))))))))))))))))))
    (pss_cons (ps_if (pt_cmpR op_lt (pv 4) pe_int (nomark _)) (pss_one (ps_set (i := 2) sc_L_bent.nd rfl (Or.inl rfl) (pe_op op_cat (pe_op op_cat (pe_slice sl_list (pv 2) po_none (po_some (pv 3))) (pe_lst (pa_cons (pe_fn f_L_pick (hr.mono (by decide)) rfl (pa_cons (pv 0) (pa_cons (pv 5) pa_nil))) pa_nil))) (pe_slice sl_list (pv 2) (po_some (pv 3)) po_none)))) (pss_one (ps_if (pt_cmpR op_eq (pv 4) pe_int (nomark _)) (pss_one (ps_set (i := 2) sc_L_bent.nd rfl (Or.inl rfl) (pe_op op_cat (pe_slice sl_list (pv 2) po_none (po_some (pv 3))) (pe_slice sl_list (pv 2) (po_some (pe_op op_add (pv 3) pe_int)) po_none)))) (pss_one (ps_if (pt_cmpR op_eq (pv 4) pe_int (nomark _)) (pss_one (ps_set (i := 2) sc_L_bent.nd rfl (Or.inl rfl) (pe_op op_cat (pe_op op_cat (pe_slice sl_list (pv 2) po_none (po_some (pv 3))) (pe_lst (pa_cons (pe_op op_add_str (pe_ix (r := rIxL K) ix_list (pv 2) (pv 3) (fun _ _ => rfl)) (pe_fn f_L_pick (hr.mono (by decide)) rfl (pa_cons (pv 0) (pa_cons (pe_lst (pa_cons pe_str (pa_cons pe_str (pa_cons pe_str (pa_cons pe_str pa_nil))))) pa_nil)))) pa_nil))) (pe_slice sl_list (pv 2) (po_some (pe_op op_add (pv 3) pe_int)) po_none)))) (pss_one (ps_if (pt_cmpR op_eq (pv 4) pe_int (nomark _)) (pss_one (ps_set (i := 2) sc_L_bent.nd rfl (Or.inl rfl) (pe_op op_cat (pe_lst (pa_cons (pe_fn f_L_pick (hr.mono (by decide)) rfl (pa_cons (pv 0) (pa_cons (pe_lst (pa_cons pe_str (pa_cons pe_str (pa_cons pe_str (pa_cons pe_str (pa_cons pe_str (pa_cons pe_str (pa_cons pe_str pa_nil)))))))) pa_nil))) pa_nil)) (pe_slice sl_list (pv 2) (po_some pe_int) po_none)))) (pss_one (ps_if (pt_cmpR op_eq (pv 4) pe_int (nomark _)) (pss_one (ps_set (i := 2) sc_L_bent.nd rfl (Or.inl rfl) (pe_op op_cat (pe_op op_cat (pe_slice sl_list (pv 2) po_none (po_some (pv 3))) (pe_lst (pa_cons (pe_slice sl_str (pe_ix (r := rIxL K) ix_list (pv 2) (pv 3) (fun _ _ => rfl)) po_none (po_some (pe_un un_neg pe_int))) pa_nil))) (pe_slice sl_list (pv 2) (po_some (pe_op op_add (pv 3) pe_int)) po_none)))) (pss_one (ps_set (i := 2) sc_L_bent.nd rfl (Or.inl rfl) (pe_op op_cat (pv 2) (pe_fn f_L_pick (hr.mono (by decide)) rfl (pa_cons (pv 0) (pa_cons (pe_lst (pa_cons (pe_lst (pa_cons pe_str pa_nil)) (pa_cons (pe_lst (pa_cons pe_str pa_nil)) (pa_cons (pe_lst (pa_cons pe_str (pa_cons pe_str pa_nil))) (pa_cons (pe_lst (pa_cons pe_str (pa_cons pe_str (pa_cons pe_str pa_nil)))) (pa_cons (pe_op op_rep (pe_lst (pa_cons pe_str pa_nil)) pe_int) (pa_cons (pe_lst (pa_cons pe_str (pa_cons pe_str (pa_cons pe_str pa_nil)))) (pa_cons (pv 2) pa_nil)))))))) pa_nil)))))))))))))))
    (pss_one (ps_ret (pe_join pe_str (pv 2)))))))), fun vs H Q h => by
    obtain ⟨S, row, x, hi, rfl, w, hx, q⟩ := h
    have hT : tot (lns x) ≤ 20001 := by rw [lns_tot]; omega
    have hlen : (lns x).length ≤ 20001 := Nat.le_trans (tot_len _) hT
    have hpos := lns_pos x
    refine q_asgR (K := K) (er_split (ev_var rfl (.str _)) (ev_c (.str _)) (by decide) (by rw [sizeLine_eq]; omega)) hi fun v1 S1 H1 g1 r1 => ?_
    have w1 := w.g0 g1
    refine q_par2M (K := K) (row := row) (P := fun d => ∃ n : Nat, n < (lns x).length ∧ d = .int (n : Int)) (R := fun d => ∃ n : Nat, n < 8 ∧ d = .int (n : Int)) (em_taken (m := (lns x).length) rfl (ev_is (ev_cb rc_lenL (ea_one (ev_var rfl r1.d))) (by rw [List.length_map])) hpos (by omega) fun n h => ⟨n, h, rfl⟩) (em_taken (m := 8) rfl (ev_c (.int 8)) (by decide) (by decide) fun n h => ⟨n, h, rfl⟩) g1.i w1 fun d e u u2 S2 H2 p1 p2 g2 w2 pu pu2 => ?_
    obtain ⟨k, hk, rfl⟩ := p1
    obtain ⟨way, hw, rfl⟩ := p2
    obtain rfl := dp_int pu
    obtain rfl := dp_int pu2
    refine q_asgMR (K := K) (row := row) (emr_lst (RL := TP (PK 16 20)) (ema_kc (em_txt (by decide)) (ema_kc (em_txt (by decide)) (ema_kc (em_txt (by decide)) (ema_kc (em_txt (by decide)) (ema_kc (em_txt (by decide)) (ema_kc (em_txt (by decide)) (ema_kc (em_txt (by decide)) (ema_kc (em_txt (by decide)) (ema_kc (em_txt (by decide)) (ema_kc (em_txt (by decide)) (ema_kc (em_txt (by decide)) (ema_kc (em_txt (by decide)) (ema_kc (em_txt (by decide)) (ema_kc (em_txt (by decide)) (ema_kc (em_txt (by decide)) (ema_kc (em_txt (by decide)) ema_k0)))))))))))))))) fun ds p => ⟨by
      obtain ⟨xs, rfl, h, _⟩ := p
      rw [List.length_map, h]
      exact lz 16 rfl, p⟩) g2.i w2 fun ds v3 S3 H3 p3 g3 w3 r3 => ?_
    obtain ⟨more, rfl, hmore⟩ := p3
    have g03 := (g1.g.trans g2).trans g3
    have r1 : Rl K S3 v1 ((lns x).map .str) := rl_same (g2.s.trans g3.s) r1
    have fin : ∀ {σ : L2.St} {xs : List Str} {l : Addr} {S4 H4 H5 : Hp}, G0 S3 H3 S3 H4 → σ[2]? = some (some (.ref l)) → tot xs ≤ 80000 → GoR row S3 H4 S4 H5 → Rw K S4 H5 row → H4 l = none → Mu K S4 H5 l (xs.map .str) →
        tRet (tM1 (fun x xs H Q => ∃ a p, ∃ ys : List Str, x = .str a ∧ xs = [.ref p] ∧ (SqL K H p (ys.map V.str) ∨ SqT K H p (ys.map V.str)) ∧ (ys.map (·.length)).sum + ys.length * a.length ≤ 16777216 ∧ Q (.str (Txt.join a ys)) H) (tC (.str "\n")) (tVar 2)) { nx := fun _ H' => Q .non H', rt := Q } σ H5 := fun {σ xs l S4 H4 H5} g4 hv ht g w4 hl m => by
      obtain ⟨S6, g6, e6, r6, hb6⟩ := m.frz g hl
      have nl : row ≠ l := fun z => by
        have := (w3.g0 g4).ne
        rw [z] at this
        exact this hl
      have w6 := w4.wide e6 (by rw [hb6 _ nl]; exact w4.out)
      refine q_retM (K := K) (row := row) (em_join (b := 80000) nl_tl (em_d (ev_var hv r6.d) ⟨xs, rfl, ht⟩) (by decide)) g6.i w6 fun d u S7 H7 hd g7 w7 p7 => ?_
      obtain ⟨y, rfl, hy⟩ := hd
      rw [dp_str p7]
      exact q y S7 H7 hy (((g03.trans g4.g).trans g6).trans g7) w7
    have L : ∀ {σ : L2.St}, σ[2]? = some (some v1) → EvD K (tVar 2) σ S3 (.list ((lns x).map .str)) := fun h => ev_var h r1.d
    have lineK : ∀ {σ : L2.St}, σ[2]? = some (some v1) → σ[3]? = some (some (.int (k : Int))) → EvD K (tOp (rIxL K) (tVar 2) (tVar 3)) σ S3 (.str (at' (lns x) k)) := fun h h2 => ev_op (rv_ixL (at_line hk)) (L h) (ev_var h2 (.int _))
    have lenK : (at' (lns x) k).length ≤ 20000 := by
      have := tot_mem (at_mem hk)
      omega
    refine q_if (b := decide ((way : Int) < 3)) (Sees.refl g3.i) (et_val (K := K) (ev_op rv_lt (ev_var rfl (.int _)) (ev_c (.int _)))) (fun h4 H4 g4 => ?_) fun h4 H4 g4 => ?_
    · exact s_asgMX (K := K) (row := row) (emx_tot (c := 20001) (b := 20001 + 1 * 21) (emx_r (emx_catK (n := 1) (b := 20) (emr_sl (L rfl) eo_none (eo_some (K := K) (ev_var rfl (.int _))) hT) (ema_kc (em_pick rfl (em_d (P := (· = .list (more.map .str))) (ev_var rfl r3.d) rfl) fun d p => ⟨_, p, by rw [List.length_map, hmore.1]; omega, fun y hy => by
        obtain ⟨z, hz, rfl⟩ := List.mem_map.mp hy
        exact ⟨z, rfl, hmore.2 z hz⟩⟩) ema_k0) (by decide) (by decide))) (emr_sl (L rfl) (eo_some (K := K) (ev_var rfl (.int _))) eo_none hT) (by decide)) g4.i (w3.g0 g4) fun xs l S5 H5 hx5 g5 w5 hl m5 => fin g4 rfl (by omega) g5 w5 hl m5
    refine q_ifE (b := decide ((way : Int) = 3)) (Sees.refl g4.i) (et_val (K := K) (ev_op rv_eqi (ev_var rfl (.int _)) (ev_c (.int _)))) (fun h5 H5 g5 => ?_) fun h5 H5 g5 => ?_
    · exact s_asgMX (K := K) (row := row) (emx_tot (c := 20001) (b := 20001) (emr_sl (L rfl) eo_none (eo_some (K := K) (ev_var rfl (.int _))) hT) (emr_sl (L rfl) (eo_some (K := K) (ev_op rv_add (ev_var rfl (.int _)) (ev_c (.int 1)))) eo_none hT) (by decide)) g5.i ((w3.g0 g4).g0 g5) fun xs l S6 H6 hx6 g6 w6 hl m6 => fin (g4.trans g5) rfl (by omega) g6 w6 hl m6
    refine q_ifE (b := decide ((way : Int) = 4)) (Sees.refl g5.i) (et_val (K := K) (ev_op rv_eqi (ev_var rfl (.int _)) (ev_c (.int _)))) (fun h6 H6 g6 => ?_) fun h6 H6 g6 => ?_
    · exact s_asgMX (K := K) (row := row) (emx_tot (c := 20001) (b := 20001 + 1 * 20003) (emx_r (emx_catK (n := 1) (b := 20002) (emr_sl (L rfl) eo_none (eo_some (K := K) (ev_var rfl (.int _))) hT) (ema_kc (em_catS (b := 20000) (c := 2) (em_d (lineK rfl rfl) ⟨_, rfl, lenK⟩) (em_pickK (n := 4) (b := 2) rfl (ema_kc (em_txt (by decide)) (ema_kc (em_txt (by decide)) (ema_kc (em_txt (by decide)) (ema_kc (em_txt (by decide)) ema_k0)))) (by decide) (by decide)) (by decide)) ema_k0) (by decide) (by decide))) (emr_sl (L rfl) (eo_some (K := K) (ev_op rv_add (ev_var rfl (.int _)) (ev_c (.int 1)))) eo_none hT) (by decide)) g6.i (((w3.g0 g4).g0 g5).g0 g6) fun xs l S7 H7 hx7 g7 w7 hl m7 => fin ((g4.trans g5).trans g6) rfl (by omega) g7 w7 hl m7
    refine q_ifE (b := decide ((way : Int) = 5)) (Sees.refl g6.i) (et_val (K := K) (ev_op rv_eqi (ev_var rfl (.int _)) (ev_c (.int _)))) (fun h7 H7 g7 => ?_) fun h7 H7 g7 => ?_
    · exact s_asgMX (K := K) (row := row) (emx_tot (b := 1 * 21) (c := 20001) (emx_r (emx_k (n := 1) (b := 20) (ema_kc (em_pickK (n := 7) (b := 20) rfl (ema_kc (em_txt (by decide)) (ema_kc (em_txt (by decide)) (ema_kc (em_txt (by decide)) (ema_kc (em_txt (by decide)) (ema_kc (em_txt (by decide)) (ema_kc (em_txt (by decide)) (ema_kc (em_txt (by decide)) ema_k0))))))) (by decide) (by decide)) ema_k0) (by decide))) (emr_sl (L rfl) (eo_some (K := K) (ev_c (.int 1))) eo_none hT) (by decide)) g7.i ((((w3.g0 g4).g0 g5).g0 g6).g0 g7) fun xs l S8 H8 hx8 g8 w8 hl m8 => fin (((g4.trans g5).trans g6).trans g7) rfl (by omega) g8 w8 hl m8
    refine q_ifE (b := decide ((way : Int) = 6)) (Sees.refl g7.i) (et_val (K := K) (ev_op rv_eqi (ev_var rfl (.int _)) (ev_c (.int _)))) (fun h8 H8 g8 => ?_) fun h8 H8 g8 => ?_
    · exact s_asgMX (K := K) (row := row) (emx_tot (c := 20001) (b := 20001 + 1 * 20001) (emx_r (emx_catK (n := 1) (b := 20000) (emr_sl (L rfl) eo_none (eo_some (K := K) (ev_var rfl (.int _))) hT) (ema_kc (em_d (ev_slS (lineK rfl rfl) eo_none eo_m1 (by rw [sizeLine_eq]; omega)) ⟨_, rfl, Nat.le_trans (cutS_len _ _ _) lenK⟩) ema_k0) (by decide) (by decide))) (emr_sl (L rfl) (eo_some (K := K) (ev_op rv_add (ev_var rfl (.int _)) (ev_c (.int 1)))) eo_none hT) (by decide)) g8.i (((((w3.g0 g4).g0 g5).g0 g6).g0 g7).g0 g8) fun xs l S9 H9 hx9 g9 w9 hl m9 => fin ((((g4.trans g5).trans g6).trans g7).trans g8) rfl (by omega) g9 w9 hl m9
    · exact s_asgMX (K := K) (row := row) (emx_tot (c := 30000) (b := 20001) (emr_var rfl r1 hT) (emr_pickL (n := 7) rfl (emal_cons (emr_w (emx_r (emx_k (n := 1) (b := 20) (ema_kc (em_txt (by decide)) ema_k0) (by decide))) fun ds p => by obtain ⟨xs, e, h⟩ := p; exact ⟨xs, e, by omega⟩) (emal_cons (emr_w (emx_r (emx_k (n := 1) (b := 20) (ema_kc (em_txt (by decide)) ema_k0) (by decide))) fun ds p => by obtain ⟨xs, e, h⟩ := p; exact ⟨xs, e, by omega⟩) (emal_cons (emr_w (emx_r (emx_k (n := 2) (b := 20) (ema_kc (em_txt (by decide)) (ema_kc (em_txt (by decide)) ema_k0)) (by decide))) fun ds p => by obtain ⟨xs, e, h⟩ := p; exact ⟨xs, e, by omega⟩) (emal_cons (emr_w (emx_r (emx_k (n := 3) (b := 20) (ema_kc (em_txt (by decide)) (ema_kc (em_txt (by decide)) (ema_kc (em_txt (by decide)) ema_k0))) (by decide))) fun ds p => by obtain ⟨xs, e, h⟩ := p; exact ⟨xs, e, by omega⟩) (emal_cons (emr_d er_rep ⟨_, rfl, by decide⟩) (emal_cons (emr_w (emx_r (emx_k (n := 3) (b := 20) (ema_kc (em_txt (by decide)) (ema_kc (em_txt (by decide)) (ema_kc (em_txt (by decide)) ema_k0))) (by decide))) fun ds p => by obtain ⟨xs, e, h⟩ := p; exact ⟨xs, e, by omega⟩) (emal_cons (emr_var rfl r1 (by omega)) emal_nil))))))) (by decide) (by decide)) (by decide)) g8.i (((((w3.g0 g4).g0 g5).g0 g6).g0 g7).g0 g8) fun xs l S9 H9 hx9 g9 w9 hl m9 => fin ((((g4.trans g5).trans g6).trans g7).trans g8) rfl (by omega) g9 w9 hl m9⟩
end
end Zb
set_option Elab.async false
set_option linter.all false
set_option maxRecDepth 100000
set_option maxHeartbeats 4000000
/-! == of two functions; a call of a def that a slot holds, which may raise. -/
namespace Zb
open PySem PySem.Spec PyProof.Rows L2
theorem slot_fn_eq : Slot "function" (cmpInfo .Eq).2.1 "object.__eq__" :=
  .of (owner := "object") (n := "__eq__") (by rw [typeLookup_type, builtinLookup_eq_fast]; kernel_rfl) (by decide +kernel) (by decide +kernel) (by decide +kernel)
    (by first | exact .inl (by decide +kernel) | exact .inr (by decide +kernel)) (by rw [isSubtype_type]; kernel_rfl)
theorem slot_fn_eq_refl : Slot "function" (cmpInfo .Eq).2.2 "object.__eq__" :=
  .of (owner := "object") (n := "__eq__") (by rw [typeLookup_type, builtinLookup_eq_fast]; kernel_rfl) (by decide +kernel) (by decide +kernel) (by decide +kernel)
    (by first | exact .inl (by decide +kernel) | exact .inr (by decide +kernel)) (by rw [isSubtype_type]; kernel_rfl)
section
variable {P : Program} {w : World} {A : Around} {E : Value → Shared → Prop} {s : Shared} {x y : Addr} {ox oy : Obj} {Q : Value → Shared → Prop}
theorem eq_fn_same (hx : s.heap.get? x = some ox) (cx : ox.cls = .type "function") (hu : A.units < cLine) (h : Q (.bool true) s) : wpAny (model P w) A (compareOp .Eq (.ref x) (.ref x)) Q E s := by
  show wpAny _ A (richCompare .Eq _ _) Q E s
  have hT : s.TypeIs (.ref x) "function" := ⟨_, hx, cx⟩
  exact wpAny_richCompare_same_room (T := "function") hT hT slot_fn_eq (wpAny_call_entry slot_fn_eq hT F.entry_object_eq (objEq_entry_same ⟨_, rfl, (fun e => by cases e), h⟩) (F.args_object_eq_2 _ _)) hu
theorem eq_fn_other (hx : s.heap.get? x = some ox) (cx : ox.cls = .type "function") (hy : s.heap.get? y = some oy) (cy : oy.cls = .type "function") (hn : x ≠ y) (hu : A.units < cLine) (h : Q (.bool false) s) : wpAny (model P w) A (compareOp .Eq (.ref x) (.ref y)) Q E s := by
  show wpAny _ A (richCompare .Eq _ _) Q E s
  have hX : s.TypeIs (.ref x) "function" := ⟨_, hx, cx⟩
  have hY : s.TypeIs (.ref y) "function" := ⟨_, hy, cy⟩
  have nx : ox.cls ≠ .type "tuple" := by rw [cx]; decide
  have ny : oy.cls ≠ .type "tuple" := by rw [cy]; decide
  simp only [richCompare, cmpInfo_Eq, oneThing_ref]
  refine wpAny_holding (wpAny_bind (wpAny_cRoomFor hu ?_))
  refine wpAny_bind (wpAny_typeOf hX (wpAny_bind (wpAny_typeOf hY ?_)))
  simp only [bne_self_eq_false, Bool.false_eq_true, if_false, pure_bind, Bool.not_false, if_true]
  refine wpAny_bind (m := tryCompare (.ref x) _ (.ref y)) (wpAny_tryCompare_declines hX slot_fn_eq (wpAny_call_entry slot_fn_eq hX F.entry_object_eq (objEq_entry_other hn hx hy nx ⟨_, rfl, rfl, ?_⟩) (F.args_object_eq_2 _ _)))
  refine wpAny_bind (m := tryCompare (.ref y) _ (.ref x)) (wpAny_tryCompare_declines hY slot_fn_eq_refl (wpAny_call_entry slot_fn_eq_refl hY F.entry_object_eq (objEq_entry_other (Ne.symm hn) hy hx ny ⟨_, rfl, rfl, ?_⟩) (F.args_object_eq_2 _ _)))
  exact wpAny_bind (wpAny_rule (wpAny_bind (wpAny_isSame_ref_other hn hx hy nx (wpAny_pure h))))
end
def IsFn (K : PySem.W.Frag) (f : Addr) : Prop := ∃ o, K.lookup f = some o ∧ o.cls = .type "function"
def rEqF (K : PySem.W.Frag) : R2 := fun x y H Q => ∃ f g, x = .ref f ∧ y = .ref g ∧ IsFn K f ∧ IsFn K g ∧ Q (.bl (decide (f = g))) H
section
variable {X : Cx}
theorem op_eqF (hu : X.A.units < cLine) : OpR X (compareOp .Eq) (rEqF X.K) := by
  intro pins s σ H x y v u Q I rx ry h
  obtain ⟨f, g, rfl, rfl, ⟨o, ho, co⟩, ⟨o2, ho2, co2⟩, q⟩ := h
  cases rx
  cases ry
  have h1 := I.kIn _ _ ho
  have h2 := I.kIn _ _ ho2
  by_cases e : f = g
  · subst e
    exact eq_fn_same h1 co hu ⟨.bl (decide (f = f)), H, I, by simp; rfl, q⟩
  · exact eq_fn_other h1 co h2 co2 e hu ⟨.bl (decide (f = g)), H, I, by simp [e]; rfl, q⟩
end
/-- a call of a def that the slot holds -/
def tCallSA (i : Nat) (S : Addr → Sp → Prop) (E : L2.St → XK) (t : TA) : TE := fun σ H Q => ∃ f sp, σ[i]? = some (some (.ref f)) ∧ S f sp ∧ t σ H fun vs H1 => sp vs H1 Q (E σ)
section
variable {X : Cx} {k i : Nat} {S : Addr → Sp → Prop} {E : L2.St → XK} {x : Str} {p pos : Pos} {e : Expr} {es : List Expr} {t : TA}
theorem pe_callSA (A : ∀ f sp, S f sp → ∃ fd ps, FnOk X.prog X.w X.K X.mg X.base (L2.CX X.prog X.w) k f fd ps sp ∧ PySem.W.keepIn X.K (.ref f) = true ∧ Binds X.K fd ps []) (hr : Room k X.A) (hN : X.N[i]? = some x) (hv : Vis X.env.scope x) (hx : ∀ σ, PassesAt (L2.CX X.prog X.w) X σ (E σ)) (ha : PA X (e :: es) t)
    (hdb : (x == ("__debug__" : Str)) = false := by decide) (hcd : (x == ("__classdict__" : Str)) = false := by decide)
    (he : starEach (e :: es) X.env = (false, eval e X.env) :: starEach es X.env := by rfl) (hpl : (backTo pos (starEach es X.env)).any (·.1) = false := by rfl) : PE X (.Call (.Name x p) (e :: es) [] pos) (tCallSA i S E t) := by
  refine ⟨fun pins s σ H Q I h => ?_⟩
  obtain ⟨f, sp, hs, hS, ht⟩ := h
  obtain ⟨fd, ps, F, hk, hb⟩ := A f sp hS
  refine wpAny_Call_Name_kw (thn ((pe_var (pos := p) hN hv hdb hcd).run pins s σ H (fun v H1 => v = .ref f ∧ H1 = H) I ⟨.ref f, hs, rfl, rfl⟩) fun u s1 ⟨v, H1, I1, r1, q1⟩ => ?_)
  obtain ⟨rfl, rfl⟩ := q1
  cases r1
  refine PySem.W.callWith_K (h₀ := X.base) I.ok.mod.kin hk (thn (ha.run pos pins s1 σ _ _ I1 ht) fun us s2 ⟨vs, H2, I2, r, q⟩ => ⟨I2.kIn, ?_⟩) he hpl
  exact run_fnS F hr hb (hx σ) I2 r q
end
end Zb
set_option Elab.async false
set_option linter.all false
set_option maxRecDepth 100000
set_option maxHeartbeats 4000000
namespace Zb
open PySem PySem.Spec PyProof.Rows L2
def SAsk (K : PySem.W.Frag) : Addr → Sp → Prop := fun f sp => (f = He.ga K "cell_count" ∧ sp = spCount K) ∨ (f = He.ga K "method_names" ∧ sp = spNames K)
abbrev tIsN : R2 := fun x y H Q => y = .non ∧ Q (.bl (decide (x = .non))) H
def tAskB (K : PySem.W.Frag) (W : WX) : TS := tAsg (tCallSA 8 (SAsk K) (WE W) (tCons (tVar 2) (tCons (tVar 4) tNil))) (gName 9)
def tAskS (K : PySem.W.Frag) (a : Addr) (cls : Value) (d : Option Addr) : TS := tAsg (tTup (tCons (tC (.str "bad")) (tCons (tIf (tTest (tOp tIsN (tXf a cls d (bpC K) "line" (tVar 10)) (tC .non))) (tC (.str "none")) (tXf a cls d (bpC K) "line" (tVar 10))) tNil))) (gName 9)
section
variable {P : Program} {w : World} {K : PySem.W.Frag} {mg : Str → Option Value} {base : Heap}
theorem hAsk (F : Fn (L2.CX P w) P w K mg base "cell_count" 8 ["thing", "text"] (spCount K)) (G : Fn (L2.CX P w) P w K mg base "method_names" 8 ["thing", "text"] (spNames K)) : ∀ f sp, SAsk K f sp → ∃ fd ps, FnOk P w K mg base (L2.CX P w) 8 f fd ps sp ∧ PySem.W.keepIn K (.ref f) = true ∧ Binds K fd ps [] := by
  rintro f sp (⟨rfl, rfl⟩ | ⟨rfl, rfl⟩)
  · obtain ⟨fd, a, b⟩ := F.ex
    exact ⟨fd, _, a, F.kp, b⟩
  · obtain ⟨fd, a, b⟩ := G.ex
    exact ⟨fd, _, a, G.kp, b⟩
/-- the law: a list of numbers in, True out -/
def spLaw (K : PySem.W.Frag) : Sp := fun vs H Q _ => ∃ (S : Hp) (v : V) (ns : List Int), Same S H ∧ vs = [v] ∧ Dp K S v (.list (ns.map .int)) ∧ ∀ H', Q (.bl true) H'
section
variable {σ : L2.St} {S S1 H H1 : Hp} {te : TE} {vs : List V} {th : Th} {d : PyData} {n : Option Nat} {f : Addr} {sp : Sp} {Q : VK} {E : XK} {cells : List PyData} {names : List Str} {j : Nat}
theorem ask_bad (h : SAsk K f sp) (i : Same S H) (pa : DpAll K S vs (argR (th, d))) (pre : preR (th, d)) (hr : readV (wordsOf th) d = .bad n) (q : ∀ c dx H', BadErr K S H n c dx H' → E c dx H') : sp vs H Q E := by
  rcases h with ⟨rfl, rfl⟩ | ⟨rfl, rfl⟩
  · refine ⟨(th, d), S, i, pa, pre, fun v S' H' g post => ?_, fun c dx H' e => ?_⟩
    · obtain ⟨_, _, e, _⟩ := post
      have e : readV (wordsOf th) d = _ := e
      rw [hr] at e
      cases e
    · obtain ⟨m, e, b⟩ := e
      have e : readV (wordsOf th) d = _ := e
      rw [hr] at e
      cases e
      exact q c dx H' b
  · refine ⟨(th, d), S, i, pa, pre, fun v S' H' g post => ?_, fun c dx H' e => ?_⟩
    · obtain ⟨_, _, _, e, _⟩ := post
      have e : readV (wordsOf th) d = _ := e
      rw [hr] at e
      cases e
    · obtain ⟨m, e, b⟩ := e
      have e : readV (wordsOf th) d = _ := e
      rw [hr] at e
      cases e
      exact q c dx H' b
theorem ask_count (i : Same S H) (pa : DpAll K S vs (argR (th, d))) (pre : preR (th, d)) (hr : readV (wordsOf th) d = .good cells names) (q : ∀ S' H', G0 S H S' H' → Q (.int (cells.length : Nat)) H') : spCount K vs H Q E := by
  refine ⟨(th, d), S, i, pa, pre, fun v S' H' g post => ?_, fun c dx H' e => ?_⟩
  · obtain ⟨_, _, e, rfl⟩ := post
    have e : readV (wordsOf th) d = _ := e
    rw [hr] at e
    cases e
    exact q S' H' g
  · obtain ⟨m, e, _⟩ := e
    have e : readV (wordsOf th) d = _ := e
    rw [hr] at e
    cases e
theorem ask_names (i : Same S H) (pa : DpAll K S vs (argR (th, d))) (pre : preR (th, d)) (hr : readV (wordsOf th) d = .good cells names) (q : ∀ ys v S' H', G0 S H S' H' → ys.Perm names → sortedS ys = true → Dp K S' v (.tuple (ys.map .str)) → Q v H') : spNames K vs H Q E := by
  refine ⟨(th, d), S, i, pa, pre, fun v S' H' g post => ?_, fun c dx H' e => ?_⟩
  · obtain ⟨_, _, ys, e, h1, h2, p⟩ := post
    have e : readV (wordsOf th) d = _ := e
    rw [hr] at e
    cases e
    exact q ys v S' H' g h1 h2 p
  · obtain ⟨m, e, _⟩ := e
    have e : readV (wordsOf th) d = _ := e
    rw [hr] at e
    cases e
theorem ev_xf {a C dd : Addr} (hv : σ[j]? = some (some (.ref a))) (h : S dd = some (.xd [("line", optV n)])) : EvD K (tXf a (.ref C) (some dd) C "line" (tVar j)) σ S (optD n) := fun H i Q q =>
  ⟨_, hv, rfl, rfl, dd, _, optV n, rfl, i _ _ h, by simp [List.lookup], q _ S H (Go.refl i) (opt_dp n)⟩
theorem ev_told {a C dd : Addr} (hv : σ[j]? = some (some (.ref a))) (h : S dd = some (.xd [("line", optV n)])) : EvD K (tTup (tCons (tC (.str "bad")) (tCons (tIf (tTest (tOp tIsN (tXf a (.ref C) (some dd) C "line" (tVar j)) (tC .non))) (tC (.str "none")) (tXf a (.ref C) (some dd) C "line" (tVar j))) tNil))) σ S (badD n) := by
  refine ev_tup (ea_cons (ev_c (.str "bad")) (ea_one ?_)) (lz 2 rfl)
  cases n with
  | none => exact ev_if (b := true) (et_val (K := K) (ev_op rv_isNone (ev_xf hv h) (ev_c .non))) (fun _ => ev_c (.str "none")) (fun z => by cases z)
  | some k => exact ev_if (b := false) (et_val (K := K) (ev_op rv_isNone (ev_xf hv h) (ev_c .non))) (fun z => by cases z) (fun _ => ev_xf hv h)
/-- a part of a pair, its other part no data -/
theorem ev_ixP {t : Addr} {xs : List V} {k : Nat} {u : V} {x : PyData} (hv : σ[j]? = some (some (.ref t))) (h : S t = some (.tup xs)) (hk : xs[k]? = some u) (p : Dp K S u x) : EvD K (tOp (rIxT K) (tVar j) (tC (.int (k : Int)))) σ S x := fun H i Q q =>
  ⟨_, hv, t, xs, (k : Int), u, rfl, rfl, SqT.of (i _ _ h), atI_nat hk, q u S H (Go.refl i) p⟩
theorem et_fn {g : Addr} (hv : σ[j]? = some (some (.ref f))) (h1 : IsFn K f) (h2 : IsFn K g) : EvT (tTest (tOp (rEqF K) (tVar j) (tC (.ref g)))) σ S (decide (f = g)) := fun H i Q q =>
  ⟨_, hv, f, g, rfl, rfl, h1, h2, _, rfl, q H (Go.refl i)⟩
theorem ev_dueNames {t p : Addr} {vc : V} {kvs : List (Key × V)} {ys : List Str} (hv : σ[j]? = some (some (.ref t))) (h : S t = some (.tup [vc, .ref p])) (hp : S p = some (.dK kvs)) (hk : kvs.map (·.1) = names.map Sum.inr) (few : names.length < 64) (h1 : ys.Perm names) (h2 : sortedS ys = true) :
    EvD K (tCB (fun xs H Q => ∃ p ys, xs = [.ref p] ∧ ((SqL K H p ys ∧ ∀ l, H l = none → Q (.ref l) (upd H l (.tup ys))) ∨ (SqT K H p ys ∧ Q (.ref p) H))) (tCons (tCB (rSortedS K) (tCons (tCB (fun xs H Q => ∃ (a : Addr) (kvs : List (Key × V)), xs = [.ref a] ∧ Rd H a (.dK kvs) ∧ ∀ p, H p = none → Q (.ref p) (upd H p (.lst (kvs.map fun kv => kV kv.1)))) (tCons (tOp (rIxT K) (tVar j) (tC (.int 1))) tNil)) tNil)) tNil)) σ S (.tuple (ys.map .str)) := fun H i Q q => by
  refine ⟨_, hv, t, [vc, .ref p], 1, .ref p, rfl, rfl, SqT.of (i _ _ h), atI_nat (j := 1) rfl, ?_⟩
  refine ⟨p, kvs, rfl, .inl (i _ _ hp), fun l hl => ?_⟩
  have e : (kvs.map fun kv => kV kv.1) = names.map V.str := by
    have e1 : (kvs.map fun kv => kV kv.1) = (kvs.map (·.1)).map kV := by rw [List.map_map]; rfl
    rw [e1, hk, List.map_map]
    rfl
  rw [e]
  have g1 : G0 S H S (upd H l (.lst (names.map V.str))) := Go.newM i hl
  refine ⟨l, names, rfl, SqL.of upd_same, few, fun zs c hz hs hc => ?_⟩
  have ez : zs = ys := sorted_one (hz.trans h1.symm) hs h2
  subst ez
  have g2 := g1.trans (Go.newM (o := .lst (zs.map V.str)) g1.i hc)
  refine ⟨c, zs.map V.str, rfl, .inl ⟨SqL.of upd_same, fun t2 ht => ?_⟩⟩
  exact q (.ref t2) _ _ (g2.trans (Go.new g2.i ht)) (.tup (SqT.of upd_same) (dpAll_strs zs))
end
theorem cells_shaped {words : List Str} {d : PyData} {cells : List PyData} {names : List Str} (h : readV words d = .good cells names) : SeqAt.shaped (.tuple cells) = true := by
  have key : ∃ l : List Str, cells = l.map cellV := by
    cases d with
    | str text =>
      have h' : readR words text = .good cells names := h
      unfold readR at h'
      split at h'
      · cases h'
      · split at h'
        · cases h'
        · split at h'
          · cases h'
          · split at h'
            · obtain ⟨rfl, _⟩ := Res.good.inj h'
              exact ⟨_, rfl⟩
            · cases h'
    | _ => cases h
  obtain ⟨l, rfl⟩ := key
  obtain ⟨h1, h2⟩ := lay_list (ds := l.map cellV) fun x hx => by
    obtain ⟨w, _, rfl⟩ := List.mem_map.mp hx
    unfold cellV
    split
    · exact ⟨rfl, by decide⟩
    · exact ⟨rfl, by simp [PyData.depth]⟩
  unfold SeqAt.shaped
  rw [Bool.and_eq_true]
  exact ⟨by simpa [PyData.canLay0] using h1, decide_eq_true (by simp only [PyData.depth]; omega)⟩
abbrev rLenK (K : PySem.W.Frag) : List V → Hp → VK → Prop := fun xs H Q => ∃ x n, xs = [x] ∧ LenV K x H n ∧ Q (.int n) H
abbrev rTupK (K : PySem.W.Frag) : List V → Hp → VK → Prop := fun xs H Q => ∃ p ys, xs = [.ref p] ∧ ((SqL K H p ys ∧ ∀ l, H l = none → Q (.ref l) (upd H l (.tup ys))) ∨ (SqT K H p ys ∧ Q (.ref p) H))
abbrev rListK : List V → Hp → VK → Prop := fun xs H Q => ∃ (a : Addr) (kvs : List (Key × V)), xs = [.ref a] ∧ Rd H a (.dK kvs) ∧ ∀ p, H p = none → Q (.ref p) (upd H p (.lst (kvs.map fun kv => kV kv.1)))
abbrev tGood (K : PySem.W.Frag) : TE := tIf (tB (tVar 7)) (tVar 6) (tIf (tTest (tOp (rEqF K) (tVar 8) (tC (.ref (He.ga K "cell_count"))))) (tCB (rLenK K) (tCons (tOp (rIxT K) (tVar 6) (tC (.int 0))) tNil)) (tCB (rTupK K) (tCons (tCB (rSortedS K) (tCons (tCB rListK (tCons (tOp (rIxT K) (tVar 6) (tC (.int 1))) tNil)) tNil)) tNil)))
abbrev tTail (K : PySem.W.Frag) (te : TE) : TS := tSeq (tAsg te (gName 11)) (tIfS (tNot (tB (tCall (spAl K fun d => FlatD d ∨ FlatT d) [] E0 (tCons (tVar 9) (tCons (tVar 11) tNil))))) (tRet (tC (.bl false))) tNext)
abbrev tTry (K : PySem.W.Frag) : TS := fun D σ H => tAskB K (wAs K (.ref (bpC K)) 10 (tAskS K) (fun _ _ _ _ => False) D) D σ H
abbrev sgl (v : V) (row : Addr) (vt : V) (text : Str) (u : V) (o5 : Option V) (vd : V) (b : Bool) (o8 o9 o10 o11 : Option V) : L2.St := [some v, some (.ref row), some vt, some (.str text), some u, o5, some vd, some (.bl b), o8, o9, o10, o11]
section
variable {v vt u vd tv : V} {row : Addr} {text : Str} {o5 o8 o9 o10 o11 : Option V} {b : Bool} {S S6 S7 H H6 H7 : Hp} {te : TE} {D : Ends} {dd d : PyData} {th : Th} {n : Option Nat} {f : Addr} {sp : Sp} {cells : List PyData} {names : List Str}
theorem law_rest (hf : FlatD dd ∨ FlatT dd) (e : Same S6 S7) (i : Same S7 H7) (p : Dp K S7 tv dd) (h : EvD K te (sgl v row vt text u o5 vd b o8 (some tv) o10 o11) S7 dd)
    (k : ∀ H' o9 o10 o11, Same S6 H' → D.nx (sgl v row vt text u o5 vd b o8 o9 o10 o11) H') : tTail K te D (sgl v row vt text u o5 vd b o8 (some tv) o10 o11) H7 := by
  refine q_asg h i fun v2 S8 H8 g8 p8 => ?_
  refine q_ifE (b := false) (Sees.refl g8.i) (et_is (et_not (et_B (ev_call (K := K) (arg := fun d : PyData => [d, d]) (pre := fun d => FlatD d ∨ FlatT d) (res := fun _ => .bool true) dd hf (ea_cons (ev_var rfl (dp_same g8.s p)) (ea_one (ev_var rfl p8)))))) rfl) (fun z => by cases z) fun _ H9 g9 => ?_
  exact k H9 _ _ _ (((e.trans g8.s).trans g8.i).trans g9.same)
theorem law_bad (B : Bd P K mg) (hS : SAsk K f sp) (hr : readV (wordsOf th) d = .bad n) (pre : preR (th, d)) (i : Same S6 H6) (pt : Dp K S6 vt (thD th)) (pu : Dp K S6 u d) (pd : Dp K S6 vd (badD n))
    (k : ∀ H' o9 o10 o11, Same S6 H' → D.nx (sgl v row vt text u o5 vd true (some (.ref f)) o9 o10 o11) H') : tSeq (tTry K) (tTail K (tGood K)) D (sgl v row vt text u o5 vd true (some (.ref f)) o9 o10 o11) H6 := by
  refine ⟨f, sp, rfl, hS, vt, rfl, u, rfl, ?_⟩
  refine ask_bad hS i (.cons pt (.cons pu .nil)) pre hr fun c dx H' e => ?_
  obtain ⟨rfl, g, dd, rfl, hx⟩ := e
  refine ⟨true, B.te, fun _ a _ => ?_, fun z => by cases z⟩
  have e7 : Same S6 (upd S6 dd (.xd [("line", optV n)])) := fun b o q => by
    by_cases hb : b = dd
    · have := g.i b o q
      rw [hb, hx] at this
      rw [hb, upd_same]
      exact this
    · rw [upd_ne hb]
      exact q
  have i7 : Same (upd S6 dd (.xd [("line", optV n)])) H' := fun b o q => by
    by_cases hb : b = dd
    · rw [hb, upd_same] at q
      rw [hb, hx]
      exact q
    · rw [upd_ne hb] at q
      exact g.i b o q
  refine s_asg (K := K) (j := 9) (ev_told (K := K) (a := a) (C := bpC K) (n := n) (j := 10) rfl upd_same) i7 fun tv S8 H8 g8 p8 => ?_
  have hfl : FlatD (badD n) ∨ FlatT (badD n) := .inr ⟨fun x hx => by
    simp only [List.mem_cons, List.not_mem_nil, or_false] at hx
    rcases hx with rfl | rfl
    · trivial
    · cases n <;> trivial, by show 2 < 10000; decide⟩
  exact law_rest hfl (e7.trans g8.s) g8.i p8 (ev_if (b := true) (et_B (K := K) (S := S8) (ev_var rfl (.bl true))) (fun _ => ev_var rfl (dp_same (e7.trans g8.s) pd)) (fun z => by cases z)) k
theorem law_good1 (fnC : IsFn K (He.ga K "cell_count")) {t p : Addr} {vc : V} {kvs : List (Key × V)} (hr : readV (wordsOf th) d = .good cells names) (pre : preR (th, d)) (i : Same S6 H6) (pt : Dp K S6 vt (thD th)) (pu : Dp K S6 u d)
    (h1 : S6 t = some (.tup [vc, .ref p])) (h2 : Dp K S6 vc (.tuple cells))
    (k : ∀ H' o9 o10 o11, Same S6 H' → D.nx (sgl v row vt text u o5 (.ref t) false (some (.ref (He.ga K "cell_count"))) o9 o10 o11) H') : tSeq (tTry K) (tTail K (tGood K)) D (sgl v row vt text u o5 (.ref t) false (some (.ref (He.ga K "cell_count"))) o9 o10 o11) H6 := by
  refine ⟨_, _, rfl, .inl ⟨rfl, rfl⟩, vt, rfl, u, rfl, ?_⟩
  refine ask_count i (.cons pt (.cons pu .nil)) pre hr fun S7 H7 g7 => ?_
  refine law_rest (dd := .int (cells.length : Nat)) (.inl trivial) g7.s g7.i (.int _) (ev_if (b := false) (et_B (K := K) (S := S7) (ev_var rfl (.bl false))) (fun z => by cases z) fun _ => ev_if (b := true) (et_is (et_fn rfl fnC fnC) (by simp)) (fun _ => ev_cb rc_lenT (ea_one (ev_ixP (k := 0) rfl (g7.s _ _ h1) rfl (dp_same g7.s h2)))) (fun z => by cases z)) k
theorem law_good2 (fnC : IsFn K (He.ga K "cell_count")) (fnM : IsFn K (He.ga K "method_names")) (hne : He.ga K "method_names" ≠ He.ga K "cell_count") {t p : Addr} {vc : V} {kvs : List (Key × V)} (hr : readV (wordsOf th) d = .good cells names) (pre : preR (th, d)) (i : Same S6 H6) (pt : Dp K S6 vt (thD th)) (pu : Dp K S6 u d)
    (h1 : S6 t = some (.tup [vc, .ref p])) (h3 : S6 p = some (.dK kvs)) (hk : kvs.map (·.1) = names.map Sum.inr)
    (k : ∀ H' o9 o10 o11, Same S6 H' → D.nx (sgl v row vt text u o5 (.ref t) false (some (.ref (He.ga K "method_names"))) o9 o10 o11) H') : tSeq (tTry K) (tTail K (tGood K)) D (sgl v row vt text u o5 (.ref t) false (some (.ref (He.ga K "method_names"))) o9 o10 o11) H6 := by
  have few := names_few hr
  refine ⟨_, _, rfl, .inr ⟨rfl, rfl⟩, vt, rfl, u, rfl, ?_⟩
  refine ask_names i (.cons pt (.cons pu .nil)) pre hr fun ys tv S7 H7 g7 hp hs pv => ?_
  have hfl : FlatT (.tuple (ys.map .str)) := ⟨fun x hx => by
    obtain ⟨y, _, rfl⟩ := List.mem_map.mp hx
    trivial, by rw [List.length_map, hp.length_eq]; omega⟩
  refine law_rest (.inr hfl) g7.s g7.i pv (ev_if (b := false) (et_B (K := K) (S := S7) (ev_var rfl (.bl false))) (fun z => by cases z) fun _ => ev_if (b := false) (et_is (et_fn rfl fnM fnC) (by simp [hne])) (fun z => by cases z) (fun _ => ev_dueNames rfl (g7.s _ _ h1) (g7.s _ _ h3) hk (by omega) hp hs)) k
end
def VL (n : Nat) (ds : List PyData) : Prop := (∀ d ∈ ds, VOk d) ∧ ds.length ≤ n
theorem sc_law : FnScope ["_law_script", "_law_row", "_law_thing", "_law_text", "_law_value", "_law_turn", "_law_due", "_law_is_bad", "_law_ask", "_law_told", "e", "_law_good"] ["_law_script"] (defScope Zh.s_law) := ⟨rfl, rfl, rfl, by decide +kernel, rfl, by decide +kernel, by decide +kernel⟩
theorem fnok_mkS {x : Str} {st : Stmt} {N ps : List Str} {k : Nat} {sp : Sp} {fd : FuncData}
    (F : FunD K x x (defArgs st) (defBody st) (defScope st) [] [] (He.ga K x) fd) (sc : FnScope N ps (defScope st)) (hl : ∀ vs H Q E, sp vs H Q E → vs.length = ps.length)
    (hb : ∀ (cdv : Value) (A : Around) (outer : List Env) (s : Shared) (H : Hp) (E : XK), Room k (A.deeper (envOfC x (defScope st) s.heap.objs.size (He.ga K x) cdv)) →
      ∃ t, PSs (cxOf CX0 P w K mg base N x (defScope st) (He.ga K x) cdv A outer s H E).nox (defBody st) t ∧ ∀ vs H Q, sp vs H Q E → t { nx := fun _ H' => Q .non H', rt := Q } (start N vs) H) :
    FnOk P w K mg base CX0 (k + 1) (He.ga K x) fd ps sp :=
  F.ok sc hl fun cdv A outer s H vs Q E hr h => by
    obtain ⟨t, h1, h2⟩ := hb cdv A outer s H E hr
    exact ⟨t, h1.nox, h2 vs H Q h⟩
theorem ok_law {fd : FuncData} (M : Mo K mg) (B : Bd P K mg) (D : FunD K "law" "law" (defArgs Zh.s_law) (defBody Zh.s_law) (defScope Zh.s_law) [] [] (He.ga K "law") fd) (fnC : IsFn K (He.ga K "cell_count")) (fnM : IsFn K (He.ga K "method_names")) (hne : He.ga K "method_names" ≠ He.ga K "cell_count")
    (f_L_taken : Fn CX0 P w K mg base "_law_taken" 1 ["_law_row", "_law_many"] (spTaken K)) (f_L_pick : Fn CX0 P w K mg base "_law_pick" 2 ["_law_row", "_law_things"] (spPick K))
    (f_L_object : Fn CX0 P w K mg base "_law_object" 2 ["_law_row"] (spObj K)) (f_L_write_program : Fn CX0 P w K mg base "_law_write_program" 3 ["_law_row", "_law_thing"] (spWrite K)) (f_L_bent : Fn CX0 P w K mg base "_law_bent" 3 ["_law_row", "_law_text"] (spBent K))
    (f_L_program : Fn CX0 P w K mg base "_law_program" 4 ["_law_thing", "_law_text"] (spLProg K)) (f_is_program : Fn CX0 P w K mg base "is_program" 8 ["thing", "value"] (spF K argR preR fun i => .bool (isGood (readV (wordsOf i.1) i.2))))
    (f_L_alike : Fn CX0 P w K mg base "_law_alike" 3 ["_law_found", "_law_due"] (spAl K fun d => FlatD d ∨ FlatT d))
    (f_cell_count : Fn (L2.CX P w) P w K mg base "cell_count" 8 ["thing", "text"] (spCount K)) (f_method_names : Fn (L2.CX P w) P w K mg base "method_names" 8 ["thing", "text"] (spNames K)) : FnOk P w K mg base CX0 9 (He.ga K "law") fd ["_law_script"] (spLaw K) :=
  fnok_mkS D sc_law (fun vs H Q E h => by obtain ⟨_, _, _, _, rfl, _⟩ := h; rfl) fun cdv A outer s0 H E hr => ⟨_, (pss_cons (ps_set (i := 1) sc_law.nd rfl (Or.inr rfl) (pe_lst (pa_cons (pv 0) (pa_cons pe_int (pa_cons pe_int (pa_cons pe_int pa_nil))))))
    (pss_cons (ps_set (i := 2) sc_law.nd rfl (Or.inl rfl) (pe_fn f_L_object (hr.mono (by decide)) rfl (pa_cons (pv 1) pa_nil)))
    (pss_cons (ps_set (i := 3) sc_law.nd rfl (Or.inr rfl) (pe_fn f_L_write_program (hr.mono (by decide)) rfl (pa_cons (pv 1) (pa_cons (pv 2) pa_nil))))
    (pss_cons (ps_for PassesOwn.never rfl (pi_list (pe_op op_cat (pe_op op_cat (pe_lst (pa_cons (pv 3) pa_nil)) (pe_lc (own := [("_law_turn", 5)]) (g := gName 5) rfl sc_law.nd (pi_range1 rfl M.range (pa_cons pe_int pa_nil)) (blkOk_by (own := [("_law_turn", 5)]) (N := ["_law_script", "_law_row", "_law_thing", "_law_text", "_law_value", "_law_turn", "_law_due", "_law_is_bad", "_law_ask", "_law_told", "e", "_law_good"]) (sc := defScope Zh.s_law) (by decide +kernel)) (fun _ _ _ _ _ => (pg_name (i := 5) sc_law.nd rfl (Or.inl rfl))) (fun _ _ _ _ _ => pts_nil) (fun _ _ _ _ _ => (pe_fn f_L_bent (hr.mono (by decide)) rfl (pa_cons (pv 1) (pa_cons (pv 3) pa_nil)))))) (pe_lst (pa_cons (pe_fn f_L_pick (hr.mono (by decide)) rfl (pa_cons (pv 1) (pa_cons (pe_lst (pa_cons pe_non (pa_cons pe_int (pa_cons pe_str (pa_cons pe_str (pa_cons (pe_lst (pa_cons pe_str pa_nil)) pa_nil)))))) pa_nil))) pa_nil)))) (pg_name (i := 4) sc_law.nd rfl (Or.inl rfl)) (pss_cons (ps_set (i := 6) sc_law.nd rfl (Or.inl rfl) (pe_fn f_L_program (hr.mono (by decide)) rfl (pa_cons (pv 2) (pa_cons (pv 4) pa_nil))))
    (pss_cons (ps_set (i := 7) sc_law.nd rfl (Or.inl rfl) (pe_cmpR (op_eqD hr.units) (pe_ix (r := rIxT K) ix_tup (pv 6) pe_int (fun _ _ => rfl)) pe_str (nomark _)))
    (pss_cons (ps_if (pt_not (pt_val (pe_fn f_L_alike (hr.mono (by decide)) rfl (pa_cons (pe_fn f_is_program (hr.mono (by decide)) rfl (pa_cons (pv 2) (pa_cons (pv 4) pa_nil))) (pa_cons (pe_not (pv 7)) pa_nil))))) (pss_one (ps_ret pe_bl)) pss_nil)
    (pss_one (ps_for PassesOwn.never rfl (pi_list (pe_lst (pa_cons (pe_glob (v := .ref (He.ga K "cell_count")) rfl f_cell_count.gl rfl) (pa_cons (pe_glob (v := .ref (He.ga K "method_names")) rfl f_method_names.gl rfl) pa_nil)))) (pg_name (i := 8) sc_law.nd rfl (Or.inl rfl)) (pss_cons (ps_try_as (i := 10) (tb := tAskB K) (ts := tAskS K) (Wout := fun _ _ _ _ => False) rfl rfl sc_law.nd rfl rfl ⟨rfl, by decide, Or.inl B.gC⟩ takes0 (fun W pn xe tk _ => pss_one (ps_set (i := 9) sc_law.nd rfl (Or.inl rfl) (by exact (pe_callSA (k := 8) (i := 8) (S := SAsk K) (hAsk f_cell_count f_method_names) (hr.mono (by decide)) rfl (Or.inl rfl) (fun σ => passAt tk σ) (pa_cons (pv 2) (pa_cons (pv 4) pa_nil)))))) (fun a oe cls d pn hz hf => pss_one (ps_set (i := 9) sc_law.nd rfl (Or.inl rfl) (by exact (pe_tup (pa_cons pe_str (pa_cons (pe_ifExp (pt_cmpR op_isN (pe_xf B.xf B.T.noN hz hf (pv 10)) pe_non (nomark _)) pe_str (pe_xf B.xf B.T.noN hz hf (pv 10))) pa_nil)))))))
    (pss_cons (ps_set (i := 11) sc_law.nd rfl (Or.inl rfl) (pe_ifExp (pt_val (pv 7)) (pv 6) (pe_ifExp (pt_cmpR (op_eqF (Nat.lt_of_succ_lt (hu_of hr))) (pv 8) (pe_glob (v := .ref (He.ga K "cell_count")) rfl f_cell_count.gl rfl) (nomark _)) (pe_callB (id := "len") call_len (by rfl) M.len (by decide +kernel) (pa_cons (pe_ix (r := rIxT K) ix_tup (pv 6) pe_int (fun _ _ => rfl)) pa_nil)) (pe_callTy call_tuple_of (by rfl) M.tuple (by decide +kernel) (pa_cons (pe_callB (id := "sorted") cr_sortedS (by rfl) M.sorted (by decide +kernel) (pa_cons (pe_callTy (call_listD rfl) (by rfl) M.list (by decide +kernel) (pa_cons (pe_ix (r := rIxT K) ix_tup (pv 6) pe_int (fun _ _ => rfl)) pa_nil)) pa_nil)) pa_nil)))))
    (pss_one (ps_if (pt_not (pt_val (pe_fn f_L_alike (hr.mono (by decide)) rfl (pa_cons (pv 9) (pa_cons (pv 11) pa_nil))))) (pss_one (ps_ret pe_bl)) pss_nil))))))))))
    (pss_one (ps_ret pe_bl)))))), fun vs H Q h => by
    obtain ⟨S, v, ns, hi, rfl, pv, q⟩ := h
    refine ⟨v, rfl, lz 4 rfl, fun row hrow => ?_⟩
    have g0 : G0 S H S (upd H row (.lst [v, .int 0, .int 16008, .int 0])) := Go.newM hi hrow
    have w : Rw K S (upd H row (.lst [v, .int 0, .int 16008, .int 0])) row := ⟨ns, 0, 16008, 0, ⟨hi.free hrow, ⟨v, upd_same, pv⟩, by decide, by decide⟩⟩
    refine ⟨.ref row, rfl, S, row, g0.i, rfl, w, fun th vt S2 H2 ok g2 w2 pt => ?_⟩
    refine ⟨.ref row, rfl, vt, rfl, S2, row, vt, th, g2.i, rfl, w2, ok, pt, fun text S3 H3 ht g3 w3 => ?_⟩
    have ev1 : EvMR K row (tLst (tCons (tVar 3) tNil)) [some v, some (.ref row), some vt, some (.str text), none, none, none, none, none, none, none, none] S3 (VL 1) := emr_lst (ema_one (em_d (P := VOk) (ev_var rfl (.str text)) (.str (by show text.length < 90000; omega)))) fun ds p => by
      obtain ⟨d, rfl, h⟩ := p
      exact ⟨lz 1 rfl, fun x hx => by rw [List.mem_singleton.mp hx]; exact h, Nat.le_refl _⟩
    have ev2 : EvMR K row (tLc (iRng1 (tCons (tC (.int 6)) tNil)) (gName 5) tYes (tCall (spBent K) [] E0 (tCons (tVar 1) (tCons (tVar 3) tNil))) [5]) [some v, some (.ref row), some vt, some (.str text), none, none, none, none, none, none, none, none] S3 (VL 6) :=
      emr_range (N := (· = 6)) (P := VOk) (im_1 (ema_cons (em_d (P := (· = .int 6)) (ev_c (.int 6)) rfl) ema_nil fun d ds p e => ⟨6, by rw [e, p]; rfl, rfl⟩) fun n h => by omega) (fun n h => by omega) (fun _ => rfl) (fun i n hn hi => fun S4 H4 e i4 w4 Q q => ⟨.ref row, rfl, .str text, rfl, S4, row, text, i4, rfl, w4, ht, fun y S5 H5 hy g5 w5 => q (.str y) _ S5 H5 (.str (by show y.length < 90000; omega)) g5 w5 (.str y)⟩) fun n ds hn hl hp => ⟨hp, by omega⟩
    have ev3 : EvMR K row (tLst (tCons (tCall (spPick K) [] E0 (tCons (tVar 1) (tCons (tLst (tCons (tC .non) (tCons (tC (.int 3)) (tCons (tC (.str "")) (tCons (tC (.str "cells 0")) (tCons (tLst (tCons (tC (.str "cells 0")) tNil)) tNil)))))) tNil))) tNil)) [some v, some (.ref row), some vt, some (.str text), none, none, none, none, none, none, none, none] S3 (VL 1) :=
      emr_lst (ema_one (em_pick (P := fun d => d = .list [.none, .int 3, .str "", .str "cells 0", .list [.str "cells 0"]]) (R := VOk) rfl (em_d (ev_lst (ea_cons (ev_c .non) (ea_cons (ev_c (.int 3)) (ea_cons (ev_c (.str _)) (ea_cons (ev_c (.str _)) (ea_one (ev_lst (ea_one (ev_c (.str _))) (lz 1 rfl))))))) (lz 5 rfl)) rfl) fun d p => ⟨_, p, by decide, fun x hx => by
        simp only [List.mem_cons, List.not_mem_nil, or_false] at hx
        rcases hx with rfl | rfl | rfl | rfl | rfl
        · exact .non
        · exact .int 3
        · exact .str (by decide)
        · exact .str (by decide)
        · exact .lst _⟩)) fun ds p => by
          obtain ⟨d, rfl, h⟩ := p
          exact ⟨lz 1 rfl, fun x hx => by rw [List.mem_singleton.mp hx]; exact h, Nat.le_refl _⟩
    have ev : EvMR K row _ _ S3 (fun ds => ∀ d ∈ ds, VOk d) := emr_cat (emr_cat (TL := VL 7) ev1 ev2 fun ds es p r => ⟨by rw [sizeLine_eq]; have := p.2; have := r.2; omega, fun x hx => (List.mem_append.mp hx).elim (p.1 x) (r.1 x), by have := p.2; have := r.2; rw [List.length_append]; omega⟩) ev3 fun ds es p r => ⟨by rw [sizeLine_eq]; have := p.2; have := r.2; omega, fun x hx => (List.mem_append.mp hx).elim (p.1 x) (r.1 x)⟩
    refine ev S3 H3 (Same.refl _) g3.i w3 _ fun ds vl S4 H4 hds g4 _ rl => ?_
    have pt4 : Dp K S4 vt (thD th) := dp_same (g3.s.trans g4.s) pt
    refine forL_at rl.d (fun n σ' H' => ∃ o4 o5 o6 o7 o8 o9 o10 o11, σ' = [some v, some (.ref row), some vt, some (.str text), o4, o5, o6, o7, o8, o9, o10, o11] ∧ Same S4 H') g4.i ⟨_, _, _, _, _, _, _, _, rfl, g4.i⟩ (fun n σ' H' _ ⟨_, _, _, _, _, _, _, _, _, i⟩ => i) ?_ ?_
    · rintro n d u σ' H' hd pu ⟨o4, o5, o6, o7, o8, o9, o10, o11, rfl, i4⟩
      have hv : VOk d := hds d (List.mem_of_getElem? hd)
      refine ⟨vt, rfl, u, rfl, (th, d), S4, i4, .cons pt4 (.cons pu .nil), ⟨ok, hv⟩, fun vd S5 H5 g5 post => ?_, fun _ _ _ z => z.elim⟩
      have post : Due K S5 vd (readV (wordsOf th) d) := post
      have pre : preR (th, d) := ⟨ok, hv⟩
      have pt5 := dp_same g5.s pt4
      have pu5 := dp_same g5.s pu
      obtain ⟨b, hg, he, step⟩ : ∃ b : Bool, isGood (readV (wordsOf th) d) = !b ∧ (∀ {σ : L2.St} {S' : Hp}, Same S5 S' → σ[6]? = some (some vd) → EvD K (tOp (rEqD K) (tOp (rIxT K) (tVar 6) (tC (.int 0))) (tC (.str "bad"))) σ S' (.bool b)) ∧
          (∀ {f : Addr} {o9 o10 o11 : Option V} {S6 H6 : Hp} {D : Ends}, f = He.ga K "cell_count" ∨ f = He.ga K "method_names" → Same S5 S6 → Same S6 H6 → (∀ H' o9 o10 o11, Same S6 H' → D.nx (sgl v row vt text u o5 vd b (some (.ref f)) o9 o10 o11) H') → tSeq (tTry K) (tTail K (tGood K)) D (sgl v row vt text u o5 vd b (some (.ref f)) o9 o10 o11) H6) := by
        cases hr : readV (wordsOf th) d with
        | bad n =>
          rw [hr] at post
          refine ⟨true, rfl, (fun {σ S'} e h => ev_is (ev_op (rv_eqD (x := .str "bad") (y := .str "bad") (by decide +kernel) (by decide +kernel)) (ev_op (rv_ixT (ds := [.str "bad", badTail n]) (i := 0) rfl) (ev_var h (dp_same e post)) (ev_c (.int 0))) (ev_c (.str _))) (by simp [PyData.eqv])), fun {f o9 o10 o11 S6 H6 D} hf e i k => ?_⟩
          rcases hf with rfl | rfl
          · exact law_bad B (.inl ⟨rfl, rfl⟩) hr pre i (dp_same e pt5) (dp_same e pu5) (dp_same e post) k
          · exact law_bad B (.inr ⟨rfl, rfl⟩) hr pre i (dp_same e pt5) (dp_same e pu5) (dp_same e post) k
        | good cells names =>
          rw [hr] at post
          obtain ⟨t, vc, p, kvs, rfl, h1, h2, h3, hk⟩ := post
          refine ⟨false, rfl, (fun {σ S'} e h => ev_is (ev_op (rv_eqD (x := .tuple cells) (y := .str "bad") (cells_shaped hr) (by decide +kernel)) (ev_ixP (k := 0) h (e _ _ h1) rfl (dp_same e h2)) (ev_c (.str _))) rfl) , fun {f o9 o10 o11 S6 H6 D} hf e i k => ?_⟩
          rcases hf with rfl | rfl
          · exact law_good1 fnC (kvs := kvs) hr pre i (dp_same e pt5) (dp_same e pu5) (e _ _ h1) (dp_same e h2) k
          · exact law_good2 fnC fnM hne hr pre i (dp_same e pt5) (dp_same e pu5) (e _ _ h1) (e _ _ h3) hk k
      refine q_asg (he (Same.refl S5) rfl) g5.i fun vb S6 H6 g6 pb => ?_
      obtain rfl := dp_bool pb
      refine q_if (b := false) (Sees.refl g6.i) (et_is (et_not (et_B (ev_call (K := K) (arg := fun d : PyData => [d, d]) (pre := fun d => FlatD d ∨ FlatT d) (res := fun _ => .bool true) (.bool (!b)) (.inl trivial) (ea_cons (ev_is (ev_call (arg := argR) (pre := preR) (res := fun i => .bool (isGood (readV (wordsOf i.1) i.2))) (th, d) pre (ea_cons (ev_var rfl (dp_same g6.s pt5)) (ea_one (ev_var rfl (dp_same g6.s pu5))))) (by rw [show isGood (readV (wordsOf (th, d).1) (th, d).2) = !b from hg])) (ea_one (ev_not (ev_var rfl (.bl b)))))))) rfl) (fun z => by cases z) fun _ H7 g7 => ?_
      refine ⟨lz 2 rfl, fun pl hpl => ⟨pl, rfl, ⟨_, SqL.of upd_same⟩, ?_⟩⟩
      have g8 := g7.trans (Go.new (o := .lst [.ref (He.ga K "cell_count"), .ref (He.ga K "method_names")]) g7.i hpl)
      have e8 : Same S5 (upd S6 pl (.lst [.ref (He.ga K "cell_count"), .ref (He.ga K "method_names")])) := g6.s.trans g8.s
      refine for_list (K := K) (a := pl) (xs := [.ref (He.ga K "cell_count"), .ref (He.ga K "method_names")]) (fun k σ' H' => ∃ o8 o9 o10 o11, σ' = sgl v row vt text u o5 vd b o8 o9 o10 o11 ∧ Same (upd S6 pl (.lst [.ref (He.ga K "cell_count"), .ref (He.ga K "method_names")])) H') ⟨_, _, _, _, rfl, g8.i⟩ (fun k σ' H' _ ⟨_, _, _, _, _, i⟩ => SqL.of (i _ _ upd_same)) ?_ ?_
      · rintro k x σ' H' hx ⟨o8, o9, o10, o11, rfl, i9⟩
        obtain ⟨f, rfl, hf⟩ : ∃ f, x = .ref f ∧ (f = He.ga K "cell_count" ∨ f = He.ga K "method_names") := by
          match k, hx with
          | 0, hx => exact ⟨_, (Option.some.inj hx).symm, .inl rfl⟩
          | 1, hx => exact ⟨_, (Option.some.inj hx).symm, .inr rfl⟩
        exact step (o9 := o9) (o10 := o10) (o11 := o11) hf e8 i9 fun H9 p9 p10 p11 i10 => ⟨_, _, _, _, rfl, i10⟩
      · rintro σ' H' ⟨o8, o9, o10, o11, rfl, i9⟩
        exact ⟨_, _, _, _, _, _, _, _, rfl, ((g5.s.trans e8).trans i9)⟩
    · rintro σ' H' ⟨_, _, _, _, _, _, _, _, rfl, i⟩
      exact q H'⟩
end
end Zb
set_option Elab.async false
set_option linter.all false
set_option maxRecDepth 100000
set_option maxHeartbeats 0
/-! The head: what the top leaves, by names. -/
namespace Zh
open PySem PySem.Spec PyProof.Rows L2
def d_is_small : He.DefD := ⟨("is_small", none), "is_small", "is_small", defArgs s_is_small, defBody s_is_small, defScope s_is_small, [], []⟩
def d_is_table : He.DefD := ⟨("is_table", none), "is_table", "is_table", defArgs s_is_table, defBody s_is_table, defScope s_is_table, [], []⟩
def d_is_bank : He.DefD := ⟨("is_bank", none), "is_bank", "is_bank", defArgs s_is_bank, defBody s_is_bank, defScope s_is_bank, [], []⟩
def d_is_kind : He.DefD := ⟨("is_kind", none), "is_kind", "is_kind", defArgs s_is_kind, defBody s_is_kind, defScope s_is_kind, [], []⟩
def d_calls_in : He.DefD := ⟨("calls_in", none), "calls_in", "calls_in", defArgs s_calls_in, defBody s_calls_in, defScope s_calls_in, [], []⟩
def d_bank_calls : He.DefD := ⟨("bank_calls", none), "bank_calls", "bank_calls", defArgs s_bank_calls, defBody s_bank_calls, defScope s_bank_calls, [], []⟩
def d_need_object : He.DefD := ⟨("need_object", none), "need_object", "need_object", defArgs s_need_object, defBody s_need_object, defScope s_need_object, [], []⟩
def d_is_register : He.DefD := ⟨("is_register", none), "is_register", "is_register", defArgs s_is_register, defBody s_is_register, defScope s_is_register, [], []⟩
def d_is_name : He.DefD := ⟨("is_name", none), "is_name", "is_name", defArgs s_is_name, defBody s_is_name, defScope s_is_name, [], []⟩
def d_atom_of : He.DefD := ⟨("atom_of", none), "atom_of", "atom_of", defArgs s_atom_of, defBody s_atom_of, defScope s_atom_of, [], []⟩
def d_worth_of : He.DefD := ⟨("worth_of", none), "worth_of", "worth_of", defArgs s_worth_of, defBody s_worth_of, defScope s_worth_of, [], []⟩
def d_read_row : He.DefD := ⟨("read_row", none), "read_row", "read_row", defArgs s_read_row, defBody s_read_row, defScope s_read_row, [], []⟩
def d_go_row : He.DefD := ⟨("go_row", none), "go_row", "go_row", defArgs s_go_row, defBody s_go_row, defScope s_go_row, [], []⟩
def d_row_of : He.DefD := ⟨("row_of", none), "row_of", "row_of", defArgs s_row_of, defBody s_row_of, defScope s_row_of, [], []⟩
def d_cells_of : He.DefD := ⟨("cells_of", none), "cells_of", "cells_of", defArgs s_cells_of, defBody s_cells_of, defScope s_cells_of, [], []⟩
def d_targets : He.DefD := ⟨("targets", none), "targets", "targets", defArgs s_targets, defBody s_targets, defScope s_targets, [], []⟩
def d_wrong_label : He.DefD := ⟨("wrong_label", none), "wrong_label", "wrong_label", defArgs s_wrong_label, defBody s_wrong_label, defScope s_wrong_label, [], []⟩
def d_runs_on : He.DefD := ⟨("runs_on", none), "runs_on", "runs_on", defArgs s_runs_on, defBody s_runs_on, defScope s_runs_on, [], []⟩
def d_wrong_row : He.DefD := ⟨("wrong_row", none), "wrong_row", "wrong_row", defArgs s_wrong_row, defBody s_wrong_row, defScope s_wrong_row, [], []⟩
def d_methods_of : He.DefD := ⟨("methods_of", none), "methods_of", "methods_of", defArgs s_methods_of, defBody s_methods_of, defScope s_methods_of, [], []⟩
def d_read_program : He.DefD := ⟨("read_program", none), "read_program", "read_program", defArgs s_read_program, defBody s_read_program, defScope s_read_program, [], []⟩
def d_is_program : He.DefD := ⟨("is_program", none), "is_program", "is_program", defArgs s_is_program, defBody s_is_program, defScope s_is_program, [], []⟩
def d_cell_count : He.DefD := ⟨("cell_count", none), "cell_count", "cell_count", defArgs s_cell_count, defBody s_cell_count, defScope s_cell_count, [], []⟩
def d_method_names : He.DefD := ⟨("method_names", none), "method_names", "method_names", defArgs s_method_names, defBody s_method_names, defScope s_method_names, [], []⟩
def d_L_taken : He.DefD := ⟨("_law_taken", none), "_law_taken", "_law_taken", defArgs s_L_taken, defBody s_L_taken, defScope s_L_taken, [], []⟩
def d_L_pick : He.DefD := ⟨("_law_pick", none), "_law_pick", "_law_pick", defArgs s_L_pick, defBody s_L_pick, defScope s_L_pick, [], []⟩
def d_L_alike : He.DefD := ⟨("_law_alike", none), "_law_alike", "_law_alike", defArgs s_L_alike, defBody s_L_alike, defScope s_L_alike, [], []⟩
def d_L_object : He.DefD := ⟨("_law_object", none), "_law_object", "_law_object", defArgs s_L_object, defBody s_L_object, defScope s_L_object, [], []⟩
def d_L_calls : He.DefD := ⟨("_law_calls", none), "_law_calls", "_law_calls", defArgs s_L_calls, defBody s_L_calls, defScope s_L_calls, [], []⟩
def d_L_atom : He.DefD := ⟨("_law_atom", none), "_law_atom", "_law_atom", defArgs s_L_atom, defBody s_L_atom, defScope s_L_atom, [], []⟩
def d_L_is_name : He.DefD := ⟨("_law_is_name", none), "_law_is_name", "_law_is_name", defArgs s_L_is_name, defBody s_L_is_name, defScope s_L_is_name, [], []⟩
def d_L_is_line : He.DefD := ⟨("_law_is_line", none), "_law_is_line", "_law_is_line", defArgs s_L_is_line, defBody s_L_is_line, defScope s_L_is_line, [], []⟩
def d_L_next : He.DefD := ⟨("_law_next", none), "_law_next", "_law_next", defArgs s_L_next, defBody s_L_next, defScope s_L_next, [], []⟩
def d_L_is_shared : He.DefD := ⟨("_law_is_shared", none), "_law_is_shared", "_law_is_shared", defArgs s_L_is_shared, defBody s_L_is_shared, defScope s_L_is_shared, [], []⟩
def d_L_runs_on : He.DefD := ⟨("_law_runs_on", none), "_law_runs_on", "_law_runs_on", defArgs s_L_runs_on, defBody s_L_runs_on, defScope s_L_runs_on, [], []⟩
def d_L_wrong_method : He.DefD := ⟨("_law_wrong_method", none), "_law_wrong_method", "_law_wrong_method", defArgs s_L_wrong_method, defBody s_L_wrong_method, defScope s_L_wrong_method, [], []⟩
def d_L_program : He.DefD := ⟨("_law_program", none), "_law_program", "_law_program", defArgs s_L_program, defBody s_L_program, defScope s_L_program, [], []⟩
def d_L_write_program : He.DefD := ⟨("_law_write_program", none), "_law_write_program", "_law_write_program", defArgs s_L_write_program, defBody s_L_write_program, defScope s_L_write_program, [], []⟩
def d_L_bent : He.DefD := ⟨("_law_bent", none), "_law_bent", "_law_bent", defArgs s_L_bent, defBody s_L_bent, defScope s_L_bent, [], []⟩
def d_law : He.DefD := ⟨("law", none), "law", "law", defArgs s_law, defBody s_law, defScope s_law, [], []⟩
def fn : List He.DefD := [d_is_small, d_is_table, d_is_bank, d_is_kind, d_calls_in, d_bank_calls, d_need_object, d_is_register, d_is_name, d_atom_of, d_worth_of, d_read_row, d_go_row, d_row_of, d_cells_of, d_targets, d_wrong_label, d_runs_on, d_wrong_row, d_methods_of, d_read_program, d_is_program, d_cell_count, d_method_names, d_L_taken, d_L_pick, d_L_alike, d_L_object, d_L_calls, d_L_atom, d_L_is_name, d_L_is_line, d_L_next, d_L_is_shared, d_L_runs_on, d_L_wrong_method, d_L_program, d_L_write_program, d_L_bent, d_law]
def fa : List He.Fa := [.glo "is_small", .glo "is_table", .glo "is_bank", .glo "is_kind", .glo "calls_in", .glo "bank_calls", .glo "need_object", .glo "is_register", .glo "is_name", .glo "atom_of", .glo "worth_of", .glo "read_row", .glo "go_row", .glo "row_of", .glo "cells_of", .glo "targets", .glo "wrong_label", .glo "runs_on", .glo "wrong_row", .glo "methods_of", .glo "read_program", .glo "is_program", .glo "cell_count", .glo "method_names", .glo "_law_taken", .glo "_law_pick", .glo "_law_alike", .glo "_law_object", .glo "_law_calls", .glo "_law_atom", .glo "_law_is_name", .glo "_law_is_line", .glo "_law_next", .glo "_law_is_shared", .glo "_law_runs_on", .glo "_law_wrong_method", .glo "_law_program", .glo "_law_write_program", .glo "_law_bent", .glo "law", .free "len", .free "isinstance", .free "range", .free "all", .free "int", .free "str", .free "bool", .free "tuple", .free "list", .free "sorted", .free "set", .free "super", .free "ValueError", .int "MOST_VALUES" 5, .int "MOST_ROOM" 3, .int "MOST_CELLS" 6, .int "MOST_LINES" 60, .str "LETTERS" "abcdefghijklmnopqrstuvwxyz", .glo "SHARED", .glo "BadProgram", .keep "BadProgram"]
def loose1 : List PySem.Str := ["is_small", "is_table", "is_bank", "is_kind", "calls_in", "bank_calls", "need_object", "is_register", "is_name", "atom_of", "worth_of", "read_row", "go_row", "row_of", "cells_of", "targets", "wrong_label", "runs_on", "wrong_row", "methods_of", "read_program", "is_program", "cell_count", "method_names", "_law_taken", "_law_pick", "_law_alike"]
def loose2 : List PySem.Str := ["_law_object", "_law_calls", "_law_atom", "_law_is_name", "_law_is_line", "_law_next", "_law_is_shared", "_law_runs_on", "_law_wrong_method", "_law_program", "_law_write_program", "_law_bent", "SharedError", "BadObject", "BadProgram", "MOST_VALUES", "MOST_ROOM", "LETTERS", "MOST_CELLS", "MOST_LINES", "SHARED", "_law_first", "_law_do", "_law_states", "_law_small", "_law_worth"]
def loose : List PySem.Str := loose1 ++ loose2
/-- the __init__ at f of the class at C: its closure's cell, its code's file -/
def initB (K : PySem.W.Frag) (C f : Addr) : Bool := match K.lookup f with
  | some ⟨_, _, .func fd, _⟩ => (match fd.defaults with
    | .none => true
    | _ => false) && ((match fd.closure with
    | [(_, cc)] => (match K.lookup cc with
      | some ⟨_, _, .cell (some (.ref a)), _⟩ => decide (a = C)
      | _ => false)
    | _ => false) && (match fd.code with
    | .ref cda => PySem.W.codeIn K (.ref cda) "BadProgram.__init__" && (match K.lookup cda with
      | some ⟨_, _, .fields vs, _⟩ => (match (show Option Value from vs[2]?) with
        | some (.str x _) => decide (x = PySem.BadX.theFile)
        | _ => false)
      | _ => false)
    | _ => false))
  | _ => false
abbrev FnN : Type := Option (Str × Str × Arguments × FuncBody × Scope × Addr × List Str × Addr)
def fnN (K : PySem.W.Frag) (f : Addr) : FnN := match K.lookup f with
  | some ⟨_, _, .func fd, _⟩ => some (fd.name, fd.qualname, fd.params, fd.body, fd.scope, fd.globals, fd.closure.map (·.1), fd.builtins)
  | _ => none
def initV : FnN := some ("__init__", "BadProgram.__init__", defArgs s_init, .stmts (defBody s_init), defScope s_init, mainGlobals, ["__class__"], builtinsNs)
theorem init_ok {K : PySem.W.Frag} {C f : Addr} (e : fnN K f = initV) (c : initB K C f = true) : ∃ (oc kV doc pm ct : Value) (od an : Option Addr) (osl : Array (Option Value)) (cc cda : Addr), K.lookup f = some ⟨oc, od, .func (PySem.W.ksFn "__init__" "BadProgram.__init__" (L2.defArgs Zh.s_init) (L2.defBody Zh.s_init) (L2.defScope Zh.s_init) .none kV doc pm an (.ref cda) ct cc), osl⟩ ∧ PySem.W.codeIn K (.ref cda) "BadProgram.__init__" = true ∧
    (∃ c1 d1 s1, K.lookup cc = some ⟨c1, d1, .cell (some (.ref C)), s1⟩) ∧ ∃ c2 d2 vs s2 tf, K.lookup cda = some ⟨c2, d2, .fields vs, s2⟩ ∧ vs[2]? = some (.str PySem.BadX.theFile tf) := by
  unfold fnN at e
  unfold initB at c
  cases ho : K.lookup f with
  | none => rw [ho] at c; cases c
  | some o =>
    obtain ⟨oc, od, dat, osl⟩ := o
    rw [ho] at c e
    cases dat with
    | func fd =>
      obtain ⟨n, q, ps, bd, sc, gl, cl, df, kd, doc, pm, an, cd, ct, bl⟩ := fd
      dsimp only at c e
      obtain ⟨c1, c23⟩ := He.ba c
      obtain ⟨c2, c3⟩ := He.ba c23
      clear c23 c
      unfold initV at e
      have e := Option.some.inj e
      simp only [Prod.mk.injEq] at e
      obtain ⟨rfl, rfl, rfl, rfl, rfl, rfl, ecl, rfl⟩ := e
      cases df <;> first | (cases c1; done) | skip
      cases cl with
      | nil => cases c2
      | cons q r =>
        obtain ⟨nm, cc⟩ := q
        cases r with
        | cons _ _ => cases c2
        | nil =>
          have en : nm = ("__class__" : Str) := by
            have := List.cons.inj ecl
            exact this.1
          subst en
          dsimp only at c2
          cases cd <;> first | (cases c3; done) | skip
          rename_i cda
          obtain ⟨c4, c5⟩ := He.ba c3
          refine ⟨oc, kd, doc, pm, ct, od, an, osl, cc, cda, rfl, c4, ?_, ?_⟩
          · cases hc : K.lookup cc with
            | none => rw [hc] at c2; cases c2
            | some o2 =>
              obtain ⟨k1, k2, dat2, k3⟩ := o2
              rw [hc] at c2
              cases dat2 <;> first | (cases c2; done) | skip
              rename_i v2
              cases v2 with
              | none => cases c2
              | some v3 =>
                cases v3 <;> first | (cases c2; done) | skip
                rename_i a3
                have ea : a3 = C := of_decide_eq_true c2
                subst ea
                exact ⟨_, _, _, rfl⟩
          · cases hc : K.lookup cda with
            | none => rw [hc] at c5; cases c5
            | some o2 =>
              obtain ⟨k1, k2, dat2, k3⟩ := o2
              rw [hc] at c5
              cases dat2 <;> first | (cases c5; done) | skip
              rename_i vs
              dsimp only at c5
              cases hv : vs[2]? with
              | none => rw [hv] at c5; cases c5
              | some u =>
                rw [hv] at c5
                cases u <;> first | (cases c5; done) | skip
                rename_i x t
                have ex : x = PySem.BadX.theFile := of_decide_eq_true c5
                subst ex
                exact ⟨_, _, vs, _, t, rfl, hv⟩
    | _ => cases c
abbrev cB (K : PySem.W.Frag) : Addr := He.ga K "BadProgram"
abbrev iB (K : PySem.W.Frag) : Addr := He.ma K (cB K) "__init__"
def exY (K : PySem.W.Frag) : List Bool := [He.tupB K "SHARED" [.str "read", .str "write", .str "swap", .str "answer"],
  PySem.BadX.clsOk K (cB K),
  He.eqO (PySem.W.findIn K (.ref (cB K)) "__setattr__") (some (some (.builtin "object.__setattr__"))),
  He.eqO (PySem.W.findIn K (.ref (cB K)) "line") (some none),
  He.eqO (PySem.W.findIn K (.ref (cB K)) "__init__") (some (some (.ref (iB K)))),
  decide (PySem.W.typeIn K (.ref (iB K)) = some (.type "function")),
  decide (PySem.W.subIn K (.ref (cB K)) (.type "BaseException") = some true),
  decide (PySem.W.subIn K (.ref (cB K)) (.type "ValueError") = some true),
  decide (PySem.W.typeIn K (.ref (cB K)) = some (.type "type")),
  He.eqO (PySem.W.ks_superIn K (cB K) (cB K) "__init__") (some (some (.builtin "ValueError.__init__"))),
  decide (PySem.W.mroIn K (cB K) (.ref (cB K)) = some true),
  He.eqO (PySem.W.nsIn K cStatics "thirdparty.any") (some none),
  initB K (cB K) (iB K),
  xfB K (cB K),
  decide (PySem.W.exmOne K (.ref (cB K)) (.ref (cB K)) = some true),
  decide (PySem.W.typeIn K (.ref (He.ga K "cell_count")) = some (.type "function")),
  decide (PySem.W.typeIn K (.ref (He.ga K "method_names")) = some (.type "function")),
  decide (He.ga K "method_names" ≠ He.ga K "cell_count")]
abbrev AlY : Type := He.AlD × Bool × FnN
def obsK (K : PySem.W.Frag) : AlY := (He.obsD fa fn K, (exY K).all id, fnN K (iB K))
def valY : AlY := (He.valD fn, true, initV)
def obsY (g : Addr → Option Obj) : AlY := obsK (He.frG g (cStatics :: He.asD g 5))
def hookY : PySem.W.Hook where
  α := AlY
  obs := fun s => obsY s.heap.get?
  val := fun _ => valY
  says := fun _ h => ∃ K : PySem.W.Frag, K.In h ∧ obsK K = valY
  of := fun _ _ e => ⟨_, He.frG_in, e⟩
  keeps := fun _ _ _ ⟨K, hK, c⟩ k => ⟨K, PySem.W.Frag.In.keeps hK k, c⟩
abbrev R : PySem.W.OpenRow := PySem.W.OpenLaw.row PySem.Challenge.rw_helpedcalls_k08_whole_programs
def ob (s : PySem.W.SharedT) : AlY := obsY (HandSHeadRun.getT s)
theorem ob_eq (s : PySem.W.SharedT) : ob s = hookY.obs s.abs := by
  have e : HandSHeadRun.getT s = s.abs.heap.get? := funext (HandSHeadRun.getT_eq s)
  unfold ob
  rw [e]
  rfl
theorem run (w : World) : HandSHeadRun.RunEq R (PySem.W.view R.prog [58]) hookY ob 3000 loose w := by
  intro os
  kernel_rfl
end Zh
set_option Elab.async false
set_option linter.all false
set_option maxRecDepth 100000
set_option maxHeartbeats 0
/-! The end. -/
namespace Zh
open PySem PySem.Spec PyProof.Rows L2 Zb
section
variable {K : PySem.W.Frag} {h : Heap} {mg : Str → Option Value}
theorem y_d (c : obsK K = valY) : He.SaysD fa fn K := congrArg (fun z : AlY => z.1) c
theorem y_e (c : obsK K = valY) (i : Nat) {b : Bool} (hb : (exY K)[i]? = some b) : b = true := List.all_eq_true.mp (congrArg (fun z : AlY => z.2.1) c) b (List.mem_of_getElem? hb)
theorem y_i (c : obsK K = valY) : fnN K (iB K) = initV := congrArg (fun z : AlY => z.2.2) c
theorem df (X : K.In h) (G : h.Ns mainGlobals mg) (c : obsK K = valY) (i : Nat) {d : He.DefD} {x : Str} {st : Stmt} (hd : fn[i]? = some d) (hf : fa[i]? = some (.glo x)) (e : d = ⟨(x, none), x, x, defArgs st, defBody st, defScope st, [], []⟩) : Df K mg x st := by
  subst e
  exact ⟨(y_d c).def_ i hd, He.glo_ok X G ((y_d c).fact i hf)⟩
theorem fn_is (c : obsK K = valY) {x : Str} (e : PySem.W.typeIn K (.ref (He.ga K x)) = some (.type "function")) : IsFn K (He.ga K x) := by
  have e : (K.lookup (He.ga K x)).map (·.cls) = some (.type "function") := e
  cases ho : K.lookup (He.ga K x) with
  | none => rw [ho] at e; cases e
  | some o =>
    rw [ho] at e
    exact ⟨o, ho, Option.some.inj e⟩
theorem y_mo (X : K.In h) (G : h.Ns mainGlobals mg) (c : obsK K = valY) : Mo K mg where
  len := He.free_ok X G ((y_d c).fact 40 (f := .free "len") rfl)
  isinstance := He.free_ok X G ((y_d c).fact 41 (f := .free "isinstance") rfl)
  range := He.free_ok X G ((y_d c).fact 42 (f := .free "range") rfl)
  all := He.free_ok X G ((y_d c).fact 43 (f := .free "all") rfl)
  int := He.free_ok X G ((y_d c).fact 44 (f := .free "int") rfl)
  str := He.free_ok X G ((y_d c).fact 45 (f := .free "str") rfl)
  bool := He.free_ok X G ((y_d c).fact 46 (f := .free "bool") rfl)
  tuple := He.free_ok X G ((y_d c).fact 47 (f := .free "tuple") rfl)
  list := He.free_ok X G ((y_d c).fact 48 (f := .free "list") rfl)
  sorted := He.free_ok X G ((y_d c).fact 49 (f := .free "sorted") rfl)
  set := He.free_ok X G ((y_d c).fact 50 (f := .free "set") rfl)
  super := He.free_ok X G ((y_d c).fact 51 (f := .free "super") rfl)
  ValueError := He.free_ok X G ((y_d c).fact 52 (f := .free "ValueError") rfl)
  MOST_VALUES := He.int_ok X G ((y_d c).fact 53 (f := .int "MOST_VALUES" 5) rfl)
  MOST_ROOM := He.int_ok X G ((y_d c).fact 54 (f := .int "MOST_ROOM" 3) rfl)
  MOST_CELLS := He.int_ok X G ((y_d c).fact 55 (f := .int "MOST_CELLS" 6) rfl)
  MOST_LINES := He.int_ok X G ((y_d c).fact 56 (f := .int "MOST_LINES" 60) rfl)
  LETTERS := He.str_ok X G ((y_d c).fact 57 (f := .str "LETTERS" "abcdefghijklmnopqrstuvwxyz") rfl)
  SHARED := He.glo_ok X G ((y_d c).fact 58 (f := .glo "SHARED") rfl)
  sharedT := fun H => He.tupB_ok (y_e c 0 rfl) H
theorem y_bd (X : K.In h) (G : h.Ns mainGlobals mg) (c : obsK K = valY) : Bd R.prog K mg where
  T :=
    { cls := PySem.BadX.clsOk_of (y_e c 1 rfl)
      sa := He.eqO_ok (y_e c 2 rfl)
      noN := He.eqO_ok (y_e c 3 rfl)
      iC := He.eqO_ok (y_e c 4 rfl)
      tC := of_decide_eq_true (y_e c 5 rfl)
      kC := He.keep_ok ((y_d c).fact 60 (f := .keep "BadProgram") rfl)
      exC := of_decide_eq_true (y_e c 6 rfl)
      veC := of_decide_eq_true (y_e c 7 rfl)
      tyC := of_decide_eq_true (y_e c 8 rfl)
      su := He.eqO_ok (y_e c 9 rfl)
      self := of_decide_eq_true (y_e c 10 rfl)
      opq := He.eqO_ok (y_e c 11 rfl)
      file := by kernel_rfl
      top := by kernel_rfl
      fn := init_ok (y_i c) (y_e c 12 rfl) }
  gC := He.glo_ok X G ((y_d c).fact 59 (f := .glo "BadProgram") rfl)
  sup := He.free_ok X G ((y_d c).fact 51 (f := .free "super") rfl)
  te := of_decide_eq_true (y_e c 14 rfl)
  xf := xfB_ok (y_e c 13 rfl)
theorem y_law {w : World} {base : Heap} {fd : FuncData} (X : K.In h) (G : h.Ns mainGlobals mg) (c : obsK K = valY) (F : FunD K "law" "law" (defArgs s_law) (defBody s_law) (defScope s_law) [] [] (He.ga K "law") fd) : FnOk R.prog w K mg base CX0 9 (He.ga K "law") fd ["_law_script"] (spLaw K) := by
  have M := y_mo X G c
  have B := y_bd X G c
  have f_is_register := ok_is_register (P := R.prog) (w := w) (base := base) M (df X G c 7 (x := "is_register") (st := s_is_register) rfl rfl rfl)
  have f_is_name := ok_is_name (P := R.prog) (w := w) (base := base) M (df X G c 8 (x := "is_name") (st := s_is_name) rfl rfl rfl)
  have f_L_is_name := ok_L_is_name (P := R.prog) (w := w) (base := base) M (df X G c 30 (x := "_law_is_name") (st := s_L_is_name) rfl rfl rfl)
  have f_atom_of := ok_atom_of (P := R.prog) (w := w) (base := base) M (df X G c 9 (x := "atom_of") (st := s_atom_of) rfl rfl rfl) f_is_register
  have f_L_atom := ok_L_atom (P := R.prog) (w := w) (base := base) M (df X G c 29 (x := "_law_atom") (st := s_L_atom) rfl rfl rfl)
  have f_worth_of := ok_worth_of (P := R.prog) (w := w) (base := base) M (df X G c 10 (x := "worth_of") (st := s_worth_of) rfl rfl rfl) f_atom_of
  have f_read_row := ok_read_row (P := R.prog) (w := w) (base := base) M (df X G c 11 (x := "read_row") (st := s_read_row) rfl rfl rfl) f_is_register f_atom_of f_worth_of
  have f_go_row := ok_go_row (P := R.prog) (w := w) (base := base) M (df X G c 12 (x := "go_row") (st := s_go_row) rfl rfl rfl) f_is_register f_is_name f_atom_of
  have f_row_of := ok_row_of (P := R.prog) (w := w) (base := base) M (df X G c 13 (x := "row_of") (st := s_row_of) rfl rfl rfl) f_is_name f_read_row f_go_row
  have f_cells_of := ok_cells_of (P := R.prog) (w := w) (base := base) M (df X G c 14 (x := "cells_of") (st := s_cells_of) rfl rfl rfl) f_atom_of
  have f_L_is_line := ok_L_is_line (P := R.prog) (w := w) (base := base) M (df X G c 31 (x := "_law_is_line") (st := s_L_is_line) rfl rfl rfl) f_L_atom f_L_is_name
  have f_L_is_shared := ok_L_is_shared (P := R.prog) (w := w) (base := base) M (df X G c 33 (x := "_law_is_shared") (st := s_L_is_shared) rfl rfl rfl)
  have f_targets := ok_targets (P := R.prog) (w := w) (base := base) M (df X G c 15 (x := "targets") (st := s_targets) rfl rfl rfl)
  have f_wrong_label := ok_wrong_label (P := R.prog) (w := w) (base := base) M (df X G c 16 (x := "wrong_label") (st := s_wrong_label) rfl rfl rfl)
  have f_runs_on := ok_runs_on (P := R.prog) (w := w) (base := base) M (df X G c 17 (x := "runs_on") (st := s_runs_on) rfl rfl rfl) f_targets
  have f_wrong_row := ok_wrong_row (P := R.prog) (w := w) (base := base) M (df X G c 18 (x := "wrong_row") (st := s_wrong_row) rfl rfl rfl) f_wrong_label f_runs_on
  have f_L_next := ok_L_next (P := R.prog) (w := w) (base := base) M (df X G c 32 (x := "_law_next") (st := s_L_next) rfl rfl rfl)
  have f_L_runs_on := ok_L_runs_on (P := R.prog) (w := w) (base := base) M (df X G c 34 (x := "_law_runs_on") (st := s_L_runs_on) rfl rfl rfl) f_L_next f_L_is_shared
  have f_L_wrong_method := ok_L_wrong_method (P := R.prog) (w := w) (base := base) M (df X G c 35 (x := "_law_wrong_method") (st := s_L_wrong_method) rfl rfl rfl) f_L_is_shared f_L_runs_on
  have f_methods_of := ok_methods_of (P := R.prog) (w := w) (base := base) M B (df X G c 19 (x := "methods_of") (st := s_methods_of) rfl rfl rfl) f_is_name f_row_of f_wrong_row
  have f_is_small := ok_is_small (P := R.prog) (w := w) (base := base) M (df X G c 0 (x := "is_small") (st := s_is_small) rfl rfl rfl)
  have f_is_bank := ok_is_bank (P := R.prog) (w := w) (base := base) M (df X G c 2 (x := "is_bank") (st := s_is_bank) rfl rfl rfl) f_is_small
  have f_is_table := ok_is_table (P := R.prog) (w := w) (base := base) M (df X G c 1 (x := "is_table") (st := s_is_table) rfl rfl rfl) f_is_small
  have f_is_kind := ok_is_kind (P := R.prog) (w := w) (base := base) M (df X G c 3 (x := "is_kind") (st := s_is_kind) rfl rfl rfl) f_is_small f_is_bank f_is_table
  have f_need_object := ok_need_object (P := R.prog) (w := w) (base := base) M (df X G c 6 (x := "need_object") (st := s_need_object) rfl rfl rfl) f_is_kind
  have f_bank_calls := ok_bank_calls (P := R.prog) (w := w) (base := base) M (df X G c 5 (x := "bank_calls") (st := s_bank_calls) rfl rfl rfl)
  have f_calls_in := ok_calls_in (P := R.prog) (w := w) (base := base) M (df X G c 4 (x := "calls_in") (st := s_calls_in) rfl rfl rfl) f_bank_calls
  have f_read_program := ok_read_program (P := R.prog) (w := w) (base := base) M B (df X G c 20 (x := "read_program") (st := s_read_program) rfl rfl rfl) f_need_object f_cells_of f_methods_of f_calls_in
  have f_is_program := ok_is_program (P := R.prog) (w := w) (base := base) M B (df X G c 21 (x := "is_program") (st := s_is_program) rfl rfl rfl) f_need_object f_read_program
  have f_cell_count := ok_cell_count (P := R.prog) (w := w) (base := base) M (df X G c 22 (x := "cell_count") (st := s_cell_count) rfl rfl rfl) f_read_program
  have f_method_names := ok_method_names (P := R.prog) (w := w) (base := base) M (df X G c 23 (x := "method_names") (st := s_method_names) rfl rfl rfl) f_read_program
  have f_L_calls := ok_L_calls (P := R.prog) (w := w) (base := base) M (df X G c 28 (x := "_law_calls") (st := s_L_calls) rfl rfl rfl)
  have f_L_program := ok_L_program (P := R.prog) (w := w) (base := base) M (df X G c 36 (x := "_law_program") (st := s_L_program) rfl rfl rfl) f_L_is_name f_L_is_line f_L_wrong_method f_L_calls
  have f_L_taken := ok_L_taken (P := R.prog) (w := w) (base := base) M (df X G c 24 (x := "_law_taken") (st := s_L_taken) rfl rfl rfl)
  have f_L_pick := ok_L_pick (P := R.prog) (w := w) (base := base) M (df X G c 25 (x := "_law_pick") (st := s_L_pick) rfl rfl rfl) f_L_taken
  have f_L_object := ok_L_object (P := R.prog) (w := w) (base := base) M (df X G c 27 (x := "_law_object") (st := s_L_object) rfl rfl rfl) f_L_taken
  have f_L_alike := ok_L_alike2 (P := R.prog) (w := w) (base := base) M (df X G c 26 (x := "_law_alike") (st := s_L_alike) rfl rfl rfl) (ok_L_alike1 M (df X G c 26 (x := "_law_alike") (st := s_L_alike) rfl rfl rfl) (ok_L_alike0 (df X G c 26 (x := "_law_alike") (st := s_L_alike) rfl rfl rfl)))
  have f_L_write_program := ok_L_write (P := R.prog) (w := w) (base := base) M (df X G c 37 (x := "_law_write_program") (st := s_L_write_program) rfl rfl rfl) f_L_taken f_L_pick f_L_calls
  have f_L_bent := ok_L_bent (P := R.prog) (w := w) (base := base) M (df X G c 38 (x := "_law_bent") (st := s_L_bent) rfl rfl rfl) f_L_taken f_L_pick
  exact ok_law (P := R.prog) (w := w) (base := base) M B F (fn_is c (of_decide_eq_true (y_e c 15 rfl))) (fn_is c (of_decide_eq_true (y_e c 16 rfl))) (of_decide_eq_true (y_e c 17 rfl)) f_L_taken f_L_pick f_L_object f_L_write_program f_L_bent f_L_program f_is_program f_L_alike f_cell_count f_method_names
end
end Zh
open PySem PySem.W PySem.Calls PyProof.Rows
theorem PySem.Challenge.cw_helpedcalls_k08_whole_programs_holds : PySem.Challenge.rw_helpedcalls_k08_whole_programs.Holds := by
  w_on; o_law
  refine HandSHeadRun.head_any (r := OpenLaw.row PySem.Challenge.rw_helpedcalls_k08_whole_programs) (q := view (OpenLaw.row PySem.Challenge.rw_helpedcalls_k08_whole_programs).prog [58]) (H := Zh.hookY) (ob := Zh.ob) (M := 3000) (loose := Zh.loose) (d := HandSHeadRun.topDef (OpenLaw.row PySem.Challenge.rw_helpedcalls_k08_whole_programs).prog 58) (kwd := []) Zh.ob_eq
    (by kernel_rfl) (fun s => by kernel_rfl) Zh.run (by kernel_rfl) (by kernel_rfl) (by kernel_rfl) (by rfl) (by first | assumption | decide +kernel) (by decide +kernel) ⟨rfl, rfl, rfl, rfl, rfl, by decide +kernel⟩ ?hw ?hc
  case hw => w_witness2
  case hc =>
    refine L2.walk_ofE (l := PySem.Challenge.rw_helpedcalls_k08_whole_programs) (n := 63) (k := 9) (x := "_law_script") (CX := L2.CX0) rfl (by decide) (by kernel_rfl) ⟨rfl, by decide, by decide⟩ ?F (fun _ _ _ _ z => z)
    intro w mg fa h Y G hmg0
    obtain ⟨K, KX, c⟩ := Y
    have hmg : mg ("law" : PySem.Str) = some (.ref fa) := by
      have e : (HandSHeadRun.topDef (OpenLaw.row PySem.Challenge.rw_helpedcalls_k08_whole_programs).prog 58).name = ("law" : PySem.Str) := by kernel_rfl
      rw [← e]
      exact hmg0
    obtain ⟨⟨fd, F⟩, gl⟩ := Zh.df KX G c 39 (x := "law") (st := Zh.s_law) rfl rfl rfl
    have ef := hmg.symm.trans gl
    cases ef
    have b := L2.FunD.bindsA (ps := ["_law_script"]) F fun _ _ _ _ _ _ us hl => match us, hl with | [_], _ => rfl
    exact ⟨K, fd, Zb.spLaw K, KX, fun s v => b s [v] rfl, fun H a ns _ _ hS => ⟨H, .ref a, ns, fun _ _ e => e, rfl, .lst hS (Zb.dpAll_ints ns), fun _ => rfl⟩, fun base _ _ => Zh.y_law KX G c F⟩
