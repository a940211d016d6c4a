import PyProof.Rows.All
import Wide.All
import OpenK.AllK
import Wide.FinOn
import HandS.ForMost
import HandS.Exc
import HandS.TryOnly
import HandS.ExcOwn
import HandS.WordsExc
import HandS.IsInst
import HandS.ExcIs
import HandS.Deep
import HandS.Style
import HandS.More
import HandS.Walk
import HandS.Wide
import HandS.StrMore
import HandS.EndBits
import HandS.ExcCtx
import HandS.Hot
import HandS.HotCalls
import PySem.Challenge.RW_headsgrow_k05_refused
set_option Elab.async false
set_option linter.all false
set_option maxRecDepth 100000
set_option maxHeartbeats 4000000
/-! Plain mathematics: trees, their order, told trees. -/
namespace Hg

inductive Tt where
  | mk (bs : List Tt)

def Tt.bs : Tt → List Tt
  | .mk l => l

theorem Tt.ind {P : Tt → Prop} (h : ∀ l, (∀ x, x ∈ l → P x) → P (.mk l)) : ∀ t, P t
  | .mk l => h l fun x hx => Tt.ind h x
termination_by t => sizeOf t
decreasing_by
  have := List.sizeOf_lt_of_mem hx
  simp only [Tt.mk.sizeOf_spec]
  omega

mutual
def cmp : Tt → Tt → Int
  | .mk a, .mk b => cmpL a b
def cmpL : List Tt → List Tt → Int
  | [], b => - (b.length : Int)
  | x :: a, [] => ((x :: a).length : Int)
  | x :: a, y :: b => if cmp x y ≠ 0 then cmp x y else cmpL a b
end

mutual
def knots : Tt → Nat
  | .mk l => 1 + knotsL l
def knotsL : List Tt → Nat
  | [] => 0
  | x :: l => knots x + knotsL l
end
mutual
def depth : Tt → Nat
  | .mk l => depthL l
def depthL : List Tt → Nat
  | [] => 0
  | x :: l => max (depth x + 1) (depthL l)
end

theorem cmp_mk (a b : List Tt) : cmp (.mk a) (.mk b) = cmpL a b := by rw [cmp]
theorem cmpL_nil_nil : cmpL [] [] = 0 := by simp [cmpL]
theorem cmpL_nil (b : List Tt) : cmpL [] b = - (b.length : Int) := by rw [cmpL]
theorem cmpL_cons_nil (x : Tt) (a : List Tt) : cmpL (x :: a) [] = ((x :: a).length : Int) := by rw [cmpL]
theorem cmpL_cons (x y : Tt) (a b : List Tt) : cmpL (x :: a) (y :: b) = if cmp x y ≠ 0 then cmp x y else cmpL a b := by rw [cmpL]
theorem cmpL_nil_r : ∀ a : List Tt, cmpL a [] = (a.length : Int)
  | [] => by simp [cmpL]
  | x :: a => cmpL_cons_nil x a

theorem cmpL_self_of : ∀ (l : List Tt), (∀ x, x ∈ l → cmp x x = 0) → cmpL l l = 0
  | [], _ => cmpL_nil_nil
  | x :: l, h => by
    rw [cmpL_cons, h x List.mem_cons_self, if_neg (by simp)]
    exact cmpL_self_of l fun y hy => h y (List.mem_cons_of_mem _ hy)
theorem cmp_self (t : Tt) : cmp t t = 0 := by
  induction t using Tt.ind with
  | h l ih => rw [cmp_mk]; exact cmpL_self_of l ih

theorem cmpL_anti_of : ∀ (a b : List Tt), (∀ x, x ∈ a → ∀ y, cmp x y = - cmp y x) → cmpL a b = - cmpL b a
  | [], b, _ => by rw [cmpL_nil, cmpL_nil_r]
  | x :: a, [], _ => by rw [cmpL_nil_r, cmpL_nil]; omega
  | x :: a, y :: b, h => by
    have e := h x List.mem_cons_self y
    have ih := cmpL_anti_of a b fun z hz => h z (List.mem_cons_of_mem _ hz)
    rw [cmpL_cons, cmpL_cons]
    by_cases c : cmp x y = 0
    · rw [if_neg (by omega), if_neg (by omega)]; exact ih
    · rw [if_pos c, if_pos (by omega)]; exact e
theorem cmp_anti (x y : Tt) : cmp x y = - cmp y x := by
  induction x using Tt.ind generalizing y with
  | h l ih =>
    cases y with
    | mk b => rw [cmp_mk, cmp_mk]; exact cmpL_anti_of l b fun x hx y => ih x hx y

theorem cmpL_eq_of : ∀ (a b : List Tt), (∀ x, x ∈ a → ∀ y, cmp x y = 0 → x = y) → cmpL a b = 0 → a = b
  | [], [], _, _ => rfl
  | [], y :: b, _, e => by rw [cmpL_nil, List.length_cons] at e; omega
  | x :: a, [], _, e => by rw [cmpL_nil_r, List.length_cons] at e; omega
  | x :: a, y :: b, h, e => by
    rw [cmpL_cons] at e
    by_cases c : cmp x y = 0
    · rw [if_neg (by simp [c])] at e
      rw [h x List.mem_cons_self y c, cmpL_eq_of a b (fun z hz => h z (List.mem_cons_of_mem _ hz)) e]
    · rw [if_pos c] at e; exact absurd e c
theorem cmp_eq {x y : Tt} (e : cmp x y = 0) : x = y := by
  induction x using Tt.ind generalizing y with
  | h l ih =>
    cases y with
    | mk b =>
      rw [cmp_mk] at e
      rw [cmpL_eq_of l b (fun x hx y e => ih x hx e) e]
theorem cmp_zero {x y : Tt} : cmp x y = 0 ↔ x = y := ⟨cmp_eq, fun e => by rw [e]; exact cmp_self y⟩

/-- strictly less, transitively -/
theorem cmpL_trans_of : ∀ (a b c : List Tt), (∀ x, x ∈ a → ∀ y z, cmp x y < 0 → cmp y z < 0 → cmp x z < 0) → cmpL a b < 0 → cmpL b c < 0 → cmpL a c < 0
  | a, [], c, _, h1, _ => by rw [cmpL_nil_r] at h1; omega
  | a, y :: b, [], _, _, h2 => by rw [cmpL_nil_r] at h2; omega
  | [], y :: b, z :: c, _, _, _ => by rw [cmpL_nil, List.length_cons]; omega
  | x :: a, y :: b, z :: c, h, h1, h2 => by
    rw [cmpL_cons] at h1 h2 ⊢
    by_cases c1 : cmp x y = 0
    · have e := cmp_eq c1
      subst e
      rw [if_neg (by simp [c1])] at h1
      by_cases c2 : cmp x z = 0
      · rw [if_neg (by simp [c2])] at h2 ⊢
        exact cmpL_trans_of a b c (fun w hw => h w (List.mem_cons_of_mem _ hw)) h1 h2
      · rw [if_pos c2] at h2 ⊢; exact h2
    · rw [if_pos c1] at h1
      by_cases c2 : cmp y z = 0
      · have e := cmp_eq c2
        subst e
        rw [if_pos c1]; exact h1
      · rw [if_pos c2] at h2
        have := h x List.mem_cons_self y z h1 h2
        rw [if_pos (by omega)]; exact this
theorem cmp_lt_trans {x y z : Tt} (h1 : cmp x y < 0) (h2 : cmp y z < 0) : cmp x z < 0 := by
  induction x using Tt.ind generalizing y z with
  | h l ih =>
    cases y with
    | mk b =>
      cases z with
      | mk c =>
        rw [cmp_mk] at *
        exact cmpL_trans_of l b c (fun x hx y z a b => ih x hx a b) h1 h2
/-- x is worth at least y -/
def ge (x y : Tt) : Prop := 0 ≤ cmp x y
theorem ge_refl (x : Tt) : ge x x := by unfold ge; rw [cmp_self]; exact Int.le_refl 0
theorem ge_of_lt {x y : Tt} (h : cmp y x < 0) : ge x y := by unfold ge; rw [cmp_anti]; omega
theorem ge_total {x y : Tt} (h : ¬ ge x y) : cmp x y < 0 := by unfold ge at h; omega
theorem ge_cases {x y : Tt} (h : ge x y) : x = y ∨ cmp y x < 0 := by
  unfold ge at h
  by_cases c : cmp x y = 0
  · exact .inl (cmp_eq c)
  · right; rw [cmp_anti]; omega
theorem ge_trans {x y z : Tt} (h1 : ge x y) (h2 : ge y z) : ge x z := by
  rcases ge_cases h1 with e | l1
  · rw [e]; exact h2
  · rcases ge_cases h2 with e | l2
    · rw [← e]; exact h1
    · exact ge_of_lt (cmp_lt_trans l2 l1)
theorem ge_anti {x y : Tt} (h1 : ge x y) (h2 : ge y x) : x = y := by
  unfold ge at *
  rw [cmp_anti] at h2
  exact cmp_eq (by omega)
instance (x y : Tt) : Decidable (ge x y) := inferInstanceAs (Decidable (0 ≤ cmp x y))

/-! ### insertion, told -/
def ins (x : Tt) : List Tt → List Tt
  | [] => [x]
  | y :: l => if 0 ≤ cmp y x then y :: ins x l else x :: y :: l
mutual
def told : Tt → Tt
  | .mk l => .mk (toldL [] l)
def toldL (acc : List Tt) : List Tt → List Tt
  | [] => acc
  | b :: l => toldL (ins (told b) acc) l
end
theorem told_mk (l : List Tt) : told (.mk l) = .mk (toldL [] l) := by rw [told]
theorem toldL_nil (acc : List Tt) : toldL acc [] = acc := by rw [toldL]
theorem toldL_cons (acc : List Tt) (b : Tt) (l : List Tt) : toldL acc (b :: l) = toldL (ins (told b) acc) l := by rw [toldL]
theorem toldL_eq : ∀ (l acc : List Tt), toldL acc l = (l.map told).foldl (fun a x => ins x a) acc
  | [], acc => by rw [toldL_nil]; rfl
  | b :: l, acc => by rw [toldL_cons, toldL_eq l]; rfl
theorem toldL_append : ∀ (l m acc : List Tt), toldL acc (l ++ m) = toldL (toldL acc l) m
  | [], m, acc => by rw [toldL_nil]; rfl
  | b :: l, m, acc => by rw [List.cons_append, toldL_cons, toldL_cons, toldL_append l m]

/-- in falling turn -/
def Sd (l : List Tt) : Prop := l.Pairwise ge
theorem ins_perm (x : Tt) : ∀ l, (ins x l).Perm (x :: l)
  | [] => List.Perm.refl _
  | y :: l => by
    unfold ins
    split
    · exact ((ins_perm x l).cons y).trans (List.Perm.swap x y l)
    · exact List.Perm.refl _
theorem ins_sd (x : Tt) : ∀ l, Sd l → Sd (ins x l)
  | [], _ => by unfold Sd ins; exact List.pairwise_singleton _ _
  | y :: l, h => by
    obtain ⟨h1, h2⟩ := List.pairwise_cons.mp h
    unfold ins
    split
    · rename_i c
      refine List.pairwise_cons.mpr ⟨fun z hz => ?_, ins_sd x l h2⟩
      rcases List.mem_cons.mp ((ins_perm x l).mem_iff.mp hz) with e | hz
      · rw [e]; exact c
      · exact h1 z hz
    · rename_i c
      have g : ge x y := ge_of_lt (by omega)
      refine List.pairwise_cons.mpr ⟨fun z hz => ?_, h⟩
      rcases List.mem_cons.mp hz with e | hz
      · rw [e]; exact g
      · exact ge_trans g (h1 z hz)
theorem foldins_perm : ∀ (l acc : List Tt), (l.foldl (fun a x => ins x a) acc).Perm (acc ++ l)
  | [], acc => by simp
  | x :: l, acc => by
    rw [List.foldl_cons]
    refine (foldins_perm l _).trans ?_
    refine ((ins_perm x acc).append_right l).trans ?_
    exact (List.perm_middle (l₁ := acc) (a := x) (l₂ := l)).symm
theorem foldins_sd : ∀ (l acc : List Tt), Sd acc → Sd (l.foldl (fun a x => ins x a) acc)
  | [], _, h => h
  | x :: l, acc, h => by rw [List.foldl_cons]; exact foldins_sd l _ (ins_sd x acc h)
theorem toldL_perm (l acc : List Tt) : (toldL acc l).Perm (acc ++ l.map told) := by rw [toldL_eq]; exact foldins_perm _ _
theorem toldL_sd (l acc : List Tt) (h : Sd acc) : Sd (toldL acc l) := by rw [toldL_eq]; exact foldins_sd _ _ h
/-- two lists in falling turn of the same things are one -/
theorem sd_unique : ∀ (l m : List Tt), Sd l → Sd m → l.Perm m → l = m
  | [], m, _, _, p => (List.Perm.nil_eq p)
  | x :: l, [], _, _, p => absurd p.symm.nil_eq (by simp)
  | x :: l, y :: m, hl, hm, p => by
    obtain ⟨l1, l2⟩ := List.pairwise_cons.mp hl
    obtain ⟨m1, m2⟩ := List.pairwise_cons.mp hm
    have e : x = y := by
      have hx : x ∈ y :: m := p.mem_iff.mp List.mem_cons_self
      have hy : y ∈ x :: l := p.mem_iff.mpr List.mem_cons_self
      rcases List.mem_cons.mp hx with e | hx
      · exact e
      · rcases List.mem_cons.mp hy with e | hy
        · exact e.symm
        · exact ge_anti (l1 y hy) (m1 x hx)
    subst e
    rw [sd_unique l m l2 m2 (List.Perm.cons_inv p)]

/-- two told lists joined, as the program does it -/
def merge : List Tt → List Tt → List Tt
  | [], m => m
  | x :: l, [] => x :: l
  | x :: l, y :: m => if 0 ≤ cmp x y then x :: merge l (y :: m) else y :: merge (x :: l) m
termination_by l m => l.length + m.length
theorem merge_nil_r (l : List Tt) : merge l [] = l := by cases l <;> simp [merge]
theorem merge_perm (l m : List Tt) : (merge l m).Perm (l ++ m) := by
  fun_induction merge l m with
  | case1 m => exact List.Perm.refl _
  | case2 x l => simp
  | case3 x l y m h ih => exact ih.cons x
  | case4 x l y m h ih =>
    refine (ih.cons y).trans ?_
    exact (List.perm_middle (l₁ := x :: l) (a := y) (l₂ := m)).symm
theorem merge_sd (l m : List Tt) (hl : Sd l) (hm : Sd m) : Sd (merge l m) := by
  fun_induction merge l m with
  | case1 m => exact hm
  | case2 x l => exact hl
  | case3 x l y m h ih =>
    obtain ⟨l1, l2⟩ := List.pairwise_cons.mp hl
    refine List.pairwise_cons.mpr ⟨fun z hz => ?_, ih l2 hm⟩
    rcases List.mem_append.mp ((merge_perm l (y :: m)).mem_iff.mp hz) with hz | hz
    · exact l1 z hz
    · rcases List.mem_cons.mp hz with e | hz
      · rw [e]; exact h
      · exact ge_trans h ((List.pairwise_cons.mp hm).1 z hz)
  | case4 x l y m h ih =>
    obtain ⟨m1, m2⟩ := List.pairwise_cons.mp hm
    have g : ge y x := ge_of_lt (by omega)
    refine List.pairwise_cons.mpr ⟨fun z hz => ?_, ih hl m2⟩
    rcases List.mem_append.mp ((merge_perm (x :: l) m).mem_iff.mp hz) with hz | hz
    · rcases List.mem_cons.mp hz with e | hz
      · rw [e]; exact g
      · exact ge_trans g ((List.pairwise_cons.mp hl).1 z hz)
    · exact m1 z hz
theorem merge_one (x : Tt) (l : List Tt) : merge l [x] = ins x l := by
  induction l with
  | nil => simp [merge, ins]
  | cons y l ih =>
    unfold merge ins
    split
    · rw [ih]
    · rw [merge_nil_r]
/-- together -/
theorem merge_told (l m : List Tt) : merge (toldL [] l) (toldL [] m) = toldL [] (l ++ m) := by
  have nl : Sd [] := List.Pairwise.nil
  refine sd_unique _ _ (merge_sd _ _ (toldL_sd l [] nl) (toldL_sd m [] nl)) (toldL_sd _ [] nl) ?_
  refine (merge_perm _ _).trans ?_
  refine ((toldL_perm l []).append (toldL_perm m [])).trans ?_
  refine List.Perm.trans ?_ (toldL_perm (l ++ m) []).symm
  simp
end Hg
/-! Trees in the heap: read (TreeAt), owned (Own), made anew (New), grown (Grow). -/
namespace Hg
open PySem L2

mutual
def TreeAt (H : Hp) : V → Tt → Prop
  | v, .mk bs => ∃ a vs, v = .ref a ∧ H a = some (.lst vs) ∧ TreesAt H vs bs
def TreesAt (H : Hp) : List V → List Tt → Prop
  | vs, [] => vs = []
  | vs, b :: bs => ∃ v vs', vs = v :: vs' ∧ TreeAt H v b ∧ TreesAt H vs' bs
end
mutual
def Own (H : Hp) : V → Tt → List Addr → Prop
  | v, .mk bs, as => ∃ a vs as', v = .ref a ∧ as = a :: as' ∧ H a = some (.lst vs) ∧ Owns H vs bs as'
def Owns (H : Hp) : List V → List Tt → List Addr → Prop
  | vs, [], as => vs = [] ∧ as = []
  | vs, b :: bs, as => ∃ v vs' a1 a2, vs = v :: vs' ∧ as = a1 ++ a2 ∧ Own H v b a1 ∧ Owns H vs' bs a2
end
theorem treeAt_mk {H : Hp} {v : V} {bs : List Tt} : TreeAt H v (.mk bs) = ∃ a vs, v = .ref a ∧ H a = some (.lst vs) ∧ TreesAt H vs bs := by rw [TreeAt]
theorem treesAt_nil {H : Hp} {vs : List V} : TreesAt H vs [] = (vs = []) := by rw [TreesAt]
theorem treesAt_cons {H : Hp} {vs : List V} {b : Tt} {bs : List Tt} : TreesAt H vs (b :: bs) = ∃ v vs', vs = v :: vs' ∧ TreeAt H v b ∧ TreesAt H vs' bs := by rw [TreesAt]
theorem own_mk {H : Hp} {v : V} {bs : List Tt} {as : List Addr} : Own H v (.mk bs) as = ∃ a vs as', v = .ref a ∧ as = a :: as' ∧ H a = some (.lst vs) ∧ Owns H vs bs as' := by rw [Own]
theorem owns_nil {H : Hp} {vs : List V} {as : List Addr} : Owns H vs [] as = (vs = [] ∧ as = []) := by rw [Owns]
theorem owns_cons {H : Hp} {vs : List V} {b : Tt} {bs : List Tt} {as : List Addr} : Owns H vs (b :: bs) as = ∃ v vs' a1 a2, vs = v :: vs' ∧ as = a1 ++ a2 ∧ Own H v b a1 ∧ Owns H vs' bs a2 := by rw [Owns]

mutual
theorem TreeAt.same {H H' : Hp} (s : Same H H') : ∀ {v : V} (t : Tt), TreeAt H v t → TreeAt H' v t
  | v, .mk bs, h => by
    rw [treeAt_mk] at h ⊢
    obtain ⟨a, vs, e, h1, h2⟩ := h
    exact ⟨a, vs, e, s _ _ h1, TreesAt.same s bs h2⟩
theorem TreesAt.same {H H' : Hp} (s : Same H H') : ∀ {vs : List V} (ts : List Tt), TreesAt H vs ts → TreesAt H' vs ts
  | vs, [], h => by rw [treesAt_nil] at h ⊢; exact h
  | vs, b :: bs, h => by
    rw [treesAt_cons] at h ⊢
    obtain ⟨v, vs', e, h1, h2⟩ := h
    exact ⟨v, vs', e, TreeAt.same s b h1, TreesAt.same s bs h2⟩
end
mutual
theorem Own.at_ {H : Hp} : ∀ {v : V} (t : Tt) {as : List Addr}, Own H v t as → TreeAt H v t
  | v, .mk bs, as, h => by
    rw [own_mk] at h; rw [treeAt_mk]
    obtain ⟨a, vs, as', e, _, h1, h2⟩ := h
    exact ⟨a, vs, e, h1, Owns.at_ bs h2⟩
theorem Owns.at_ {H : Hp} : ∀ {vs : List V} (ts : List Tt) {as : List Addr}, Owns H vs ts as → TreesAt H vs ts
  | vs, [], as, h => by rw [owns_nil] at h; rw [treesAt_nil]; exact h.1
  | vs, b :: bs, as, h => by
    rw [owns_cons] at h; rw [treesAt_cons]
    obtain ⟨v, vs', a1, a2, e, _, h1, h2⟩ := h
    exact ⟨v, vs', e, Own.at_ b h1, Owns.at_ bs h2⟩
end
mutual
/-- what it owns is tracked; kept where its own places are kept -/
theorem Own.frame {H H' : Hp} : ∀ {v : V} (t : Tt) {as : List Addr}, Own H v t as → (∀ a, a ∈ as → ∀ o, H a = some o → H' a = some o) → Own H' v t as
  | v, .mk bs, as, h, k => by
    rw [own_mk] at h ⊢
    obtain ⟨a, vs, as', e, ea, h1, h2⟩ := h
    subst ea
    exact ⟨a, vs, as', e, rfl, k a List.mem_cons_self _ h1, Owns.frame bs h2 fun b hb => k b (List.mem_cons_of_mem _ hb)⟩
theorem Owns.frame {H H' : Hp} : ∀ {vs : List V} (ts : List Tt) {as : List Addr}, Owns H vs ts as → (∀ a, a ∈ as → ∀ o, H a = some o → H' a = some o) → Owns H' vs ts as
  | vs, [], as, h, _ => by rw [owns_nil] at h ⊢; exact h
  | vs, b :: bs, as, h, k => by
    rw [owns_cons] at h ⊢
    obtain ⟨v, vs', a1, a2, e, ea, h1, h2⟩ := h
    subst ea
    exact ⟨v, vs', a1, a2, e, rfl, Own.frame b h1 fun a ha => k a (List.mem_append_left _ ha), Owns.frame bs h2 fun a ha => k a (List.mem_append_right _ ha)⟩
end
mutual
theorem Own.tracked {H : Hp} : ∀ {v : V} (t : Tt) {as : List Addr}, Own H v t as → ∀ a, a ∈ as → ∃ xs, H a = some (.lst xs)
  | v, .mk bs, as, h, a, ha => by
    rw [own_mk] at h
    obtain ⟨a', vs, as', e, ea, h1, h2⟩ := h
    subst ea
    rcases List.mem_cons.mp ha with e | ha
    · rw [e]; exact ⟨vs, h1⟩
    · exact Owns.tracked bs h2 a ha
theorem Owns.tracked {H : Hp} : ∀ {vs : List V} (ts : List Tt) {as : List Addr}, Owns H vs ts as → ∀ a, a ∈ as → ∃ xs, H a = some (.lst xs)
  | vs, [], as, h, a, ha => by rw [owns_nil] at h; rw [h.2] at ha; cases ha
  | vs, b :: bs, as, h, a, ha => by
    rw [owns_cons] at h
    obtain ⟨v, vs', a1, a2, e, ea, h1, h2⟩ := h
    subst ea
    rcases List.mem_append.mp ha with ha | ha
    · exact Own.tracked b h1 a ha
    · exact Owns.tracked bs h2 a ha
end
theorem TreesAt.len {H : Hp} : ∀ {vs : List V} {ts : List Tt}, TreesAt H vs ts → vs.length = ts.length
  | vs, [], h => by rw [treesAt_nil] at h; rw [h]; rfl
  | vs, b :: bs, h => by
    rw [treesAt_cons] at h
    obtain ⟨v, vs', e, _, h2⟩ := h
    rw [e, List.length_cons, List.length_cons, TreesAt.len h2]
theorem TreesAt.get {H : Hp} : ∀ {vs : List V} {ts : List Tt} {i : Nat} {v : V}, TreesAt H vs ts → vs[i]? = some v → ∃ t, ts[i]? = some t ∧ TreeAt H v t
  | vs, [], i, v, h, e => by rw [treesAt_nil] at h; rw [h] at e; cases e
  | vs, b :: bs, i, v, h, e => by
    rw [treesAt_cons] at h
    obtain ⟨w, vs', ev, h1, h2⟩ := h
    subst ev
    cases i with
    | zero =>
      have e' : w = v := Option.some.inj (by simpa using e)
      exact ⟨b, rfl, e' ▸ h1⟩
    | succ i =>
      obtain ⟨t, e1, h3⟩ := TreesAt.get h2 (i := i) (v := v) (by simpa using e)
      exact ⟨t, by simpa using e1, h3⟩
theorem TreesAt.get' {H : Hp} {vs : List V} {ts : List Tt} {i : Nat} {t : Tt} (h : TreesAt H vs ts) (e : ts[i]? = some t) : ∃ v, vs[i]? = some v ∧ TreeAt H v t := by
  have hl := h.len
  obtain ⟨hi, _⟩ := List.getElem?_eq_some_iff.mp e
  have hv : i < vs.length := by omega
  obtain ⟨t', e', h'⟩ := h.get (List.getElem?_eq_getElem hv)
  rw [e] at e'
  cases e'
  exact ⟨_, List.getElem?_eq_getElem hv, h'⟩
theorem TreesAt.append {H : Hp} : ∀ {vs ws : List V} {ts us : List Tt}, TreesAt H vs ts → TreesAt H ws us → TreesAt H (vs ++ ws) (ts ++ us)
  | vs, ws, [], us, h, k => by rw [treesAt_nil] at h; rw [h]; exact k
  | vs, ws, b :: bs, us, h, k => by
    rw [treesAt_cons] at h
    obtain ⟨w, vs', ev, h1, h2⟩ := h
    subst ev
    rw [List.cons_append, List.cons_append, treesAt_cons]
    exact ⟨w, _, rfl, h1, TreesAt.append h2 k⟩
theorem TreesAt.one {H : Hp} {v : V} {t : Tt} (h : TreeAt H v t) : TreesAt H [v] [t] := by
  rw [treesAt_cons]; exact ⟨v, [], rfl, h, by rw [treesAt_nil]⟩
theorem Owns.append {H : Hp} : ∀ {vs ws : List V} {ts us : List Tt} {as bs : List Addr}, Owns H vs ts as → Owns H ws us bs → Owns H (vs ++ ws) (ts ++ us) (as ++ bs)
  | vs, ws, [], us, as, bs, h, k => by rw [owns_nil] at h; rw [h.1, h.2]; exact k
  | vs, ws, b :: ts, us, as, bs, h, k => by
    rw [owns_cons] at h
    obtain ⟨w, vs', a1, a2, ev, ea, h1, h2⟩ := h
    subst ev ea
    rw [List.cons_append, List.cons_append, owns_cons]
    exact ⟨w, _, a1, a2 ++ bs, rfl, List.append_assoc _ _ _, h1, Owns.append h2 k⟩
theorem Owns.one {H : Hp} {v : V} {t : Tt} {as : List Addr} (h : Own H v t as) : Owns H [v] [t] as := by
  rw [owns_cons]; exact ⟨v, [], as, [], rfl, by simp, h, by rw [owns_nil]; exact ⟨rfl, rfl⟩⟩
theorem Owns.split {H : Hp} : ∀ {ts us : List Tt} {vs : List V} {as : List Addr}, Owns H vs (ts ++ us) as → ∃ v1 v2 a1 a2, vs = v1 ++ v2 ∧ as = a1 ++ a2 ∧ Owns H v1 ts a1 ∧ Owns H v2 us a2
  | [], us, vs, as, h => ⟨[], vs, [], as, rfl, rfl, by rw [owns_nil]; exact ⟨rfl, rfl⟩, h⟩
  | b :: ts, us, vs, as, h => by
    rw [List.cons_append, owns_cons] at h
    obtain ⟨w, vs', a1, a2, ev, ea, h1, h2⟩ := h
    obtain ⟨v1, v2, b1, b2, e1, e2, k1, k2⟩ := Owns.split h2
    subst ev ea e1 e2
    refine ⟨w :: v1, v2, a1 ++ b1, b2, rfl, (List.append_assoc _ _ _).symm, ?_, k2⟩
    rw [owns_cons]
    exact ⟨w, v1, a1, b1, rfl, rfl, h1, k1⟩
theorem Owns.len {H : Hp} {vs : List V} {ts : List Tt} {as : List Addr} (h : Owns H vs ts as) : vs.length = ts.length := (Owns.at_ ts h).len

/-- a tree made anew behind H: all its lists are new, none stands in it twice -/
def New (H H' : Hp) (v : V) (t : Tt) : Prop := Same H H' ∧ ∃ as, Own H' v t as ∧ as.Nodup ∧ ∀ a, a ∈ as → H a = none
theorem New.at_ {H H' : Hp} {v : V} {t : Tt} (n : New H H' v t) : TreeAt H' v t := let ⟨_, _, o, _⟩ := n; Own.at_ t o
theorem New.of {H0 H H' : Hp} {v : V} {t : Tt} (n : New H H' v t) (s : Same H0 H) : New H0 H' v t := by
  obtain ⟨k, as, o, nd, f⟩ := n
  exact ⟨s.trans k, as, o, nd, fun a ha => s.free (f a ha)⟩
theorem New.step {H H' H2 : Hp} {v : V} {t : Tt} (n : New H H' v t) (s : Same H' H2) : New H H2 v t := by
  obtain ⟨k, as, o, nd, f⟩ := n
  exact ⟨k.trans s, as, Own.frame t o fun a _ u e => s a u e, nd, f⟩
theorem same_new {H : Hp} {p : Addr} (h : H p = none) (o : HO) : Same H (upd H p o) := fun b u q => by rw [upd_ne (ne_of_none q h)]; exact q

/-- a new list D that is filled with new trees -/
def Grow (H H' : Hp) (D : Addr) (ts : List Tt) : Prop := Same H H' ∧ H D = none ∧ ∃ acc as, H' D = some (.lst acc) ∧ Owns H' acc ts as ∧ (D :: as).Nodup ∧ ∀ a, a ∈ as → H a = none
theorem Grow.start {H : Hp} {D : Addr} (h : H D = none) : Grow H (upd H D (.lst [])) D [] :=
  ⟨same_new h _, h, [], [], upd_same, by rw [owns_nil]; exact ⟨rfl, rfl⟩, List.nodup_cons.mpr ⟨by simp, List.nodup_nil⟩, fun a ha => by cases ha⟩
theorem Grow.step {H H' H2 : Hp} {D : Addr} {ts : List Tt} (g : Grow H H' D ts) (s : Same H' H2) : Grow H H2 D ts := by
  obtain ⟨k, hD, acc, as, h1, h2, nd, f⟩ := g
  exact ⟨k.trans s, hD, acc, as, s _ _ h1, Owns.frame ts h2 fun a _ u e => s a u e, nd, f⟩
theorem Grow.same {H H' : Hp} {D : Addr} {ts : List Tt} (g : Grow H H' D ts) : Same H H' := g.1
theorem Grow.done {H H' : Hp} {D : Addr} {ts : List Tt} (g : Grow H H' D ts) : New H H' (.ref D) (.mk ts) := by
  obtain ⟨k, hD, acc, as, h1, h2, nd, f⟩ := g
  refine ⟨k, D :: as, by rw [own_mk]; exact ⟨D, acc, as, rfl, rfl, h1, h2⟩, nd, fun a ha => ?_⟩
  rcases List.mem_cons.mp ha with e | ha
  · rw [e]; exact hD
  · exact f a ha
theorem Grow.at_ {H H' : Hp} {D : Addr} {ts : List Tt} (g : Grow H H' D ts) : ∃ acc, H' D = some (.lst acc) ∧ TreesAt H' acc ts ∧ acc.length = ts.length := by
  obtain ⟨k, hD, acc, as, h1, h2, nd, f⟩ := g
  exact ⟨acc, h1, Owns.at_ ts h2, h2.len⟩
/-- a new tree put in at a place -/
theorem Grow.put {H H' H2 : Hp} {D : Addr} {l r : List Tt} {v : V} {t : Tt} (g : Grow H H' D (l ++ r)) (n : New H' H2 v t) :
    ∃ av rv, H2 D = some (.lst (av ++ rv)) ∧ av.length = l.length ∧ rv.length = r.length ∧ Grow H (upd H2 D (.lst (av ++ v :: rv))) D (l ++ t :: r) := by
  obtain ⟨k, hD, acc, as, h1, h2, nd, f⟩ := g
  obtain ⟨s, bs, o, nb, fb⟩ := n
  obtain ⟨av, rv, a1, a2, e1, e2, k1, k2⟩ := h2.split
  subst e1 e2
  have tr1 := Owns.tracked l k1
  have tr2 := Owns.tracked r k2
  have hDb : D ∉ bs := fun hb => by have := fb D hb; rw [h1] at this; cases this
  obtain ⟨nD, nas⟩ := List.nodup_cons.mp nd
  have dis1 : ∀ a, a ∈ a1 → a ∉ bs := fun a ha hb => by
    obtain ⟨xs, q⟩ := tr1 a ha; rw [fb a hb] at q; cases q
  have dis2 : ∀ a, a ∈ a2 → a ∉ bs := fun a ha hb => by
    obtain ⟨xs, q⟩ := tr2 a ha; rw [fb a hb] at q; cases q
  have keep : ∀ a, a ≠ D → ∀ u, H2 a = some u → upd H2 D (.lst (av ++ v :: rv)) a = some u := fun a ha u q => by rw [upd_ne ha]; exact q
  have ne1 : ∀ a, a ∈ a1 → a ≠ D := fun a ha e => nD (by rw [← e]; exact List.mem_append_left _ ha)
  have ne2 : ∀ a, a ∈ a2 → a ≠ D := fun a ha e => nD (by rw [← e]; exact List.mem_append_right _ ha)
  refine ⟨av, rv, s _ _ h1, k1.len, k2.len, ⟨fun b u q => ?_, hD, av ++ v :: rv, a1 ++ (bs ++ a2), upd_same, ?_, ?_, fun a ha => ?_⟩⟩
  · rw [upd_ne (ne_of_none q hD)]; exact s _ _ (k _ _ q)
  · refine Owns.append (Owns.frame l k1 fun a ha u q => keep a (ne1 a ha) u (s _ _ q)) ?_
    rw [owns_cons]
    refine ⟨v, rv, bs, a2, rfl, rfl, Own.frame t o fun a ha u q => keep a (fun e => hDb (e ▸ ha)) u q, Owns.frame r k2 fun a ha u q => keep a (ne2 a ha) u (s _ _ q)⟩
  · obtain ⟨n1, n2, n3⟩ := List.nodup_append.mp nas
    refine List.nodup_cons.mpr ⟨fun h => ?_, List.nodup_append.mpr ⟨n1, List.nodup_append.mpr ⟨nb, n2, fun a ha b hb e => dis2 b hb (e ▸ ha)⟩, fun a ha b hb e => ?_⟩⟩
    · rcases List.mem_append.mp h with h | h
      · exact ne1 D h rfl
      · rcases List.mem_append.mp h with h | h
        · exact hDb h
        · exact ne2 D h rfl
    · rcases List.mem_append.mp hb with hb | hb
      · exact dis1 a ha (e ▸ hb)
      · exact n3 a ha b hb e
  · rcases List.mem_append.mp ha with ha | ha
    · exact f a (List.mem_append_left _ ha)
    · rcases List.mem_append.mp ha with ha | ha
      · exact k.free (fb a ha)
      · exact f a (List.mem_append_right _ ha)
theorem Grow.more {H H' H2 : Hp} {D : Addr} {ts : List Tt} {v : V} {t : Tt} (g : Grow H H' D ts) (n : New H' H2 v t) :
    ∃ acc, H2 D = some (.lst acc) ∧ acc.length = ts.length ∧ Grow H (upd H2 D (.lst (acc ++ [v]))) D (ts ++ [t]) := by
  have g' : Grow H H' D (ts ++ []) := by rw [List.append_nil]; exact g
  obtain ⟨av, rv, h1, h2, h3, h4⟩ := g'.put n
  have e : rv = [] := List.length_eq_zero_iff.mp h3
  subst e
  rw [List.append_nil] at h1
  exact ⟨av, h1, h2, h4⟩

/-- no knot has too many branches for a list -/
def lim : Nat := 200000
mutual
def fit : Tt → Prop
  | .mk l => l.length ≤ lim ∧ fitL l
def fitL : List Tt → Prop
  | [] => True
  | x :: l => fit x ∧ fitL l
end
theorem fit_mk {l : List Tt} : fit (.mk l) = (l.length ≤ lim ∧ fitL l) := by rw [fit]
theorem fitL_iff : ∀ {l : List Tt}, fitL l ↔ ∀ x, x ∈ l → fit x
  | [] => by simp [fitL]
  | x :: l => by
    rw [fitL, fitL_iff (l := l)]
    simp
theorem fit_bs {l : List Tt} (h : fit (.mk l)) {x : Tt} (hx : x ∈ l) : fit x := by rw [fit_mk] at h; exact fitL_iff.mp h.2 x hx
theorem fit_len {l : List Tt} (h : fit (.mk l)) : l.length ≤ lim := by rw [fit_mk] at h; exact h.1
theorem lim_line {n : Nat} (h : n ≤ lim) : n < sizeLine := Nat.lt_of_le_of_lt h (by decide)
end Hg
/-! Own helpers over the hand layer: joining ways. -/
namespace Hg
open PySem L2
/-- a test's outcome told once, then what follows -/
theorem cut_t {t : TT} {σ : St} {H : Hp} {Q : Bool → Hp → Prop} (R : Bool → Hp → Prop) (h : ∀ Q' : Bool → Hp → Prop, (∀ b H', R b H' → Q' b H') → t σ H Q') (k : ∀ b H', R b H' → Q b H') : t σ H Q := h Q k
theorem cut_if {c : TT} {t u : TS} {D : Ends} {σ : St} {H : Hp} (R : Bool → Hp → Prop) (h : ∀ Q' : Bool → Hp → Prop, (∀ b H', R b H' → Q' b H') → c σ H Q') (k : ∀ b H', R b H' → if b = true then t D σ H' else u D σ H') : tIfS c t u D σ H := h _ k
theorem cut_e {t : TE} {σ : St} {H : Hp} {Q : VK} (R : V → Hp → Prop) (h : ∀ Q' : VK, (∀ v H', R v H' → Q' v H') → t σ H Q') (k : ∀ v H', R v H' → Q v H') : t σ H Q := h Q k
/-- a statement whose ways come together -/
def tCut (t u : TS) : TS := fun D σ H => ∃ N : St → Hp → Prop, t { D with nx := N } σ H ∧ ∀ σ' H', N σ' H' → u D σ' H'
theorem pss_cut2 {X : Cx} {st : Stmt} {rest : List Stmt} {t u : TS} (h1 : PS X st t) (h2 : PSs X rest u) : PSs X (st :: rest) (tCut t u) := by
  refine ⟨fun pins s σ H D I h => ?_⟩
  obtain ⟨N, h, k⟩ := h
  refine wpAny_execs_cons (thn (h1.run pins s σ H { D with nx := N } I h) fun f s1 q => ?_)
  cases f with
  | next =>
    obtain ⟨σ', H', I', q⟩ := q
    exact h2.run pins s1 σ' H' D I' (k σ' H' q)
  | ret v => exact q
  | brk => exact q
  | cont => exact q
def rLenS (K : PySem.W.Frag) : List V → Hp → VK → Prop := fun xs H Q => ∃ p ys, xs = [.ref p] ∧ (SqL K H p ys ∨ SqT K H p ys) ∧ Q (.int ys.length) H
theorem call_len_seqK {X : Cx} : CallR X (.builtin "len") (rLenS X.K) := call_len_seq
def rListOf (K : PySem.W.Frag) : List V → Hp → VK → Prop := fun xs H Q => ∃ p ys, xs = [.ref p] ∧ (SqL K H p ys ∨ SqT K H p ys) ∧ ∀ l, H l = none → Q (.ref l) (upd H l (.lst ys))
theorem call_list_ofK {X : Cx} : CallR X (.type "list") (rListOf X.K) := call_list_of
/-- * of great ints -/
def CMulX (i j : Int) : Prop := i.natAbs.log2 + j.natAbs.log2 < 100000000
theorem CMulX.ok {i j : Int} (h : CMulX i j) : IntMulOk i j := by
  have b : ∀ x : Int, Builtin.Int.intBits x ≤ x.natAbs.log2 + 1 := fun x => by
    unfold Builtin.Int.intBits
    split <;> omega
  have h1 := b i
  have h2 := b j
  have h3 : i.natAbs.log2 + j.natAbs.log2 < 100000000 := h
  have e : bitsLine = 134217728 := by decide
  unfold IntMulOk
  intro z
  rw [Bool.and_eq_true] at z
  have z2 := z.2
  unfold Builtin.Int.intTooBig at z2
  have z3 := of_decide_eq_true z2
  rw [e] at z3
  omega
theorem op_mulX {X : Cx} : OpR X (binaryOp .Mult) (rI CMulX fun i j => .int (i * j)) := opI fun _ _ _ _ _ _ _ hc q => PyProof.Rows.mul_int q hc.ok
theorem log2_le {n k : Nat} (h : n < 2 ^ k) : n.log2 ≤ k := by
  by_cases h0 : n = 0
  · subst h0; simp
  · exact Nat.le_of_lt ((Nat.log2_lt h0).mpr h)
/-- from bounds by powers of two -/
theorem mulX {i j : Int} {a b : Nat} (ha : i.natAbs < 2 ^ a) (hb : j.natAbs < 2 ^ b) (h : a + b < 100000000) : CMulX i j := by
  have x := log2_le ha
  have y := log2_le hb
  unfold CMulX
  omega
end Hg
/-! Things that may be no trees. -/
namespace Hg
open PySem L2
inductive Th where
  | no
  | li (xs : List Th)
mutual
def isT : Th → Nat → Int → Bool × Int
  | .no, _, L => (false, L)
  | .li xs, d, L => if 40 < d ∨ L < 1 then (false, L) else ((isTl xs (d + 1) (L - 1)).1.all id, (isTl xs (d + 1) (L - 1)).2)
def isTl : List Th → Nat → Int → List Bool × Int
  | [], _, L => ([], L)
  | x :: xs, d, L => ((isT x d L).1 :: (isTl xs d (isT x d L).2).1, (isTl xs d (isT x d L).2).2)
end
theorem isT_no {d : Nat} {L : Int} : isT .no d L = (false, L) := by rw [isT]
theorem isT_li {xs : List Th} {d : Nat} {L : Int} : isT (.li xs) d L = if 40 < d ∨ L < 1 then (false, L) else ((isTl xs (d + 1) (L - 1)).1.all id, (isTl xs (d + 1) (L - 1)).2) := by rw [isT]
theorem isTl_nil {d : Nat} {L : Int} : isTl [] d L = ([], L) := by rw [isTl]
theorem isTl_cons {x : Th} {xs : List Th} {d : Nat} {L : Int} : isTl (x :: xs) d L = ((isT x d L).1 :: (isTl xs d (isT x d L).2).1, (isTl xs d (isT x d L).2).2) := by rw [isTl]
theorem isTl_snoc : ∀ (xs : List Th) (x : Th) (d : Nat) (L : Int), isTl (xs ++ [x]) d L = ((isTl xs d L).1 ++ [(isT x d (isTl xs d L).2).1], (isT x d (isTl xs d L).2).2)
  | [], x, d, L => by rw [List.nil_append, isTl_cons, isTl_nil, isTl_nil]; rfl
  | y :: xs, x, d, L => by rw [List.cons_append, isTl_cons, isTl_snoc xs, isTl_cons]; rfl
theorem isTl_len : ∀ (xs : List Th) (d : Nat) (L : Int), (isTl xs d L).1.length = xs.length
  | [], d, L => by rw [isTl_nil]; rfl
  | y :: xs, d, L => by rw [isTl_cons, List.length_cons, List.length_cons, isTl_len xs]
/-- no list -/
inductive Leaf (H : Hp) : V → Prop where
  | non : Leaf H .non
  | bl (b : Bool) : Leaf H (.bl b)
  | int (i : Int) : Leaf H (.int i)
  | str (x : Str) : Leaf H (.str x)
  | tup {a : Addr} {xs : List V} (e : H a = some (.tup xs)) : Leaf H (.ref a)
  | dK {a : Addr} {kvs : List (Key × V)} (e : H a = some (.dK kvs)) : Leaf H (.ref a)
theorem Leaf.same {H H' : Hp} {v : V} (s : Same H H') (h : Leaf H v) : Leaf H' v := by
  cases h with
  | non => exact .non
  | bl b => exact .bl b
  | int i => exact .int i
  | str x => exact .str x
  | tup e => exact .tup (s _ _ e)
  | dK e => exact .dK (s _ _ e)
theorem Leaf.isi {K : PySem.W.Frag} {H : Hp} {v : V} (h : Leaf H v) : ∃ t, TyX K H v t ∧ PySem.W.kitOne K t (.type "list") = some false := by
  cases h with
  | non => exact ⟨_, .base .non, kit_ty (by decide +kernel)⟩
  | bl b => exact ⟨_, .base (.bl b), kit_ty (by decide +kernel)⟩
  | int i => exact ⟨_, .base (.int i), kit_ty (by decide +kernel)⟩
  | str x => exact ⟨_, .base (.str x), kit_ty (by decide +kernel)⟩
  | tup e => exact ⟨_, .base (.tup e), kit_ty (by decide +kernel)⟩
  | dK e => exact ⟨_, .base (.dK e), kit_ty (by decide +kernel)⟩
theorem list_isi {K : PySem.W.Frag} {H : Hp} {a : Addr} {xs : List V} (h : H a = some (.lst xs)) : TyX K H (.ref a) (.type "list") ∧ PySem.W.kitOne K (.type "list") (.type "list") = some true :=
  ⟨.base (.lst h), kit_ty (by decide +kernel)⟩
mutual
def ThAt (H : Hp) : V → Th → Prop
  | v, .no => Leaf H v
  | v, .li bs => ∃ a vs, v = .ref a ∧ H a = some (.lst vs) ∧ ThsAt H vs bs
def ThsAt (H : Hp) : List V → List Th → Prop
  | vs, [] => vs = []
  | vs, b :: bs => ∃ v vs', vs = v :: vs' ∧ ThAt H v b ∧ ThsAt H vs' bs
end
theorem thAt_no {H : Hp} {v : V} : ThAt H v .no = Leaf H v := by rw [ThAt]
theorem thAt_li {H : Hp} {v : V} {bs : List Th} : ThAt H v (.li bs) = ∃ a vs, v = .ref a ∧ H a = some (.lst vs) ∧ ThsAt H vs bs := by rw [ThAt]
theorem thsAt_nil {H : Hp} {vs : List V} : ThsAt H vs [] = (vs = []) := by rw [ThsAt]
theorem thsAt_cons {H : Hp} {vs : List V} {b : Th} {bs : List Th} : ThsAt H vs (b :: bs) = ∃ v vs', vs = v :: vs' ∧ ThAt H v b ∧ ThsAt H vs' bs := by rw [ThsAt]
mutual
theorem ThAt.same {H H' : Hp} (s : Same H H') : ∀ {v : V} (t : Th), ThAt H v t → ThAt H' v t
  | v, .no, h => by rw [thAt_no] at h ⊢; exact h.same s
  | v, .li bs, h => by
    rw [thAt_li] at h ⊢
    obtain ⟨a, vs, e, h1, h2⟩ := h
    exact ⟨a, vs, e, s _ _ h1, ThsAt.same s bs h2⟩
theorem ThsAt.same {H H' : Hp} (s : Same H H') : ∀ {vs : List V} (ts : List Th), ThsAt H vs ts → ThsAt H' vs ts
  | vs, [], h => by rw [thsAt_nil] at h ⊢; exact h
  | vs, b :: bs, h => by
    rw [thsAt_cons] at h ⊢
    obtain ⟨v, vs', e, h1, h2⟩ := h
    exact ⟨v, vs', e, ThAt.same s b h1, ThsAt.same s bs h2⟩
end
theorem ThsAt.len {H : Hp} : ∀ {vs : List V} {ts : List Th}, ThsAt H vs ts → vs.length = ts.length
  | vs, [], h => by rw [thsAt_nil] at h; rw [h]; rfl
  | vs, b :: bs, h => by
    rw [thsAt_cons] at h
    obtain ⟨v, vs', e, _, h2⟩ := h
    rw [e, List.length_cons, List.length_cons, ThsAt.len h2]
theorem ThsAt.get {H : Hp} : ∀ {vs : List V} {ts : List Th} {i : Nat} {v : V}, ThsAt H vs ts → vs[i]? = some v → ∃ t, ts[i]? = some t ∧ ThAt H v t
  | vs, [], i, v, h, e => by rw [thsAt_nil] at h; rw [h] at e; cases e
  | vs, b :: bs, i, v, h, e => by
    rw [thsAt_cons] at h
    obtain ⟨w, vs', ev, h1, h2⟩ := h
    subst ev
    cases i with
    | zero =>
      have e' : w = v := Option.some.inj (by simpa using e)
      exact ⟨b, rfl, e' ▸ h1⟩
    | succ i =>
      obtain ⟨t, e1, h3⟩ := ThsAt.get h2 (i := i) (v := v) (by simpa using e)
      exact ⟨t, by simpa using e1, h3⟩
mutual
def toTh : Tt → Th
  | .mk l => .li (toThL l)
def toThL : List Tt → List Th
  | [] => []
  | x :: l => toTh x :: toThL l
end
mutual
theorem TreeAt.th {H : Hp} : ∀ {v : V} (t : Tt), TreeAt H v t → ThAt H v (toTh t)
  | v, .mk bs, h => by
    rw [treeAt_mk] at h
    obtain ⟨a, vs, e, h1, h2⟩ := h
    rw [toTh, thAt_li]
    exact ⟨a, vs, e, h1, TreesAt.th bs h2⟩
theorem TreesAt.th {H : Hp} : ∀ {vs : List V} (ts : List Tt), TreesAt H vs ts → ThsAt H vs (toThL ts)
  | vs, [], h => by rw [treesAt_nil] at h; rw [toThL, thsAt_nil]; exact h
  | vs, b :: bs, h => by
    rw [treesAt_cons] at h
    obtain ⟨v, vs', e, h1, h2⟩ := h
    rw [toThL, thsAt_cons]
    exact ⟨v, vs', e, TreeAt.th b h1, TreesAt.th bs h2⟩
end
theorem knots_pos (t : Tt) : 1 ≤ knots t := by cases t with | mk l => rw [knots]; omega
theorem depth_mk_le {l : List Tt} {d n : Nat} (h : depth (.mk l) + d ≤ n) : ∀ x, x ∈ l → depth x + (d + 1) ≤ n := fun x hx => by
  rw [depth] at h
  have : ∀ {l : List Tt} {x : Tt}, x ∈ l → depth x + 1 ≤ depthL l := by
    intro l
    induction l with
    | nil => intro x h; cases h
    | cons y l ih =>
      intro x h
      rw [depthL]
      rcases List.mem_cons.mp h with e | h
      · rw [e]; omega
      · have := ih h; omega
  have := this hx
  omega
mutual
theorem isT_tree : ∀ (t : Tt) (d : Nat) (L : Int), depth t + d ≤ 40 → (knots t : Int) ≤ L → isT (toTh t) d L = (true, L - knots t)
  | .mk l, d, L, hd, hk => by
    have hk' : ((1 + knotsL l : Nat) : Int) ≤ L := by rw [knots] at hk; exact hk
    have ih := isT_trees l (d + 1) (L - 1) (depth_mk_le hd) (by omega)
    rw [toTh, isT_li, if_neg (by omega), ih, knots]
    refine Prod.ext ?_ ?_
    · show (List.replicate l.length true).all id = true
      simp
    · show L - 1 - (knotsL l : Int) = L - ((1 + knotsL l : Nat) : Int)
      omega
theorem isT_trees : ∀ (l : List Tt) (d : Nat) (L : Int), (∀ x, x ∈ l → depth x + d ≤ 40) → (knotsL l : Int) ≤ L → isTl (toThL l) d L = (List.replicate l.length true, L - knotsL l)
  | [], d, L, _, _ => by rw [toThL, isTl_nil, knotsL]; simp
  | x :: l, d, L, hd, hk => by
    have hk' : ((knots x + knotsL l : Nat) : Int) ≤ L := by rw [knotsL] at hk; exact hk
    rw [toThL, isTl_cons, isT_tree x d L (hd x List.mem_cons_self) (by omega), isT_trees l d (L - knots x) (fun y hy => hd y (List.mem_cons_of_mem _ hy)) (by omega), knotsL]
    refine Prod.ext (by simp [List.replicate_succ]) ?_
    show L - (knots x : Int) - (knotsL l : Int) = L - ((knots x + knotsL l : Nat) : Int)
    omega
end
mutual
def fitTh : Th → Prop
  | .no => True
  | .li l => l.length ≤ lim ∧ fitThL l
def fitThL : List Th → Prop
  | [] => True
  | x :: l => fitTh x ∧ fitThL l
end
theorem fitTh_li {l : List Th} : fitTh (.li l) = (l.length ≤ lim ∧ fitThL l) := by rw [fitTh]
theorem fitThL_mem : ∀ {l : List Th}, fitThL l → ∀ x, x ∈ l → fitTh x
  | [], _, x, h => by cases h
  | y :: l, k, x, h => by
    rw [fitThL] at k
    rcases List.mem_cons.mp h with e | h
    · rw [e]; exact k.1
    · exact fitThL_mem k.2 x h
theorem toThL_len : ∀ l : List Tt, (toThL l).length = l.length
  | [] => by rw [toThL]; rfl
  | x :: l => by rw [toThL, List.length_cons, List.length_cons, toThL_len l]
mutual
theorem fit_toTh : ∀ t : Tt, fit t → fitTh (toTh t)
  | .mk l, h => by rw [fit_mk] at h; rw [toTh, fitTh_li, toThL_len]; exact ⟨h.1, fit_toThL l h.2⟩
theorem fit_toThL : ∀ l : List Tt, fitL l → fitThL (toThL l)
  | [], _ => by rw [toThL, fitThL]; trivial
  | x :: l, h => by rw [fitL] at h; rw [toThL, fitThL]; exact ⟨fit_toTh x h.1, fit_toThL l h.2⟩
end
theorem knotsL_len : ∀ l : List Tt, l.length ≤ knotsL l
  | [] => by simp [knotsL]
  | x :: l => by rw [knotsL, List.length_cons]; have := knotsL_len l; have := knots_pos x; omega
theorem knotsL_mem : ∀ {l : List Tt} {x : Tt}, x ∈ l → knots x ≤ knotsL l
  | y :: l, x, h => by
    rw [knotsL]
    rcases List.mem_cons.mp h with e | h
    · rw [e]; omega
    · have := knotsL_mem h; omega
theorem fit_of_knots {n : Nat} (hn : n ≤ lim) : ∀ (t : Tt), knots t ≤ n → fit t := by
  intro t
  induction t using Tt.ind with
  | h l ih =>
    intro h
    rw [knots] at h
    rw [fit_mk]
    have := knotsL_len l
    refine ⟨by omega, fitL_iff.mpr fun x hx => ih x hx ?_⟩
    have := knotsL_mem hx
    omega
/-- a tree to be asked with -/
def okT (t : Tt) : Prop := knots t ≤ 300 ∧ depth t ≤ 40
theorem okT.fit {t : Tt} (h : okT t) : fit t := fit_of_knots (n := 300) (by decide) t h.1
theorem okT.dp {t : Tt} (h : okT t) : depth t < 41 := Nat.lt_succ_of_le h.2
/-- no tree to be asked with -/
def Bad (H : Hp) (v : V) : Prop := ∃ th, ThAt H v th ∧ fitTh th ∧ (isT th 0 300).1 = false
theorem Bad.same {H H' : Hp} {v : V} (s : Same H H') (h : Bad H v) : Bad H' v := let ⟨th, a, b, c⟩ := h; ⟨th, ThAt.same s th a, b, c⟩
end Hg
/-! Trees as data: == of trees. -/
namespace Hg
open PySem L2
mutual
def toD : Tt → PyData
  | .mk l => .list (toDL l)
def toDL : List Tt → List PyData
  | [] => []
  | x :: l => toD x :: toDL l
end
theorem toD_mk (l : List Tt) : toD (.mk l) = .list (toDL l) := by rw [toD]
mutual
theorem TreeAt.dp {K : PySem.W.Frag} {H : Hp} : ∀ {v : V} (t : Tt), TreeAt H v t → Dp K H v (toD t)
  | v, .mk bs, h => by
    rw [treeAt_mk] at h
    obtain ⟨a, vs, e, h1, h2⟩ := h
    subst e
    rw [toD]
    exact .lst (SqL.of h1) (TreesAt.dp bs h2)
theorem TreesAt.dp {K : PySem.W.Frag} {H : Hp} : ∀ {vs : List V} (ts : List Tt), TreesAt H vs ts → DpAll K H vs (toDL ts)
  | vs, [], h => by rw [treesAt_nil] at h; subst h; rw [toDL]; exact .nil
  | vs, b :: bs, h => by
    rw [treesAt_cons] at h
    obtain ⟨v, vs', e, h1, h2⟩ := h
    subst e
    rw [toDL]
    exact .cons (TreeAt.dp b h1) (TreesAt.dp bs h2)
end
mutual
theorem toD_lay : ∀ t : Tt, (toD t).canLay0 = true
  | .mk l => by rw [toD, PyData.canLay0]; exact toDL_lay l
theorem toDL_lay : ∀ l : List Tt, PyData.canLayAll0 (toDL l) = true
  | [] => by rw [toDL, PyData.canLayAll0]
  | x :: l => by rw [toDL, PyData.canLayAll0, toD_lay x, toDL_lay l]; rfl
end
mutual
theorem toD_depth : ∀ t : Tt, (toD t).depth = depth t + 1
  | .mk l => by rw [toD, PyData.depth, toDL_depth l, depth]
theorem toDL_depth : ∀ l : List Tt, PyData.depthAll (toDL l) = depthL l
  | [] => by rw [toDL, PyData.depthAll, depthL]
  | x :: l => by rw [toDL, PyData.depthAll, toD_depth x, toDL_depth l, depthL]
end
theorem shaped_tree {t : Tt} (h : depth t ≤ 63) : SeqAt.shaped (toD t) = true := by
  show ((toD t).canLay0 && decide ((toD t).depth ≤ 64)) = true
  rw [toD_lay, toD_depth, Bool.true_and]
  exact decide_eq_true (by omega)
mutual
theorem eqv_tree : ∀ t s : Tt, PyData.eqv (toD t) (toD s) = true ↔ t = s
  | .mk l, .mk m => by
    rw [toD, toD, PyData.eqv]
    rw [eqv_trees l m]
    constructor
    · intro e; rw [e]
    · intro e; injection e
theorem eqv_trees : ∀ l m : List Tt, PyData.eqvAll (toDL l) (toDL m) = true ↔ l = m
  | [], [] => by simp [toDL, PyData.eqvAll]
  | [], y :: m => by simp [toDL, PyData.eqvAll]
  | x :: l, [] => by simp [toDL, PyData.eqvAll]
  | x :: l, y :: m => by
    rw [toDL, toDL, PyData.eqvAll, Bool.and_eq_true, eqv_tree x y, eqv_trees l m]
    constructor
    · rintro ⟨e1, e2⟩; rw [e1, e2]
    · intro e; injection e with e1 e2; exact ⟨e1, e2⟩
end
instance : DecidableEq Tt := fun a b => decidable_of_iff (PyData.eqv (toD a) (toD b) = true) (eqv_tree a b)
theorem eqv_dec (t s : Tt) : PyData.eqv (toD t) (toD s) = decide (t = s) := by
  by_cases h : t = s
  · rw [decide_eq_true h]; exact (eqv_tree t s).mpr h
  · rw [decide_eq_false h]
    exact Bool.eq_false_iff.mpr fun e => h ((eqv_tree t s).mp e)
/-- == of two trees -/
theorem eq_trees {K : PySem.W.Frag} {H : Hp} {v u : V} {t s : Tt} {Q : VK} (h1 : TreeAt H v t) (h2 : TreeAt H u s) (d1 : depth t ≤ 63) (d2 : depth s ≤ 63) (q : Q (.bl (decide (t = s))) H) : rEqD K v u H Q :=
  ⟨_, _, TreeAt.dp t h1, TreeAt.dp s h2, shaped_tree d1, shaped_tree d2, by rw [eqv_dec]; exact q⟩
theorem ne_trees {K : PySem.W.Frag} {H : Hp} {v u : V} {t s : Tt} {Q : VK} (h1 : TreeAt H v t) (h2 : TreeAt H u s) (d1 : depth t ≤ 63) (d2 : depth s ≤ 63) (q : Q (.bl (!decide (t = s))) H) : rNeD K v u H Q :=
  ⟨_, _, TreeAt.dp t h1, TreeAt.dp s h2, shaped_tree d1, shaped_tree d2, by rw [eqv_dec]; exact q⟩
theorem nil_tree {H : Hp} {p : Addr} (h : H p = some (.lst [])) : TreeAt H (.ref p) (.mk []) := by rw [treeAt_mk]; exact ⟨p, [], rfl, h, by rw [treesAt_nil]⟩
end Hg
/-! Lists of whole numbers as data. -/
namespace Hg
open PySem L2
theorem dpInts {K : PySem.W.Frag} {H : Hp} : ∀ ns : List Int, DpAll K H (ns.map V.int) (ns.map PyData.int)
  | [] => .nil
  | n :: ns => .cons (.int n) (dpInts ns)
theorem intsLay : ∀ ns : List Int, PyData.canLayAll0 (ns.map PyData.int) = true
  | [] => by rw [List.map_nil, PyData.canLayAll0]
  | n :: ns => by rw [List.map_cons, PyData.canLayAll0, PyData.canLay0, intsLay ns]; rfl
theorem intsDepth : ∀ ns : List Int, PyData.depthAll (ns.map PyData.int) = 0
  | [] => by rw [List.map_nil, PyData.depthAll]
  | n :: ns => by rw [List.map_cons, PyData.depthAll, PyData.depth, intsDepth ns]; rfl
theorem intsShaped (ns : List Int) : SeqAt.shaped (.list (ns.map PyData.int)) = true := by
  show (PyData.canLay0 (.list (ns.map PyData.int)) && decide (PyData.depth (.list (ns.map PyData.int)) ≤ 64)) = true
  rw [PyData.canLay0, PyData.depth, intsLay, intsDepth]
  rfl
theorem intsEqv : ∀ ns ms : List Int, PyData.eqvAll (ns.map PyData.int) (ms.map PyData.int) = decide (ns = ms)
  | [], [] => by simp [PyData.eqvAll]
  | [], m :: ms => by simp [PyData.eqvAll]
  | n :: ns, [] => by simp [PyData.eqvAll]
  | n :: ns, m :: ms => by
    rw [List.map_cons, List.map_cons, PyData.eqvAll, PyData.eqv, intsEqv ns ms]
    by_cases h : n = m
    · subst h; simp
    · simp [h]
/-- == and != of two lists of ints -/
theorem eq_ints {K : PySem.W.Frag} {H : Hp} {a b : Addr} {ns ms : List Int} {Q : VK} (h1 : SqL K H a (ns.map V.int)) (h2 : SqL K H b (ms.map V.int)) (q : Q (.bl (decide (ns = ms))) H) : rEqD K (.ref a) (.ref b) H Q :=
  ⟨_, _, .lst h1 (dpInts ns), .lst h2 (dpInts ms), intsShaped ns, intsShaped ms, by rw [PyData.eqv, intsEqv]; exact q⟩
theorem ne_ints {K : PySem.W.Frag} {H : Hp} {a b : Addr} {ns ms : List Int} {Q : VK} (h1 : SqL K H a (ns.map V.int)) (h2 : SqL K H b (ms.map V.int)) (q : Q (.bl (!decide (ns = ms))) H) : rNeD K (.ref a) (.ref b) H Q :=
  ⟨_, _, .lst h1 (dpInts ns), .lst h2 (dpInts ms), intsShaped ns, intsShaped ms, by rw [PyData.eqv, intsEqv]; exact q⟩
end Hg
/-! A tree in the heap that gets one more branch; bits of numbers. -/
namespace Hg
open PySem L2
theorem knotsL_append : ∀ l m : List Tt, knotsL (l ++ m) = knotsL l + knotsL m
  | [], m => by rw [List.nil_append, knotsL]; omega
  | x :: l, m => by rw [List.cons_append, knotsL, knotsL, knotsL_append l m]; omega
theorem depthL_append : ∀ l m : List Tt, depthL (l ++ m) = max (depthL l) (depthL m)
  | [], m => by rw [List.nil_append, depthL]; omega
  | x :: l, m => by rw [List.cons_append, depthL, depthL, depthL_append l m]; omega
theorem Owns.splitV {H : Hp} : ∀ {v1 v2 : List V} {ts : List Tt} {as : List Addr}, Owns H (v1 ++ v2) ts as → ∃ t1 t2 a1 a2, ts = t1 ++ t2 ∧ as = a1 ++ a2 ∧ Owns H v1 t1 a1 ∧ Owns H v2 t2 a2
  | [], v2, ts, as, h => ⟨[], ts, [], as, rfl, rfl, by rw [owns_nil]; exact ⟨rfl, rfl⟩, h⟩
  | v :: v1, v2, [], as, h => by rw [owns_nil] at h; cases h.1
  | v :: v1, v2, t :: ts, as, h => by
    rw [owns_cons] at h
    obtain ⟨v', vs', a1, a2, e, rfl, o1, o2⟩ := h
    rw [List.cons_append] at e
    injection e with e1 e2
    subst e1 e2
    obtain ⟨t1, t2, b1, b2, rfl, rfl, k1, k2⟩ := Owns.splitV o2
    exact ⟨t :: t1, t2, a1 ++ b1, b2, rfl, (List.append_assoc _ _ _).symm, by rw [owns_cons]; exact ⟨v, v1, a1, b1, rfl, rfl, o1, k1⟩, k2⟩
section
variable {H H' : Hp} {a p : Addr} {l r : List V}
mutual
theorem Own.graft (hk : ∀ b, b ≠ a → ∀ o, H b = some o → H' b = some o) (ha : H a = some (.lst (l ++ r))) (ha' : H' a = some (.lst (l ++ .ref p :: r))) (hp : H' p = some (.lst [])) :
    ∀ {v : V} (t : Tt) {as : List Addr}, Own H v t as → as.Nodup → a ∈ as → ∃ t' as', Own H' v t' as' ∧ as'.Perm (p :: as) ∧ knots t' = knots t + 1 ∧ depth t' ≤ depth t + 1
  | v, .mk bs, as, h, nd, hm => by
    rw [own_mk] at h
    obtain ⟨b, vs, as', rfl, rfl, hb, ow⟩ := h
    obtain ⟨nb, nd'⟩ := List.nodup_cons.mp nd
    by_cases e : b = a
    · subst e
      rw [hb] at ha
      injection ha with ha
      injection ha with ha
      subst ha
      obtain ⟨t1, t2, a1, a2, rfl, rfl, o1, o2⟩ := ow.splitV
      refine ⟨.mk (t1 ++ .mk [] :: t2), b :: (a1 ++ (p :: a2)), ?_, ?_, ?_, ?_⟩
      · rw [own_mk]
        refine ⟨b, _, _, rfl, rfl, ha', Owns.append (Owns.frame _ o1 fun c hc o q => hk c (fun z => nb (by rw [← z]; exact List.mem_append_left _ hc)) o q) ?_⟩
        rw [owns_cons]
        refine ⟨.ref p, r, [p], a2, rfl, rfl, ?_, Owns.frame _ o2 fun c hc o q => hk c (fun z => nb (by rw [← z]; exact List.mem_append_right _ hc)) o q⟩
        rw [own_mk]
        exact ⟨p, [], [], rfl, rfl, hp, by rw [owns_nil]; exact ⟨rfl, rfl⟩⟩
      · refine (List.Perm.cons b (List.perm_middle (l₁ := a1) (a := p) (l₂ := a2))).trans (List.Perm.swap p b _)
      · rw [knots, knots, knotsL_append, knotsL_append, knotsL, knots, knotsL]; omega
      · rw [depth, depth, depthL_append, depthL_append, depthL, depth, depthL]; omega
    · have hm' : a ∈ as' := by
        rcases List.mem_cons.mp hm with z | z
        · exact absurd z.symm e
        · exact z
      obtain ⟨ts', as2, o, pm, k, d⟩ := Owns.graft hk ha ha' hp bs ow nd' hm'
      refine ⟨.mk ts', b :: as2, ?_, (pm.cons b).trans (List.Perm.swap p b _), ?_, ?_⟩
      · rw [own_mk]; exact ⟨b, vs, as2, rfl, rfl, hk b e _ hb, o⟩
      · rw [knots, knots, k]; omega
      · rw [depth, depth]; exact d
theorem Owns.graft (hk : ∀ b, b ≠ a → ∀ o, H b = some o → H' b = some o) (ha : H a = some (.lst (l ++ r))) (ha' : H' a = some (.lst (l ++ .ref p :: r))) (hp : H' p = some (.lst [])) :
    ∀ {vs : List V} (ts : List Tt) {as : List Addr}, Owns H vs ts as → as.Nodup → a ∈ as → ∃ ts' as', Owns H' vs ts' as' ∧ as'.Perm (p :: as) ∧ knotsL ts' = knotsL ts + 1 ∧ depthL ts' ≤ depthL ts + 1
  | vs, [], as, h, nd, hm => by rw [owns_nil] at h; rw [h.2] at hm; cases hm
  | vs, b :: bs, as, h, nd, hm => by
    rw [owns_cons] at h
    obtain ⟨v, vs', a1, a2, rfl, rfl, o1, o2⟩ := h
    obtain ⟨n1, n2, dis⟩ := List.nodup_append.mp nd
    by_cases hm1 : a ∈ a1
    · obtain ⟨t', as1, o, pm, k, d⟩ := Own.graft hk ha ha' hp b o1 n1 hm1
      refine ⟨t' :: bs, as1 ++ a2, ?_, (pm.append_right a2), ?_, ?_⟩
      · rw [owns_cons]
        exact ⟨v, vs', as1, a2, rfl, rfl, o, Owns.frame _ o2 fun c hc u q => hk c (fun z => dis a hm1 c hc z.symm) u q⟩
      · rw [knotsL, knotsL, k]; omega
      · rw [depthL, depthL]; omega
    · have hm2 : a ∈ a2 := by
        rcases List.mem_append.mp hm with z | z
        · exact absurd z hm1
        · exact z
      obtain ⟨ts', as2, o, pm, k, d⟩ := Owns.graft hk ha ha' hp bs o2 n2 hm2
      refine ⟨b :: ts', a1 ++ as2, ?_, ?_, ?_, ?_⟩
      · rw [owns_cons]
        exact ⟨v, vs', a1, as2, rfl, rfl, Own.frame _ o1 fun c hc u q => hk c (fun z => dis c hc a hm2 z) u q, o⟩
      · exact (pm.append_left a1).trans List.perm_middle
      · rw [knotsL, knotsL, k]; omega
      · rw [depthL, depthL]; omega
end
end
/-- fewer than k bits -/
def Bits (i : Int) (k : Nat) : Prop := i.natAbs < 2 ^ k
theorem Bits.mono {i : Int} {a b : Nat} (h : Bits i a) (l : a ≤ b) : Bits i b := Nat.lt_of_lt_of_le h (Nat.pow_le_pow_right (by decide) l)
theorem Bits.add {i j : Int} {a : Nat} (h : Bits i a) (k : Bits j a) : Bits (i + j) (a + 1) := by
  unfold Bits at *
  have := Int.natAbs_add_le i j
  rw [Nat.pow_succ]
  omega
theorem Bits.mul {i j : Int} {a b : Nat} (h : Bits i a) (k : Bits j b) : Bits (i * j) (a + b) := by
  unfold Bits at *
  rw [Int.natAbs_mul, Nat.pow_add]
  exact Nat.mul_lt_mul'' h k
theorem Bits.le {i j : Int} {a : Nat} (h : Bits j a) (l : i.natAbs ≤ j.natAbs) : Bits i a := Nat.lt_of_le_of_lt l h
theorem Bits.div {i j : Int} {a : Nat} (h : Bits i a) : Bits (i / j) a := h.le (Int.natAbs_ediv_le_natAbs i j)
theorem Bits.lt {i : Int} {n a : Nat} (h0 : 0 ≤ i) (h : i < n) (hn : n ≤ 2 ^ a) : Bits i a := by
  unfold Bits
  omega
theorem Bits.mulX {i j : Int} {a b : Nat} (h : Bits i a) (k : Bits j b) (l : a + b < 100000000) : CMulX i j := Hg.mulX h k l
theorem Bits.of_bits {i : Int} {k : Nat} (h : Builtin.Int.intBits i ≤ k) : Bits i k := by
  unfold Bits
  unfold Builtin.Int.intBits at h
  by_cases h0 : i = 0
  · subst h0
    exact Nat.pos_of_neZero (2 ^ k)
  · have h1 : (i == 0) = false := by simpa using h0
    rw [h1, if_neg Bool.false_ne_true] at h
    have h2 : i.natAbs ≠ 0 := by omega
    exact Nat.lt_of_lt_of_le ((Nat.log2_lt h2).mp (Nat.lt_succ_self _)) (Nat.pow_le_pow_right (by decide) h)
end Hg
/-! Written trees. -/
namespace Hg
open PySem L2
def LitE (te : TE) (t : Tt) : Prop := ∀ (σ : St) (H : Hp) (Q : VK), (∀ H' v, Same H H' → TreeAt H' v t → Q v H') → te σ H Q
def LitA (ta : TA) (ts : List Tt) : Prop := ∀ (σ : St) (H : Hp) (Q : List V → Hp → Prop), (∀ H' vs, Same H H' → TreesAt H' vs ts → Q vs H') → ta σ H Q
theorem lit_nil : LitA tNil [] := fun σ H Q h => h H [] (Same.refl H) (by rw [treesAt_nil])
theorem treesAt_c {H : Hp} {v : V} {vs : List V} {t : Tt} {ts : List Tt} (h : TreeAt H v t) (k : TreesAt H vs ts) : TreesAt H (v :: vs) (t :: ts) := by
  rw [treesAt_cons]; exact ⟨v, vs, rfl, h, k⟩
theorem lit_cons {te : TE} {ta : TA} {t : Tt} {ts : List Tt} (h : LitE te t) (k : LitA ta ts) : LitA (tCons te ta) (t :: ts) := fun σ H Q q =>
  h σ H _ fun H1 v s1 h1 => k σ H1 _ fun H2 vs s2 h2 => q H2 (v :: vs) (s1.trans s2) (treesAt_c (TreeAt.same s2 t h1) h2)
theorem lit_lst {ta : TA} {ts : List Tt} (k : LitA ta ts) (hl : ts.length ≤ lim := by decide) : LitE (tLst ta) (.mk ts) := fun σ H Q q =>
  k σ H _ fun H1 vs s1 h1 => ⟨Nat.le_of_lt (lim_line (by rw [h1.len]; exact hl)), fun p np => q _ _ (s1.trans (same_new np _)) (by
    rw [treeAt_mk]; exact ⟨p, vs, rfl, upd_same, TreesAt.same (same_new np _) ts h1⟩)⟩
theorem lit0 : LitE (tLst tNil) (.mk []) := lit_lst lit_nil
end Hg
/-! any(list of truths) while an exception is handled (its context None); defs that raise, by L2N. -/
namespace Hg
open PySem PySem.Spec PyProof.Rows L2
theorem pyNext_list_end_hot {prog : Program} {w : World} {A : Around} {E : Value → Shared → Prop} {s : Shared} {it l x1 : Addr} {i : Nat} {items : Array Value} {Q : Option Value → Shared → Prop} (hot : HotX.HotAt A x1 s.heap)
    (hit : s.heap.IsListIter it l i) (hl : s.heap.IsList l items) (hx : items[i]? = none) (hne : x1 ≠ it)
    (hQ : ∀ h', (∀ b o, b ≠ it → s.heap.get? b = some o → h'.get? b = some o) → Q none { s with heap := h' }) : wpAny (model prog w) A (pyNext (.ref it)) Q E s := by
  obtain ⟨hh, o1, vs1, h1, d1, c1⟩ := hot
  obtain ⟨o, ho, hc, hd⟩ := id hit
  obtain ⟨ol, hol, _, nl, hdl⟩ := hl
  unfold pyNext
  refine wpAny_bind (wpAny_attempt (wpAny_callSpecial?_slot (name := Str.ofString "__next__") hit.typeIs slot_listiter_next
    (wpAny_call_entry slot_listiter_next hit.typeIs entry_listiter_next ?_ (args_listiter_next _))))
  show wpAny _ _ (field (.ref it) 0 >>= _) _ _ s
  refine wpAny_bind (wpAny_field ho hd (x := .ref l) rfl ?_)
  show wpAny _ _ (if (Value.ref l == Value.none) = true then _ else _) _ _ s
  rw [if_neg (show ¬ ((Value.ref l == Value.none) = true) from Bool.false_ne_true)]
  show wpAny _ _ (field (.ref it) 1 >>= _) _ _ s
  refine wpAny_bind (wpAny_field ho hd (x := .int i 0) rfl ?_)
  show wpAny _ _ (seqItems? (.ref l) >>= _) _ _ s
  refine wpAny_bind (wpAny_seqItems hol hdl ?_)
  simp only [Int.toNat_natCast, hx]
  refine wpAny_bind (wpAny_rule (wpAny_bind (wpAny_setField ho hd (by simp) ?_)))
  show wpAny _ _ (newExc (.type "StopIteration") [] >>= _) _ _ _
  refine wpAny_bind ?_
  simp only [newExc, newTuple]
  refine wpAny_bind (wpAny_newObj_type ?_ (by size_fits))
  refine wpAny_bind (m := firstArgMember _ _) (wpAny_of_eq (a := Value.none) (by first | rfl | (simp only [firstArgMember]; rfl)) ?_)
  refine wpAny_newObj_type ?_ (by size_fits)
  have k1 : ∀ (b : Addr) (o' : Obj), b ≠ it → s.heap.get? b = some o' → (s.heap.update it (Obj.mapFields (·.setIfInBounds 0 Value.none))).get? b = some o' := fun b o' hb e => by
    rw [Heap.get?_update_other _ _ (Ne.symm hb)]; exact e
  have h1' := k1 x1 o1 hne h1
  refine HotX.raiseNew_hot ⟨hh, o1, vs1, Heap.get?_push_of_some _ (Heap.get?_push_of_some _ h1'), d1, c1⟩ (Nat.ne_of_lt (Heap.lt_size (Heap.get?_push_of_some _ h1'))) (Heap.get?_push_size _ rfl) rfl (by first | (simp; done) | (simp; omega) | (simp only [Array.size_append]; simp; omega)) ?_
  refine wpAny_bind (wpAny_isInstance (T := "StopIteration") (b := true) ⟨_, Heap.get?_update_self _ (Heap.get?_push_size _ rfl) rfl, rfl⟩ isSubtype_stop ?_)
  refine wpAny_pure (hQ _ fun b o' hb e => ?_)
  rw [Heap.get?_update_other _ _ (Nat.ne_of_gt (Heap.lt_size (Heap.get?_push_of_some _ (k1 b o' hb e))))]
  exact Heap.get?_push_of_some _ (Heap.get?_push_of_some _ (k1 b o' hb e))
end Hg
namespace Hg
open PySem PySem.Spec PyProof.Rows L2
/-- a list walked while x1 is handled, whose context is None -/
theorem walks_hot {prog : Program} {w : World} {A : Around} {x1 : Addr} (hh : A.handled = some (.ref x1)) (I ax : Addr) (hne : ax ≠ I) (hx : x1 ≠ I) (items : Array Value) :
    Walks prog w A I [I, ax, x1] [I] items.size (fun i v => items[i]? = some v) (fun i h => (h.IsListIter I ax i ∧ h.IsList ax items) ∧ ∃ (o : Obj) (vs : Array Value), h.get? x1 = some o ∧ o.data = .fields vs ∧ vs[2]? = some .none) where
  sub := fun b hb => by simp at hb; simp [hb]
  frame := fun _ _ _ st hk => by
    obtain ⟨⟨s1, s2⟩, o, vs, h1, h2⟩ := st
    exact ⟨⟨s1.at fun o e => hk I (by simp) o e, s2.at fun o e => hk ax (by simp) o e⟩, o, vs, hk x1 (by simp) o h1, h2⟩
  item := fun i s Q E hi st hQ => by
    obtain ⟨st, o, vs, h1, h2⟩ := st
    refine wpAny_pyNext_list_item st.1 st.2 (x := items[i]) (by simp [hi]) fun h' hit' hs' => ?_
    exact hQ _ h' s.toks (by simp [hi]) ⟨⟨hit', st.2.extBut hs'.extBut hne⟩, o, vs, hs'.extBut x1 o hx h1, h2⟩ fun b o hb e => hs'.extBut b o (fun h => hb (by simp [h])) e
  done := fun s Q E st hQ => by
    obtain ⟨st, o, vs, h1, h2⟩ := st
    exact pyNext_list_end_hot ⟨hh, o, vs, h1, h2⟩ st.1 st.2 (by simp) hx fun h' he' => hQ h' s.toks fun b o hb e => he' b o (fun h => hb (by simp [h])) e
  self := fun _ _ _ _ st hQ => wpAny_pyIter_listiter st.1.1 hQ
/-- any(list of truths) within an except suite -/
theorem call_any_hot {X : Cx} {a : Addr} {oe : Obj} {cls : Value} {d : Option Addr} {pn : List (Addr × Obj)} (hz : L2N.Zn cls d oe) (hf : ∃ vs, oe.data = .fields vs) :
    CallR (X.suite a ((a, oe) :: pn)) (.builtin "any") (rAny X.K) := by
  intro pins s σ H vs us Q I r h
  obtain ⟨b, bs, rfl, hs, q⟩ := h
  obtain ⟨its, rv, hl, _⟩ := I.list hs
  rw [Vals.ref1 r]
  have hb := rv.bls
  obtain ⟨hget, _⟩ := I.pin (a, oe) (List.mem_append.mpr (.inl List.mem_cons_self))
  obtain ⟨fs, hfs⟩ := hf
  have hctx := hz.2.2 fs hfs
  have na : a ≠ s.heap.objs.size := Nat.ne_of_lt (Heap.lt_size hget)
  refine call_any_walk (iter_any hl.isList fun s₂ e2 st hne => ?_)
  subst e2
  refine ⟨_, _, _, _, _, _, _, rfl, walks_hot (A := (X.suite a ((a, oe) :: pn)).A.in1) (x1 := a) rfl _ b hne na its.toArray, ⟨st, oe, fs, Heap.get?_push_of_some _ hget, hfs, hctx⟩, truth_bools hb, fun h' tk hk => ?_⟩
  refine ⟨.bl _, H, I.kept fun c o eo => hk c o (fun hmem => ?_) (Heap.get?_push_of_some _ eo), ?_, q⟩
  · rcases List.mem_cons.mp hmem with e1 | hmem
    · exact absurd (e1 ▸ Heap.lt_size eo) (Nat.lt_irrefl _)
    · cases hmem
  · show Value.bool _ = Value.bool _
    rw [← L2.any_range, hb, List.size_toArray, List.length_map]
theorem passLN {X : Cx} : Passes (L2N.CX X.prog X.w) X E0 := fun _ _ _ _ _ _ _ h => by
  obtain ⟨_, _, _, _, _, _, _, _, _, _, _, _, z⟩ := h
  exact z.elim
theorem takesN0 {X : Cx} : L2N.Takes X (fun _ _ _ _ => False) := fun _ _ x => by
  obtain ⟨_, _, _, _, _, _, _, _, _, _, _, _, _, _, _, _, z⟩ := x
  exact z.elim
section
variable {P : Program} {w : World} {K : PySem.W.Frag} {mg : Str → Option Value} {base : Heap}
/-- a def that may raise -/
theorem okN {x qual : Str} {st : Stmt} {f : Addr} {fd : FuncData} {N ps : List Str} {k : Nat} {sp : Sp} (F : Fun K x qual st f fd) (S : FnScope N ps (defScope st)) (len : ∀ vs H Q E, sp vs H Q E → vs.length = ps.length)
    (hbody : ∀ (cdv : Value) (A : Around) (outer : List Env) (s : Shared) (H : Hp) (vs : List V) (Q : VK) (E : XK), Room k (A.deeper (envOfC qual (defScope st) s.heap.objs.size f cdv)) → sp vs H Q E →
      ∃ t, PSs (cxOf (L2N.CX P w) P w K mg base N qual (defScope st) f cdv A outer s H E) (defBody st) t ∧ t { nx := fun _ H' => Q .non H', rt := Q } (start N vs) H) : FnOk P w K mg base (L2N.CX P w) (k + 1) f fd ps sp := by
  obtain ⟨oc, od, kV, doc, pm, an, cdv, ct, osl, rfl, lk, hcd⟩ := F.ex
  exact fn_of lk hcd S len fun A outer s H vs Q E hr hsp => hbody cdv A outer s H vs Q E hr hsp
end
end Hg
/-! isinstance of a caught error whose class is told by what is known; str * int. -/
namespace Hg
open PySem L2
def rIsEx (K : PySem.W.Frag) (a : Addr) (cls : Value) (d : Option Addr) : List V → Hp → VK → Prop := fun xs H Q => ∃ (D : Addr) (c : V) (cv : Value) (b : Bool), cls = .ref D ∧ d = none ∧ ExcC K D ∧ xs = [.ref a, c] ∧ (∀ u, RelV c u → u = cv) ∧ PySem.W.kitOne K (.ref D) cv = some b ∧ Q (.bl b) H
theorem call_isEx {X : Cx} {a : Addr} {oe : Obj} {cls : Value} {d : Option Addr} {pn : List (Addr × Obj)} (hz : L2N.Zn cls d oe) (hf : ∃ vs, oe.data = .fields vs) :
    CallR (X.suite a ((a, oe) :: pn)) (.builtin "isinstance") (rIsEx X.K a cls d) := by
  intro pins s σ H xs us Q I r h
  obtain ⟨D, c, cv, b, rfl, rfl, C, e1, e2, e3, q⟩ := h
  exact call_isE C hz.zc hf pins s σ H xs us Q I r ⟨c, cv, b, e1, e2, e3, q⟩
theorem kit_mk {K : PySem.W.Frag} {D C : Addr} {b : Bool} (i : PySem.W.isClsIn K C = true) (t : PySem.W.typeIn K (.ref C) = some (.type "type")) (s : PySem.W.subIn K (.ref D) (.ref C) = some b) (d : PySem.W.subIn K (.ref D) (.ref D) = some true) : PySem.W.kitOne K (.ref D) (.ref C) = some b := by
  unfold PySem.W.kitOne
  by_cases h : D = C
  · subst h
    rw [d] at s
    rw [if_pos (by simp)]
    exact s
  · rw [if_neg (by simpa using h)]
    unfold PySem.W.kitCls
    unfold PySem.W.isClsIn at i
    have e : ((PySem.W.clsIn K C).isSome && PySem.W.typeIn K (.ref C) == some (.type "type")) = true := by rw [i, t]; rfl
    show (if ((PySem.W.clsIn K C).isSome && PySem.W.typeIn K (.ref C) == some (.type "type")) = true then PySem.W.subIn K (.ref D) (.ref C) else none) = _
    rw [if_pos e]
    exact s
theorem kit_mkT {K : PySem.W.Frag} {D : Addr} {T : String} {b : Bool} (i : PySem.W.kitMeta T = true) (s : PySem.W.subIn K (.ref D) (.type T) = some b) : PySem.W.kitOne K (.ref D) (.type T) = some b := by
  unfold PySem.W.kitOne
  rw [if_neg (by simp)]
  show (if PySem.W.kitMeta T = true then PySem.W.subIn K (.ref D) (.type T) else none) = _
  rw [if_pos i]
  exact s
/-- text * int -/
def rRepS : R2 := fun x y H Q => ∃ z k, x = .str z ∧ y = .int k ∧ MulOk z k ∧ Q (.str (Txt.mul z k)) H
theorem op_repS {X : Cx} : OpR X (binaryOp .Mult) rRepS := by
  intro pins s σ H x y v u Q I rx ry h
  obtain ⟨z, k, rfl, rfl, hok, q⟩ := h
  obtain ⟨t, rfl⟩ := rx
  obtain ⟨t', rfl⟩ := ry
  exact PySem.SB.mul hok fun t' k => ⟨.str _, H, I.tok k, ⟨t', rfl⟩, q⟩
end Hg
/-! Trees as texts of brackets (40, 41). -/
namespace Hg
open PySem L2
mutual
def txt : Tt → List Nat
  | .mk l => txtL l
def txtL : List Tt → List Nat
  | [] => []
  | x :: l => 40 :: (txt x ++ 41 :: txtL l)
end
theorem txt_mk (l : List Tt) : txt (.mk l) = txtL l := by rw [txt]
theorem txtL_nil : txtL [] = [] := by rw [txtL]
theorem txtL_cons (x : Tt) (l : List Tt) : txtL (x :: l) = 40 :: (txt x ++ 41 :: txtL l) := by rw [txtL]
theorem txtL_append : ∀ l m : List Tt, txtL (l ++ m) = txtL l ++ txtL m
  | [], m => by rw [txtL_nil]; rfl
  | x :: l, m => by rw [List.cons_append, txtL_cons, txtL_cons, txtL_append l m]; simp
def brk (l : List Nat) : Prop := ∀ c, c ∈ l → c = 40 ∨ c = 41
mutual
theorem txt_brk : ∀ t : Tt, brk (txt t)
  | .mk l => by rw [txt]; exact txtL_brk l
theorem txtL_brk : ∀ l : List Tt, brk (txtL l)
  | [] => by rw [txtL]; intro c h; cases h
  | x :: l => by
    rw [txtL]
    intro c h
    rcases List.mem_cons.mp h with e | h
    · exact .inl e
    · rcases List.mem_append.mp h with h | h
      · exact txt_brk x c h
      · rcases List.mem_cons.mp h with e | h
        · exact .inr e
        · exact txtL_brk l c h
end
mutual
theorem txt_len : ∀ t : Tt, (txt t).length + 2 = 2 * knots t
  | .mk l => by rw [txt, knots]; have := txtL_len l; omega
theorem txtL_len : ∀ l : List Tt, (txtL l).length = 2 * knotsL l
  | [] => by rw [txtL, knotsL]; rfl
  | x :: l => by
    rw [txtL, knotsL, List.length_cons, List.length_append, List.length_cons]
    have := txt_len x; have := txtL_len l
    omega
end
mutual
theorem txt_count : ∀ t : Tt, (txt t).count 40 + 1 = knots t
  | .mk l => by rw [txt, knots, txtL_count l]; omega
theorem txtL_count : ∀ l : List Tt, (txtL l).count 40 = knotsL l
  | [] => by rw [txtL, knotsL]; rfl
  | x :: l => by
    rw [txtL, knotsL, List.count_cons_self, List.count_append, List.count_cons_of_ne (by decide), txtL_count l]
    have := txt_count x
    omega
end
mutual
theorem depth_knots : ∀ t : Tt, depth t + 1 ≤ knots t
  | .mk l => by rw [depth, knots]; have := depthL_knots l; omega
theorem depthL_knots : ∀ l : List Tt, depthL l ≤ knotsL l
  | [] => by rw [depthL, knotsL]; exact Nat.le_refl _
  | x :: l => by
    rw [depthL, knotsL]
    have := depth_knots x; have := depthL_knots l
    omega
end
/-! ### reading -/
/-- the open ones, the innermost first -/
abbrev Stk := List (List Tt)
def step1 (st : Stk) (c : Nat) : Option Stk :=
  if c = 40 then some ([] :: st) else match st with
    | b :: p :: r => some ((p ++ [.mk b]) :: r)
    | _ => none
def rdS : Stk → List Nat → Option Stk
  | st, [] => some st
  | st, c :: l => (step1 st c).bind fun s => rdS s l
/-- .. never more than 41 open -/
def rdL : Stk → List Nat → Option Stk
  | st, [] => some st
  | st, c :: l => (step1 st c).bind fun s => if 41 < s.length then none else rdL s l
theorem rdS_cons (st : Stk) (c : Nat) (l : List Nat) : rdS st (c :: l) = (step1 st c).bind fun s => rdS s l := rfl
theorem rdL_cons (st : Stk) (c : Nat) (l : List Nat) : rdL st (c :: l) = (step1 st c).bind fun s => if 41 < s.length then none else rdL s l := rfl
theorem rdL_rdS : ∀ (l : List Nat) (st x : Stk), rdL st l = some x → rdS st l = some x
  | [], st, x, h => h
  | c :: l, st, x, h => by
    rw [rdL_cons] at h
    rw [rdS_cons]
    cases e : step1 st c with
    | none => rw [e] at h; cases h
    | some s =>
      rw [e, Option.bind_some] at h
      rw [Option.bind_some]
      by_cases hl : 41 < s.length
      · rw [if_pos hl] at h; cases h
      · rw [if_neg hl] at h; exact rdL_rdS l s x h
theorem rdL_append : ∀ (l m : List Nat) (st : Stk), rdL st (l ++ m) = (rdL st l).bind fun s => rdL s m
  | [], m, st => rfl
  | c :: l, m, st => by
    rw [List.cons_append, rdL_cons, rdL_cons]
    cases step1 st c with
    | none => rfl
    | some s =>
      rw [Option.bind_some, Option.bind_some]
      by_cases hl : 41 < s.length
      · rw [if_pos hl, if_pos hl]; rfl
      · rw [if_neg hl, if_neg hl]; exact rdL_append l m s
theorem rdS_append : ∀ (l m : List Nat) (st : Stk), rdS st (l ++ m) = (rdS st l).bind fun s => rdS s m
  | [], m, st => rfl
  | c :: l, m, st => by
    rw [List.cons_append, rdS_cons, rdS_cons]
    cases step1 st c with
    | none => rfl
    | some s => rw [Option.bind_some, Option.bind_some]; exact rdS_append l m s
/-- what has been read so far -/
def stT : Stk → List Nat
  | [] => []
  | [s] => txtL s
  | s :: t :: r => stT (t :: r) ++ 40 :: txtL s
theorem stT_two (s t : List Tt) (r : Stk) : stT (s :: t :: r) = stT (t :: r) ++ 40 :: txtL s := rfl
theorem step1_txt {st s : Stk} {c : Nat} (hn : st ≠ []) (hc : c = 40 ∨ c = 41) (h : step1 st c = some s) : s ≠ [] ∧ stT s = stT st ++ [c] := by
  unfold step1 at h
  rcases hc with e | e
  · subst e
    rw [if_pos rfl] at h
    cases h
    cases st with
    | nil => exact absurd rfl hn
    | cons a r => exact ⟨by simp, by rw [stT_two, txtL_nil]⟩
  · subst e
    rw [if_neg (by decide)] at h
    cases st with
    | nil => cases h
    | cons b r =>
      cases r with
      | nil => cases h
      | cons p r =>
        cases h
        refine ⟨by simp, ?_⟩
        have ep : txtL (p ++ [.mk b]) = txtL p ++ (40 :: txtL b ++ [41]) := by
          rw [txtL_append, txtL_cons, txtL_nil, txt_mk]; simp
        cases r with
        | nil =>
          show txtL (p ++ [.mk b]) = stT [b, p] ++ [41]
          rw [stT_two, ep]
          show _ = (txtL p ++ 40 :: txtL b) ++ [41]
          simp
        | cons q r =>
          rw [stT_two, stT_two, stT_two, ep]
          simp
theorem rdS_txt : ∀ (l : List Nat) (st s : Stk), st ≠ [] → brk l → rdS st l = some s → s ≠ [] ∧ stT s = stT st ++ l
  | [], st, s, hn, _, h => by cases h; exact ⟨hn, by simp⟩
  | c :: l, st, s, hn, hb, h => by
    rw [rdS_cons] at h
    cases e : step1 st c with
    | none => rw [e] at h; cases h
    | some s1 =>
      rw [e, Option.bind_some] at h
      obtain ⟨h1, h2⟩ := step1_txt hn (hb c List.mem_cons_self) e
      obtain ⟨h3, h4⟩ := rdS_txt l s1 s h1 (fun d hd => hb d (List.mem_cons_of_mem _ hd)) h
      exact ⟨h3, by rw [h4, h2]; simp⟩
/-- a text that is read is the tree's -/
theorem rdS_is {l : List Nat} {t : List Tt} (hb : brk l) (h : rdS [[]] l = some [t]) : l = txtL t := by
  have := (rdS_txt l _ _ (by simp) hb h).2
  show l = stT [t]
  rw [this]
  show l = txtL [] ++ l
  rw [txtL_nil]; rfl
mutual
theorem rdS_tree : ∀ (t : Tt) (s : List Tt) (st : Stk) (r : List Nat), rdS (s :: st) (40 :: (txt t ++ 41 :: r)) = rdS ((s ++ [t]) :: st) r
  | .mk l, s, st, r => by
    rw [rdS_cons]
    show rdS ([] :: s :: st) (txt (.mk l) ++ 41 :: r) = _
    rw [txt_mk, rdS_trees l [] (s :: st) (41 :: r), List.nil_append]
    rfl
theorem rdS_trees : ∀ (l : List Tt) (s : List Tt) (st : Stk) (r : List Nat), rdS (s :: st) (txtL l ++ r) = rdS ((s ++ l) :: st) r
  | [], s, st, r => by rw [txtL_nil, List.append_nil]; rfl
  | x :: l, s, st, r => by
    have e : txtL (x :: l) ++ r = 40 :: (txt x ++ 41 :: (txtL l ++ r)) := by rw [txtL_cons]; simp
    rw [e, rdS_tree x s st, rdS_trees l, List.append_assoc]
    rfl
end
theorem rdS_txtL (l : List Tt) : rdS [[]] (txtL l) = some [l] := by
  have h := rdS_trees l [] [] []
  rw [List.append_nil] at h
  rw [h]; rfl
/-- how deep the end will be at least -/
def W_ : Stk → Nat
  | [] => 0
  | s :: st => max (st.length + depthL s) (W_ st)
theorem depthL_app1 (l : List Tt) (t : Tt) : depthL (l ++ [t]) = max (depthL l) (depth t + 1) := by
  induction l with
  | nil => rw [List.nil_append, depthL, depthL, depthL]; omega
  | cons x l ih => rw [List.cons_append, depthL, ih, depthL]; omega
theorem step1_W {st s : Stk} {c : Nat} (h : step1 st c = some s) : W_ st ≤ W_ s := by
  unfold step1 at h
  by_cases e : c = 40
  · rw [if_pos e] at h; cases h
    show _ ≤ max _ (W_ st)
    omega
  · rw [if_neg e] at h
    cases st with
    | nil => cases h
    | cons b r =>
      cases r with
      | nil => cases h
      | cons p r =>
        cases h
        show max ((p :: r).length + depthL b) (max (r.length + depthL p) (W_ r)) ≤ max (r.length + depthL (p ++ [.mk b])) (W_ r)
        rw [depthL_app1, depth, List.length_cons]
        omega
theorem rdS_W : ∀ (l : List Nat) (st s : Stk), rdS st l = some s → W_ st ≤ W_ s
  | [], st, s, h => by cases h; exact Nat.le_refl _
  | c :: l, st, s, h => by
    rw [rdS_cons] at h
    cases e : step1 st c with
    | none => rw [e] at h; cases h
    | some s1 =>
      rw [e, Option.bind_some] at h
      exact Nat.le_trans (step1_W e) (rdS_W l s1 s h)
theorem len_W : ∀ st : Stk, st.length ≤ W_ st + 1
  | [] => by simp
  | s :: st => by
    show _ ≤ max (st.length + depthL s) (W_ st) + 1
    rw [List.length_cons]; omega
theorem rdS_rdL : ∀ (l : List Nat) (st : Stk) (t : List Tt), depthL t ≤ 40 → rdS st l = some [t] → rdL st l = some [t]
  | [], st, t, _, h => h
  | c :: l, st, t, hd, h => by
    rw [rdS_cons] at h
    rw [rdL_cons]
    cases e : step1 st c with
    | none => rw [e] at h; cases h
    | some s1 =>
      rw [e, Option.bind_some] at h
      rw [Option.bind_some]
      have h1 := rdS_W l s1 _ h
      have h2 := len_W s1
      have h3 : W_ [t] = max (0 + depthL t) 0 := rfl
      rw [if_neg (by omega)]
      exact rdS_rdL l s1 t hd h
/-! ### texts -/
def mkS (l : List Nat) : Str := ⟨l.toArray⟩
theorem mkS_append (a b : List Nat) : mkS a ++ mkS b = mkS (a ++ b) := by
  show Str.append (mkS a) (mkS b) = _
  unfold Str.append mkS
  simp
theorem mkS_len (a : List Nat) : (mkS a).length = a.length := by unfold mkS Str.length; simp
theorem mkS_inj {a b : List Nat} (h : mkS a = mkS b) : a = b := by
  unfold mkS at h
  injection h with h
  simpa using congrArg Array.toList h
theorem lit40 : Str.ofString "(" = mkS [40] := by decide +kernel
theorem lit41 : Str.ofString ")" = mkS [41] := by decide +kernel
theorem litE : Str.ofString "" = mkS [] := by decide +kernel
theorem litB : Str.ofString "()" = mkS [40, 41] := by decide +kernel
theorem join_nil : ∀ ys : List (List Nat), Txt.join (mkS []) (ys.map mkS) = mkS ys.flatten := by
  intro ys
  unfold Txt.join
  rw [StrLaws.glued_eq_join]
  induction ys with
  | nil => rfl
  | cons y ys ih =>
    cases ys with
    | nil => show mkS y = _; simp
    | cons z ys =>
      show mkS y ++ mkS [] ++ Str.join (mkS []) ((z :: ys).map mkS) = _
      rw [ih, mkS_append, mkS_append]; simp
theorem flatten_txt : ∀ l : List Tt, (l.map fun x => 40 :: (txt x ++ [41])).flatten = txtL l
  | [] => by rw [txtL_nil]; rfl
  | x :: l => by rw [List.map_cons, List.flatten_cons, flatten_txt l, txtL_cons]; simp
theorem strip_brk {l : List Nat} (h : brk l) : Txt.stripChars (mkS l) (mkS [40, 41]) = mkS [] := by
  have g : ∀ c, c ∈ l → (mkS [40, 41]).cps.contains c = true := fun c hc => by
    rcases h c hc with e | e <;> subst e <;> decide +kernel
  have t : ∀ m : List Nat, (∀ c, c ∈ m → (mkS [40, 41]).cps.contains c = true) → m.takeWhile (mkS [40, 41]).cps.contains = m := fun m hm => by
    induction m with
    | nil => rfl
    | cons c m ih => rw [List.takeWhile_cons_of_pos (hm c List.mem_cons_self), ih fun d hd => hm d (List.mem_cons_of_mem _ hd)]
  have e1 : (mkS l).cps.toList = l := by unfold mkS; simp
  unfold Txt.stripChars Txt.stripBy
  have lo : stripLo (mkS [40, 41]).cps.contains true (mkS l) = l.length := by
    unfold stripLo
    rw [if_pos rfl, e1, t l g]
  have hi : stripHi (mkS [40, 41]).cps.contains true (mkS l) l.length = l.length := by
    unfold stripHi
    rw [if_pos rfl, e1, List.drop_length, mkS_len]; rfl
  unfold stripSame stripped
  rw [lo, hi, mkS_len]
  by_cases h0 : l.length = 0
  · have : l = [] := List.length_eq_zero_iff.mp h0
    subst this
    rfl
  · have b0 : (l.length == 0) = false := by simpa using h0
    rw [b0, Bool.false_and, if_neg Bool.false_ne_true]
    show (⟨(mkS l).cps.extract l.length l.length⟩ : Str) = mkS []
    unfold mkS
    simp
end Hg
set_option Elab.async false
set_option linter.all false
set_option maxRecDepth 100000
set_option maxHeartbeats 4000000
namespace Hg
open PySem L2
def top (i : Nat) : Stmt := PySem.Challenge.pw_headsgrow_k05_refused.main.body.getD i (.Pass ⟨0, 0, 0, 0⟩)
abbrev s_is_tree : Stmt := top 12
theorem sc_is_tree : FnScope ["thing", "depth", "left", "branch"] ["thing", "depth", "left"] (defScope s_is_tree) := ⟨rfl, rfl, rfl, by decide +kernel, rfl, by decide +kernel, by decide +kernel⟩
abbrev s_asked_tree : Stmt := top 13
theorem sc_asked_tree : FnScope ["tree"] ["tree"] (defScope s_asked_tree) := ⟨rfl, rfl, rfl, by decide +kernel, rfl, by decide +kernel, by decide +kernel⟩
abbrev s_compared : Stmt := top 14
theorem sc_compared : FnScope ["one", "other", "mine", "theirs", "found"] ["one", "other"] (defScope s_compared) := ⟨rfl, rfl, rfl, by decide +kernel, rfl, by decide +kernel, by decide +kernel⟩
abbrev s_merged : Stmt := top 15
theorem sc_merged : FnScope ["one", "other", "found", "near", "far"] ["one", "other"] (defScope s_merged) := ⟨rfl, rfl, rfl, by decide +kernel, rfl, by decide +kernel, by decide +kernel⟩
abbrev s_copied : Stmt := top 16
theorem sc_copied : FnScope ["tree", "branch"] ["tree"] (defScope s_copied) := ⟨rfl, rfl, rfl, by decide +kernel, rfl, by decide +kernel, by decide +kernel⟩
abbrev s_told_of : Stmt := top 17
theorem sc_told_of : FnScope ["tree", "found", "branch"] ["tree"] (defScope s_told_of) := ⟨rfl, rfl, rfl, by decide +kernel, rfl, by decide +kernel, by decide +kernel⟩
abbrev s_told : Stmt := top 18
theorem sc_told : FnScope ["tree"] ["tree"] (defScope s_told) := ⟨rfl, rfl, rfl, by decide +kernel, rfl, by decide +kernel, by decide +kernel⟩
abbrev s_compare : Stmt := top 19
theorem sc_compare : FnScope ["one", "other", "found"] ["one", "other"] (defScope s_compare) := ⟨rfl, rfl, rfl, by decide +kernel, rfl, by decide +kernel, by decide +kernel⟩
abbrev s_knots : Stmt := top 20
theorem sc_knots : FnScope ["tree", "branch"] ["tree"] (defScope s_knots) := ⟨rfl, rfl, rfl, by decide +kernel, rfl, by decide +kernel, by decide +kernel⟩
abbrev s_asked_great : Stmt := top 21
theorem sc_asked_great : FnScope ["tree"] ["tree"] (defScope s_asked_great) := ⟨rfl, rfl, rfl, by decide +kernel, rfl, by decide +kernel, by decide +kernel⟩
abbrev s_together : Stmt := top 22
theorem sc_together : FnScope ["one", "other"] ["one", "other"] (defScope s_together) := ⟨rfl, rfl, rfl, by decide +kernel, rfl, by decide +kernel, by decide +kernel⟩
abbrev s_behind : Stmt := top 23
theorem sc_behind : FnScope ["one", "other", "second", "first", "branch"] ["one", "other"] (defScope s_behind) := ⟨rfl, rfl, rfl, by decide +kernel, rfl, by decide +kernel, by decide +kernel⟩
abbrev s_is_number : Stmt := top 25
theorem sc_is_number : FnScope ["thing"] ["thing"] (defScope s_is_number) := ⟨rfl, rfl, rfl, by decide +kernel, rfl, by decide +kernel, by decide +kernel⟩
abbrev s_heads_of : Stmt := top 26
theorem sc_heads_of : FnScope ["tree", "found", "at", "branch", "way"] ["tree"] (defScope s_heads_of) := ⟨rfl, rfl, rfl, by decide +kernel, rfl, by decide +kernel, by decide +kernel⟩
abbrev s_heads : Stmt := top 27
theorem sc_heads : FnScope ["tree"] ["tree"] (defScope s_heads) := ⟨rfl, rfl, rfl, by decide +kernel, rfl, by decide +kernel, by decide +kernel⟩
abbrev s_knot_at : Stmt := top 28
theorem sc_knot_at : FnScope ["tree", "way", "at"] ["tree", "way"] (defScope s_knot_at) := ⟨rfl, rfl, rfl, by decide +kernel, rfl, by decide +kernel, by decide +kernel⟩
abbrev s_cut_of : Stmt := top 29
theorem sc_cut_of : FnScope ["tree", "way", "times", "found", "bearer", "time"] ["tree", "way", "times"] (defScope s_cut_of) := ⟨rfl, rfl, rfl, by decide +kernel, rfl, by decide +kernel, by decide +kernel⟩
abbrev s_cut : Stmt := top 30
theorem sc_cut : FnScope ["tree", "way", "times", "at"] ["tree", "way", "times"] (defScope s_cut) := ⟨rfl, rfl, rfl, by decide +kernel, rfl, by decide +kernel, by decide +kernel⟩
abbrev s_asked_base : Stmt := top 33
theorem sc_asked_base : FnScope ["base"] ["base"] (defScope s_asked_base) := ⟨rfl, rfl, rfl, by decide +kernel, rfl, by decide +kernel, by decide +kernel⟩
abbrev s_written_of : Stmt := top 34
theorem sc_written_of : FnScope ["number", "base", "left", "found", "power", "many", "time"] ["number", "base", "left"] (defScope s_written_of) := ⟨rfl, rfl, rfl, by decide +kernel, rfl, by decide +kernel, by decide +kernel⟩
abbrev s_written : Stmt := top 35
theorem sc_written : FnScope ["number", "base"] ["number", "base"] (defScope s_written) := ⟨rfl, rfl, rfl, by decide +kernel, rfl, by decide +kernel, by decide +kernel⟩
abbrev s_can_write : Stmt := top 36
theorem sc_can_write : FnScope ["tree", "base", "at", "branch"] ["tree", "base"] (defScope s_can_write) := ⟨rfl, rfl, rfl, by decide +kernel, rfl, by decide +kernel, by decide +kernel⟩
abbrev s_value_of : Stmt := top 37
theorem sc_value_of : FnScope ["tree", "base", "found", "branch", "exponent", "power", "time"] ["tree", "base"] (defScope s_value_of) := ⟨rfl, rfl, rfl, by decide +kernel, rfl, by decide +kernel, by decide +kernel⟩
abbrev s_number_of : Stmt := top 38
theorem sc_number_of : FnScope ["tree", "base", "found"] ["tree", "base"] (defScope s_number_of) := ⟨rfl, rfl, rfl, by decide +kernel, rfl, by decide +kernel, by decide +kernel⟩
abbrev s_stepped : Stmt := top 39
theorem sc_stepped : FnScope ["number", "base", "tree", "found"] ["number", "base"] (defScope s_stepped) := ⟨rfl, rfl, rfl, by decide +kernel, rfl, by decide +kernel, by decide +kernel⟩
abbrev s_text_of : Stmt := top 41
theorem sc_text_of : FnScope ["tree", "branch"] ["tree"] (defScope s_text_of) := ⟨rfl, rfl, rfl, by decide +kernel, rfl, by decide +kernel, by decide +kernel⟩
abbrev s_text : Stmt := top 42
theorem sc_text : FnScope ["tree"] ["tree"] (defScope s_text) := ⟨rfl, rfl, rfl, by decide +kernel, rfl, by decide +kernel, by decide +kernel⟩
abbrev s_read : Stmt := top 43
theorem sc_read : FnScope ["text", "open_ones", "sign", "branch"] ["text"] (defScope s_read) := ⟨rfl, rfl, rfl, by decide +kernel, rfl, by decide +kernel, by decide +kernel⟩
abbrev s__law_with_tree : Stmt := top 45
theorem sc__law_with_tree : FnScope ["_law_door", "_law_tree"] ["_law_door", "_law_tree"] (defScope s__law_with_tree) := ⟨rfl, rfl, rfl, by decide +kernel, rfl, by decide +kernel, by decide +kernel⟩
abbrev s__law_bad_tree : Stmt := top 46
theorem sc__law_bad_tree : FnScope ["_law_which", "_law_more", "_law_bad", "_law_deep", "_law_turn", "_law_knot", "_law_last"] ["_law_which", "_law_more"] (defScope s__law_bad_tree) := ⟨rfl, rfl, rfl, by decide +kernel, rfl, by decide +kernel, by decide +kernel⟩
abbrev s__law_with_other : Stmt := top 47
theorem sc__law_with_other : FnScope ["_law_kind", "_law_which", "_law_more", "_law_strange", "_law_tree", "_law_bad", "_law_door"] ["_law_kind", "_law_which", "_law_more"] (defScope s__law_with_other) := ⟨rfl, rfl, rfl, by decide +kernel, rfl, by decide +kernel, by decide +kernel⟩
abbrev s__law_great : Stmt := top 48
theorem sc__law_great : FnScope ["_law_which", "_law_more", "_law_wide", "_law_knot"] ["_law_which", "_law_more"] (defScope s__law_great) := ⟨rfl, rfl, rfl, by decide +kernel, rfl, by decide +kernel, by decide +kernel⟩
abbrev s__law_told : Stmt := top 49
theorem sc__law_told : FnScope ["_law_kind", "_law_which", "_law_more", "error", "_law_found"] ["_law_kind", "_law_which", "_law_more"] (defScope s__law_told) := ⟨rfl, rfl, rfl, by decide +kernel, rfl, by decide +kernel, by decide +kernel⟩
abbrev s_law : Stmt := top 50
theorem sc_law : FnScope ["_law_script", "_law_cell", "_law_kind", "_law_due", "_law_at"] ["_law_script"] (defScope s_law) := ⟨rfl, rfl, rfl, by decide +kernel, rfl, by decide +kernel, by decide +kernel⟩
structure Txt (K : PySem.W.Frag) (mg : Str → Option Value) where
  a_is_tree : Addr
  d_is_tree : FuncData
  F_is_tree : Fun K "is_tree" "is_tree" s_is_tree a_is_tree d_is_tree
  b_is_tree : Binds K d_is_tree ["thing", "depth", "left"] []
  m_is_tree : mg "is_tree" = some (.ref a_is_tree)
  k_is_tree : PySem.W.keepIn K (.ref a_is_tree) = true
  a_asked_tree : Addr
  d_asked_tree : FuncData
  F_asked_tree : Fun K "asked_tree" "asked_tree" s_asked_tree a_asked_tree d_asked_tree
  b_asked_tree : Binds K d_asked_tree ["tree"] []
  m_asked_tree : mg "asked_tree" = some (.ref a_asked_tree)
  k_asked_tree : PySem.W.keepIn K (.ref a_asked_tree) = true
  a_compared : Addr
  d_compared : FuncData
  F_compared : Fun K "compared" "compared" s_compared a_compared d_compared
  b_compared : Binds K d_compared ["one", "other"] []
  m_compared : mg "compared" = some (.ref a_compared)
  k_compared : PySem.W.keepIn K (.ref a_compared) = true
  a_merged : Addr
  d_merged : FuncData
  F_merged : Fun K "merged" "merged" s_merged a_merged d_merged
  b_merged : Binds K d_merged ["one", "other"] []
  m_merged : mg "merged" = some (.ref a_merged)
  k_merged : PySem.W.keepIn K (.ref a_merged) = true
  a_copied : Addr
  d_copied : FuncData
  F_copied : Fun K "copied" "copied" s_copied a_copied d_copied
  b_copied : Binds K d_copied ["tree"] []
  m_copied : mg "copied" = some (.ref a_copied)
  k_copied : PySem.W.keepIn K (.ref a_copied) = true
  a_told_of : Addr
  d_told_of : FuncData
  F_told_of : Fun K "told_of" "told_of" s_told_of a_told_of d_told_of
  b_told_of : Binds K d_told_of ["tree"] []
  m_told_of : mg "told_of" = some (.ref a_told_of)
  k_told_of : PySem.W.keepIn K (.ref a_told_of) = true
  a_told : Addr
  d_told : FuncData
  F_told : Fun K "told" "told" s_told a_told d_told
  b_told : Binds K d_told ["tree"] []
  m_told : mg "told" = some (.ref a_told)
  k_told : PySem.W.keepIn K (.ref a_told) = true
  a_compare : Addr
  d_compare : FuncData
  F_compare : Fun K "compare" "compare" s_compare a_compare d_compare
  b_compare : Binds K d_compare ["one", "other"] []
  m_compare : mg "compare" = some (.ref a_compare)
  k_compare : PySem.W.keepIn K (.ref a_compare) = true
  a_knots : Addr
  d_knots : FuncData
  F_knots : Fun K "knots" "knots" s_knots a_knots d_knots
  b_knots : Binds K d_knots ["tree"] []
  m_knots : mg "knots" = some (.ref a_knots)
  k_knots : PySem.W.keepIn K (.ref a_knots) = true
  a_asked_great : Addr
  d_asked_great : FuncData
  F_asked_great : Fun K "asked_great" "asked_great" s_asked_great a_asked_great d_asked_great
  b_asked_great : Binds K d_asked_great ["tree"] []
  m_asked_great : mg "asked_great" = some (.ref a_asked_great)
  k_asked_great : PySem.W.keepIn K (.ref a_asked_great) = true
  a_together : Addr
  d_together : FuncData
  F_together : Fun K "together" "together" s_together a_together d_together
  b_together : Binds K d_together ["one", "other"] []
  m_together : mg "together" = some (.ref a_together)
  k_together : PySem.W.keepIn K (.ref a_together) = true
  a_behind : Addr
  d_behind : FuncData
  F_behind : Fun K "behind" "behind" s_behind a_behind d_behind
  b_behind : Binds K d_behind ["one", "other"] []
  m_behind : mg "behind" = some (.ref a_behind)
  k_behind : PySem.W.keepIn K (.ref a_behind) = true
  a_is_number : Addr
  d_is_number : FuncData
  F_is_number : Fun K "is_number" "is_number" s_is_number a_is_number d_is_number
  b_is_number : Binds K d_is_number ["thing"] []
  m_is_number : mg "is_number" = some (.ref a_is_number)
  k_is_number : PySem.W.keepIn K (.ref a_is_number) = true
  a_heads_of : Addr
  d_heads_of : FuncData
  F_heads_of : Fun K "heads_of" "heads_of" s_heads_of a_heads_of d_heads_of
  b_heads_of : Binds K d_heads_of ["tree"] []
  m_heads_of : mg "heads_of" = some (.ref a_heads_of)
  k_heads_of : PySem.W.keepIn K (.ref a_heads_of) = true
  a_heads : Addr
  d_heads : FuncData
  F_heads : Fun K "heads" "heads" s_heads a_heads d_heads
  b_heads : Binds K d_heads ["tree"] []
  m_heads : mg "heads" = some (.ref a_heads)
  k_heads : PySem.W.keepIn K (.ref a_heads) = true
  a_knot_at : Addr
  d_knot_at : FuncData
  F_knot_at : Fun K "knot_at" "knot_at" s_knot_at a_knot_at d_knot_at
  b_knot_at : Binds K d_knot_at ["tree", "way"] []
  m_knot_at : mg "knot_at" = some (.ref a_knot_at)
  k_knot_at : PySem.W.keepIn K (.ref a_knot_at) = true
  a_cut_of : Addr
  d_cut_of : FuncData
  F_cut_of : Fun K "cut_of" "cut_of" s_cut_of a_cut_of d_cut_of
  b_cut_of : Binds K d_cut_of ["tree", "way", "times"] []
  m_cut_of : mg "cut_of" = some (.ref a_cut_of)
  k_cut_of : PySem.W.keepIn K (.ref a_cut_of) = true
  a_cut : Addr
  d_cut : FuncData
  F_cut : Fun K "cut" "cut" s_cut a_cut d_cut
  b_cut : Binds K d_cut ["tree", "way", "times"] []
  m_cut : mg "cut" = some (.ref a_cut)
  k_cut : PySem.W.keepIn K (.ref a_cut) = true
  a_asked_base : Addr
  d_asked_base : FuncData
  F_asked_base : Fun K "asked_base" "asked_base" s_asked_base a_asked_base d_asked_base
  b_asked_base : Binds K d_asked_base ["base"] []
  m_asked_base : mg "asked_base" = some (.ref a_asked_base)
  k_asked_base : PySem.W.keepIn K (.ref a_asked_base) = true
  a_written_of : Addr
  d_written_of : FuncData
  F_written_of : Fun K "written_of" "written_of" s_written_of a_written_of d_written_of
  b_written_of : Binds K d_written_of ["number", "base", "left"] []
  m_written_of : mg "written_of" = some (.ref a_written_of)
  k_written_of : PySem.W.keepIn K (.ref a_written_of) = true
  a_written : Addr
  d_written : FuncData
  F_written : Fun K "written" "written" s_written a_written d_written
  b_written : Binds K d_written ["number", "base"] []
  m_written : mg "written" = some (.ref a_written)
  k_written : PySem.W.keepIn K (.ref a_written) = true
  a_can_write : Addr
  d_can_write : FuncData
  F_can_write : Fun K "can_write" "can_write" s_can_write a_can_write d_can_write
  b_can_write : Binds K d_can_write ["tree", "base"] []
  m_can_write : mg "can_write" = some (.ref a_can_write)
  k_can_write : PySem.W.keepIn K (.ref a_can_write) = true
  a_value_of : Addr
  d_value_of : FuncData
  F_value_of : Fun K "value_of" "value_of" s_value_of a_value_of d_value_of
  b_value_of : Binds K d_value_of ["tree", "base"] []
  m_value_of : mg "value_of" = some (.ref a_value_of)
  k_value_of : PySem.W.keepIn K (.ref a_value_of) = true
  a_number_of : Addr
  d_number_of : FuncData
  F_number_of : Fun K "number_of" "number_of" s_number_of a_number_of d_number_of
  b_number_of : Binds K d_number_of ["tree", "base"] []
  m_number_of : mg "number_of" = some (.ref a_number_of)
  k_number_of : PySem.W.keepIn K (.ref a_number_of) = true
  a_stepped : Addr
  d_stepped : FuncData
  F_stepped : Fun K "stepped" "stepped" s_stepped a_stepped d_stepped
  b_stepped : Binds K d_stepped ["number", "base"] []
  m_stepped : mg "stepped" = some (.ref a_stepped)
  k_stepped : PySem.W.keepIn K (.ref a_stepped) = true
  a_text_of : Addr
  d_text_of : FuncData
  F_text_of : Fun K "text_of" "text_of" s_text_of a_text_of d_text_of
  b_text_of : Binds K d_text_of ["tree"] []
  m_text_of : mg "text_of" = some (.ref a_text_of)
  k_text_of : PySem.W.keepIn K (.ref a_text_of) = true
  a_text : Addr
  d_text : FuncData
  F_text : Fun K "text" "text" s_text a_text d_text
  b_text : Binds K d_text ["tree"] []
  m_text : mg "text" = some (.ref a_text)
  k_text : PySem.W.keepIn K (.ref a_text) = true
  a_read : Addr
  d_read : FuncData
  F_read : Fun K "read" "read" s_read a_read d_read
  b_read : Binds K d_read ["text"] []
  m_read : mg "read" = some (.ref a_read)
  k_read : PySem.W.keepIn K (.ref a_read) = true
  a__law_with_tree : Addr
  d__law_with_tree : FuncData
  F__law_with_tree : Fun K "_law_with_tree" "_law_with_tree" s__law_with_tree a__law_with_tree d__law_with_tree
  b__law_with_tree : Binds K d__law_with_tree ["_law_door", "_law_tree"] []
  m__law_with_tree : mg "_law_with_tree" = some (.ref a__law_with_tree)
  k__law_with_tree : PySem.W.keepIn K (.ref a__law_with_tree) = true
  a__law_bad_tree : Addr
  d__law_bad_tree : FuncData
  F__law_bad_tree : Fun K "_law_bad_tree" "_law_bad_tree" s__law_bad_tree a__law_bad_tree d__law_bad_tree
  b__law_bad_tree : Binds K d__law_bad_tree ["_law_which", "_law_more"] []
  m__law_bad_tree : mg "_law_bad_tree" = some (.ref a__law_bad_tree)
  k__law_bad_tree : PySem.W.keepIn K (.ref a__law_bad_tree) = true
  a__law_with_other : Addr
  d__law_with_other : FuncData
  F__law_with_other : Fun K "_law_with_other" "_law_with_other" s__law_with_other a__law_with_other d__law_with_other
  b__law_with_other : Binds K d__law_with_other ["_law_kind", "_law_which", "_law_more"] []
  m__law_with_other : mg "_law_with_other" = some (.ref a__law_with_other)
  k__law_with_other : PySem.W.keepIn K (.ref a__law_with_other) = true
  a__law_great : Addr
  d__law_great : FuncData
  F__law_great : Fun K "_law_great" "_law_great" s__law_great a__law_great d__law_great
  b__law_great : Binds K d__law_great ["_law_which", "_law_more"] []
  m__law_great : mg "_law_great" = some (.ref a__law_great)
  k__law_great : PySem.W.keepIn K (.ref a__law_great) = true
  a__law_told : Addr
  d__law_told : FuncData
  F__law_told : Fun K "_law_told" "_law_told" s__law_told a__law_told d__law_told
  b__law_told : Binds K d__law_told ["_law_kind", "_law_which", "_law_more"] []
  m__law_told : mg "_law_told" = some (.ref a__law_told)
  k__law_told : PySem.W.keepIn K (.ref a__law_told) = true
  a_law : Addr
  d_law : FuncData
  F_law : Fun K "law" "law" s_law a_law d_law
  b_law : Binds K d_law ["_law_script"] []
  m_law : mg "law" = some (.ref a_law)
  k_law : PySem.W.keepIn K (.ref a_law) = true
  z_len : mg "len" = none
  z_list : mg "list" = none
  z_range : mg "range" = none
  z_zip : mg "zip" = none
  z_enumerate : mg "enumerate" = none
  z_min : mg "min" = none
  z_max : mg "max" = none
  z_sum : mg "sum" = none
  z_all : mg "all" = none
  z_isinstance : mg "isinstance" = none
  z_int : mg "int" = none
  z_bool : mg "bool" = none
  z_str : mg "str" = none
  z_ValueError : mg "ValueError" = none
  t_MOST : Tok
  c_MOST : mg "MOST" = some (.int 300 t_MOST)
  t_DEEPEST : Tok
  c_DEEPEST : mg "DEEPEST" = some (.int 40 t_DEEPEST)
  t_GREATEST : Tok
  c_GREATEST : mg "GREATEST" = some (.int 2582249878086908589655919172003011874329705792829223512830659356540647622016841194629645353280137831435903171972747493376 t_GREATEST)
  A_HeadError : Addr
  g_HeadError : mg "HeadError" = some (.ref A_HeadError)
  k_HeadError : PySem.W.keepIn K (.ref A_HeadError) = true
  x_HeadError : PySem.W.excIn K A_HeadError [.type "ValueError", .type "Exception", .type "BaseException", .type "object"] "ValueError.__new__" = true
  sb_HeadError : PySem.W.subIn K (.ref A_HeadError) (.type "BaseException") = some true
  tt_HeadError : PySem.W.typeIn K (.ref A_HeadError) = some (.type "type")
  A_BadTree : Addr
  g_BadTree : mg "BadTree" = some (.ref A_BadTree)
  k_BadTree : PySem.W.keepIn K (.ref A_BadTree) = true
  x_BadTree : PySem.W.excIn K A_BadTree [.type "ValueError", .type "Exception", .type "BaseException", .type "object"] "ValueError.__new__" = true
  sb_BadTree : PySem.W.subIn K (.ref A_BadTree) (.type "BaseException") = some true
  tt_BadTree : PySem.W.typeIn K (.ref A_BadTree) = some (.type "type")
  A_BadWay : Addr
  g_BadWay : mg "BadWay" = some (.ref A_BadWay)
  k_BadWay : PySem.W.keepIn K (.ref A_BadWay) = true
  x_BadWay : PySem.W.excIn K A_BadWay [.type "ValueError", .type "Exception", .type "BaseException", .type "object"] "ValueError.__new__" = true
  sb_BadWay : PySem.W.subIn K (.ref A_BadWay) (.type "BaseException") = some true
  tt_BadWay : PySem.W.typeIn K (.ref A_BadWay) = some (.type "type")
  A_BadTimes : Addr
  g_BadTimes : mg "BadTimes" = some (.ref A_BadTimes)
  k_BadTimes : PySem.W.keepIn K (.ref A_BadTimes) = true
  x_BadTimes : PySem.W.excIn K A_BadTimes [.type "ValueError", .type "Exception", .type "BaseException", .type "object"] "ValueError.__new__" = true
  sb_BadTimes : PySem.W.subIn K (.ref A_BadTimes) (.type "BaseException") = some true
  tt_BadTimes : PySem.W.typeIn K (.ref A_BadTimes) = some (.type "type")
  A_BadNumber : Addr
  g_BadNumber : mg "BadNumber" = some (.ref A_BadNumber)
  k_BadNumber : PySem.W.keepIn K (.ref A_BadNumber) = true
  x_BadNumber : PySem.W.excIn K A_BadNumber [.type "ValueError", .type "Exception", .type "BaseException", .type "object"] "ValueError.__new__" = true
  sb_BadNumber : PySem.W.subIn K (.ref A_BadNumber) (.type "BaseException") = some true
  tt_BadNumber : PySem.W.typeIn K (.ref A_BadNumber) = some (.type "type")
  A_BadBase : Addr
  g_BadBase : mg "BadBase" = some (.ref A_BadBase)
  k_BadBase : PySem.W.keepIn K (.ref A_BadBase) = true
  x_BadBase : PySem.W.excIn K A_BadBase [.type "ValueError", .type "Exception", .type "BaseException", .type "object"] "ValueError.__new__" = true
  sb_BadBase : PySem.W.subIn K (.ref A_BadBase) (.type "BaseException") = some true
  tt_BadBase : PySem.W.typeIn K (.ref A_BadBase) = some (.type "type")
  A_BadText : Addr
  g_BadText : mg "BadText" = some (.ref A_BadText)
  k_BadText : PySem.W.keepIn K (.ref A_BadText) = true
  x_BadText : PySem.W.excIn K A_BadText [.type "ValueError", .type "Exception", .type "BaseException", .type "object"] "ValueError.__new__" = true
  sb_BadText : PySem.W.subIn K (.ref A_BadText) (.type "BaseException") = some true
  tt_BadText : PySem.W.typeIn K (.ref A_BadText) = some (.type "type")
  A_TooGreat : Addr
  g_TooGreat : mg "TooGreat" = some (.ref A_TooGreat)
  k_TooGreat : PySem.W.keepIn K (.ref A_TooGreat) = true
  x_TooGreat : PySem.W.excIn K A_TooGreat [.type "ValueError", .type "Exception", .type "BaseException", .type "object"] "ValueError.__new__" = true
  sb_TooGreat : PySem.W.subIn K (.ref A_TooGreat) (.type "BaseException") = some true
  tt_TooGreat : PySem.W.typeIn K (.ref A_TooGreat) = some (.type "type")
  hd_HeadError : PySem.W.hasDictIn K A_HeadError = true
  ex_BadTree : ExcC K A_BadTree
  su_BadTree : PySem.W.subIn K (.ref A_BadTree) (.ref A_HeadError) = some true
  kt_BadTree_BadTree : PySem.W.kitOne K (.ref A_BadTree) (.ref A_BadTree) = some true
  kt_BadTree_BadWay : PySem.W.kitOne K (.ref A_BadTree) (.ref A_BadWay) = some false
  kt_BadTree_BadTimes : PySem.W.kitOne K (.ref A_BadTree) (.ref A_BadTimes) = some false
  kt_BadTree_BadNumber : PySem.W.kitOne K (.ref A_BadTree) (.ref A_BadNumber) = some false
  kt_BadTree_BadBase : PySem.W.kitOne K (.ref A_BadTree) (.ref A_BadBase) = some false
  kt_BadTree_BadText : PySem.W.kitOne K (.ref A_BadTree) (.ref A_BadText) = some false
  kt_BadTree_TooGreat : PySem.W.kitOne K (.ref A_BadTree) (.ref A_TooGreat) = some false
  kt_BadTree_ValueError : PySem.W.kitOne K (.ref A_BadTree) (.type "ValueError") = some true
  ex_TooGreat : ExcC K A_TooGreat
  su_TooGreat : PySem.W.subIn K (.ref A_TooGreat) (.ref A_HeadError) = some true
  kt_TooGreat_BadTree : PySem.W.kitOne K (.ref A_TooGreat) (.ref A_BadTree) = some false
  kt_TooGreat_BadWay : PySem.W.kitOne K (.ref A_TooGreat) (.ref A_BadWay) = some false
  kt_TooGreat_BadTimes : PySem.W.kitOne K (.ref A_TooGreat) (.ref A_BadTimes) = some false
  kt_TooGreat_BadNumber : PySem.W.kitOne K (.ref A_TooGreat) (.ref A_BadNumber) = some false
  kt_TooGreat_BadBase : PySem.W.kitOne K (.ref A_TooGreat) (.ref A_BadBase) = some false
  kt_TooGreat_BadText : PySem.W.kitOne K (.ref A_TooGreat) (.ref A_BadText) = some false
  kt_TooGreat_TooGreat : PySem.W.kitOne K (.ref A_TooGreat) (.ref A_TooGreat) = some true
  kt_TooGreat_ValueError : PySem.W.kitOne K (.ref A_TooGreat) (.type "ValueError") = some true
  ex_BadWay : ExcC K A_BadWay
  su_BadWay : PySem.W.subIn K (.ref A_BadWay) (.ref A_HeadError) = some true
  kt_BadWay_BadTree : PySem.W.kitOne K (.ref A_BadWay) (.ref A_BadTree) = some false
  kt_BadWay_BadWay : PySem.W.kitOne K (.ref A_BadWay) (.ref A_BadWay) = some true
  kt_BadWay_BadTimes : PySem.W.kitOne K (.ref A_BadWay) (.ref A_BadTimes) = some false
  kt_BadWay_BadNumber : PySem.W.kitOne K (.ref A_BadWay) (.ref A_BadNumber) = some false
  kt_BadWay_BadBase : PySem.W.kitOne K (.ref A_BadWay) (.ref A_BadBase) = some false
  kt_BadWay_BadText : PySem.W.kitOne K (.ref A_BadWay) (.ref A_BadText) = some false
  kt_BadWay_TooGreat : PySem.W.kitOne K (.ref A_BadWay) (.ref A_TooGreat) = some false
  kt_BadWay_ValueError : PySem.W.kitOne K (.ref A_BadWay) (.type "ValueError") = some true
  ex_BadTimes : ExcC K A_BadTimes
  su_BadTimes : PySem.W.subIn K (.ref A_BadTimes) (.ref A_HeadError) = some true
  kt_BadTimes_BadTree : PySem.W.kitOne K (.ref A_BadTimes) (.ref A_BadTree) = some false
  kt_BadTimes_BadWay : PySem.W.kitOne K (.ref A_BadTimes) (.ref A_BadWay) = some false
  kt_BadTimes_BadTimes : PySem.W.kitOne K (.ref A_BadTimes) (.ref A_BadTimes) = some true
  kt_BadTimes_BadNumber : PySem.W.kitOne K (.ref A_BadTimes) (.ref A_BadNumber) = some false
  kt_BadTimes_BadBase : PySem.W.kitOne K (.ref A_BadTimes) (.ref A_BadBase) = some false
  kt_BadTimes_BadText : PySem.W.kitOne K (.ref A_BadTimes) (.ref A_BadText) = some false
  kt_BadTimes_TooGreat : PySem.W.kitOne K (.ref A_BadTimes) (.ref A_TooGreat) = some false
  kt_BadTimes_ValueError : PySem.W.kitOne K (.ref A_BadTimes) (.type "ValueError") = some true
  ex_BadBase : ExcC K A_BadBase
  su_BadBase : PySem.W.subIn K (.ref A_BadBase) (.ref A_HeadError) = some true
  kt_BadBase_BadTree : PySem.W.kitOne K (.ref A_BadBase) (.ref A_BadTree) = some false
  kt_BadBase_BadWay : PySem.W.kitOne K (.ref A_BadBase) (.ref A_BadWay) = some false
  kt_BadBase_BadTimes : PySem.W.kitOne K (.ref A_BadBase) (.ref A_BadTimes) = some false
  kt_BadBase_BadNumber : PySem.W.kitOne K (.ref A_BadBase) (.ref A_BadNumber) = some false
  kt_BadBase_BadBase : PySem.W.kitOne K (.ref A_BadBase) (.ref A_BadBase) = some true
  kt_BadBase_BadText : PySem.W.kitOne K (.ref A_BadBase) (.ref A_BadText) = some false
  kt_BadBase_TooGreat : PySem.W.kitOne K (.ref A_BadBase) (.ref A_TooGreat) = some false
  kt_BadBase_ValueError : PySem.W.kitOne K (.ref A_BadBase) (.type "ValueError") = some true
  ex_BadNumber : ExcC K A_BadNumber
  su_BadNumber : PySem.W.subIn K (.ref A_BadNumber) (.ref A_HeadError) = some true
  kt_BadNumber_BadTree : PySem.W.kitOne K (.ref A_BadNumber) (.ref A_BadTree) = some false
  kt_BadNumber_BadWay : PySem.W.kitOne K (.ref A_BadNumber) (.ref A_BadWay) = some false
  kt_BadNumber_BadTimes : PySem.W.kitOne K (.ref A_BadNumber) (.ref A_BadTimes) = some false
  kt_BadNumber_BadNumber : PySem.W.kitOne K (.ref A_BadNumber) (.ref A_BadNumber) = some true
  kt_BadNumber_BadBase : PySem.W.kitOne K (.ref A_BadNumber) (.ref A_BadBase) = some false
  kt_BadNumber_BadText : PySem.W.kitOne K (.ref A_BadNumber) (.ref A_BadText) = some false
  kt_BadNumber_TooGreat : PySem.W.kitOne K (.ref A_BadNumber) (.ref A_TooGreat) = some false
  kt_BadNumber_ValueError : PySem.W.kitOne K (.ref A_BadNumber) (.type "ValueError") = some true
  ex_BadText : ExcC K A_BadText
  su_BadText : PySem.W.subIn K (.ref A_BadText) (.ref A_HeadError) = some true
  kt_BadText_BadTree : PySem.W.kitOne K (.ref A_BadText) (.ref A_BadTree) = some false
  kt_BadText_BadWay : PySem.W.kitOne K (.ref A_BadText) (.ref A_BadWay) = some false
  kt_BadText_BadTimes : PySem.W.kitOne K (.ref A_BadText) (.ref A_BadTimes) = some false
  kt_BadText_BadNumber : PySem.W.kitOne K (.ref A_BadText) (.ref A_BadNumber) = some false
  kt_BadText_BadBase : PySem.W.kitOne K (.ref A_BadText) (.ref A_BadBase) = some false
  kt_BadText_BadText : PySem.W.kitOne K (.ref A_BadText) (.ref A_BadText) = some true
  kt_BadText_TooGreat : PySem.W.kitOne K (.ref A_BadText) (.ref A_TooGreat) = some false
  kt_BadText_ValueError : PySem.W.kitOne K (.ref A_BadText) (.type "ValueError") = some true
section
variable {P : Program} {w : World} {K : PySem.W.Frag} {mg : Str → Option Value} {base : Heap}
/-! ### copied -/
def spCopied (n : Nat) : Sp := fun vs H Q _ => ∃ (v : V) (t : Tt), vs = [v] ∧ TreeAt H v t ∧ fit t ∧ depth t < n ∧ ∀ H' r, New H H' r t → Q r H'
theorem depthL_le : ∀ {l : List Tt} {x : Tt}, x ∈ l → depth x + 1 ≤ depthL l
  | y :: l, x, h => by
    rw [depthL]
    rcases List.mem_cons.mp h with e | h
    · rw [e]; omega
    · have := depthL_le h; omega
theorem depth_bs {l : List Tt} {x : Tt} {n : Nat} (h : depth (.mk l) < n + 1) (hx : x ∈ l) : depth x < n := by
  rw [depth] at h
  have := depthL_le hx
  omega
theorem none_left {CX : CXT} {k : Nat} {f : Addr} {fd : FuncData} {ps : List Str} {sp : Sp} (no : ∀ vs H Q E, ¬ sp vs H Q E) : FnOk P w K mg base CX k f fd ps sp :=
  ⟨fun vs H Q E h => absurd h (no vs H Q E), fun A outer s H args us vs Q E _ _ _ _ h => absurd h (no vs H Q E)⟩
theorem take_more {α : Type} : ∀ {l : List α} {i : Nat} {x : α}, l[i]? = some x → l.take (i + 1) = l.take i ++ [x]
  | [], i, x, h => by simp at h
  | a :: l, 0, x, h => by
    have e : a = x := Option.some.inj (by simpa using h)
    subst e
    rfl
  | a :: l, i + 1, x, h => by
    have ih := take_more (l := l) (i := i) (x := x) (by simpa using h)
    rw [List.take_succ_cons, ih, List.take_succ_cons, List.cons_append]
theorem ok_copied (T : Txt K mg) : ∀ n, FnOk P w K mg base CX0 n T.a_copied T.d_copied ["tree"] (spCopied n)
  | 0 => none_left fun vs H Q E ⟨v, t, _, _, _, h, _⟩ => by omega
  | n + 1 => by
    have G_copied := ok_copied T n
    refine T.F_copied.ok sc_copied (fun vs H Q E h => ?_) (fun cdv A outer s H vs Q E hr h => ?_)
    · obtain ⟨v, t, rfl, _⟩ := h; rfl
    obtain ⟨v, ⟨bs⟩, rfl, ht, hf, hd, q⟩ := h
    have R_copied : Room n _ := hr
    rw [treeAt_mk] at ht
    obtain ⟨a, xs, rfl, ha, hbs⟩ := ht
    refine ⟨_, (pss_one (ps_ret (pe_lc (own := [("branch", 1)]) (g := gName 1) (tt := tYes) rfl sc_copied.nd (pi_list (pv 0)) (blkOk_by (own := [("branch", 1)]) (N := ["tree", "branch"]) (sc := defScope s_copied) (by decide +kernel)) (fun _ _ _ _ _ => (pg_name (i := 1) sc_copied.nd rfl (Or.inl rfl))) (fun _ _ _ _ _ => pts_nil) (fun _ _ _ _ _ => (pe_call G_copied R_copied rfl T.m_copied T.k_copied T.b_copied .nil pass0 (pa_cons (pv 1) pa_nil)))))), ?_⟩
    refine ⟨_, rfl, a, rfl, ⟨xs, SqL.of ha⟩, fun D nD => ?_⟩
    refine lc_list (K := K) (a := a) (xs := xs) (fun i H' => Grow H H' D (bs.take i)) (Grow.start nD) (fun i H' _ g => SqL.of (g.same _ _ ha)) (fun i x H' hx g => ?_) (fun H' g => ?_)
    · obtain ⟨b, hb, hxb⟩ := hbs.get hx
      have mb := List.mem_of_getElem? hb
      refine ⟨rfl, ?_⟩
      refine ⟨_, rfl, x, b, rfl, TreeAt.same g.same b hxb, fit_bs hf mb, depth_bs hd mb, fun H2 r nw => ?_⟩
      obtain ⟨acc, h1, h2, h3⟩ := g.more nw
      refine ⟨acc, h1, ?_, ?_⟩
      · rw [h2, List.length_take]
        exact lim_line (Nat.le_trans (Nat.min_le_right _ _) (fit_len hf))
      · rw [take_more hb]; exact h3
    · rw [hbs.len, List.take_length] at g
      exact q _ _ g.done
end
section
variable {P : Program} {w : World} {K : PySem.W.Frag} {mg : Str → Option Value} {base : Heap}
/-! ### compared -/
theorem drop_get {α : Type} {l : List α} {i : Nat} {x : α} (h : l[i]? = some x) : l.drop i = x :: l.drop (i + 1) := by
  obtain ⟨hi, e⟩ := List.getElem?_eq_some_iff.mp h
  rw [← e]
  exact List.drop_eq_getElem_cons hi
def spCompared (n : Nat) : Sp := fun vs H Q _ => ∃ (v u : V) (t s : Tt), vs = [v, u] ∧ TreeAt H v t ∧ TreeAt H u s ∧ depth t < n ∧ ∀ H', Same H H' → Q (.int (cmp t s)) H'
theorem cmpL_end : ∀ {i : Nat} {bs cs : List Tt}, i = min bs.length cs.length → cmpL (bs.drop i) (cs.drop i) = (bs.length : Int) - cs.length
  | 0, [], cs, _ => by rw [List.drop_zero, List.drop_zero, cmpL_nil]; simp
  | 0, x :: a, [], _ => by rw [List.drop_zero, List.drop_zero, cmpL_nil_r]; simp
  | 0, x :: a, y :: b, h => by simp only [List.length_cons] at h; omega
  | i + 1, [], cs, h => by simp at h
  | i + 1, x :: a, [], h => by simp at h
  | i + 1, x :: a, y :: b, h => by
    have ih := cmpL_end (i := i) (bs := a) (cs := b) (by simp only [List.length_cons] at h; omega)
    rw [List.drop_succ_cons, List.drop_succ_cons, ih, List.length_cons, List.length_cons]
    omega
theorem same_tup {H H' : Hp} {Tp : Addr} {o : HO} (s : Same H H') (h : H' Tp = none) : Same H (upd H' Tp o) := s.trans (same_new h o)
theorem ok_compared (T : Txt K mg) : ∀ n, FnOk P w K mg base CX0 n T.a_compared T.d_compared ["one", "other"] (spCompared n)
  | 0 => none_left fun vs H Q E ⟨v, u, t, s, _, _, _, h, _⟩ => by omega
  | n + 1 => by
    have G_compared := ok_compared T n
    refine T.F_compared.ok sc_compared (fun vs H Q E h => ?_) (fun cdv A outer s H vs Q E hr h => ?_)
    · obtain ⟨v, u, t, s, rfl, _⟩ := h; rfl
    obtain ⟨v, u, ⟨bs⟩, ⟨cs⟩, rfl, ht, hu, hd, q⟩ := h
    have R_compared : Room n _ := hr
    rw [treeAt_mk] at ht hu
    obtain ⟨a, xs, rfl, ha, hbs⟩ := ht
    obtain ⟨b, ys, rfl, hb, hcs⟩ := hu
    rw [cmp_mk] at q
    refine ⟨_, (pss_cons (ps_for PassesOwn.never rfl (pi_zip (by rfl) T.z_zip (pa_cons (pv 0) (pa_cons (pv 1) pa_nil))) (pg_tup rfl (pgs_cons (pg_name (i := 2) sc_compared.nd rfl (Or.inl rfl)) (pgs_cons (pg_name (i := 3) sc_compared.nd rfl (Or.inl rfl)) pgs_nil))) (pss_cons (ps_set (i := 4) sc_compared.nd rfl (Or.inl rfl) (pe_call G_compared R_compared rfl T.m_compared T.k_compared T.b_compared .nil pass0 (pa_cons (pv 2) (pa_cons (pv 3) pa_nil))))
        (pss_one (ps_if (pt_cmpR op_ne (pv 4) pe_int (nomark _)) (pss_one (ps_ret (pv 4))) pss_nil))))
      (pss_one (ps_ret (pe_op op_sub (pe_callB (r := rLenS K) call_len_seqK rfl T.z_len PySem.boot_len (pa_cons (pv 0) pa_nil)) (pe_callB (r := rLenS K) call_len_seqK rfl T.z_len PySem.boot_len (pa_cons (pv 1) pa_nil)))))), ?_⟩
    refine ⟨_, rfl, _, rfl, a, b, xs, ys, rfl, SqL.of ha, SqL.of hb, ?_⟩
    refine for_it (walk_zip rfl) (fun i σ H' => Same H H' ∧ cmpL bs cs = cmpL (bs.drop i) (cs.drop i) ∧ ∃ m th f, σ = [some (.ref a), some (.ref b), m, th, f]) ⟨Same.refl H, by simp, none, none, none, rfl⟩ (fun i σ H' _ p => ⟨SqL.of (p.1 _ _ ha), SqL.of (p.1 _ _ hb)⟩) ?_ ?_
    · rintro i x σ H1 H2 hi ⟨s1, e1, m, th, f, rfl⟩ ⟨Tp, x, y, rfl, nT, rfl, hx, hy⟩
      obtain ⟨t1, ht1, hxt⟩ := hbs.get hx
      obtain ⟨t2, ht2, hyt⟩ := hcs.get hy
      have s2 : Same H (upd H1 Tp (.tup [x, y])) := same_tup s1 nT
      refine ⟨Tp, [x, y], rfl, SqT.of upd_same, rfl, x, [y], rfl, y, [], rfl, rfl, ?_⟩
      refine ⟨_, rfl, _, rfl, x, y, t1, t2, rfl, TreeAt.same s2 _ hxt, TreeAt.same s2 _ hyt, depth_bs hd (List.mem_of_getElem? ht1), fun H3 s3 => ?_⟩
      rw [drop_get ht1, drop_get ht2, cmpL_cons] at e1
      refine ⟨_, rfl, rfl, _, rfl, ?_⟩
      refine ite2 (fun c => ?_) (fun c => ?_)
      · have c' : cmp t1 t2 ≠ 0 := fun z => by simp [z] at c
        rw [if_pos c'] at e1
        exact ⟨_, rfl, by rw [← e1]; exact q _ (s2.trans s3)⟩
      · have c' : ¬ cmp t1 t2 ≠ 0 := fun z => c (by simp [z])
        rw [if_neg c'] at e1
        exact ⟨s2.trans s3, e1, _, _, _, rfl⟩
    · rintro σ H1 ⟨s1, e1, m, th, f, rfl⟩
      refine ⟨_, rfl, a, _, rfl, .inl (SqL.of (s1 _ _ ha)), _, rfl, b, _, rfl, .inl (SqL.of (s1 _ _ hb)), _, _, rfl, rfl, ?_⟩
      rw [hbs.len, hcs.len] at e1
      show Q (.int ((xs.length : Int) - (ys.length : Int))) H1
      rw [hbs.len, hcs.len, ← cmpL_end rfl, ← e1]
      exact q _ s1
/-! ### merged -/
def spMerged (n : Nat) : Sp := fun vs H Q _ => ∃ (v u : V) (l m : List Tt), vs = [v, u] ∧ TreeAt H v (.mk l) ∧ TreeAt H u (.mk m) ∧ fitL l ∧ fitL m ∧ l.length + m.length ≤ lim ∧ (∀ x, x ∈ l → depth x < n) ∧ (∀ x, x ∈ m → depth x < n) ∧
  ∀ H' r, New H H' r (.mk (merge l m)) → Q r H'
theorem at_ix {xs : List V} {i : Nat} {x : V} (h : xs[i]? = some x) : atI xs (i : Int) = some x := atI_nat h
theorem merge_len (l m : List Tt) : (merge l m).length = l.length + m.length := by
  rw [(merge_perm l m).length_eq, List.length_append]
theorem merge_stepL {l m : List Tt} {i j : Nat} {x : Tt} (hx : l[i]? = some x) (h : j = m.length ∨ ∃ y, m[j]? = some y ∧ 0 ≤ cmp x y) : merge (l.drop i) (m.drop j) = x :: merge (l.drop (i + 1)) (m.drop j) := by
  rw [drop_get hx]
  rcases h with e | ⟨y, hy, c⟩
  · rw [e, List.drop_length, merge_nil_r, merge_nil_r]
  · rw [drop_get hy]
    conv => lhs; unfold merge
    rw [if_pos c]
theorem merge_stepR {l m : List Tt} {i j : Nat} {y : Tt} (hy : m[j]? = some y) (h : i = l.length ∨ ∃ x, l[i]? = some x ∧ cmp x y < 0) : merge (l.drop i) (m.drop j) = y :: merge (l.drop i) (m.drop (j + 1)) := by
  rcases h with e | ⟨x, hx, c⟩
  · rw [e, List.drop_length, drop_get hy]; simp [merge]
  · rw [drop_get hx, drop_get hy]
    conv => lhs; unfold merge
    rw [if_neg (by omega)]
theorem ok_merged (T : Txt K mg) (n : Nat) : FnOk P w K mg base CX0 (n + 1) T.a_merged T.d_merged ["one", "other"] (spMerged n) := by
  have G_compared := ok_compared (P := P) (w := w) (base := base) T n
  have G_copied := ok_copied (P := P) (w := w) (base := base) T n
  refine T.F_merged.ok sc_merged (fun vs H Q E h => ?_) (fun cdv A outer s H vs Q E hr h => ?_)
  · obtain ⟨v, u, l, m, rfl, _⟩ := h; rfl
  obtain ⟨v, u, l, m, rfl, ht, hu, fl, fm, hlen, dl, dm, q⟩ := h
  have R_compared : Room n _ := hr
  have R_copied : Room n _ := hr
  rw [treeAt_mk] at ht hu
  obtain ⟨a, xs, rfl, ha, hbs⟩ := ht
  obtain ⟨b, ys, rfl, hb, hcs⟩ := hu
  have el := hbs.len
  have em := hcs.len
  refine ⟨_, (pss_cons (ps_set (i := 2) sc_merged.nd rfl (Or.inl rfl) (pe_lst pa_nil))
      (pss_cons (ps_set (i := 3) sc_merged.nd rfl (Or.inl rfl) pe_int)
      (pss_cons (ps_set (i := 4) sc_merged.nd rfl (Or.inl rfl) pe_int)
      (pss_cons (ps_while PassesOwn.never (PW.pt (pw_or (pt_cmpR op_lt (pv 3) (pe_callB (r := rLenS K) call_len_seqK rfl T.z_len PySem.boot_len (pa_cons (pv 0) pa_nil)) (nomark _)) (pw_or1 (pt_cmpR op_lt (pv 4) (pe_callB (r := rLenS K) call_len_seqK rfl T.z_len PySem.boot_len (pa_cons (pv 1) pa_nil)) (nomark _))))) (pss_one (ps_if (PW.pt (pw_or (pt_cmpR op_eq (pv 4) (pe_callB (r := rLenS K) call_len_seqK rfl T.z_len PySem.boot_len (pa_cons (pv 1) pa_nil)) (nomark _)) (pw_or1 (PW.pt (pw_and (pt_cmpR op_lt (pv 3) (pe_callB (r := rLenS K) call_len_seqK rfl T.z_len PySem.boot_len (pa_cons (pv 0) pa_nil)) (nomark _)) (pw_and1 (pt_cmpR op_ge (pe_call G_compared R_compared rfl T.m_compared T.k_compared T.b_compared .nil pass0 (pa_cons (pe_ix (r := rIxL K) ix_list (pv 0) (pv 3) (fun _ _ => rfl)) (pa_cons (pe_ix (r := rIxL K) ix_list (pv 1) (pv 4) (fun _ _ => rfl)) pa_nil))) pe_int (nomark _)))))))) (pss_cons (ps_expr (pe_bm PySem.F.plainAttrs_list PySem.F.slot_list_append PySem.F.type_list_append mt_append (pv 2) (pa_cons (pe_call G_copied R_copied rfl T.m_copied T.k_copied T.b_copied .nil pass0 (pa_cons (pe_ix (r := rIxL K) ix_list (pv 0) (pv 3) (fun _ _ => rfl)) pa_nil)) pa_nil)))
          (pss_one (ps_set (i := 3) sc_merged.nd rfl (Or.inl rfl) (pe_op op_add (pv 3) pe_int)))) (pss_cons (ps_expr (pe_bm PySem.F.plainAttrs_list PySem.F.slot_list_append PySem.F.type_list_append mt_append (pv 2) (pa_cons (pe_call G_copied R_copied rfl T.m_copied T.k_copied T.b_copied .nil pass0 (pa_cons (pe_ix (r := rIxL K) ix_list (pv 1) (pv 4) (fun _ _ => rfl)) pa_nil)) pa_nil)))
          (pss_one (ps_set (i := 4) sc_merged.nd rfl (Or.inl rfl) (pe_op op_add (pv 4) pe_int)))))))
      (pss_one (ps_ret (pv 2))))))), ?_⟩
  refine ⟨(by show 0 ≤ sizeLine; decide), fun D nD => ?_⟩
  refine ⟨fun k σ H' => ∃ (i j : Nat) (ts : List Tt), σ = [some (.ref a), some (.ref b), some (.ref D), some (.int i), some (.int j)] ∧ k + i + j = l.length + m.length ∧ i ≤ l.length ∧ j ≤ m.length ∧ Grow H H' D ts ∧ merge l m = ts ++ merge (l.drop i) (m.drop j),
    ⟨l.length + m.length, 0, 0, [], rfl, rfl, Nat.zero_le _, Nat.zero_le _, Grow.start nD, rfl⟩, ?_⟩
  rintro k σ H1 ⟨i, j, ts, rfl, hk, hi, hj, g, e⟩
  have ha1 := g.same _ _ ha
  have hb1 := g.same _ _ hb
  have tl : ts.length + (l.length - i) + (m.length - j) = l.length + m.length := by
    have := congrArg List.length e
    rw [List.length_append, merge_len, merge_len, List.length_drop, List.length_drop] at this
    omega
  have goL : ∀ {x : Tt}, l[i]? = some x → ∃ xv, xs[i]? = some xv ∧ ∀ H2, Same H1 H2 → TreeAt H2 xv x ∧ H2 D = H1 D ∧ ∀ H3 r, New H2 H3 r x → ∃ acc, H3 D = some (.lst acc) ∧ acc.length < sizeLine ∧ Grow H (upd H3 D (.lst (acc ++ [r]))) D (ts ++ [x]) := fun {x} hx => by
    obtain ⟨xv, h1, h2⟩ := hbs.get' hx
    refine ⟨xv, h1, fun H2 s2 => ⟨TreeAt.same (g.same.trans s2) _ h2, ?_, fun H3 r nw => ?_⟩⟩
    · obtain ⟨acc, k1, _⟩ := g.at_
      rw [k1]; exact s2 _ _ k1
    obtain ⟨acc, k1, k2, k3⟩ := (g.step s2).more nw
    exact ⟨acc, k1, lim_line (by have := (List.getElem?_eq_some_iff.mp hx).1; omega), k3⟩
  have goR : ∀ {x : Tt}, m[j]? = some x → ∃ xv, ys[j]? = some xv ∧ ∀ H2, Same H1 H2 → TreeAt H2 xv x ∧ H2 D = H1 D ∧ ∀ H3 r, New H2 H3 r x → ∃ acc, H3 D = some (.lst acc) ∧ acc.length < sizeLine ∧ Grow H (upd H3 D (.lst (acc ++ [r]))) D (ts ++ [x]) := fun {x} hx => by
    obtain ⟨xv, h1, h2⟩ := hcs.get' hx
    refine ⟨xv, h1, fun H2 s2 => ⟨TreeAt.same (g.same.trans s2) _ h2, ?_, fun H3 r nw => ?_⟩⟩
    · obtain ⟨acc, k1, _⟩ := g.at_
      rw [k1]; exact s2 _ _ k1
    obtain ⟨acc, k1, k2, k3⟩ := (g.step s2).more nw
    exact ⟨acc, k1, lim_line (by have := (List.getElem?_eq_some_iff.mp hx).1; omega), k3⟩
  obtain ⟨acc0, hD1, _⟩ := g.at_
  -- near < len(one) or far < len(other)
  refine cut_t (fun b H2 => b = decide (i < l.length ∨ j < m.length) ∧ H2 = H1) (fun Q' hQ' => ?_) ?_
  · refine ⟨_, rfl, _, rfl, a, xs, rfl, .inl (SqL.of ha1), _, _, rfl, rfl, _, rfl, ?_⟩
    refine ite2 (fun c => ?_) (fun c => ?_)
    · refine hQ' _ _ ⟨?_, rfl⟩
      have c' : (i : Int) < (xs.length : Nat) := of_decide_eq_true c
      exact (decide_eq_true (by omega)).symm
    · have c' : ¬ (i : Int) < (xs.length : Nat) := of_decide_eq_false (Bool.eq_false_iff.mpr c)
      refine ⟨_, rfl, _, rfl, b, ys, rfl, .inl (SqL.of hb1), _, _, rfl, rfl, _, rfl, hQ' _ _ ⟨?_, rfl⟩⟩
      refine decide_eq_decide.mpr ?_
      omega
  rintro b2 H2 ⟨rfl, rfl⟩
  refine ite2 (fun c => ?_) (fun c => ?_)
  · have c' := of_decide_eq_true c
    refine ⟨fun σ' H' => ∃ m', m' < k ∧ ∃ (i j : Nat) (ts : List Tt), σ' = [some (.ref a), some (.ref b), some (.ref D), some (.int i), some (.int j)] ∧ m' + i + j = l.length + m.length ∧ i ≤ l.length ∧ j ≤ m.length ∧ Grow H H' D ts ∧ merge l m = ts ++ merge (l.drop i) (m.drop j), fun _ _ h => h, ?_⟩
    -- which one
    refine cut_if (fun b H3 => Same H2 H3 ∧ ((b = true ∧ ∃ x, l[i]? = some x ∧ merge (l.drop i) (m.drop j) = x :: merge (l.drop (i + 1)) (m.drop j)) ∨ (b = false ∧ ∃ x, m[j]? = some x ∧ merge (l.drop i) (m.drop j) = x :: merge (l.drop i) (m.drop (j + 1))))) (fun Q' hQ' => ?_) ?_
    · refine ⟨_, rfl, _, rfl, b, ys, rfl, .inl (SqL.of hb1), rfl, _, rfl, ?_⟩
      refine ite2 (fun c1 => ?_) (fun c1 => ?_)
      · have e1 : (V.int (j : Int)) = V.int ((ys.length : Nat) : Int) := of_decide_eq_true c1
        injection e1 with e1
        have hl : i < l.length := by omega
        exact hQ' _ _ ⟨Same.refl _, .inl ⟨rfl, _, List.getElem?_eq_getElem hl, merge_stepL (List.getElem?_eq_getElem hl) (.inl (by omega))⟩⟩
      · have e1 : ¬ (V.int (j : Int)) = V.int ((ys.length : Nat) : Int) := of_decide_eq_false (Bool.eq_false_iff.mpr c1)
        have hj2 : j < m.length := by
          have : ¬ j = ys.length := fun z => e1 (by rw [z])
          omega
        refine ⟨_, rfl, _, rfl, a, xs, rfl, .inl (SqL.of ha1), _, _, rfl, rfl, _, rfl, ?_⟩
        refine ite2 (fun c2 => ?_) (fun c2 => ?_)
        · have c3 : (i : Int) < ((xs.length : Nat) : Int) := of_decide_eq_true c2
          have hl : i < l.length := by omega
          obtain ⟨xv, hxv, htx⟩ := hbs.get' (List.getElem?_eq_getElem hl)
          obtain ⟨yv, hyv, hty⟩ := hcs.get' (List.getElem?_eq_getElem hj2)
          refine ⟨_, rfl, _, rfl, a, xs, _, _, rfl, rfl, SqL.of ha1, atI_nat hxv, _, rfl, _, rfl, b, ys, _, _, rfl, rfl, SqL.of hb1, atI_nat hyv, xv, yv, l[i], m[j], rfl, TreeAt.same g.same _ htx, TreeAt.same g.same _ hty, dl _ (List.getElem_mem hl), fun H3 s3 => ?_⟩
          refine ⟨_, _, rfl, rfl, _, rfl, ?_⟩
          by_cases cc : 0 ≤ cmp l[i] m[j]
          · exact hQ' _ _ ⟨s3, .inl ⟨decide_eq_true cc, _, List.getElem?_eq_getElem hl, merge_stepL (List.getElem?_eq_getElem hl) (.inr ⟨_, List.getElem?_eq_getElem hj2, cc⟩)⟩⟩
          · exact hQ' _ _ ⟨s3, .inr ⟨decide_eq_false cc, _, List.getElem?_eq_getElem hj2, merge_stepR (List.getElem?_eq_getElem hj2) (.inr ⟨_, List.getElem?_eq_getElem hl, by omega⟩)⟩⟩
        · have c3 : ¬ (i : Int) < ((xs.length : Nat) : Int) := of_decide_eq_false (Bool.eq_false_iff.mpr c2)
          exact hQ' _ _ ⟨Same.refl _, .inr ⟨rfl, _, List.getElem?_eq_getElem hj2, merge_stepR (List.getElem?_eq_getElem hj2) (.inl (by omega))⟩⟩
    · rintro b3 H3 ⟨s3, ⟨rfl, x, hx, hm⟩ | ⟨rfl, x, hx, hm⟩⟩
      · obtain ⟨xv, hxv, go⟩ := goL hx
        obtain ⟨htx, hD3, gr⟩ := go H3 s3
        refine iteT ⟨_, rfl, .inl ⟨rfl, _, SqL.of (hD3.trans hD1)⟩, _, rfl, _, rfl, a, xs, _, _, rfl, rfl, SqL.of (s3 _ _ ha1), atI_nat hxv, xv, x, rfl, htx, fitL_iff.mp fl _ (List.mem_of_getElem? hx), dl _ (List.mem_of_getElem? hx), fun H4 r nw => ?_⟩
        obtain ⟨acc, k1, k2, k3⟩ := gr H4 r nw
        refine ⟨D, acc, r, rfl, rfl, k1, k2, _, rfl, _, _, rfl, rfl, k - 1, ?_⟩
        have := (List.getElem?_eq_some_iff.mp hx).1
        refine ⟨by omega, i + 1, j, ts ++ [x], ?_, by omega, by omega, by omega, k3, by rw [e, hm]; simp⟩
        show [_, _, _, some (V.int ((i : Int) + 1)), _] = _
        congr 1
      · obtain ⟨xv, hxv, go⟩ := goR hx
        obtain ⟨htx, hD3, gr⟩ := go H3 s3
        refine iteF ⟨_, rfl, .inl ⟨rfl, _, SqL.of (hD3.trans hD1)⟩, _, rfl, _, rfl, b, ys, _, _, rfl, rfl, SqL.of (s3 _ _ hb1), atI_nat hxv, xv, x, rfl, htx, fitL_iff.mp fm _ (List.mem_of_getElem? hx), dm _ (List.mem_of_getElem? hx), fun H4 r nw => ?_⟩
        obtain ⟨acc, k1, k2, k3⟩ := gr H4 r nw
        refine ⟨D, acc, r, rfl, rfl, k1, k2, _, rfl, _, _, rfl, rfl, k - 1, ?_⟩
        have := (List.getElem?_eq_some_iff.mp hx).1
        refine ⟨by omega, i, j + 1, ts ++ [x], ?_, by omega, by omega, by omega, k3, by rw [e, hm]; simp⟩
        show [_, _, _, _, some (V.int ((j : Int) + 1))] = _
        congr 1
  · have c' : ¬ (i < l.length ∨ j < m.length) := of_decide_eq_false (Bool.eq_false_iff.mpr c)
    have e1 : i = l.length := by omega
    have e2 : j = m.length := by omega
    rw [e1, e2, List.drop_length, List.drop_length, merge_nil_r, List.append_nil] at e
    refine ⟨_, rfl, q _ _ ?_⟩
    rw [e]; exact g.done
end
section
variable {P : Program} {w : World} {K : PySem.W.Frag} {mg : Str → Option Value} {base : Heap}
/-! ### told_of -/
theorem toldL_len (l acc : List Tt) : (toldL acc l).length = acc.length + l.length := by
  rw [(toldL_perm l acc).length_eq, List.length_append, List.length_map]
theorem depthL_iff : ∀ {l : List Tt} {n : Nat}, depthL l ≤ n ↔ ∀ x, x ∈ l → depth x + 1 ≤ n
  | [], n => by simp [depthL]
  | x :: l, n => by
    rw [depthL]
    have ih := depthL_iff (l := l) (n := n)
    constructor
    · intro h y hy
      rcases List.mem_cons.mp hy with e | hy
      · rw [e]; omega
      · exact ih.mp (by omega) y hy
    · intro h
      have h1 := h x List.mem_cons_self
      have h2 := ih.mpr fun y hy => h y (List.mem_cons_of_mem _ hy)
      omega
theorem mem_toldL {l : List Tt} {x : Tt} (h : x ∈ toldL [] l) : ∃ y, y ∈ l ∧ x = told y := by
  have := (toldL_perm l []).mem_iff.mp h
  rw [List.nil_append] at this
  obtain ⟨y, hy, e⟩ := List.mem_map.mp this
  exact ⟨y, hy, e.symm⟩
theorem depth_told_le (t : Tt) : depth (told t) ≤ depth t := by
  induction t using Tt.ind with
  | h l ih =>
    rw [told_mk, depth, depth]
    refine depthL_iff.mpr fun x hx => ?_
    obtain ⟨y, hy, e⟩ := mem_toldL hx
    subst e
    have := ih y hy
    have := depthL_le hy
    omega
theorem fit_told (t : Tt) (h : fit t) : fit (told t) := by
  induction t using Tt.ind with
  | h l ih =>
    rw [told_mk, fit_mk]
    refine ⟨by rw [toldL_len]; have := fit_len h; simp only [List.length_nil]; omega, fitL_iff.mpr fun x hx => ?_⟩
    obtain ⟨y, hy, e⟩ := mem_toldL hx
    subst e
    exact ih y hy (fit_bs h hy)
theorem depth_told {t : Tt} {n : Nat} (h : depth t < n) : depth (told t) < n := Nat.lt_of_le_of_lt (depth_told_le t) h
theorem toldL_more {l : List Tt} {i : Nat} {b : Tt} (h : l[i]? = some b) : toldL [] (l.take (i + 1)) = merge (toldL [] (l.take i)) [told b] := by
  rw [take_more h, toldL_append, toldL_cons, toldL_nil, merge_one]
def spToldOf (n : Nat) : Sp := fun vs H Q _ => ∃ (v : V) (t : Tt), vs = [v] ∧ TreeAt H v t ∧ fit t ∧ depth t < n ∧ ∀ H' r, New H H' r (told t) → Q r H'
theorem ok_told_of (T : Txt K mg) : ∀ n, FnOk P w K mg base CX0 (n + 2) T.a_told_of T.d_told_of ["tree"] (spToldOf n)
  | 0 => none_left fun vs H Q E ⟨v, t, _, _, _, h, _⟩ => by omega
  | n + 1 => by
    have G_told_of := ok_told_of T n
    have G_merged := ok_merged (P := P) (w := w) (base := base) T n
    refine T.F_told_of.ok sc_told_of (fun vs H Q E h => ?_) (fun cdv A outer s H vs Q E hr h => ?_)
    · obtain ⟨v, t, rfl, _⟩ := h; rfl
    obtain ⟨v, ⟨bs⟩, rfl, ht, hf, hd, q⟩ := h
    have R_told_of : Room (n + 2) _ := hr
    have R_merged : Room (n + 1) _ := hr.mono (by omega)
    rw [treeAt_mk] at ht
    rw [told_mk] at q
    obtain ⟨a, xs, rfl, ha, hbs⟩ := ht
    have flen := fit_len hf
    refine ⟨_, (pss_cons (ps_set (i := 1) sc_told_of.nd rfl (Or.inl rfl) (pe_lst pa_nil))
      (pss_cons (ps_for PassesOwn.never rfl (pi_list (pv 0)) (pg_name (i := 2) sc_told_of.nd rfl (Or.inl rfl)) (pss_one (ps_set (i := 1) sc_told_of.nd rfl (Or.inl rfl) (pe_call G_merged R_merged rfl T.m_merged T.k_merged T.b_merged .nil pass0 (pa_cons (pv 1) (pa_cons (pe_lst (pa_cons (pe_call G_told_of R_told_of rfl T.m_told_of T.k_told_of T.b_told_of .nil pass0 (pa_cons (pv 2) pa_nil)) pa_nil)) pa_nil))))))
      (pss_one (ps_ret (pv 1))))), ?_⟩
    refine ⟨(by show 0 ≤ sizeLine; decide), fun D nD => ?_⟩
    refine ⟨_, rfl, a, rfl, ⟨xs, SqL.of (same_new nD _ _ _ ha)⟩, ?_⟩
    refine for_it (walk_list (xs := xs)) (fun i σ H' => ∃ r o, σ = [some (.ref a), some r, o] ∧ New H H' r (.mk (toldL [] (bs.take i)))) ⟨_, none, rfl, (Grow.start nD).done⟩ (fun i σ H' _ p => ?_) ?_ ?_
    · obtain ⟨r, o, _, nw⟩ := p
      exact SqL.of (nw.1 _ _ ha)
    · rintro i x σ H1 H2 hi ⟨r, o, rfl, nw⟩ ⟨rfl, hx⟩
      obtain ⟨b, hb, hxb⟩ := hbs.get hx
      have mb := List.mem_of_getElem? hb
      have hib := (List.getElem?_eq_some_iff.mp hb).1
      refine ⟨_, rfl, _, rfl, x, b, rfl, TreeAt.same nw.1 b hxb, fit_bs hf mb, depth_bs hd mb, fun H3 r2 nw2 => ?_⟩
      refine ⟨(by show 1 ≤ sizeLine; decide), fun p np => ?_⟩
      have s4 : Same H3 (upd H3 p (.lst [r2])) := same_new np _
      have fl1 : fitL (toldL [] (bs.take i)) := fitL_iff.mpr fun y hy => by
        obtain ⟨z, hz, e⟩ := mem_toldL hy
        rw [e]
        exact fit_told z (fit_bs hf (List.mem_of_mem_take hz))
      have dl1 : ∀ y, y ∈ toldL [] (bs.take i) → depth y < n := fun y hy => by
        obtain ⟨z, hz, e⟩ := mem_toldL hy
        rw [e]
        exact depth_told (depth_bs hd (List.mem_of_mem_take hz))
      refine ⟨r, .ref p, toldL [] (bs.take i), [told b], rfl, TreeAt.same (nw2.1.trans s4) _ nw.at_, ?_, fl1, ?_, ?_, dl1, ?_, fun H5 r3 nw3 => ?_⟩
      · rw [treeAt_mk]
        exact ⟨p, [r2], rfl, upd_same, TreesAt.one (TreeAt.same s4 _ nw2.at_)⟩
      · exact fitL_iff.mpr fun y hy => by
          rw [List.mem_singleton] at hy
          rw [hy]
          exact fit_told b (fit_bs hf mb)
      · rw [toldL_len, List.length_take, List.length_singleton, List.length_nil]
        omega
      · intro y hy
        rw [List.mem_singleton] at hy
        rw [hy]
        exact depth_told (depth_bs hd mb)
      · refine ⟨r3, some x, rfl, ?_⟩
        rw [toldL_more hb]
        exact nw3.of (nw.1.trans (nw2.1.trans s4))
    · rintro σ H1 ⟨r, o, rfl, nw⟩
      rw [hbs.len, List.take_length] at nw
      exact ⟨_, rfl, q _ _ nw⟩
/-! ### knots -/
def spKnots (n : Nat) : Sp := fun vs H Q _ => ∃ (v : V) (t : Tt), vs = [v] ∧ TreeAt H v t ∧ fit t ∧ depth t < n ∧ ∀ H', Same H H' → Q (.int (knots t)) H'
theorem knotsL_sum : ∀ l : List Tt, ((l.map fun x => (knots x : Int)).sum : Int) = knotsL l
  | [] => by simp [knotsL]
  | x :: l => by rw [List.map_cons, List.sum_cons, knotsL_sum l, knotsL]; omega
/-- a new list at D that holds what f says of the branches gone through -/
def Fill (H H' : Hp) (D : Addr) (vs : List V) : Prop := Same H H' ∧ H D = none ∧ H' D = some (.lst vs)
theorem Fill.start {H : Hp} {D : Addr} (h : H D = none) : Fill H (upd H D (.lst [])) D [] := ⟨same_new h _, h, upd_same⟩
theorem Fill.more {H H' H2 : Hp} {D : Addr} {vs : List V} {v : V} (g : Fill H H' D vs) (s : Same H' H2) : H2 D = some (.lst vs) ∧ Fill H (upd H2 D (.lst (vs ++ [v]))) D (vs ++ [v]) :=
  ⟨s _ _ g.2.2, fun b u q => by rw [upd_ne (ne_of_none q g.2.1)]; exact s _ _ (g.1 _ _ q), g.2.1, upd_same⟩
theorem ok_knots (T : Txt K mg) : ∀ n, FnOk P w K mg base CX0 n T.a_knots T.d_knots ["tree"] (spKnots n)
  | 0 => none_left fun vs H Q E ⟨v, t, _, _, _, h, _⟩ => by omega
  | n + 1 => by
    have G_knots := ok_knots T n
    refine T.F_knots.ok sc_knots (fun vs H Q E h => ?_) (fun cdv A outer s H vs Q E hr h => ?_)
    · obtain ⟨v, t, rfl, _⟩ := h; rfl
    obtain ⟨v, ⟨bs⟩, rfl, ht, hf, hd, q⟩ := h
    have R_knots : Room n _ := hr
    rw [treeAt_mk] at ht
    obtain ⟨a, xs, rfl, ha, hbs⟩ := ht
    refine ⟨_, (pss_one (ps_ret (pe_op op_add pe_int (pe_callB (r := rSum K) (cr_sum rfl) (by rfl) T.z_sum (by decide +kernel) (pa_cons (pe_lc (own := [("branch", 1)]) (g := gName 1) (tt := tYes) rfl sc_knots.nd (pi_list (pv 0)) (blkOk_by (own := [("branch", 1)]) (N := ["tree", "branch"]) (sc := defScope s_knots) (by decide +kernel)) (fun _ _ _ _ _ => (pg_name (i := 1) sc_knots.nd rfl (Or.inl rfl))) (fun _ _ _ _ _ => pts_nil) (fun _ _ _ _ _ => (pe_call G_knots R_knots rfl T.m_knots T.k_knots T.b_knots .nil pass0 (pa_cons (pv 1) pa_nil)))) pa_nil))))), ?_⟩
    refine ⟨_, rfl, a, rfl, ⟨xs, SqL.of ha⟩, fun D nD => ?_⟩
    refine lc_it (walk_list (xs := xs)) (fun i H' => Fill H H' D (((bs.take i).map fun x => (knots x : Int)).map V.int)) (Fill.start nD) (fun i H' _ g => SqL.of (g.1 _ _ ha)) ?_ ?_
    · rintro i x H1 H2 hi g ⟨rfl, hx⟩
      obtain ⟨b, hb, hxb⟩ := hbs.get hx
      have mb := List.mem_of_getElem? hb
      refine ⟨rfl, _, rfl, x, b, rfl, TreeAt.same g.1 b hxb, fit_bs hf mb, depth_bs hd mb, fun H3 s3 => ?_⟩
      obtain ⟨h1, h2⟩ := g.more (v := .int (knots b)) s3
      refine ⟨_, h1, ?_, ?_⟩
      · rw [List.length_map, List.length_map, List.length_take]
        exact lim_line (Nat.le_trans (Nat.min_le_right _ _) (fit_len hf))
      · rw [take_more hb, List.map_append, List.map_append]; exact h2
    · intro H1 g
      rw [hbs.len, List.take_length] at g
      refine ⟨D, _, rfl, SqL.of g.2.2, _, _, rfl, rfl, ?_⟩
      show Q (.int (1 + (bs.map fun x => (knots x : Int)).sum)) H1
      rw [knotsL_sum]
      have := q H1 g.1
      rw [knots] at this
      exact this
end
section
variable {P : Program} {w : World} {K : PySem.W.Frag} {mg : Str → Option Value} {base : Heap}
/-! ### is_tree -/
/-- all but l is kept -/
def Kept (l : Addr) (H H' : Hp) : Prop := ∀ b o, b ≠ l → H b = some o → H' b = some o
def spIsTree (n : Nat) : Sp := fun vs H Q _ => ∃ (H0 : Hp) (v : V) (th : Th) (d : Nat) (L : Int) (l : Addr), vs = [v, .int d, .ref l] ∧ ThAt H0 v th ∧ Same H0 H ∧ H0 l = none ∧ H l = some (.lst [.int L]) ∧ fitTh th ∧ 42 ≤ d + n ∧ d ≤ 41 ∧
  ∀ H', Kept l H H' → H' l = some (.lst [.int (isT th d L).2]) → Q (.bl (isT th d L).1) H'
theorem Kept.same {H0 H H' : Hp} {l : Addr} (k : Kept l H H') (s : Same H0 H) (n : H0 l = none) : Same H0 H' := fun b o e => k b o (ne_of_none e n) (s b o e)
theorem ok_is_tree (T : Txt K mg) : ∀ n, FnOk P w K mg base CX0 n T.a_is_tree T.d_is_tree ["thing", "depth", "left"] (spIsTree n)
  | 0 => none_left fun vs H Q E ⟨H0, v, th, d, L, l, _, _, _, _, _, _, h1, h2, _⟩ => by omega
  | n + 1 => by
    have G_is_tree := ok_is_tree T n
    refine T.F_is_tree.ok sc_is_tree (fun vs H Q E h => ?_) (fun cdv A outer s H vs Q E hr h => ?_)
    · obtain ⟨H0, v, th, d, L, l, rfl, _⟩ := h; rfl
    obtain ⟨H0, v, th, d, L, l, rfl, ht, s0, nl, hl, hf, hn, hd, q⟩ := h
    have R_is_tree : Room n _ := hr
    have ht1 := ThAt.same s0 th ht
    refine ⟨_, (pss_cons (ps_if (PW.pt (pw_or (pt_not (pt_val (pe_callB (r := rIsi K) call_isi (by rfl) T.z_isinstance (by decide +kernel) (pa_cons (pv 0) (pa_cons (pe_bltn (v := .ty "list") (u := .type "list") (by rfl) T.z_list (by decide +kernel) rfl) pa_nil))))) (pw_or (pt_cmpR op_gt (pv 1) (pe_glob (v := .int 40) rfl T.c_DEEPEST ⟨_, rfl⟩) (nomark _)) (pw_or1 (pt_cmpR op_lt (pe_ix (r := rIxL K) ix_list (pv 2) pe_int (fun _ _ => rfl)) pe_int (nomark _)))))) (pss_one (ps_ret pe_bl)) pss_nil)
      (pss_cons (ps_asg (pe_op op_sub (pe_ix (r := rIxL K) ix_list (pv 2) pe_int (fun _ _ => rfl)) pe_int) (pg_sub (pv 2) pe_int set_list))
      (pss_one (ps_ret (pe_callB (r := rAll K) (cr_all rfl) (by rfl) T.z_all (by decide +kernel) (pa_cons (pe_lc (own := [("branch", 3)]) (g := gName 3) (tt := tYes) rfl sc_is_tree.nd (pi_list (pv 0)) (blkOk_by (own := [("branch", 3)]) (N := ["thing", "depth", "left", "branch"]) (sc := defScope s_is_tree) (by decide +kernel)) (fun _ _ _ _ _ => (pg_name (i := 3) sc_is_tree.nd rfl (Or.inl rfl))) (fun _ _ _ _ _ => pts_nil) (fun _ _ _ _ _ => (pe_call G_is_tree R_is_tree rfl T.m_is_tree T.k_is_tree T.b_is_tree .nil pass0 (pa_cons (pv 3) (pa_cons (pe_op op_add (pv 1) pe_int) (pa_cons (pv 2) pa_nil)))))) pa_nil)))))), ?_⟩
    cases th with
    | no =>
      rw [thAt_no] at ht1
      obtain ⟨ty, h1, h2⟩ := Leaf.isi (K := K) ht1
      refine ⟨_, rfl, _, _, ty, _, false, rfl, ClsV.ty _, h1, h2, _, rfl, iteT ?_⟩
      refine iteT ?_
      rw [isT_no] at q
      exact q H (fun _ _ _ e => e) hl
    | li bs =>
      rw [thAt_li] at ht ht1
      obtain ⟨a, xs, rfl, ha0, hbs0⟩ := ht
      obtain ⟨a', xs', ea, ha, hbs⟩ := ht1
      cases ea
      have exs : xs' = xs := by have := s0 _ _ ha0; rw [this] at ha; injection ha with ha; injection ha with ha; exact ha.symm
      subst exs
      rw [fitTh_li] at hf
      obtain ⟨h1, h2⟩ := list_isi (K := K) ha
      refine ⟨_, rfl, _, _, _, _, true, rfl, ClsV.ty _, h1, h2, _, rfl, iteF ?_⟩
      refine cut_t (fun b H' => H' = H ∧ b = decide (40 < d ∨ L < 1)) (fun Q' hQ' => ?_) ?_
      · refine ⟨_, rfl, _, _, rfl, rfl, _, rfl, ?_⟩
        refine ite2 (fun c => ?_) (fun c => ?_)
        · have c' : (40 : Int) < (d : Int) := of_decide_eq_true c
          exact hQ' _ _ ⟨rfl, (decide_eq_true (by omega)).symm⟩
        · have c' : ¬ (40 : Int) < (d : Int) := of_decide_eq_false (Bool.eq_false_iff.mpr c)
          refine ⟨_, rfl, l, _, 0, _, rfl, rfl, SqL.of hl, rfl, _, _, rfl, rfl, _, rfl, hQ' _ _ ⟨rfl, ?_⟩⟩
          refine decide_eq_decide.mpr ?_
          omega
      rintro b1 H1 ⟨rfl, rfl⟩
      rw [isT_li] at q
      refine ite2 (fun c => ?_) (fun c => ?_)
      · rw [if_pos (of_decide_eq_true c)] at q
        exact q H1 (fun _ _ _ e => e) hl
      · have c' := of_decide_eq_false (Bool.eq_false_iff.mpr c)
        rw [if_neg c'] at q
        -- left[0] = left[0] - 1
        refine ⟨_, rfl, l, _, 0, _, rfl, rfl, SqL.of hl, rfl, _, _, rfl, rfl, _, rfl, l, _, 0, 0, rfl, rfl, hl, rfl, ?_⟩
        have k1 : Kept l H1 (upd H1 l (.lst ([V.int L].set 0 (.int (L - 1))))) := fun b o nb e => by rw [upd_ne nb]; exact e
        have l1 : (upd H1 l (.lst ([V.int L].set 0 (.int (L - 1))))) l = some (.lst [.int (L - 1)]) := upd_same
        generalize upd H1 l (.lst ([V.int L].set 0 (.int (L - 1)))) = H2 at k1 l1 ⊢
        have s2 : Same H0 H2 := k1.same s0 nl
        refine ⟨_, rfl, a, rfl, ⟨xs', SqL.of (s2 _ _ ha0)⟩, fun D nD => ?_⟩
        have nDl : D ≠ l := fun e => by rw [e, l1] at nD; cases nD
        refine lc_it (walk_list (xs := xs')) (fun i H' => Kept l H2 H' ∧ H' l = some (.lst [.int (isTl (bs.take i) (d + 1) (L - 1)).2]) ∧ H' D = some (.lst ((isTl (bs.take i) (d + 1) (L - 1)).1.map V.bl))) ?_ (fun i H' _ g => SqL.of (g.1.same s2 nl _ _ ha0)) ?_ ?_
        · refine ⟨fun b o nb e => by rw [upd_ne (ne_of_none e nD)]; exact e, ?_, ?_⟩
          · rw [upd_ne (Ne.symm nDl), List.take_zero, isTl_nil]; exact l1
          · rw [upd_same, List.take_zero, isTl_nil]; rfl
        · rintro i x H3 H4 hi ⟨g1, g2, g3⟩ ⟨rfl, hx⟩
          obtain ⟨b, hb, hxb⟩ := hbs0.get hx
          have mb := List.mem_of_getElem? hb
          have hib := (List.getElem?_eq_some_iff.mp hb).1
          refine ⟨rfl, _, rfl, _, rfl, _, _, rfl, rfl, _, rfl, H0, x, b, d + 1, _, l, rfl, hxb, g1.same s2 nl, nl, g2, fitThL_mem hf.2 b mb, by omega, by omega, fun H5 k5 l5 => ?_⟩
          refine ⟨_, k5 _ _ nDl g3, ?_, fun b o nb e => ?_, ?_, ?_⟩
          · rw [List.length_map, isTl_len, List.length_take]
            exact lim_line (by omega)
          · by_cases hD : b = D
            · rw [hD] at e; rw [nD] at e; cases e
            · rw [upd_ne hD]; exact k5 _ _ nb (g1 _ _ nb e)
          · rw [upd_ne (Ne.symm nDl), take_more hb, isTl_snoc]; exact l5
          · rw [upd_same, take_more hb, isTl_snoc, List.map_append]; rfl
        · rintro H3 ⟨g1, g2, g3⟩
          have e1 : bs.take xs'.length = bs := by rw [hbs.len, List.take_length]
          rw [e1] at g2 g3
          exact ⟨D, _, rfl, SqL.of g3, q H3 (fun b o nb e => g1 b o nb (k1 b o nb e)) g2⟩
/-! ### asked_tree -/
def spAskedTree (A : Addr) : Sp := fun vs H Q E => ∃ v, vs = [v] ∧ ((∃ t, TreeAt H v t ∧ okT t ∧ ∀ H', Same H H' → Q .non H') ∨ (Bad H v ∧ ∀ H', Same H H' → E (.ref A) none H'))
theorem ok_asked_tree (T : Txt K mg) : FnOk P w K mg base (L2N.CX P w) 43 T.a_asked_tree T.d_asked_tree ["tree"] (spAskedTree T.A_BadTree) := by
  have G_is_tree := ok_is_tree (P := P) (w := w) (base := base) T 42
  refine okN T.F_asked_tree sc_asked_tree (fun vs H Q E h => ?_) (fun cdv A outer s H vs Q E hr h => ?_)
  · obtain ⟨v, rfl, _⟩ := h; rfl
  obtain ⟨v, rfl, h⟩ := h
  have R_is_tree : Room 42 _ := hr
  refine ⟨_, (pss_one (ps_if (pt_not (pt_val (pe_call G_is_tree R_is_tree rfl T.m_is_tree T.k_is_tree T.b_is_tree .nil pass0 (pa_cons (pv 0) (pa_cons pe_int (pa_cons (pe_lst (pa_cons (pe_glob (v := .int 300) rfl T.c_MOST ⟨_, rfl⟩) pa_nil)) pa_nil)))))) (pss_one (L2N.ps_raise rfl (L2N.takes_of rfl rfl rfl rfl) (L2N.pmk_own PySem.F.excBase_ValueError T.x_BadTree T.g_BadTree T.k_BadTree (raises_own T.sb_BadTree T.tt_BadTree) (by exact rfl)))) pss_nil)), ?_⟩
  have sLen : ([V.int 300] : List V).length ≤ sizeLine := by decide
  rcases h with ⟨t, ht, ho, q⟩ | ⟨⟨th, ht, hf, hb⟩, q⟩
  · refine ⟨_, rfl, sLen, fun l nl => ?_⟩
    refine ⟨H, v, toTh t, 0, 300, l, rfl, TreeAt.th t ht, same_new nl _, nl, upd_same, fit_toTh t ho.fit, by omega, by omega, fun H' k1 k2 => ?_⟩
    have e := isT_tree t 0 300 ho.2 (by have := ho.1; omega)
    rw [e]
    refine ⟨_, rfl, iteF (q _ ?_)⟩
    exact k1.same (same_new nl _) nl
  · refine ⟨_, rfl, sLen, fun l nl => ?_⟩
    refine ⟨H, v, th, 0, 300, l, rfl, ht, same_new nl _, nl, upd_same, hf, by omega, by omega, fun H' k1 k2 => ?_⟩
    rw [hb]
    exact ⟨_, rfl, iteT (q _ (k1.same (same_new nl _) nl))⟩
end
section
variable {P : Program} {w : World} {K : PySem.W.Frag} {mg : Str → Option Value} {base : Heap}
/-! ### told -/
def spTold (A : Addr) : Sp := fun vs H Q E => ∃ v, vs = [v] ∧ ((∃ t, TreeAt H v t ∧ okT t ∧ ∀ H' r, New H H' r (told t) → Q r H') ∨ (Bad H v ∧ ∀ H', Same H H' → E (.ref A) none H'))
theorem ok_told (T : Txt K mg) : FnOk P w K mg base (L2N.CX P w) 44 T.a_told T.d_told ["tree"] (spTold T.A_BadTree) := by
  have G_asked_tree := ok_asked_tree (P := P) (w := w) (base := base) T
  have G_told_of := ok_told_of (P := P) (w := w) (base := base) T 41
  refine okN T.F_told sc_told (fun vs H Q E h => ?_) (fun cdv A outer s H vs Q E hr h => ?_)
  · obtain ⟨v, rfl, _⟩ := h; rfl
  obtain ⟨v, rfl, h⟩ := h
  have R_asked_tree : Room 43 _ := hr
  have R_told_of : Room 43 _ := hr
  refine ⟨_, (pss_cons (ps_expr (pe_call G_asked_tree R_asked_tree rfl T.m_asked_tree T.k_asked_tree T.b_asked_tree .nil (L2N.passes_call (L2N.takes_of rfl rfl rfl rfl) (fun _ _ _ _ h => h)) (pa_cons (pv 0) pa_nil)))
      (pss_one (ps_ret (pe_call G_told_of R_told_of rfl T.m_told_of T.k_told_of T.b_told_of .nil pass0 (pa_cons (pv 0) pa_nil))))), ?_⟩
  rcases h with ⟨t, ht, ho, q⟩ | ⟨hb, q⟩
  · refine ⟨_, rfl, v, rfl, .inl ⟨t, ht, ho, fun H1 s1 => ?_⟩⟩
    exact ⟨_, rfl, v, t, rfl, TreeAt.same s1 t ht, ho.fit, ho.dp, fun H2 r nw => q _ _ (nw.of s1)⟩
  · exact ⟨_, rfl, v, rfl, .inr ⟨hb, fun H1 s1 => q _ s1⟩⟩
/-! ### compare -/
def sgn (i : Int) : Int := if 0 < i then 1 else if i = 0 then 0 else -1
/-- the first one is none, or the second one -/
def Bad2 (H : Hp) (v u : V) : Prop := Bad H v ∨ ((∃ t, TreeAt H v t ∧ okT t) ∧ Bad H u)
def spCompare (A : Addr) : Sp := fun vs H Q E => ∃ v u, vs = [v, u] ∧ ((∃ t s, TreeAt H v t ∧ okT t ∧ TreeAt H u s ∧ okT s ∧ ∀ H', Same H H' → Q (.int (sgn (cmp (told t) (told s)))) H') ∨ (Bad2 H v u ∧ ∀ H', Same H H' → E (.ref A) none H'))
theorem ok_compare (T : Txt K mg) : FnOk P w K mg base (L2N.CX P w) 44 T.a_compare T.d_compare ["one", "other"] (spCompare T.A_BadTree) := by
  have G_asked_tree := ok_asked_tree (P := P) (w := w) (base := base) T
  have G_told_of := ok_told_of (P := P) (w := w) (base := base) T 41
  have G_compared := ok_compared (P := P) (w := w) (base := base) T 41
  refine okN T.F_compare sc_compare (fun vs H Q E h => ?_) (fun cdv A outer s H vs Q E hr h => ?_)
  · obtain ⟨v, u, rfl, _⟩ := h; rfl
  obtain ⟨v, u, rfl, h⟩ := h
  have R_asked_tree : Room 43 _ := hr
  have R_told_of : Room 43 _ := hr
  have R_compared : Room 41 _ := hr.mono (by omega)
  refine ⟨_, (pss_cons (ps_expr (pe_call G_asked_tree R_asked_tree rfl T.m_asked_tree T.k_asked_tree T.b_asked_tree .nil (L2N.passes_call (L2N.takes_of rfl rfl rfl rfl) (fun _ _ _ _ h => h)) (pa_cons (pv 0) pa_nil)))
      (pss_cons (ps_expr (pe_call G_asked_tree R_asked_tree rfl T.m_asked_tree T.k_asked_tree T.b_asked_tree .nil (L2N.passes_call (L2N.takes_of rfl rfl rfl rfl) (fun _ _ _ _ h => h)) (pa_cons (pv 1) pa_nil)))
      (pss_cons (ps_set (i := 2) sc_compare.nd rfl (Or.inl rfl) (pe_call G_compared R_compared rfl T.m_compared T.k_compared T.b_compared .nil pass0 (pa_cons (pe_call G_told_of R_told_of rfl T.m_told_of T.k_told_of T.b_told_of .nil pass0 (pa_cons (pv 0) pa_nil)) (pa_cons (pe_call G_told_of R_told_of rfl T.m_told_of T.k_told_of T.b_told_of .nil pass0 (pa_cons (pv 1) pa_nil)) pa_nil))))
      (pss_one (ps_ret (pe_ifExp (pt_cmpR op_gt (pv 2) pe_int (nomark _)) pe_int (pe_ifExp (pt_cmpR op_eq (pv 2) pe_int (nomark _)) pe_int (pe_un un_neg pe_int)))))))), ?_⟩
  rcases h with ⟨t, s, ht, ho, hs, hos, q⟩ | ⟨hb | ⟨⟨t, ht, ho⟩, hb⟩, q⟩
  · refine ⟨_, rfl, v, rfl, .inl ⟨t, ht, ho, fun H1 s1 => ?_⟩⟩
    refine ⟨_, rfl, u, rfl, .inl ⟨s, TreeAt.same s1 s hs, hos, fun H2 s2 => ?_⟩⟩
    have s12 := s1.trans s2
    refine ⟨_, rfl, v, t, rfl, TreeAt.same s12 t ht, ho.fit, ho.dp, fun H3 r3 n3 => ?_⟩
    refine ⟨_, rfl, u, s, rfl, TreeAt.same (s12.trans n3.1) s hs, hos.fit, hos.dp, fun H4 r4 n4 => ?_⟩
    refine ⟨r3, r4, told t, told s, rfl, TreeAt.same n4.1 _ n3.at_, n4.at_, depth_told ho.dp, fun H5 s5 => ?_⟩
    have z := q H5 (s12.trans (n3.1.trans (n4.1.trans s5)))
    unfold sgn at z
    refine ⟨_, rfl, _, _, rfl, rfl, _, rfl, ?_⟩
    refine ite2 (fun c => ?_) (fun c => ?_)
    · have c' : 0 < cmp (told t) (told s) := of_decide_eq_true c
      rw [if_pos c'] at z
      exact z
    · have c' : ¬ 0 < cmp (told t) (told s) := of_decide_eq_false (Bool.eq_false_iff.mpr c)
      rw [if_neg c'] at z
      refine ⟨_, rfl, rfl, _, rfl, ?_⟩
      refine ite2 (fun c => ?_) (fun c => ?_)
      · have c2 : V.int (cmp (told t) (told s)) = V.int 0 := of_decide_eq_true c
        injection c2 with c2
        rw [if_pos c2] at z
        exact z
      · have c2 : ¬ V.int (cmp (told t) (told s)) = V.int 0 := of_decide_eq_false (Bool.eq_false_iff.mpr c)
        rw [if_neg (fun e => c2 (by rw [e]))] at z
        exact ⟨_, rfl, z⟩
  · exact ⟨_, rfl, v, rfl, .inr ⟨hb, fun H1 s1 => q _ s1⟩⟩
  · refine ⟨_, rfl, v, rfl, .inl ⟨t, ht, ho, fun H1 s1 => ?_⟩⟩
    exact ⟨_, rfl, u, rfl, .inr ⟨hb.same s1, fun H2 s2 => q _ (s1.trans s2)⟩⟩
/-! ### asked_great -/
def spAskedGreat (A : Addr) : Sp := fun vs H Q E => ∃ v t, vs = [v] ∧ TreeAt H v t ∧ fit t ∧ depth t ≤ 40 ∧ (knots t ≤ 300 → ∀ H', Same H H' → Q v H') ∧ (300 < knots t → ∀ H', Same H H' → E (.ref A) none H')
theorem ok_asked_great (T : Txt K mg) : FnOk P w K mg base (L2N.CX P w) 42 T.a_asked_great T.d_asked_great ["tree"] (spAskedGreat T.A_TooGreat) := by
  have G_knots := ok_knots (P := P) (w := w) (base := base) T 41
  refine okN T.F_asked_great sc_asked_great (fun vs H Q E h => ?_) (fun cdv A outer s H vs Q E hr h => ?_)
  · obtain ⟨v, t, rfl, _⟩ := h; rfl
  obtain ⟨v, t, rfl, ht, hf, hd, q1, q2⟩ := h
  have R_knots : Room 41 _ := hr
  refine ⟨_, (pss_cons (ps_if (pt_cmpR op_gt (pe_call G_knots R_knots rfl T.m_knots T.k_knots T.b_knots .nil pass0 (pa_cons (pv 0) pa_nil)) (pe_glob (v := .int 300) rfl T.c_MOST ⟨_, rfl⟩) (nomark _)) (pss_one (L2N.ps_raise rfl (L2N.takes_of rfl rfl rfl rfl) (L2N.pmk_own PySem.F.excBase_ValueError T.x_TooGreat T.g_TooGreat T.k_TooGreat (raises_own T.sb_TooGreat T.tt_TooGreat) (by exact rfl)))) pss_nil)
      (pss_one (ps_ret (pv 0)))), ?_⟩
  refine ⟨_, rfl, v, t, rfl, ht, hf, by omega, fun H1 s1 => ?_⟩
  refine ⟨_, _, rfl, rfl, _, rfl, ?_⟩
  refine ite2 (fun c => ?_) (fun c => ?_)
  · have c' : (300 : Int) < (knots t : Int) := of_decide_eq_true c
    exact q2 (by omega) _ s1
  · have c' : ¬ (300 : Int) < (knots t : Int) := of_decide_eq_false (Bool.eq_false_iff.mpr c)
    exact ⟨_, rfl, q1 (by omega) _ s1⟩
/-! ### together -/
/-- two trees -/
def spTwo (A B : Addr) (f : List Tt → List Tt → List Tt) : Sp := fun vs H Q E => ∃ v u, vs = [v, u] ∧
  ((∃ l m, TreeAt H v (.mk l) ∧ okT (.mk l) ∧ TreeAt H u (.mk m) ∧ okT (.mk m) ∧ (knots (.mk (f l m)) ≤ 300 → ∀ H' r, New H H' r (.mk (f l m)) → Q r H') ∧ (300 < knots (.mk (f l m)) → ∀ H', Same H H' → E (.ref B) none H')) ∨ (Bad2 H v u ∧ ∀ H', Same H H' → E (.ref A) none H'))
theorem merge_mem {l m : List Tt} {x : Tt} (h : x ∈ merge l m) : x ∈ l ∨ x ∈ m := List.mem_append.mp ((merge_perm l m).mem_iff.mp h)
theorem depth_mk_of {l : List Tt} {n : Nat} (h : ∀ x, x ∈ l → depth x < n) : depth (.mk l) ≤ n := by rw [depth]; exact depthL_iff.mpr h
theorem fit_mk_of {l : List Tt} (h : ∀ x, x ∈ l → fit x) (hl : l.length ≤ lim) : fit (.mk l) := by rw [fit_mk]; exact ⟨hl, fitL_iff.mpr h⟩
theorem toldB_depth {l : List Tt} {n : Nat} (h : depth (.mk l) ≤ n) : ∀ x, x ∈ toldL [] l → depth x < n := fun x hx => by
  obtain ⟨y, hy, e⟩ := mem_toldL hx
  rw [e]
  rw [depth] at h
  have := depthL_le hy
  exact depth_told (by omega)
theorem toldB_fit {l : List Tt} (h : fit (.mk l)) : ∀ x, x ∈ toldL [] l → fit x := fun x hx => by
  obtain ⟨y, hy, e⟩ := mem_toldL hx
  rw [e]
  exact fit_told y (fit_bs h hy)
theorem okT_len {l : List Tt} (h : okT (.mk l)) : (toldL [] l).length ≤ 300 := by
  have h1 := h.1
  rw [knots] at h1
  have := knotsL_len l
  rw [toldL_len]
  simp only [List.length_nil]
  omega
theorem ok_together (T : Txt K mg) : FnOk P w K mg base (L2N.CX P w) 44 T.a_together T.d_together ["one", "other"] (spTwo T.A_BadTree T.A_TooGreat fun l m => merge (toldL [] l) (toldL [] m)) := by
  have G_asked_tree := ok_asked_tree (P := P) (w := w) (base := base) T
  have G_asked_great := ok_asked_great (P := P) (w := w) (base := base) T
  have G_told_of := ok_told_of (P := P) (w := w) (base := base) T 41
  have G_merged := ok_merged (P := P) (w := w) (base := base) T 40
  refine okN T.F_together sc_together (fun vs H Q E h => ?_) (fun cdv A outer s H vs Q E hr h => ?_)
  · obtain ⟨v, u, rfl, _⟩ := h; rfl
  obtain ⟨v, u, rfl, h⟩ := h
  have R_asked_tree : Room 43 _ := hr
  have R_told_of : Room 43 _ := hr
  have R_asked_great : Room 42 _ := hr.mono (by omega)
  have R_merged : Room 41 _ := hr.mono (by omega)
  refine ⟨_, (pss_cons (ps_expr (pe_call G_asked_tree R_asked_tree rfl T.m_asked_tree T.k_asked_tree T.b_asked_tree .nil (L2N.passes_call (L2N.takes_of rfl rfl rfl rfl) (fun _ _ _ _ h => h)) (pa_cons (pv 0) pa_nil)))
      (pss_cons (ps_expr (pe_call G_asked_tree R_asked_tree rfl T.m_asked_tree T.k_asked_tree T.b_asked_tree .nil (L2N.passes_call (L2N.takes_of rfl rfl rfl rfl) (fun _ _ _ _ h => h)) (pa_cons (pv 1) pa_nil)))
      (pss_one (ps_ret (pe_call G_asked_great R_asked_great rfl T.m_asked_great T.k_asked_great T.b_asked_great .nil (L2N.passes_call (L2N.takes_of rfl rfl rfl rfl) (fun _ _ _ _ h => h)) (pa_cons (pe_call G_merged R_merged rfl T.m_merged T.k_merged T.b_merged .nil pass0 (pa_cons (pe_call G_told_of R_told_of rfl T.m_told_of T.k_told_of T.b_told_of .nil pass0 (pa_cons (pv 0) pa_nil)) (pa_cons (pe_call G_told_of R_told_of rfl T.m_told_of T.k_told_of T.b_told_of .nil pass0 (pa_cons (pv 1) pa_nil)) pa_nil))) pa_nil)))))), ?_⟩
  rcases h with ⟨l, m, ht, ho, hs, hos, q1, q2⟩ | ⟨hb | ⟨⟨t, ht, ho⟩, hb⟩, q⟩
  · refine ⟨_, rfl, v, rfl, .inl ⟨_, ht, ho, fun H1 s1 => ?_⟩⟩
    refine ⟨_, rfl, u, rfl, .inl ⟨_, TreeAt.same s1 _ hs, hos, fun H2 s2 => ?_⟩⟩
    have s12 := s1.trans s2
    refine ⟨_, rfl, v, _, rfl, TreeAt.same s12 _ ht, ho.fit, ho.dp, fun H3 r3 n3 => ?_⟩
    refine ⟨_, rfl, u, _, rfl, TreeAt.same (s12.trans n3.1) _ hs, hos.fit, hos.dp, fun H4 r4 n4 => ?_⟩
    rw [told_mk] at n3 n4
    have f1 := toldB_fit ho.fit
    have f2 := toldB_fit hos.fit
    have d1 := toldB_depth ho.2
    have d2 := toldB_depth hos.2
    have e1 := okT_len ho
    have e2 := okT_len hos
    refine ⟨r3, r4, _, _, rfl, TreeAt.same n4.1 _ n3.at_, n4.at_, fitL_iff.mpr f1, fitL_iff.mpr f2, ?_, d1, d2, fun H5 r5 n5 => ?_⟩
    · exact Nat.le_trans (Nat.add_le_add e1 e2) (by decide)
    have n05 : New H H5 r5 _ := n5.of (s12.trans (n3.1.trans n4.1))
    refine ⟨r5, _, rfl, n5.at_, ?_, ?_, fun hk H6 s6 => q1 hk _ _ (n05.step s6), fun hk H6 s6 => q2 hk _ (n05.1.trans s6)⟩
    · refine fit_mk_of (fun x hx => (merge_mem hx).elim (f1 x) (f2 x)) ?_
      rw [merge_len]
      exact Nat.le_trans (Nat.add_le_add e1 e2) (by decide)
    · exact depth_mk_of fun x hx => (merge_mem hx).elim (d1 x) (d2 x)
  · exact ⟨_, rfl, v, rfl, .inr ⟨hb, fun H1 s1 => q _ s1⟩⟩
  · refine ⟨_, rfl, v, rfl, .inl ⟨t, ht, ho, fun H1 s1 => ?_⟩⟩
    exact ⟨_, rfl, u, rfl, .inr ⟨hb.same s1, fun H2 s2 => q _ (s1.trans s2)⟩⟩
end
section
variable {P : Program} {w : World} {K : PySem.W.Frag} {mg : Str → Option Value} {base : Heap}
/-! ### behind -/
/-- the branches of l that are worth no less than all of m, then m's -/
def keepq (m : List Tt) (x : Tt) : Bool := match m with | [] => true | y :: _ => decide (0 ≤ cmp x y)
def keepB (l m : List Tt) : List Tt := l.filter (keepq m)
def behindL (l m : List Tt) : List Tt := keepB l m ++ m
theorem keepB_mem {l m : List Tt} {x : Tt} (h : x ∈ keepB l m) : x ∈ l := (List.mem_filter.mp h).1
theorem keepB_snoc (l m : List Tt) (x : Tt) : keepB (l ++ [x]) m = if keepq m x = true then keepB l m ++ [x] else keepB l m := by
  unfold keepB
  rw [List.filter_append]
  by_cases h : keepq m x = true
  · rw [if_pos h, List.filter_cons_of_pos h, List.filter_nil]
  · rw [if_neg h, List.filter_cons_of_neg h, List.filter_nil, List.append_nil]
/-- some of the branches of an owned list, in turn: owned alike -/
inductive Some_ (p : Tt → Bool) : List V → List Tt → List V → List Tt → Prop where
  | nil : Some_ p [] [] [] []
  | yes {v : V} {t : Tt} {vs ws : List V} {ts us : List Tt} (h : p t = true) (r : Some_ p vs ts ws us) : Some_ p (v :: vs) (t :: ts) (v :: ws) (t :: us)
  | no {v : V} {t : Tt} {vs ws : List V} {ts us : List Tt} (h : p t = false) (r : Some_ p vs ts ws us) : Some_ p (v :: vs) (t :: ts) ws us
theorem Some_.snoc {p : Tt → Bool} {v : V} {t : Tt} {vs ws : List V} {ts us : List Tt} (r : Some_ p vs ts ws us) : Some_ p (vs ++ [v]) (ts ++ [t]) (if p t = true then ws ++ [v] else ws) (if p t = true then us ++ [t] else us) := by
  induction r with
  | nil =>
    by_cases h : p t = true
    · rw [if_pos h, if_pos h]; exact .yes h .nil
    · rw [if_neg h, if_neg h]; exact .no (Bool.eq_false_iff.mpr h) .nil
  | yes h r ih =>
    by_cases h2 : p t = true
    · rw [if_pos h2, if_pos h2] at ih ⊢; exact .yes h ih
    · rw [if_neg h2, if_neg h2] at ih ⊢; exact .yes h ih
  | no h r ih => exact .no h ih
theorem Some_.len {p : Tt → Bool} {vs ws : List V} {ts us : List Tt} (r : Some_ p vs ts ws us) : ws.length ≤ vs.length := by
  induction r with
  | nil => exact Nat.le_refl _
  | yes h r ih => simp only [List.length_cons]; omega
  | no h r ih => simp only [List.length_cons]; omega
theorem Some_.owns {H : Hp} {p : Tt → Bool} {vs ws : List V} {ts us : List Tt} (r : Some_ p vs ts ws us) : ∀ {as : List Addr}, Owns H vs ts as → ∃ bs, Owns H ws us bs ∧ bs.Sublist as := by
  induction r with
  | nil => intro as h; exact ⟨as, h, List.Sublist.refl _⟩
  | yes h r ih =>
    intro as o
    rw [owns_cons] at o
    obtain ⟨v', vs', a1, a2, e, rfl, o1, o2⟩ := o
    injection e with e1 e2
    subst e1 e2
    obtain ⟨bs, o3, sb⟩ := ih o2
    exact ⟨a1 ++ bs, by rw [owns_cons]; exact ⟨_, _, a1, bs, rfl, rfl, o1, o3⟩, sb.append_left a1⟩
  | no h r ih =>
    intro as o
    rw [owns_cons] at o
    obtain ⟨v', vs', a1, a2, e, rfl, o1, o2⟩ := o
    injection e with e1 e2
    subst e1 e2
    obtain ⟨bs, o3, sb⟩ := ih o2
    exact ⟨bs, o3, sb.trans (List.sublist_append_right _ _)⟩
theorem Some_.us {p : Tt → Bool} {vs ws : List V} {ts us : List Tt} (r : Some_ p vs ts ws us) : us = ts.filter p := by
  induction r with
  | nil => rfl
  | yes h r ih => rw [List.filter_cons_of_pos h, ih]
  | no h r ih => rw [List.filter_cons_of_neg (by simp [h]), ih]
theorem atI_zero {α : Type} {x : α} {xs : List α} : atI (x :: xs) 0 = some x := by
  have h : atI (x :: xs) ((0 : Nat) : Int) = some x := atI_nat rfl
  exact h
theorem ok_behind (T : Txt K mg) : FnOk P w K mg base (L2N.CX P w) 44 T.a_behind T.d_behind ["one", "other"] (spTwo T.A_BadTree T.A_TooGreat fun l m => behindL (toldL [] l) (toldL [] m)) := by
  have G_asked_tree := ok_asked_tree (P := P) (w := w) (base := base) T
  have G_asked_great := ok_asked_great (P := P) (w := w) (base := base) T
  have G_told_of := ok_told_of (P := P) (w := w) (base := base) T 41
  have G_compared := ok_compared (P := P) (w := w) (base := base) T 41
  refine okN T.F_behind sc_behind (fun vs H Q E h => ?_) (fun cdv A outer s H vs Q E hr h => ?_)
  · obtain ⟨v, u, rfl, _⟩ := h; rfl
  obtain ⟨v, u, rfl, h⟩ := h
  have R_asked_tree : Room 43 _ := hr
  have R_told_of : Room 43 _ := hr
  have R_asked_great : Room 42 _ := hr.mono (by omega)
  have R_compared : Room 41 _ := hr.mono (by omega)
  have hu64 := hr.units
  refine ⟨_, (pss_cons (ps_expr (pe_call G_asked_tree R_asked_tree rfl T.m_asked_tree T.k_asked_tree T.b_asked_tree .nil (L2N.passes_call (L2N.takes_of rfl rfl rfl rfl) (fun _ _ _ _ h => h)) (pa_cons (pv 0) pa_nil)))
      (pss_cons (ps_expr (pe_call G_asked_tree R_asked_tree rfl T.m_asked_tree T.k_asked_tree T.b_asked_tree .nil (L2N.passes_call (L2N.takes_of rfl rfl rfl rfl) (fun _ _ _ _ h => h)) (pa_cons (pv 1) pa_nil)))
      (pss_cons (ps_set (i := 2) sc_behind.nd rfl (Or.inr rfl) (pe_call G_told_of R_told_of rfl T.m_told_of T.k_told_of T.b_told_of .nil pass0 (pa_cons (pv 1) pa_nil)))
      (pss_cons (ps_setLc (i := 3) (own := [("branch", 4)]) (g := gName 4)  rfl sc_behind.nd rfl rfl (sw_true rfl rfl rfl (by decide +kernel)) (pi_list (pe_call G_told_of R_told_of rfl T.m_told_of T.k_told_of T.b_told_of .nil pass0 (pa_cons (pv 0) pa_nil))) (blkOk_by (own := [("branch", 4)]) (N := ["one", "other", "second", "first", "branch"]) (sc := defScope s_behind) (by decide +kernel)) (fun _ _ _ _ _ => (pg_name (i := 4) sc_behind.nd rfl (Or.inl rfl))) (fun _ _ _ _ _ => (pts_one (PW.pt (pw_or (pt_cmpR (r := rEqD K) (op_eqD hu64) (pv 2) (pe_lst pa_nil) (nomark _)) (pw_or1 (pt_cmpR op_ge (pe_call G_compared R_compared rfl T.m_compared T.k_compared T.b_compared .nil pass0 (pa_cons (pv 4) (pa_cons (pe_ix (r := rIxL K) ix_list (pv 2) pe_int (fun _ _ => rfl)) pa_nil))) pe_int (nomark _))))))) (fun _ _ _ _ _ => (pv 4)))
      (pss_one (ps_ret (pe_call G_asked_great R_asked_great rfl T.m_asked_great T.k_asked_great T.b_asked_great .nil (L2N.passes_call (L2N.takes_of rfl rfl rfl rfl) (fun _ _ _ _ h => h)) (pa_cons (pe_op op_cat (pv 3) (pv 2)) pa_nil)))))))), ?_⟩
  rcases h with ⟨l0, m0, ht, ho, hs, hos, q1, q2⟩ | ⟨hb | ⟨⟨t, ht, ho⟩, hb⟩, q⟩
  · refine ⟨_, rfl, v, rfl, .inl ⟨_, ht, ho, fun H1 s1 => ?_⟩⟩
    refine ⟨_, rfl, u, rfl, .inl ⟨_, TreeAt.same s1 _ hs, hos, fun H2 s2 => ?_⟩⟩
    have s12 := s1.trans s2
    refine ⟨_, rfl, u, _, rfl, TreeAt.same s12 _ hs, hos.fit, hos.dp, fun H3 r3 n3 => ?_⟩
    refine ⟨_, rfl, v, _, rfl, TreeAt.same (s12.trans n3.1) _ ht, ho.fit, ho.dp, fun H4 r4 n4 => ?_⟩
    rw [told_mk] at n3 n4
    have f1 := toldB_fit ho.fit
    have f2 := toldB_fit hos.fit
    have d1 := toldB_depth ho.2
    have d2 := toldB_depth hos.2
    have e1 := okT_len ho
    have e2 := okT_len hos
    replace q1 : knots (.mk (behindL (toldL [] l0) (toldL [] m0))) ≤ 300 → ∀ H' r, New H H' r (.mk (behindL (toldL [] l0) (toldL [] m0))) → Q r H' := q1
    replace q2 : 300 < knots (.mk (behindL (toldL [] l0) (toldL [] m0))) → ∀ H', Same H H' → E (.ref T.A_TooGreat) none H' := q2
    generalize toldL [] l0 = l at n4 f1 d1 e1 q1 q2
    generalize toldL [] m0 = m at n3 f2 d2 e2 q1 q2
    obtain ⟨s23, as3, o3, nd3, fr3⟩ := n3
    obtain ⟨s34, as4, o4, nd4, fr4⟩ := n4
    rw [own_mk] at o3 o4
    obtain ⟨b, ys, bs3, rfl, rfl, hb3, ow3⟩ := o3
    obtain ⟨a, xs, bs4, rfl, rfl, ha4, ow4⟩ := o4
    have ht4 := Owns.at_ l ow4
    have ht3 := TreesAt.same s34 m (Owns.at_ m ow3)
    have hb4 := s34 _ _ hb3
    refine ⟨a, rfl, ⟨xs, SqL.of ha4⟩, fun D nD => ?_⟩
    -- first = [branch for branch in told_of(one) if ..]
    refine lc_it (walk_list (xs := xs)) (fun i H' => Same H4 H' ∧ ∃ acc us, H' D = some (.lst acc) ∧ Some_ (keepq m) (xs.take i) (l.take i) acc us) ⟨same_new nD _, [], [], upd_same, .nil⟩ (fun i H' _ g => SqL.of (g.1 _ _ ha4)) ?_ ?_
    · rintro i x H5 H6 hi ⟨s5, acc, us, hD, sm⟩ ⟨rfl, hx⟩
      obtain ⟨t, htl, hxt⟩ := ht4.get hx
      have sn := sm.snoc (v := x) (t := t)
      rw [← take_more hx, ← take_more htl] at sn
      have zl : acc.length < sizeLine := lim_line (by
        have h1 := sm.len
        rw [List.length_take] at h1
        have h2 := ht4.len
        have h3 : (300 : Nat) ≤ lim := by decide
        omega)
      refine ⟨rfl, ?_⟩
      -- second == [] or compared(branch, second[0]) >= 0
      refine cut_t (fun b H' => Same H6 H' ∧ b = keepq m t) (fun Q' hQ' => ?_) ?_
      · refine ⟨_, rfl, (by show 0 ≤ sizeLine; decide), fun p np => ?_⟩
        have sp := same_new np (.lst [])
        have hm1 : TreeAt (upd H6 p (.lst [])) (.ref b) (.mk m) := by rw [treeAt_mk]; exact ⟨b, ys, rfl, sp _ _ (s5 _ _ hb4), TreesAt.same sp _ (TreesAt.same s5 _ ht3)⟩
        refine eq_trees hm1 (nil_tree upd_same) (Nat.le_trans (depth_mk_of d2) (by decide)) (by rw [depth, depthL]; decide) ⟨_, rfl, ?_⟩
        refine ite2 (fun c => ?_) (fun c => ?_)
        · have c' : Tt.mk m = Tt.mk [] := of_decide_eq_true c
          injection c' with c'
          exact hQ' _ _ ⟨sp, by rw [c']; rfl⟩
        · have c' : ¬ Tt.mk m = Tt.mk [] := of_decide_eq_false (Bool.eq_false_iff.mpr c)
          cases m with
          | nil => exact absurd rfl c'
          | cons y m' =>
            rw [treesAt_cons] at ht3
            obtain ⟨yv, ys', rfl, hy1, _⟩ := ht3
            refine ⟨_, rfl, _, rfl, b, _, 0, yv, rfl, rfl, SqL.of (sp _ _ (s5 _ _ hb4)), atI_zero, x, yv, t, y, rfl, TreeAt.same (s5.trans sp) _ hxt, TreeAt.same (s5.trans sp) _ hy1, Nat.lt_succ_of_lt (d1 t (List.mem_of_getElem? htl)), fun H7 s7 => ?_⟩
            exact ⟨_, _, rfl, rfl, _, rfl, hQ' _ _ ⟨sp.trans s7, rfl⟩⟩
      rintro b1 H7 ⟨s7, rfl⟩
      refine ite2 (fun c => ?_) (fun c => ?_)
      · rw [if_pos c, if_pos c] at sn
        refine ⟨_, rfl, acc, s7 _ _ hD, zl, fun z o e => ?_, _, _, upd_same, sn⟩
        rw [upd_ne (ne_of_none e nD)]; exact s7 _ _ (s5 _ _ e)
      · rw [if_neg c, if_neg c] at sn
        exact ⟨s5.trans s7, acc, us, s7 _ _ hD, sn⟩
    · rintro H5 ⟨s5, acc, us, hD, sm⟩
      have el : xs.length = l.length := ht4.len
      rw [el, List.take_length, ← el, List.take_length] at sm
      have eu : us = keepB l m := sm.us
      subst eu
      obtain ⟨cs, ow1, sb⟩ := sm.owns ow4
      have la : acc.length ≤ 300 := by have := sm.len; omega
      have lb : ys.length ≤ 300 := by have := ht3.len; omega
      refine ⟨_, rfl, _, rfl, D, b, acc, ys, rfl, rfl, hD, s5 _ _ hb4, Nat.le_trans (Nat.add_le_add la lb) (by decide), fun p np => ?_⟩
      have sp := same_new np (.lst (acc ++ ys))
      have own : Own (upd H5 p (.lst (acc ++ ys))) (.ref p) (.mk (behindL l m)) (p :: (cs ++ bs3)) := by
        rw [own_mk]
        refine ⟨p, acc ++ ys, cs ++ bs3, rfl, rfl, upd_same, ?_⟩
        exact Owns.append (Owns.frame _ ow1 fun a ha o e => sp _ _ (s5 _ _ e)) (Owns.frame _ ow3 fun a ha o e => sp _ _ (s5 _ _ (s34 _ _ e)))
      have fresh4 : ∀ a, a ∈ cs → H3 a = none := fun a ha => fr4 a (List.mem_cons_of_mem _ (sb.subset ha))
      have tr3 : ∀ a, a ∈ bs3 → ∃ o, H3 a = some o := fun a ha => let ⟨o, q⟩ := Owns.tracked m ow3 a ha; ⟨_, q⟩
      have nw : New H2 (upd H5 p (.lst (acc ++ ys))) (.ref p) (.mk (behindL l m)) := by
        refine ⟨s23.trans (s34.trans (s5.trans sp)), _, own, ?_, fun a ha => ?_⟩
        · refine List.nodup_cons.mpr ⟨fun h => ?_, List.nodup_append.mpr ⟨sb.nodup (List.nodup_cons.mp nd4).2, (List.nodup_cons.mp nd3).2, fun a ha b' hb' e => ?_⟩⟩
          · rcases List.mem_append.mp h with h | h
            · obtain ⟨o, q⟩ := Owns.tracked _ ow1 p h
              rw [s5 _ _ q] at np; cases np
            · obtain ⟨o, q⟩ := tr3 p h
              rw [s5 _ _ (s34 _ _ q)] at np; cases np
          · obtain ⟨o, q⟩ := tr3 b' hb'
            rw [← e, fresh4 a ha] at q; cases q
        · rcases List.mem_cons.mp ha with e | ha
          · rw [e]; exact ((s23.trans s34).trans s5).free np
          · rcases List.mem_append.mp ha with ha | ha
            · exact s23.free (fresh4 a ha)
            · exact fr3 a (List.mem_cons_of_mem _ ha)
      have nw0 := nw.of s12
      refine ⟨.ref p, _, rfl, nw.at_, ?_, ?_, fun hk H6 s6 => q1 hk _ _ (nw0.step s6), fun hk H6 s6 => q2 hk _ (nw0.1.trans s6)⟩
      · refine fit_mk_of (fun x hx => (List.mem_append.mp hx).elim (fun hx => f1 x (keepB_mem hx)) (f2 x)) ?_
        unfold behindL
        rw [List.length_append]
        have : (keepB l m).length ≤ l.length := List.length_filter_le _ _
        have h3 : (600 : Nat) ≤ lim := by decide
        omega
      · exact depth_mk_of fun x hx => (List.mem_append.mp hx).elim (fun hx => d1 x (keepB_mem hx)) (d2 x)
  · exact ⟨_, rfl, v, rfl, .inr ⟨hb, fun H1 s1 => q _ s1⟩⟩
  · refine ⟨_, rfl, v, rfl, .inl ⟨t, ht, ho, fun H1 s1 => ?_⟩⟩
    exact ⟨_, rfl, u, rfl, .inr ⟨hb.same s1, fun H2 s2 => q _ (s1.trans s2)⟩⟩
end
/-! ### ways to heads -/
def wI (w : List Nat) : List Int := w.map fun (n : Nat) => (n : Int)
theorem wI_cons (i : Nat) (w : List Nat) : wI (i :: w) = (i : Int) :: wI w := rfl
theorem wI_len (w : List Nat) : (wI w).length = w.length := List.length_map _
theorem wI_inj : ∀ {a b : List Nat}, wI a = wI b → a = b
  | [], [], _ => rfl
  | [], _ :: _, h => by cases h
  | _ :: _, [], h => by cases h
  | x :: a, y :: b, h => by
    rw [wI_cons, wI_cons] at h
    injection h with h1 h2
    rw [wI_inj h2, Int.ofNat.inj h1]
mutual
def headsT : Tt → List (List Nat)
  | .mk l => headsL 0 l
def headsL (i : Nat) : List Tt → List (List Nat)
  | [] => []
  | x :: l => (if x.bs.isEmpty = true then [[i]] else (headsT x).map (i :: ·)) ++ headsL (i + 1) l
end
def head1 (i : Nat) (x : Tt) : List (List Nat) := if x.bs.isEmpty = true then [[i]] else (headsT x).map (i :: ·)
theorem headsT_mk (l : List Tt) : headsT (.mk l) = headsL 0 l := by rw [headsT]
theorem headsL_nil (k : Nat) : headsL k [] = [] := by rw [headsL]
theorem headsL_cons (k : Nat) (x : Tt) (l : List Tt) : headsL k (x :: l) = head1 k x ++ headsL (k + 1) l := by rw [headsL]; rfl
theorem headsL_snoc : ∀ (l : List Tt) (k : Nat) (x : Tt), headsL k (l ++ [x]) = headsL k l ++ head1 (k + l.length) x
  | [], k, x => by rw [List.nil_append, headsL_cons, headsL_nil, headsL_nil]; simp
  | y :: l, k, x => by
    rw [List.cons_append, headsL_cons, headsL_cons, headsL_snoc l (k + 1) x, List.append_assoc, List.length_cons]
    have e : k + 1 + l.length = k + (l.length + 1) := by omega
    rw [e]
theorem heads_mem : ∀ {l : List Tt} {k : Nat} {w : List Nat}, w ∈ headsL k l → ∃ i b, l[i]? = some b ∧ w ∈ head1 (k + i) b
  | [], k, w, h => by rw [headsL_nil] at h; cases h
  | x :: l, k, w, h => by
    rw [headsL_cons] at h
    rcases List.mem_append.mp h with h | h
    · exact ⟨0, x, rfl, h⟩
    · obtain ⟨i, b, h1, h2⟩ := heads_mem h
      refine ⟨i + 1, b, h1, ?_⟩
      have e : k + 1 + i = k + (i + 1) := by omega
      rw [← e]; exact h2
theorem bs_empty {x : Tt} (h : x.bs.isEmpty = true) : x = .mk [] := by
  obtain ⟨l⟩ := x
  have : l = [] := List.isEmpty_iff.mp h
  rw [this]
theorem heads_way (t : Tt) : ∀ w, w ∈ headsT t → 1 ≤ w.length ∧ w.length ≤ depth t := by
  induction t using Tt.ind with
  | h l ih =>
    intro w h
    rw [headsT_mk] at h
    obtain ⟨i, b, h1, h2⟩ := heads_mem h
    have mb := List.mem_of_getElem? h1
    have db := depthL_le mb
    rw [depth]
    unfold head1 at h2
    split at h2
    · rw [List.mem_singleton] at h2
      rw [h2, List.length_singleton]
      omega
    · obtain ⟨u, hu, e⟩ := List.mem_map.mp h2
      have := ih b mb u hu
      rw [← e, List.length_cons]
      omega
mutual
theorem heads_len : ∀ t : Tt, (headsT t).length + 1 ≤ knots t
  | .mk l => by rw [headsT, knots]; have := headsL_len 0 l; omega
theorem headsL_len : ∀ (k : Nat) (l : List Tt), (headsL k l).length ≤ knotsL l
  | k, [] => by rw [headsL, knotsL]; exact Nat.le_refl _
  | k, x :: l => by
    rw [headsL, knotsL, List.length_append]
    have h1 := heads_len x
    have h2 := headsL_len (k + 1) l
    have h3 : (if x.bs.isEmpty = true then [[k]] else (headsT x).map (k :: ·)).length ≤ knots x := by
      split
      · have := depth_knots1 x
        rw [List.length_singleton]; omega
      · rw [List.length_map]; omega
    omega
theorem depth_knots1 : ∀ x : Tt, 1 ≤ knots x
  | .mk l => by rw [knots]; omega
end
/-- where a way leads to -/
def subT : Tt → List Nat → Option Tt
  | t, [] => some t
  | .mk bs, i :: w => match bs[i]? with
    | some b => subT b w
    | none => none
def putT : Tt → List Nat → Tt → Tt
  | _, [], s => s
  | .mk bs, i :: w, s => match bs[i]? with
    | some b => .mk (bs.set i (putT b w s))
    | none => .mk bs
theorem subT_nil (t : Tt) : subT t [] = some t := by cases t; rfl
theorem putT_nil (t s : Tt) : putT t [] s = s := by cases t; rfl
theorem subT_cons {bs : List Tt} {i : Nat} {w : List Nat} {b : Tt} (h : bs[i]? = some b) : subT (.mk bs) (i :: w) = subT b w := by
  rw [subT, h]
theorem subT_step {bs : List Tt} {i : Nat} {w : List Nat} {s : Tt} (h : subT (.mk bs) (i :: w) = some s) : ∃ b, bs[i]? = some b ∧ subT b w = some s := by
  cases e : bs[i]? with
  | none => rw [subT, e] at h; cases h
  | some b => rw [subT_cons e] at h; exact ⟨b, rfl, h⟩
theorem putT_cons {bs : List Tt} {i : Nat} {w : List Nat} {b s : Tt} (h : bs[i]? = some b) : putT (.mk bs) (i :: w) s = .mk (bs.set i (putT b w s)) := by
  rw [putT, h]
theorem subT_app : ∀ {w u : List Nat} {t m : Tt}, subT t w = some m → subT t (w ++ u) = subT m u
  | [], u, t, m, h => by rw [subT_nil] at h; cases h; rfl
  | i :: w, u, .mk bs, m, h => by
    obtain ⟨b, h1, h2⟩ := subT_step h
    rw [List.cons_append, subT_cons h1, subT_app h2]
theorem get_set {bs : List Tt} {i : Nat} {b c : Tt} (h : bs[i]? = some b) : (bs.set i c)[i]? = some c := by
  obtain ⟨hi, _⟩ := List.getElem?_eq_some_iff.mp h
  rw [List.getElem?_set_self hi]
theorem subT_put : ∀ {w u : List Nat} {t m s : Tt}, subT t w = some m → subT (putT t (w ++ u) s) w = some (putT m u s)
  | [], u, t, m, s, h => by rw [subT_nil] at h; cases h; rw [List.nil_append, subT_nil]
  | i :: w, u, .mk bs, m, s, h => by
    obtain ⟨b, h1, h2⟩ := subT_step h
    rw [List.cons_append, putT_cons h1, subT_cons (get_set h1), subT_put h2]
theorem putT_put : ∀ {w u : List Nat} {t m s s' : Tt}, subT t w = some m → putT (putT t (w ++ u) s) w s' = putT t w s'
  | [], u, t, m, s, s', h => by rw [putT_nil, putT_nil]
  | i :: w, u, .mk bs, m, s, s', h => by
    obtain ⟨b, h1, h2⟩ := subT_step h
    rw [List.cons_append, putT_cons h1, putT_cons (get_set h1), putT_cons h1, putT_put h2, List.set_set]
/-- a head at the end of a way cut, n copies growing -/
inductive Cut : Tt → List Nat → Nat → Tt → Prop
  | root {bs : List Tt} {i n : Nat} (h : bs[i]? = some (.mk [])) : Cut (.mk bs) [i] n (.mk (bs.eraseIdx i))
  | up {t : Tt} {w : List Nat} {cs bs : List Tt} {j i n : Nat} (h1 : subT t w = some (.mk cs)) (h2 : cs[j]? = some (.mk bs)) (h3 : bs[i]? = some (.mk [])) :
      Cut t (w ++ [j, i]) n (putT t w (.mk (cs.set j (.mk (bs.eraseIdx i)) ++ List.replicate n (.mk (bs.eraseIdx i)))))
theorem cut_of_head (t : Tt) : ∀ w, w ∈ headsT t → ∀ n, ∃ r, Cut t w n r := by
  induction t using Tt.ind with
  | h bs ih =>
    intro w h n
    rw [headsT_mk] at h
    obtain ⟨i, b, h1, h2⟩ := heads_mem h
    rw [Nat.zero_add] at h2
    unfold head1 at h2
    split at h2
    · rename_i c
      have e := bs_empty c
      subst e
      rw [List.mem_singleton] at h2
      rw [h2]
      exact ⟨_, .root h1⟩
    · obtain ⟨u, hu, e⟩ := List.mem_map.mp h2
      obtain ⟨r, hr⟩ := ih b (List.mem_of_getElem? h1) u hu n
      rw [← e]
      cases hr with
      | @root cs i' _ h3 => exact ⟨_, .up (w := []) (cs := bs) (subT_nil _) h1 h3⟩
      | @up _ v cs ds j i' _ h3 h4 h5 => exact ⟨_, .up (w := i :: v) (by rw [subT_cons h1]; exact h3) h4 h5⟩
/-! ### sizes -/
theorem perm_get : ∀ {bs : List Tt} {i : Nat} {b : Tt}, bs[i]? = some b → bs.Perm (b :: bs.eraseIdx i)
  | [], i, b, h => by cases h
  | x :: bs, 0, b, h => by
    have e : x = b := Option.some.inj (by simpa using h)
    rw [e]; exact List.Perm.refl _
  | x :: bs, i + 1, b, h => by
    have := perm_get (bs := bs) (i := i) (b := b) (by simpa using h)
    exact (this.cons x).trans (List.Perm.swap b x _)
theorem perm_set : ∀ {bs : List Tt} {i : Nat} {b c : Tt}, bs[i]? = some b → (bs.set i c).Perm (c :: bs.eraseIdx i)
  | [], i, b, c, h => by cases h
  | x :: bs, 0, b, c, h => List.Perm.refl _
  | x :: bs, i + 1, b, c, h => by
    have := perm_set (bs := bs) (i := i) (b := b) (c := c) h
    exact (this.cons x).trans (List.Perm.swap c x _)
theorem knotsL_perm1 {l m : List Tt} (p : l.Perm m) : knotsL l = knotsL m := by
  induction p with
  | nil => rfl
  | cons x _ ih => rw [knotsL, knotsL, ih]
  | swap x y l => rw [knotsL, knotsL, knotsL, knotsL]; omega
  | trans _ _ ih1 ih2 => rw [ih1, ih2]
theorem knotsL_erase {bs : List Tt} {i : Nat} {b : Tt} (h : bs[i]? = some b) : knotsL (bs.eraseIdx i) + knots b = knotsL bs := by
  have := knotsL_perm1 (perm_get h)
  rw [knotsL] at this
  omega
theorem knotsL_set {bs : List Tt} {i : Nat} {b c : Tt} (h : bs[i]? = some b) : knotsL (bs.set i c) + knots b = knotsL bs + knots c := by
  have h1 := knotsL_perm1 (perm_set (c := c) h)
  have h2 := knotsL_erase h
  rw [knotsL] at h1
  omega
theorem knots_put : ∀ {w : List Nat} {t s s' : Tt}, subT t w = some s → knots (putT t w s') + knots s = knots t + knots s'
  | [], t, s, s', h => by rw [subT_nil] at h; cases h; rw [putT_nil]; omega
  | i :: w, .mk bs, s, s', h => by
    obtain ⟨b, h1, h2⟩ := subT_step h
    rw [putT_cons h1, knots, knots]
    have h3 := knots_put (s' := s') h2
    have h4 := knotsL_set (c := putT b w s') h1
    omega
theorem depthL_set {bs : List Tt} {i : Nat} {b c : Tt} (h : bs[i]? = some b) (hc : depth c ≤ depth b) : depthL (bs.set i c) ≤ depthL bs := by
  refine depthL_iff.mpr fun x hx => ?_
  rcases List.mem_or_eq_of_mem_set hx with hx | e
  · exact depthL_le hx
  · have := depthL_le (List.mem_of_getElem? h)
    rw [e]; omega
theorem depth_put : ∀ {w : List Nat} {t s s' : Tt}, subT t w = some s → depth s' ≤ depth s → depth (putT t w s') ≤ depth t
  | [], t, s, s', h, k => by rw [subT_nil] at h; cases h; rw [putT_nil]; exact k
  | i :: w, .mk bs, s, s', h, k => by
    obtain ⟨b, h1, h2⟩ := subT_step h
    rw [putT_cons h1, depth, depth]
    exact depthL_set h1 (depth_put h2 k)
theorem depthL_erase (bs : List Tt) (i : Nat) : depthL (bs.eraseIdx i) ≤ depthL bs :=
  depthL_iff.mpr fun _ hx => depthL_le (List.mem_of_mem_eraseIdx hx)
theorem knotsL_rep (n : Nat) (t : Tt) : knotsL (List.replicate n t) = n * knots t := by
  induction n with
  | zero => rw [List.replicate_zero, knotsL, Nat.zero_mul]
  | succ n ih => rw [List.replicate_succ, knotsL, ih, Nat.succ_mul]; omega
def bearer (t : Tt) (w : List Nat) : Tt := (subT t w.dropLast).getD (.mk [])
/-- how many knots will be left -/
def sizeT (t : Tt) (w : List Nat) (n : Nat) : Nat := knots t - 1 + (if 1 < w.length then n * (knots (bearer t w) - 1) else 0)
theorem up_drop (w : List Nat) (j i : Nat) : (w ++ [j, i]).dropLast = w ++ [j] := by
  have e : w ++ [j, i] = (w ++ [j]) ++ [i] := by simp
  rw [e, List.dropLast_concat]
theorem up_drop2 (w : List Nat) (j i : Nat) : (w ++ [j, i]).dropLast.dropLast = w := by rw [up_drop, List.dropLast_concat]
theorem up_sub {t : Tt} {w : List Nat} {cs : List Tt} {j : Nat} {b : Tt} (h1 : subT t w = some (.mk cs)) (h2 : cs[j]? = some b) : subT t (w ++ [j]) = some b := by
  rw [subT_app h1, subT_cons h2, subT_nil]
theorem cut_size {t r : Tt} {w : List Nat} {n : Nat} (h : Cut t w n r) : knots r = sizeT t w n := by
  unfold sizeT
  cases h with
  | root h =>
    have h1 := knotsL_erase h
    rw [knots, knotsL] at h1
    rw [knots, knots, List.length_singleton, if_neg (by decide)]
    omega
  | @up _ w cs bs j i _ h1 h2 h3 =>
    have e1 : bearer t (w ++ [j, i]) = .mk bs := by
      unfold bearer
      rw [up_drop, up_sub h1 h2]
      rfl
    have k1 := knotsL_erase h3
    rw [knots, knotsL] at k1
    have k2 := knotsL_set (c := .mk (bs.eraseIdx i)) h2
    have k3 := knots_put (s' := .mk (cs.set j (.mk (bs.eraseIdx i)) ++ List.replicate n (.mk (bs.eraseIdx i)))) h1
    have e2 : 1 + knotsL bs - 1 = 1 + knotsL (bs.eraseIdx i) := by omega
    have k4 := depth_knots1 t
    rw [e1, if_pos (by simp)]
    rw [knots, knots, knotsL_append, knotsL_rep, knots] at k3
    rw [knots, knots] at k2
    rw [knots, e2]
    omega
theorem cut_depth {t r : Tt} {w : List Nat} {n : Nat} (h : Cut t w n r) : depth r ≤ depth t := by
  cases h with
  | root h => rw [depth, depth]; exact depthL_erase _ _
  | @up _ w cs bs j i _ h1 h2 h3 =>
    refine depth_put h1 ?_
    have d1 : depth (.mk (bs.eraseIdx i)) ≤ depth (.mk bs) := by rw [depth, depth]; exact depthL_erase _ _
    have d2 := depthL_le (List.mem_of_getElem? h2)
    rw [depth, depth, depthL_append]
    have d3 := depthL_set h2 d1
    have d4 : depthL (List.replicate n (.mk (bs.eraseIdx i))) ≤ depthL cs := depthL_iff.mpr fun x hx => by
      rw [List.eq_of_mem_replicate hx]; omega
    omega
/-! ### what is left is worth less -/
theorem toldL_perm2 {l m : List Tt} (p : l.Perm m) : toldL [] l = toldL [] m := by
  refine sd_unique _ _ (toldL_sd _ _ List.Pairwise.nil) (toldL_sd _ _ List.Pairwise.nil) ?_
  refine (toldL_perm l []).trans (List.Perm.trans ?_ (toldL_perm m []).symm)
  rw [List.nil_append, List.nil_append]
  exact p.map told
theorem lt_head {y : Tt} : ∀ {Z M : List Tt}, (∀ z, z ∈ Z → cmp z y < 0) → cmpL Z (y :: M) < 0
  | [], M, _ => by rw [cmpL_nil, List.length_cons]; omega
  | z :: Z, M, h => by
    have := h z List.mem_cons_self
    rw [cmpL_cons, if_pos (by omega)]
    exact this
theorem foldins_top {a : Tt} : ∀ (X L : List Tt), (∀ x, x ∈ X → 0 ≤ cmp a x) → X.foldl (fun l x => ins x l) (a :: L) = a :: X.foldl (fun l x => ins x l) L
  | [], L, _ => rfl
  | x :: X, L, h => by
    rw [List.foldl_cons, List.foldl_cons]
    have e : ins x (a :: L) = a :: ins x L := by
      show (if 0 ≤ cmp a x then a :: ins x L else x :: a :: L) = _
      rw [if_pos (h x List.mem_cons_self)]
    rw [e, foldins_top X _ fun z hz => h z (List.mem_cons_of_mem _ hz)]
theorem ins_lt {y : Tt} : ∀ (L X : List Tt), Sd L → (∀ x, x ∈ X → cmp x y < 0) → cmpL (X.foldl (fun l x => ins x l) L) (ins y L) < 0
  | [], X, _, h => by
    refine lt_head fun z hz => ?_
    have := (foldins_perm X []).mem_iff.mp hz
    rw [List.nil_append] at this
    exact h z this
  | a :: L, X, s, h => by
    obtain ⟨s1, s2⟩ := List.pairwise_cons.mp s
    by_cases c : 0 ≤ cmp a y
    · have e : ins y (a :: L) = a :: ins y L := by
        show (if 0 ≤ cmp a y then a :: ins y L else y :: a :: L) = _
        rw [if_pos c]
      rw [e, foldins_top X L, cmpL_cons, if_neg (by rw [cmp_self]; simp)]
      · exact ins_lt L X s2 h
      · intro x hx
        have h1 : ge y x := ge_of_lt (h x hx)
        exact ge_trans c h1
    · have e : ins y (a :: L) = y :: a :: L := by
        show (if 0 ≤ cmp a y then a :: ins y L else y :: a :: L) = _
        rw [if_neg c]
      rw [e]
      refine lt_head fun z hz => ?_
      rcases List.mem_append.mp ((foldins_perm X _).mem_iff.mp hz) with hz | hz
      · rcases List.mem_cons.mp hz with e | hz
        · rw [e]; omega
        · have h1 := s1 z hz
          have h2 : cmp a y < 0 := by omega
          rcases ge_cases h1 with e | h1
          · rw [← e]; exact h2
          · exact cmp_lt_trans h1 h2
      · exact h z hz
/-- some branches instead of one that is worth more than each -/
theorem told_less {bs us rest : List Tt} {b : Tt} (p : bs.Perm (b :: rest)) (q : us.Perm (rest ++ X)) (h : ∀ x, x ∈ X → cmp (told x) (told b) < 0) : cmp (told (.mk us)) (told (.mk bs)) < 0 := by
  rw [told_mk, told_mk, cmp_mk]
  have p2 : bs.Perm (rest ++ [b]) := p.trans (List.perm_append_singleton b rest).symm
  rw [toldL_perm2 p2, toldL_perm2 q, toldL_append, toldL_append, toldL_cons, toldL_nil, toldL_eq X]
  refine ins_lt _ _ (toldL_sd _ _ List.Pairwise.nil) fun x hx => ?_
  obtain ⟨y, hy, e⟩ := List.mem_map.mp hx
  rw [← e]; exact h y hy
theorem told_erase {bs : List Tt} {i : Nat} {b : Tt} (h : bs[i]? = some b) : cmp (told (.mk (bs.eraseIdx i))) (told (.mk bs)) < 0 :=
  told_less (X := []) (perm_get h) (by rw [List.append_nil]) fun x hx => by cases hx
theorem told_set {bs : List Tt} {i : Nat} {b c : Tt} (h : bs[i]? = some b) (hc : cmp (told c) (told b) < 0) : cmp (told (.mk (bs.set i c))) (told (.mk bs)) < 0 :=
  told_less (X := [c]) (perm_get h) ((perm_set h).trans (List.perm_append_singleton c _).symm) fun x hx => by
    rw [List.mem_singleton] at hx
    rw [hx]; exact hc
theorem told_many {bs : List Tt} {i n : Nat} {b c : Tt} (h : bs[i]? = some b) (hc : cmp (told c) (told b) < 0) : cmp (told (.mk (bs.set i c ++ List.replicate n c))) (told (.mk bs)) < 0 := by
  refine told_less (X := List.replicate (n + 1) c) (perm_get h) ?_ fun x hx => by rw [List.eq_of_mem_replicate hx]; exact hc
  refine ((perm_set h).append_right _).trans ?_
  rw [List.replicate_succ, List.cons_append]
  exact (List.perm_middle).symm
theorem told_put : ∀ {w : List Nat} {t s s' : Tt}, subT t w = some s → cmp (told s') (told s) < 0 → cmp (told (putT t w s')) (told t) < 0
  | [], t, s, s', h, k => by rw [subT_nil] at h; cases h; rw [putT_nil]; exact k
  | i :: w, .mk bs, s, s', h, k => by
    obtain ⟨b, h1, h2⟩ := subT_step h
    rw [putT_cons h1]
    exact told_set h1 (told_put h2 k)
theorem cut_less {t r : Tt} {w : List Nat} {n : Nat} (h : Cut t w n r) : cmp (told r) (told t) < 0 := by
  cases h with
  | root h => exact told_erase h
  | up h1 h2 h3 => exact told_put h1 (told_many h2 (told_erase h3))
/-! ### walking down a way -/
def Walk (H : Hp) : V → List Nat → V → Prop
  | v, [], u => v = u
  | v, i :: w, u => ∃ a xs x, v = .ref a ∧ H a = some (.lst xs) ∧ xs[i]? = some x ∧ Walk H x w u
theorem walk_nil {H : Hp} {v u : V} : Walk H v [] u = (v = u) := rfl
theorem walk_cons {H : Hp} {v u : V} {i : Nat} {w : List Nat} : Walk H v (i :: w) u = ∃ a xs x, v = .ref a ∧ H a = some (.lst xs) ∧ xs[i]? = some x ∧ Walk H x w u := rfl
theorem Walk.same {H H' : Hp} (s : Same H H') : ∀ {w : List Nat} {v u : V}, Walk H v w u → Walk H' v w u
  | [], v, u, h => h
  | i :: w, v, u, h => by
    obtain ⟨a, xs, x, e, h1, h2, h3⟩ := h
    exact ⟨a, xs, x, e, s _ _ h1, h2, Walk.same s h3⟩
theorem Walk.app {H : Hp} : ∀ {w w2 : List Nat} {v m u : V}, Walk H v w m → Walk H m w2 u → Walk H v (w ++ w2) u
  | [], w2, v, m, u, h, k => by rw [walk_nil] at h; subst h; exact k
  | i :: w, w2, v, m, u, h, k => by
    obtain ⟨a, xs, x, e, h1, h2, h3⟩ := h
    exact ⟨a, xs, x, e, h1, h2, Walk.app h3 k⟩
theorem Walk.det {H : Hp} : ∀ {w : List Nat} {v u m : V}, Walk H v w u → Walk H v w m → u = m
  | [], v, u, m, h, k => by rw [walk_nil] at h k; rw [← h, ← k]
  | i :: w, v, u, m, h, k => by
    obtain ⟨a, xs, x, rfl, h1, h2, h3⟩ := h
    obtain ⟨b, ys, y, e, k1, k2, k3⟩ := k
    cases e
    rw [h1] at k1
    cases k1
    rw [h2] at k2
    cases k2
    exact Walk.det h3 k3
theorem TreeAt.walk {H : Hp} : ∀ {w : List Nat} {v : V} {t s : Tt}, TreeAt H v t → subT t w = some s → ∃ u, Walk H v w u ∧ TreeAt H u s
  | [], v, t, s, h, e => by rw [subT_nil] at e; cases e; exact ⟨v, rfl, h⟩
  | i :: w, v, .mk bs, s, h, e => by
    obtain ⟨b, h1, h2⟩ := subT_step e
    rw [treeAt_mk] at h
    obtain ⟨a, xs, rfl, ha, hx⟩ := h
    obtain ⟨x, k1, k2⟩ := hx.get' h1
    obtain ⟨u, k3, k4⟩ := TreeAt.walk k2 h2
    exact ⟨u, ⟨a, xs, x, rfl, ha, k1, k3⟩, k4⟩
theorem at_split {α : Type} {l : List α} {i : Nat} {x : α} (h : l[i]? = some x) : l = l.take i ++ x :: l.drop (i + 1) := by
  obtain ⟨hi, e⟩ := List.getElem?_eq_some_iff.mp h
  rw [← e, List.getElem_cons_drop, List.take_append_drop]
theorem set_split {α : Type} {l : List α} {i : Nat} {x y : α} (h : l[i]? = some x) : l.set i y = l.take i ++ y :: l.drop (i + 1) := by
  obtain ⟨hi, _⟩ := List.getElem?_eq_some_iff.mp h
  rw [List.set_eq_take_append_cons_drop, if_pos hi]
theorem erase_split {α : Type} {l : List α} {i : Nat} : l.eraseIdx i = l.take i ++ l.drop (i + 1) := List.eraseIdx_eq_take_drop_succ l i
/-- one branch apart -/
theorem Owns.pick {H : Hp} {vs : List V} {bs : List Tt} {as : List Addr} {i : Nat} {b : Tt} (h : Owns H vs bs as) (e : bs[i]? = some b) :
    ∃ v1 x v2 b1 ab b2, vs = v1 ++ x :: v2 ∧ v1.length = i ∧ as = b1 ++ (ab ++ b2) ∧ Owns H v1 (bs.take i) b1 ∧ Own H x b ab ∧ Owns H v2 (bs.drop (i + 1)) b2 := by
  rw [at_split e] at h
  obtain ⟨v1, v2, b1, b2, rfl, rfl, h1, h2⟩ := h.split
  rw [owns_cons] at h2
  obtain ⟨x, v3, ab, b3, rfl, rfl, h3, h4⟩ := h2
  have hi := (List.getElem?_eq_some_iff.mp e).1
  refine ⟨v1, x, v3, b1, ab, b3, rfl, ?_, rfl, h1, h3, h4⟩
  rw [h1.len, List.length_take]
  omega
theorem Owns.erase {H : Hp} {vs : List V} {bs : List Tt} {as : List Addr} {i : Nat} {b : Tt} (h : Owns H vs bs as) (e : bs[i]? = some b) : ∃ as', Owns H (vs.eraseIdx i) (bs.eraseIdx i) as' ∧ as'.Sublist as := by
  obtain ⟨v1, x, v2, b1, ab, b2, rfl, hl, rfl, h1, h2, h3⟩ := h.pick e
  refine ⟨b1 ++ b2, ?_, (List.Sublist.refl b1).append (List.sublist_append_right ab b2)⟩
  rw [erase_split (l := bs)]
  have ev : (v1 ++ x :: v2).eraseIdx i = v1 ++ v2 := by
    rw [erase_split, ← hl, List.take_left]
    have : (v1 ++ x :: v2).drop (v1.length + 1) = v2 := by
      have e2 : v1 ++ x :: v2 = (v1 ++ [x]) ++ v2 := by simp
      rw [e2]
      have e3 : v1.length + 1 = (v1 ++ [x]).length := by simp
      rw [e3, List.drop_left]
    rw [this]
  rw [ev]
  exact Owns.append h1 h3
theorem Own.focus {H : Hp} : ∀ {w : List Nat} {v : V} {t s : Tt} {as : List Addr}, Own H v t as → subT t w = some s → ∃ u as1 as0 as2, Walk H v w u ∧ as = as1 ++ (as0 ++ as2) ∧ Own H u s as0 ∧
    ∀ (H' : Hp), (∀ c, c ∈ as1 ∨ c ∈ as2 → ∀ o, H c = some o → H' c = some o) → (∀ (s' : Tt) (asn : List Addr), Own H' u s' asn → Own H' v (putT t w s') (as1 ++ (asn ++ as2))) ∧ ∀ w1 w2 m, w = w1 ++ w2 → Walk H v w1 m → Walk H' v w1 m
  | [], v, t, s, as, h, e => by
    rw [subT_nil] at e
    cases e
    refine ⟨v, [], as, [], rfl, by simp, h, fun H' _ => ⟨fun s' asn k => ?_, fun w1 w2 m e k => ?_⟩⟩
    · rw [putT_nil, List.nil_append, List.append_nil]; exact k
    · have e1 := (List.append_eq_nil_iff.mp e.symm).1
      subst e1
      rw [walk_nil] at k ⊢; exact k
  | i :: w, v, .mk bs, s, as, h, e => by
    obtain ⟨b, h1, h2⟩ := subT_step e
    rw [own_mk] at h
    obtain ⟨a, vs, asb, rfl, rfl, ha, hb⟩ := h
    obtain ⟨v1, x, v2, b1, ab, b2, rfl, hl, rfl, o1, o2, o3⟩ := hb.pick h1
    obtain ⟨u, as1, as0, as2, k1, rfl, k3, k4⟩ := Own.focus o2 h2
    have hx : (v1 ++ x :: v2)[i]? = some x := by rw [← hl]; simp
    refine ⟨u, a :: (b1 ++ as1), as0, as2 ++ b2, ⟨a, _, x, rfl, ha, hx, k1⟩, by simp, k3, fun H' fr => ?_⟩
    have F := k4 H' (fun c hc o q => fr c (hc.elim (fun z => .inl (by simp [z])) (fun z => .inr (by simp [z]))) o q)
    refine ⟨fun s' asn on => ?_, fun w1 w2 m ew k => ?_⟩
    · have o := F.1 s' asn on
      rw [putT_cons h1, own_mk]
      refine ⟨a, v1 ++ x :: v2, b1 ++ ((as1 ++ (asn ++ as2)) ++ b2), rfl, by simp, fr a (.inl List.mem_cons_self) _ ha, ?_⟩
      rw [set_split h1]
      refine Owns.append (Owns.frame _ o1 fun c hc o q => fr c (.inl (by simp [hc])) o q) ?_
      rw [owns_cons]
      exact ⟨x, v2, _, _, rfl, rfl, o, Owns.frame _ o3 fun c hc o q => fr c (.inr (by simp [hc])) o q⟩
    · cases w1 with
      | nil => rw [walk_nil] at k ⊢; exact k
      | cons y w1 =>
        injection ew with e1 e2
        subst e1
        obtain ⟨a', xs', x', e3, g1, g2, g3⟩ := k
        cases e3
        rw [ha] at g1
        cases g1
        rw [hx] at g2
        cases g2
        exact ⟨a, _, x, rfl, fr a (.inl List.mem_cons_self) _ ha, hx, F.2 w1 w2 m e2 g3⟩
theorem Walk.split {H : Hp} : ∀ {w w2 : List Nat} {v u : V}, Walk H v (w ++ w2) u → ∃ m, Walk H v w m ∧ Walk H m w2 u
  | [], w2, v, u, h => ⟨v, rfl, h⟩
  | i :: w, w2, v, u, h => by
    obtain ⟨a, xs, x, e, h1, h2, h3⟩ := h
    obtain ⟨m, k1, k2⟩ := Walk.split (w := w) h3
    exact ⟨m, ⟨a, xs, x, e, h1, h2, k1⟩, k2⟩
/-- a list D that stood there, new trees put behind -/
def GrowAt (H H' : Hp) (D : Addr) (xs zs : List V) (ts : List Tt) : Prop := (∀ c o, c ≠ D → H c = some o → H' c = some o) ∧ H' D = some (.lst (xs ++ zs)) ∧ ∃ bs, Owns H' zs ts bs ∧ bs.Nodup ∧ ∀ a, a ∈ bs → H a = none
theorem GrowAt.start {H : Hp} {D : Addr} {xs : List V} (h : H D = some (.lst xs)) : GrowAt H H D xs [] [] :=
  ⟨fun _ _ _ e => e, by rw [List.append_nil]; exact h, [], by rw [owns_nil]; exact ⟨rfl, rfl⟩, List.nodup_nil, fun a ha => by cases ha⟩
theorem GrowAt.ext {H H2 : Hp} {D : Addr} {xs zs : List V} {ts : List Tt} {bs : List Addr} (h : H D = some (.lst xs)) (s : Same H H2) (o : Owns H2 zs ts bs) (nd : bs.Nodup) (fr : ∀ a, a ∈ bs → H a = none) : GrowAt H (upd H2 D (.lst (xs ++ zs))) D xs zs ts := by
  have nD : D ∉ bs := fun hb => by have := fr D hb; rw [h] at this; cases this
  refine ⟨fun c o hc e => by rw [upd_ne hc]; exact s _ _ e, upd_same, bs, ?_, nd, fr⟩
  exact Owns.frame _ o fun c hc u q => by rw [upd_ne (fun e => nD (by rw [← e]; exact hc))]; exact q
theorem GrowAt.more {H H' H2 : Hp} {D : Addr} {xs zs : List V} {ts : List Tt} {v : V} {t : Tt} (h : H D = some (.lst xs)) (g : GrowAt H H' D xs zs ts) (n : New H' H2 v t) :
    H2 D = some (.lst (xs ++ zs)) ∧ GrowAt H (upd H2 D (.lst (xs ++ zs ++ [v]))) D xs (zs ++ [v]) (ts ++ [t]) := by
  obtain ⟨k, hD, bs, ow, nd, fr⟩ := g
  obtain ⟨s, b2, o, nb, fb⟩ := n
  have nD : D ∉ bs := fun hb => by have := fr D hb; rw [h] at this; cases this
  have nD2 : D ∉ b2 := fun hb => by have := fb D hb; rw [hD] at this; cases this
  have tr := Owns.tracked ts ow
  refine ⟨s _ _ hD, fun c o hc e => by rw [upd_ne hc]; exact s _ _ (k c o hc e), by rw [upd_same, List.append_assoc], bs ++ b2, ?_, ?_, ?_⟩
  · refine Owns.append (Owns.frame _ ow fun c hc u q => ?_) (Owns.one (Own.frame _ o fun c hc u q => ?_))
    · rw [upd_ne (fun e => nD (by rw [← e]; exact hc))]; exact s _ _ q
    · rw [upd_ne (fun e => nD2 (by rw [← e]; exact hc))]; exact q
  · refine List.nodup_append.mpr ⟨nd, nb, fun a ha c hc e => ?_⟩
    obtain ⟨l, q⟩ := tr a ha
    rw [e, fb c hc] at q; cases q
  · intro a ha
    rcases List.mem_append.mp ha with ha | ha
    · exact fr a ha
    · cases e : H a with
      | none => rfl
      | some o =>
        have q := k a o (fun z => nD2 (by rw [← z]; exact ha)) e
        rw [fb a ha] at q; cases q
/-- a new tree changed at the end of a way -/
theorem New.knot {H0 H : Hp} {v : V} {t : Tt} {w : List Nat} {bs : List Tt} (n : New H0 H v t) (hs : subT t w = some (.mk bs)) : ∃ au xs, Walk H v w (.ref au) ∧ H au = some (.lst xs) ∧ TreesAt H xs bs ∧ H0 au = none ∧
    (∀ i b, bs[i]? = some b → New H0 (upd H au (.lst (xs.eraseIdx i))) v (putT t w (.mk (bs.eraseIdx i))) ∧ TreeAt (upd H au (.lst (xs.eraseIdx i))) (.ref au) (.mk (bs.eraseIdx i)) ∧ ∀ w1 w2 m, w = w1 ++ w2 → Walk H v w1 m → Walk (upd H au (.lst (xs.eraseIdx i))) v w1 m) ∧
    ∀ (H' : Hp) (zs : List V) (ts : List Tt), GrowAt H H' au xs zs ts → New H0 H' v (putT t w (.mk (bs ++ ts))) ∧ ∀ w1 w2 m, w = w1 ++ w2 → Walk H v w1 m → Walk H' v w1 m := by
  obtain ⟨s0, as, ow, nd, fr⟩ := n
  obtain ⟨u, as1, as0, as2, k1, rfl, k3, k4⟩ := Own.focus ow hs
  rw [own_mk] at k3
  obtain ⟨au, xs, asr, rfl, rfl, ha, hx⟩ := k3
  have hau0 : H0 au = none := fr au (by simp)
  obtain ⟨n1, n2, n12⟩ := List.nodup_append.mp nd
  obtain ⟨n3, n4, n34⟩ := List.nodup_append.mp n2
  obtain ⟨n5, n6⟩ := List.nodup_cons.mp n3
  have off : ∀ c, c ∈ as1 ∨ c ∈ as2 → c ≠ au := fun c hc e => by
    subst e
    rcases hc with hc | hc
    · exact n12 c hc c (by simp) rfl
    · exact n34 c List.mem_cons_self c hc rfl
  have tr : ∀ c, c ∈ as1 ++ ((au :: asr) ++ as2) → ∃ l, H c = some (.lst l) := Own.tracked t ow
  refine ⟨au, xs, k1, ha, Owns.at_ _ hx, hau0, fun i b hb => ?_, fun H' zs ts g => ?_⟩
  · obtain ⟨asr', o', sl⟩ := hx.erase hb
    have keep : ∀ c, c ≠ au → ∀ o, H c = some o → upd H au (.lst (xs.eraseIdx i)) c = some o := fun c hc o q => by rw [upd_ne hc]; exact q
    have sl2 : (as1 ++ ((au :: asr') ++ as2)).Sublist (as1 ++ ((au :: asr) ++ as2)) := (List.Sublist.refl _).append ((sl.cons₂ au).append (List.Sublist.refl _))
    have F := k4 (upd H au (.lst (xs.eraseIdx i))) (fun c hc o q => keep c (off c hc) o q)
    have on : Own (upd H au (.lst (xs.eraseIdx i))) (.ref au) (.mk (bs.eraseIdx i)) (au :: asr') := by
      rw [own_mk]
      exact ⟨au, _, asr', rfl, rfl, upd_same, Owns.frame _ o' fun c hc o q => keep c (fun e => n5 (by rw [← e]; exact sl.subset hc)) o q⟩
    exact ⟨⟨fun c o q => keep c (ne_of_none q hau0) o (s0 _ _ q), as1 ++ ((au :: asr') ++ as2), F.1 _ _ on, sl2.nodup nd, fun c hc => fr c (sl2.subset hc)⟩, Own.at_ _ on, F.2⟩
  · obtain ⟨keep, hD, bs2, oz, nz, fz⟩ := g
    have dis : ∀ c, c ∈ bs2 → ∀ d, d ∈ as1 ++ ((au :: asr) ++ as2) → d ≠ c := fun c hc d hd e => by
      obtain ⟨l, q⟩ := tr d hd
      rw [e, fz c hc] at q; cases q
    have F := k4 H' (fun c hc o q => keep c o (off c hc) q)
    have on : Own H' (.ref au) (.mk (bs ++ ts)) (au :: (asr ++ bs2)) := by
      rw [own_mk]
      exact ⟨au, _, asr ++ bs2, rfl, rfl, hD, Owns.append (Owns.frame _ hx fun c hc o q => keep c o (fun e => n5 (by rw [← e]; exact hc)) q) oz⟩
    refine ⟨⟨fun c o q => keep c o (ne_of_none q hau0) (s0 _ _ q), as1 ++ ((au :: (asr ++ bs2)) ++ as2), F.1 _ _ on, ?_, ?_⟩, F.2⟩
    · have p : (as1 ++ ((au :: (asr ++ bs2)) ++ as2)).Perm ((as1 ++ ((au :: asr) ++ as2)) ++ bs2) := by
        have e1 : as1 ++ ((au :: (asr ++ bs2)) ++ as2) = (as1 ++ (au :: asr)) ++ (bs2 ++ as2) := by simp
        have e2 : (as1 ++ ((au :: asr) ++ as2)) ++ bs2 = (as1 ++ (au :: asr)) ++ (as2 ++ bs2) := by simp
        rw [e1, e2]
        exact List.perm_append_comm.append_left _
      exact p.nodup_iff.mpr (List.nodup_append.mpr ⟨nd, nz, fun d hd c hc e => dis c hc d hd e⟩)
    · intro c hc
      have : c ∈ as1 ++ ((au :: asr) ++ as2) ∨ c ∈ bs2 := by
        simp only [List.mem_append, List.mem_cons] at hc ⊢
        rcases hc with h | (h | h | h) | h
        · exact .inl (.inl h)
        · exact .inl (.inr (.inl (.inl h)))
        · exact .inl (.inr (.inl (.inr h)))
        · exact .inr h
        · exact .inl (.inr (.inr h))
      rcases this with h | h
      · exact fr c h
      · exact s0.free (fz c h)
/-! ### lists of ways -/
def WaysR (H : Hp) : List Addr → List (List Int) → Prop
  | [], [] => True
  | r :: rs, w :: ws => H r = some (.lst (w.map V.int)) ∧ WaysR H rs ws
  | _, _ => False
theorem WaysR.len {H : Hp} : ∀ {rs : List Addr} {ws : List (List Int)}, WaysR H rs ws → rs.length = ws.length
  | [], [], _ => rfl
  | [], _ :: _, h => h.elim
  | _ :: _, [], h => h.elim
  | r :: rs, w :: ws, h => by rw [List.length_cons, List.length_cons, WaysR.len h.2]
theorem WaysR.frame {H H' : Hp} : ∀ {rs : List Addr} {ws : List (List Int)}, WaysR H rs ws → (∀ r, r ∈ rs → ∀ o, H r = some o → H' r = some o) → WaysR H' rs ws
  | [], [], _, _ => trivial
  | [], _ :: _, h, _ => h.elim
  | _ :: _, [], h, _ => h.elim
  | r :: rs, w :: ws, h, k => ⟨k r List.mem_cons_self _ h.1, WaysR.frame h.2 fun c hc => k c (List.mem_cons_of_mem _ hc)⟩
theorem WaysR.append {H : Hp} : ∀ {rs ss : List Addr} {ws us : List (List Int)}, WaysR H rs ws → WaysR H ss us → WaysR H (rs ++ ss) (ws ++ us)
  | [], ss, [], us, _, k => k
  | [], _, _ :: _, _, h, _ => h.elim
  | _ :: _, _, [], _, h, _ => h.elim
  | r :: rs, ss, w :: ws, us, h, k => ⟨h.1, WaysR.append h.2 k⟩
theorem WaysR.get {H : Hp} : ∀ {rs : List Addr} {ws : List (List Int)} {i : Nat} {r : Addr}, WaysR H rs ws → rs[i]? = some r → ∃ w, ws[i]? = some w ∧ H r = some (.lst (w.map V.int))
  | [], _, i, r, _, e => by cases e
  | _ :: _, [], i, r, h, _ => h.elim
  | x :: rs, w :: ws, 0, r, h, e => by
    have e' : x = r := Option.some.inj (by simpa using e)
    exact ⟨w, rfl, e' ▸ h.1⟩
  | x :: rs, w :: ws, i + 1, r, h, e => by
    obtain ⟨u, k1, k2⟩ := WaysR.get (i := i) (r := r) h.2 (by simpa using e)
    exact ⟨u, by simpa using k1, k2⟩
theorem WaysR.drop {H : Hp} : ∀ (n : Nat) {rs : List Addr} {ws : List (List Int)}, WaysR H rs ws → WaysR H (rs.drop n) (ws.drop n)
  | 0, _, _, h => h
  | n + 1, [], [], _ => trivial
  | n + 1, [], _ :: _, h => h.elim
  | n + 1, _ :: _, [], h => h.elim
  | n + 1, r :: rs, w :: ws, h => WaysR.drop n h.2
/-- a list of ways made anew -/
def NewW (H H' : Hp) (D : Addr) (rs : List Addr) (ws : List (List Int)) : Prop := Same H H' ∧ H D = none ∧ H' D = some (.lst (rs.map V.ref)) ∧ WaysR H' rs ws ∧ (D :: rs).Nodup ∧ ∀ r, r ∈ rs → H r = none
theorem NewW.start {H : Hp} {D : Addr} (h : H D = none) : NewW H (upd H D (.lst [])) D [] [] := ⟨same_new h _, h, upd_same, trivial, by simp, fun r hr => by cases hr⟩
theorem NewW.step {H H' H2 : Hp} {D : Addr} {rs : List Addr} {ws : List (List Int)} (n : NewW H H' D rs ws) (s : Same H' H2) : NewW H H2 D rs ws := by
  obtain ⟨s0, hD, h1, h2, nd, fr⟩ := n
  exact ⟨s0.trans s, hD, s _ _ h1, h2.frame fun r _ o q => s _ _ q, nd, fr⟩
theorem NewW.of {H0 H H' : Hp} {D : Addr} {rs : List Addr} {ws : List (List Int)} (n : NewW H H' D rs ws) (s : Same H0 H) : NewW H0 H' D rs ws := by
  obtain ⟨s0, hD, h1, h2, nd, fr⟩ := n
  exact ⟨s.trans s0, s.free hD, h1, h2, nd, fun r hr => s.free (fr r hr)⟩
theorem WaysR.some {H : Hp} : ∀ {rs : List Addr} {ws : List (List Int)}, WaysR H rs ws → ∀ r, r ∈ rs → ∃ l, H r = some (.lst l)
  | [], _, _, r, hr => by cases hr
  | _ :: _, [], h, _, _ => h.elim
  | x :: rs, w :: ws, h, r, hr => by
    rcases List.mem_cons.mp hr with e | hr
    · rw [e]; exact ⟨_, h.1⟩
    · exact WaysR.some h.2 r hr
/-- new ways put behind -/
theorem NewW.join {H H' H2 : Hp} {D : Addr} {rs ss : List Addr} {ws us : List (List Int)} (n : NewW H H' D rs ws) (s : Same H' H2) (k : WaysR H2 ss us) (nd2 : ss.Nodup) (fr2 : ∀ r, r ∈ ss → H' r = none) : NewW H (upd H2 D (.lst ((rs ++ ss).map V.ref))) D (rs ++ ss) (ws ++ us) := by
  obtain ⟨s0, hD, h1, h2, nd, fr⟩ := n
  obtain ⟨n1, n2⟩ := List.nodup_cons.mp nd
  have keep : ∀ c, c ≠ D → ∀ o, H2 c = some o → upd H2 D (.lst ((rs ++ ss).map V.ref)) c = some o := fun c hc o q => by rw [upd_ne hc]; exact q
  have ne2 : ∀ c, c ∈ ss → c ≠ D := fun c hc e => by have := fr2 c hc; rw [e, h1] at this; cases this
  refine ⟨fun c o q => keep c (ne_of_none q hD) o (s _ _ (s0 _ _ q)), hD, upd_same, WaysR.append (h2.frame fun r hr o q => keep r (fun e => n1 (e ▸ hr)) o (s _ _ q)) (k.frame fun r hr o q => keep r (ne2 r hr) o q), ?_, fun r hr => ?_⟩
  · refine List.nodup_cons.mpr ⟨fun h => ?_, List.nodup_append.mpr ⟨n2, nd2, fun a ha b hb e => ?_⟩⟩
    · rcases List.mem_append.mp h with h | h
      · exact n1 h
      · exact ne2 D h rfl
    · obtain ⟨l, q⟩ := h2.some a ha
      rw [e, fr2 b hb] at q; cases q
  · rcases List.mem_append.mp hr with h | h
    · exact fr r h
    · exact s0.free (fr2 r h)
def waysD (ws : List (List Int)) : List PyData := ws.map fun w => .list (w.map PyData.int)
theorem WaysR.dp {K : PySem.W.Frag} {H : Hp} : ∀ {rs : List Addr} {ws : List (List Int)}, WaysR H rs ws → DpAll K H (rs.map V.ref) (waysD ws)
  | [], [], _ => .nil
  | [], _ :: _, h => h.elim
  | _ :: _, [], h => h.elim
  | r :: rs, w :: ws, h => .cons (.lst (SqL.of h.1) (dpInts w)) (WaysR.dp h.2)
theorem waysLay : ∀ ws : List (List Int), PyData.canLayAll0 (waysD ws) = true
  | [] => by unfold waysD; rw [List.map_nil, PyData.canLayAll0]
  | w :: ws => by
    have := waysLay ws
    unfold waysD at this ⊢
    rw [List.map_cons, PyData.canLayAll0, PyData.canLay0, intsLay, this]; rfl
theorem waysDepth : ∀ ws : List (List Int), PyData.depthAll (waysD ws) ≤ 1
  | [] => by unfold waysD; rw [List.map_nil, PyData.depthAll]; omega
  | w :: ws => by
    have := waysDepth ws
    unfold waysD at this ⊢
    rw [List.map_cons, PyData.depthAll, PyData.depth, intsDepth]
    omega
theorem waysShaped (ws : List (List Int)) : SeqAt.shaped (.list (waysD ws)) = true := by
  show (PyData.canLay0 (.list (waysD ws)) && decide (PyData.depth (.list (waysD ws)) ≤ 64)) = true
  have h := waysDepth ws
  rw [PyData.canLay0, PyData.depth, waysLay, Bool.true_and]
  exact decide_eq_true (by omega)
theorem waysEqv : ∀ ws us : List (List Int), PyData.eqvAll (waysD ws) (waysD us) = decide (ws = us)
  | [], [] => by unfold waysD; simp [PyData.eqvAll]
  | [], u :: us => by unfold waysD; simp [PyData.eqvAll]
  | w :: ws, [] => by unfold waysD; simp [PyData.eqvAll]
  | w :: ws, u :: us => by
    have := waysEqv ws us
    unfold waysD at this ⊢
    rw [List.map_cons, List.map_cons, PyData.eqvAll, PyData.eqv, intsEqv, this]
    by_cases h : w = u
    · subst h; simp
    · simp [h]
theorem eq_ways {K : PySem.W.Frag} {H : Hp} {a b : Addr} {rs ss : List Addr} {ws us : List (List Int)} {Q : VK} (h1 : SqL K H a (rs.map V.ref)) (k1 : WaysR H rs ws) (h2 : SqL K H b (ss.map V.ref)) (k2 : WaysR H ss us) (q : Q (.bl (decide (ws = us))) H) : rEqD K (.ref a) (.ref b) H Q :=
  ⟨_, _, .lst h1 k1.dp, .lst h2 k2.dp, waysShaped ws, waysShaped us, by rw [PyData.eqv, waysEqv]; exact q⟩
theorem ne_ways {K : PySem.W.Frag} {H : Hp} {a b : Addr} {rs ss : List Addr} {ws us : List (List Int)} {Q : VK} (h1 : SqL K H a (rs.map V.ref)) (k1 : WaysR H rs ws) (h2 : SqL K H b (ss.map V.ref)) (k2 : WaysR H ss us) (q : Q (.bl (!decide (ws = us))) H) : rNeD K (.ref a) (.ref b) H Q :=
  ⟨_, _, .lst h1 k1.dp, .lst h2 k2.dp, waysShaped ws, waysShaped us, by rw [PyData.eqv, waysEqv]; exact q⟩
theorem way_in {ws : List (List Int)} {w : List Int} : ((waysD ws).any fun z => PyData.eqv z (.list (w.map PyData.int))) = decide (w ∈ ws) := by
  unfold waysD
  induction ws with
  | nil => simp
  | cons u ws ih =>
    rw [List.map_cons, List.any_cons, ih, PyData.eqv, intsEqv]
    by_cases h : u = w
    · subst h; simp
    · have : ¬ w = u := fun e => h e.symm
      simp [h, this]
section
variable {P : Program} {w : World} {K : PySem.W.Frag} {mg : Str → Option Value} {base : Heap}
/-! ### is_number -/
inductive NumQ (K : PySem.W.Frag) (H : Hp) : V → Bool → Prop
  | int (i : Int) : NumQ K H (.int i) true
  | bool (b : Bool) : NumQ K H (.bl b) false
  | other {v : V} {ty : Value} (h : TyX K H v ty) (k : PySem.W.kitOne K ty (.type "int") = some false) : NumQ K H v false
def spIsNumber (K : PySem.W.Frag) : Sp := fun vs H Q _ => ∃ v b, vs = [v] ∧ NumQ K H v b ∧ Q (.bl b) H
theorem ok_is_number (T : Txt K mg) : FnOk P w K mg base CX0 1 T.a_is_number T.d_is_number ["thing"] (spIsNumber K) := by
  refine T.F_is_number.ok sc_is_number (fun vs H Q E h => ?_) (fun cdv A outer s H vs Q E hr h => ?_)
  · obtain ⟨v, b, rfl, _⟩ := h; rfl
  obtain ⟨v, b, rfl, hn, q⟩ := h
  refine ⟨_, (pss_one (ps_ret (pe_and (pe_callB (r := rIsi K) call_isi (by rfl) T.z_isinstance (by decide +kernel) (pa_cons (pv 0) (pa_cons (pe_bltn (v := .ty "int") (u := .type "int") (by rfl) T.z_int (by decide +kernel) rfl) pa_nil))) (pe_one (pe_not (pe_callB (r := rIsi K) call_isi (by rfl) T.z_isinstance (by decide +kernel) (pa_cons (pv 0) (pa_cons (pe_bltn (v := .ty "bool") (u := .type "bool") (by rfl) T.z_bool (by decide +kernel) rfl) pa_nil)))))))), ?_⟩
  cases hn with
  | int i =>
    refine ⟨_, rfl, _, _, .type "int", _, true, rfl, ClsV.ty _, .base (.int _), kit_ty (by decide +kernel), _, rfl, iteT ?_⟩
    exact ⟨_, rfl, _, _, .type "int", _, false, rfl, ClsV.ty _, .base (.int _), kit_ty (by decide +kernel), _, rfl, q⟩
  | bool b =>
    refine ⟨_, rfl, _, _, .type "bool", _, true, rfl, ClsV.ty _, .base (.bl _), kit_ty (by decide +kernel), _, rfl, iteT ?_⟩
    exact ⟨_, rfl, _, _, .type "bool", _, true, rfl, ClsV.ty _, .base (.bl _), kit_ty (by decide +kernel), _, rfl, q⟩
  | other h k =>
    exact ⟨_, rfl, _, _, _, _, false, rfl, ClsV.ty _, h, k, _, rfl, iteF q⟩
/-! ### heads_of -/
def wsI (ws : List (List Nat)) : List (List Int) := ws.map wI
def spHeadsOf (n : Nat) : Sp := fun vs H Q _ => ∃ (v : V) (t : Tt), vs = [v] ∧ TreeAt H v t ∧ knots t ≤ 100000 ∧ depth t < n ∧ depth t ≤ 40 ∧ ∀ H' D rs, NewW H H' D rs (wsI (headsT t)) → Q (.ref D) H'
theorem wsI_take1 {ws : List (List Nat)} {k i : Nat} {u : List Nat} (h : ws[i]? = some u) : (ws.take (i + 1)).map (fun w => wI (k :: w)) = (ws.take i).map (fun w => wI (k :: w)) ++ [wI (k :: u)] := by
  rw [take_more h, List.map_append]; rfl
theorem wsI_get {ws : List (List Nat)} {i : Nat} {u : List Int} (h : (wsI ws)[i]? = some u) : ∃ v, ws[i]? = some v ∧ u = wI v := by
  unfold wsI at h
  rw [List.getElem?_map] at h
  cases e : ws[i]? with
  | none => rw [e] at h; cases h
  | some v => rw [e] at h; injection h with h; exact ⟨v, rfl, h.symm⟩
theorem head1_leaf (k : Nat) : head1 k (.mk []) = [[k]] := rfl
theorem head1_not {k : Nat} {b : Tt} (h : b ≠ .mk []) : wsI (head1 k b) = (headsT b).map (fun w => wI (k :: w)) := by
  unfold head1
  rw [if_neg (fun z => h (bs_empty z))]
  unfold wsI
  rw [List.map_map]; rfl
theorem knots_take {bs : List Tt} {i : Nat} : knotsL (bs.take i) ≤ knotsL bs := by
  have := knotsL_append (bs.take i) (bs.drop i)
  rw [List.take_append_drop] at this
  omega
theorem ok_heads_of (T : Txt K mg) : ∀ n, FnOk P w K mg base CX0 n T.a_heads_of T.d_heads_of ["tree"] (spHeadsOf n)
  | 0 => none_left fun vs H Q E ⟨v, t, _, _, _, h, _⟩ => by omega
  | n + 1 => by
    have G_heads_of := ok_heads_of T n
    refine T.F_heads_of.ok sc_heads_of (fun vs H Q E h => ?_) (fun cdv A outer s H vs Q E hr h => ?_)
    · obtain ⟨v, t, rfl, _⟩ := h; rfl
    obtain ⟨v, ⟨bs⟩, rfl, ht, hk, hd, hd40, q⟩ := h
    have R_heads_of : Room n _ := hr
    have hu64 := hr.units
    rw [treeAt_mk] at ht
    obtain ⟨a, xs, rfl, ha, hbs⟩ := ht
    have hk' : 1 + knotsL bs ≤ 100000 := by rw [knots] at hk; exact hk
    have szl : (100000 : Nat) * 10 ≤ sizeLine := by decide
    have hbl := hbs.len
    refine ⟨_, (pss_cons (ps_set (i := 1) sc_heads_of.nd rfl (Or.inl rfl) (pe_lst pa_nil))
      (pss_cons (ps_for PassesOwn.never rfl (pi_enum (by rfl) T.z_enumerate (pa_cons (pv 0) pa_nil)) (pg_tup rfl (pgs_cons (pg_name (i := 2) sc_heads_of.nd rfl (Or.inr rfl)) (pgs_cons (pg_name (i := 3) sc_heads_of.nd rfl (Or.inl rfl)) pgs_nil))) (pss_one (ps_if (pt_cmpR (r := rEqD K) (op_eqD hu64) (pv 3) (pe_lst pa_nil) (nomark _)) (pss_one (ps_expr (pe_bm PySem.F.plainAttrs_list PySem.F.slot_list_append PySem.F.type_list_append mt_append (pv 1) (pa_cons (pe_lst (pa_cons (pv 2) pa_nil)) pa_nil)))) (pss_one (ps_expr (pe_bm PySem.F.plainAttrs_list PySem.F.slot_list_extend PySem.F.type_list_extend mt_extend (pv 1) (pa_cons (pe_lc (own := [("way", 4)]) (g := gName 4) (tt := tYes) rfl sc_heads_of.nd (pi_list (pe_call G_heads_of R_heads_of rfl T.m_heads_of T.k_heads_of T.b_heads_of .nil pass0 (pa_cons (pv 3) pa_nil))) (blkOk_by (own := [("way", 4)]) (N := ["tree", "found", "at", "branch", "way"]) (sc := defScope s_heads_of) (by decide +kernel)) (fun _ _ _ _ _ => (pg_name (i := 4) sc_heads_of.nd rfl (Or.inl rfl))) (fun _ _ _ _ _ => pts_nil) (fun _ _ _ _ _ => (pe_op op_cat (pe_lst (pa_cons (pv 2) pa_nil)) (pv 4)))) pa_nil)))))))
      (pss_one (ps_ret (pv 1))))), ?_⟩
    refine ⟨(by show 0 ≤ sizeLine; decide), fun F nF => ?_⟩
    refine ⟨_, rfl, a, _, rfl, SqL.of ((same_new nF _) _ _ ha), ?_⟩
    refine for_it (walk_enum (xs := xs)) (fun i σ H' => ∃ o2 o3 rs, σ = [some (.ref a), some (.ref F), o2, o3, none] ∧ NewW H H' F rs (wsI (headsL 0 (bs.take i)))) ⟨none, none, [], rfl, NewW.start nF⟩ (fun i σ H' _ p => ?_) ?_ ?_
    · obtain ⟨_, _, _, _, nw⟩ := p
      exact SqL.of (nw.1 _ _ ha)
    · rintro i x σ H1 H2 hi ⟨o2, o3, rs, rfl, nw⟩ ⟨Tp, x1, y1, rfl, nT, rfl, hx, hy⟩
      cases hx
      obtain ⟨b, hb, hxb⟩ := hbs.get hy
      have mb := List.mem_of_getElem? hb
      have kb := knotsL_mem mb
      have db := depthL_le mb
      have dbs : depthL bs ≤ 40 := by rw [depth] at hd40; exact hd40
      have sT := same_new nT (.tup [.int (i : Nat), y1])
      have uT : upd H1 Tp (.tup [.int (i : Nat), y1]) Tp = some (.tup [.int (i : Nat), y1]) := upd_same
      generalize upd H1 Tp (.tup [.int (i : Nat), y1]) = H3 at sT uT ⊢
      have nw3 := nw.step sT
      have tb := TreeAt.same nw3.1 b hxb
      have rl := nw.2.2.2.1.len
      have hl : (wsI (headsL 0 (bs.take i))).length ≤ 100000 := by
        unfold wsI
        rw [List.length_map]
        have h1 := headsL_len 0 (bs.take i)
        have h2 := knots_take (bs := bs) (i := i)
        omega
      have es : headsL 0 (bs.take (i + 1)) = headsL 0 (bs.take i) ++ head1 i b := by
        rw [take_more hb, headsL_snoc, Nat.zero_add, List.length_take, Nat.min_eq_left (by omega)]
      refine ⟨Tp, _, rfl, SqT.of uT, rfl, _, _, rfl, _, _, rfl, rfl, ?_⟩
      refine ⟨_, rfl, (by show 0 ≤ sizeLine; decide), fun p np => ?_⟩
      have sp := same_new np (.lst [])
      have up : upd H3 p (.lst []) p = some (.lst []) := upd_same
      generalize upd H3 p (.lst []) = H4 at sp up ⊢
      have nw4 := nw3.step sp
      refine eq_trees (TreeAt.same sp _ tb) (nil_tree up) (by omega) (by rw [depth, depthL]; omega) ⟨_, rfl, ite2 (fun c => ?_) (fun c => ?_)⟩
      · have eb : b = .mk [] := of_decide_eq_true c
        subst eb
        refine ⟨_, rfl, .inl ⟨rfl, _, SqL.of nw4.2.2.1⟩, _, rfl, (by show 1 ≤ sizeLine; decide), fun p2 np2 => ?_⟩
        have sp2 := same_new np2 (.lst [V.int (i : Nat)])
        have up2 : upd H4 p2 (.lst [V.int (i : Nat)]) p2 = some (.lst [V.int (i : Nat)]) := upd_same
        generalize upd H4 p2 (.lst [V.int (i : Nat)]) = H5 at sp2 up2 ⊢
        have nj := nw4.join (ss := [p2]) (us := [wI [i]]) sp2 ⟨up2, trivial⟩ (by simp) (fun r hr => by rw [List.mem_singleton] at hr; rw [hr]; exact np2)
        refine ⟨_, _, _, rfl, rfl, sp2 _ _ nw4.2.2.1, ?_, _, _, rs ++ [p2], rfl, ?_⟩
        · rw [List.length_map]; omega
        · rw [es, head1_leaf]
          unfold wsI at nj ⊢
          rw [List.map_append]
          rw [List.map_append] at nj
          exact nj
      · have eb : b ≠ .mk [] := of_decide_eq_false (Bool.eq_false_iff.mpr c)
        refine ⟨_, rfl, .inl ⟨rfl, _, SqL.of nw4.2.2.1⟩, _, rfl, y1, b, rfl, TreeAt.same sp b tb, by omega, depth_bs hd mb, by omega, fun H5 D2 rs2 n5 => ?_⟩
        refine ⟨D2, rfl, ⟨_, SqL.of n5.2.2.1⟩, fun D nD => ?_⟩
        refine lc_it (walk_list (xs := rs2.map V.ref)) (fun j H' => ∃ ss, NewW H5 H' D ss (((headsT b).take j).map fun w => wI (i :: w))) ⟨[], NewW.start nD⟩ (fun j H' _ g => by obtain ⟨ss, g⟩ := g; exact SqL.of (g.1 _ _ n5.2.2.1)) ?_ ?_
        · rintro j x H6 H7 hj ⟨ss, g⟩ ⟨rfl, hx⟩
          rw [List.getElem?_map] at hx
          obtain ⟨r, hr, e⟩ := Option.map_eq_some_iff.mp hx
          subst e
          obtain ⟨u, hu, hru⟩ := n5.2.2.2.1.get hr
          obtain ⟨w0, hw0, e0⟩ := wsI_get hu
          subst e0
          have lw := (heads_way b w0 (List.mem_of_getElem? hw0)).2
          have dk := depth_knots b
          have hj2 := (List.getElem?_eq_some_iff.mp hw0).1
          have lh := heads_len b
          have gl := g.2.2.2.1.len
          rw [List.length_map, List.length_take] at gl
          refine ⟨rfl, _, rfl, (by show 1 ≤ sizeLine; decide), fun p2 np2 => ?_⟩
          have sp2 := same_new np2 (.lst [V.int (i : Nat)])
          have up2 : upd H7 p2 (.lst [V.int (i : Nat)]) p2 = some (.lst [V.int (i : Nat)]) := upd_same
          generalize upd H7 p2 (.lst [V.int (i : Nat)]) = H8 at sp2 up2 ⊢
          refine ⟨_, rfl, p2, r, _, _, rfl, rfl, up2, sp2 _ _ (g.1 _ _ hru), ?_, fun p3 np3 => ?_⟩
          · rw [List.length_map, wI_len, List.length_singleton]; omega
          have sp3 := same_new np3 (.lst ([V.int (i : Nat)] ++ (wI w0).map V.int))
          have up3 : upd H8 p3 (.lst ([V.int (i : Nat)] ++ (wI w0).map V.int)) p3 = some (.lst ([V.int (i : Nat)] ++ (wI w0).map V.int)) := upd_same
          generalize upd H8 p3 (.lst ([V.int (i : Nat)] ++ (wI w0).map V.int)) = H9 at sp3 up3 ⊢
          have nj := g.join (ss := [p3]) (us := [wI (i :: w0)]) (sp2.trans sp3) ⟨up3, trivial⟩ (by simp) (fun r hr => by rw [List.mem_singleton] at hr; rw [hr]; exact sp2.free np3)
          refine ⟨_, (sp2.trans sp3) _ _ g.2.2.1, ?_, ss ++ [p3], ?_⟩
          · rw [List.length_map]; omega
          · rw [wsI_take1 hw0]
            rw [List.map_append] at nj
            exact nj
        · rintro H6 ⟨ss, g⟩
          have lr : (rs2.map V.ref).length = (headsT b).length := by
            rw [List.length_map, n5.2.2.2.1.len]
            unfold wsI
            rw [List.length_map]
          rw [lr, List.take_length] at g
          have gl := g.2.2.2.1.len
          rw [List.length_map] at gl
          have lh := heads_len b
          have s56 := n5.1.trans g.1
          have nj := nw4.join s56 g.2.2.2.1 (List.nodup_cons.mp g.2.2.2.2.1).2 (fun r hr => n5.1.free (g.2.2.2.2.2 r hr))
          refine ⟨_, _, _, _, rfl, rfl, s56 _ _ nw4.2.2.1, g.2.2.1, ?_, _, _, rs ++ ss, rfl, ?_⟩
          · rw [List.length_map, List.length_map]; omega
          · rw [es]
            have e1 : wsI (headsL 0 (bs.take i) ++ head1 i b) = wsI (headsL 0 (bs.take i)) ++ (headsT b).map (fun w => wI (i :: w)) := by
              rw [← head1_not eb]
              unfold wsI
              rw [List.map_append]
            rw [e1]
            rw [List.map_append] at nj
            exact nj
    · rintro σ H1 ⟨o2, o3, rs, rfl, nw⟩
      rw [hbl, List.take_length] at nw
      refine ⟨_, rfl, q _ _ rs ?_⟩
      rw [headsT_mk]; exact nw
end
section
variable {P : Program} {w : World} {K : PySem.W.Frag} {mg : Str → Option Value} {base : Heap}
/-! ### heads -/
def spHeads (A : Addr) : Sp := fun vs H Q E => ∃ v, vs = [v] ∧ ((∃ t, TreeAt H v t ∧ okT t ∧ ∀ H' D rs, NewW H H' D rs (wsI (headsT t)) → Q (.ref D) H') ∨ (Bad H v ∧ ∀ H', Same H H' → E (.ref A) none H'))
theorem ok_heads (T : Txt K mg) : FnOk P w K mg base (L2N.CX P w) 44 T.a_heads T.d_heads ["tree"] (spHeads T.A_BadTree) := by
  have G_asked_tree := ok_asked_tree (P := P) (w := w) (base := base) T
  have G_heads_of := ok_heads_of (P := P) (w := w) (base := base) T 41
  refine okN T.F_heads sc_heads (fun vs H Q E h => ?_) (fun cdv A outer s H vs Q E hr h => ?_)
  · obtain ⟨v, rfl, _⟩ := h; rfl
  obtain ⟨v, rfl, h⟩ := h
  have R_asked_tree : Room 43 _ := hr
  have R_heads_of : Room 41 _ := hr.mono (by omega)
  refine ⟨_, (pss_cons (ps_expr (pe_call G_asked_tree R_asked_tree rfl T.m_asked_tree T.k_asked_tree T.b_asked_tree .nil (L2N.passes_call (L2N.takes_of rfl rfl rfl rfl) (fun _ _ _ _ h => h)) (pa_cons (pv 0) pa_nil)))
      (pss_one (ps_ret (pe_call G_heads_of R_heads_of rfl T.m_heads_of T.k_heads_of T.b_heads_of .nil pass0 (pa_cons (pv 0) pa_nil))))), ?_⟩
  rcases h with ⟨t, ht, ho, q⟩ | ⟨hb, q⟩
  · refine ⟨_, rfl, v, rfl, .inl ⟨t, ht, ho, fun H1 s1 => ?_⟩⟩
    exact ⟨_, rfl, v, t, rfl, TreeAt.same s1 _ ht, Nat.le_trans ho.1 (by decide), ho.dp, ho.2, fun H2 D rs nw => q _ _ rs (nw.of s1)⟩
  · exact ⟨_, rfl, v, rfl, .inr ⟨hb, q⟩⟩
/-! ### knot_at -/
def mI (wy : List Nat) : List V := (wI wy).map V.int
theorem mI_app (a b : List Nat) : mI (a ++ b) = mI a ++ mI b := by unfold mI wI; rw [List.map_append, List.map_append]
theorem mI_len (a : List Nat) : (mI a).length = a.length := by unfold mI wI; rw [List.length_map, List.length_map]
theorem mI_get {wy : List Nat} {i : Nat} {x : V} (h : (mI wy)[i]? = some x) : ∃ k, wy[i]? = some k ∧ x = .int (k : Nat) := by
  unfold mI wI at h
  rw [List.getElem?_map, List.getElem?_map] at h
  cases e : wy[i]? with
  | none => rw [e] at h; cases h
  | some k => rw [e] at h; exact ⟨k, rfl, (Option.some.inj h).symm⟩
def spKnotAt (K : PySem.W.Frag) : Sp := fun vs H Q _ => ∃ v b wy u, vs = [v, .ref b] ∧ SqL K H b (mI wy) ∧ Walk H v wy u ∧ Q u H
theorem ok_knot_at (T : Txt K mg) : FnOk P w K mg base CX0 1 T.a_knot_at T.d_knot_at ["tree", "way"] (spKnotAt K) := by
  refine T.F_knot_at.ok sc_knot_at (fun vs H Q E h => ?_) (fun cdv A outer s H vs Q E hr h => ?_)
  · obtain ⟨v, b, wy, u, rfl, _⟩ := h; rfl
  obtain ⟨v, b, wy, u, rfl, hb, hw, q⟩ := h
  refine ⟨_, (pss_cons (ps_for PassesOwn.never rfl (pi_list (pv 1)) (pg_name (i := 2) sc_knot_at.nd rfl (Or.inl rfl)) (pss_one (ps_set (i := 0) sc_knot_at.nd rfl (Or.inl rfl) (pe_ix (r := rIxL K) ix_list (pv 0) (pv 2) (fun _ _ => rfl)))))
      (pss_one (ps_ret (pv 0)))), ?_⟩
  refine ⟨_, rfl, b, rfl, ⟨_, hb⟩, ?_⟩
  refine for_it (walk_list (xs := mI wy)) (fun i σ H' => H' = H ∧ ∃ m o, σ = [some m, some (.ref b), o] ∧ Walk H m (wy.drop i) u) ⟨rfl, v, none, rfl, by rw [List.drop_zero]; exact hw⟩ (fun i σ H' _ p => ?_) ?_ ?_
  · obtain ⟨rfl, _⟩ := p; exact hb
  · rintro i x σ H1 H2 hi ⟨rfl, m, o, rfl, hm⟩ ⟨rfl, hx⟩
    obtain ⟨k, hk, rfl⟩ := mI_get hx
    rw [drop_get hk] at hm
    obtain ⟨a, xs, y, rfl, ha, hy, hm⟩ := hm
    exact ⟨_, rfl, _, rfl, a, xs, _, y, rfl, rfl, SqL.of ha, atI_nat hy, rfl, y, _, rfl, hm⟩
  · rintro σ H1 ⟨rfl, m, o, rfl, hm⟩
    rw [mI_len, List.drop_length, walk_nil] at hm
    subst hm
    exact ⟨_, rfl, q⟩
/-! ### cut_of -/
theorem cutV_m1 (ys : List V) (x : V) : cutV (ys ++ [x]) none (some (-1)) = ys := by
  unfold cutV
  have e : HT.sIx (ys ++ [x]).length (ys ++ [x]).length (some (-1)) = ys.length := by
    show (if (-1 : Int) < 0 then ((-1 : Int) + ((ys ++ [x]).length : Int)).toNat else min (-1 : Int).toNat (ys ++ [x]).length) = _
    rw [if_pos (by decide), List.length_append, List.length_singleton]
    omega
  rw [HT.sIx_none, e, List.drop_zero, Nat.sub_zero, List.take_left]
theorem cutV_m2 (ys : List V) (x y : V) : cutV (ys ++ [x, y]) none (some (-2)) = ys := by
  unfold cutV
  have e : HT.sIx (ys ++ [x, y]).length (ys ++ [x, y]).length (some (-2)) = ys.length := by
    show (if (-2 : Int) < 0 then ((-2 : Int) + ((ys ++ [x, y]).length : Int)).toNat else min (-2 : Int).toNat (ys ++ [x, y]).length) = _
    rw [if_pos (by decide), List.length_append]
    show ((-2 : Int) + ((ys.length + 2 : Nat) : Int)).toNat = _
    omega
  rw [HT.sIx_none, e, List.drop_zero, Nat.sub_zero, List.take_left]
theorem cut_last {t r : Tt} {wy : List Nat} {n : Nat} (h : Cut t wy n r) : ∃ w1 i bs, wy = w1 ++ [i] ∧ subT t w1 = some (.mk bs) ∧ bs[i]? = some (.mk []) ∧
    ((w1 = [] ∧ r = .mk (bs.eraseIdx i) ∧ t = .mk bs) ∨ ∃ w0 j cs, w1 = w0 ++ [j] ∧ subT t w0 = some (.mk cs) ∧ cs[j]? = some (.mk bs) ∧ r = putT t w0 (.mk (cs.set j (.mk (bs.eraseIdx i)) ++ List.replicate n (.mk (bs.eraseIdx i))))) := by
  cases h with
  | @root bs i _ h => exact ⟨[], i, bs, rfl, subT_nil _, h, .inl ⟨rfl, rfl, rfl⟩⟩
  | @up _ w0 cs bs j i _ h1 h2 h3 => exact ⟨w0 ++ [j], i, bs, by simp, up_sub h1 h2, h3, .inr ⟨w0, j, cs, rfl, h1, h2, rfl⟩⟩
theorem sub_knots {t s : Tt} {wy : List Nat} (h : subT t wy = some s) : knots s ≤ knots t := by
  have h1 := knots_put (s' := .mk []) h
  have h2 := depth_knots1 (putT t wy (.mk []))
  have h3 : knots (.mk []) = 1 := by rw [knots, knotsL]
  omega
theorem sub_depth : ∀ {wy : List Nat} {t s : Tt}, subT t wy = some s → depth s + wy.length ≤ depth t
  | [], t, s, h => by rw [subT_nil] at h; cases h; exact Nat.le_refl _
  | i :: wy, .mk bs, s, h => by
    obtain ⟨b, h1, h2⟩ := subT_step h
    have h3 := sub_depth h2
    have h4 := depthL_le (List.mem_of_getElem? h1)
    rw [depth, List.length_cons]
    omega
theorem cut_times {t : Tt} {w0 : List Nat} {cs : List Tt} {s' : Tt} {j n : Nat} (h1 : subT t w0 = some (.mk cs)) : n ≤ knots (putT t w0 (.mk (cs.set j s' ++ List.replicate n s'))) := by
  have h2 := knots_put (s' := .mk (cs.set j s' ++ List.replicate n s')) h1
  have h3 := sub_knots h1
  have h4 := depth_knots1 s'
  have h5 : n ≤ n * knots s' := Nat.le_mul_of_pos_right _ h4
  rw [knots, knots, knotsL_append, knotsL_rep] at h2
  rw [knots] at h3
  omega
def spCutOf : Sp := fun vs H Q _ => ∃ v b t wy n r, vs = [v, .ref b, .int (n : Nat)] ∧ TreeAt H v t ∧ okT t ∧ H b = some (.lst (mI wy)) ∧ Cut t wy n r ∧ knots r ≤ 300 ∧ ∀ H' x, New H H' x r → Q x H'
theorem ok_cut_of (T : Txt K mg) : FnOk P w K mg base CX0 42 T.a_cut_of T.d_cut_of ["tree", "way", "times"] spCutOf := by
  have G_copied := ok_copied (P := P) (w := w) (base := base) T 41
  have G_knot_at := ok_knot_at (P := P) (w := w) (base := base) T
  refine T.F_cut_of.ok sc_cut_of (fun vs H Q E h => ?_) (fun cdv A outer s H vs Q E hr h => ?_)
  · obtain ⟨v, b, t, wy, n, r, rfl, _⟩ := h; rfl
  obtain ⟨v, b, t, wy, n, r, rfl, ht, ho, hb, hc, hk, q⟩ := h
  have R_copied : Room 41 _ := hr
  have R_knot_at : Room 1 _ := hr.mono (by omega)
  refine ⟨_, (pss_cons (ps_set (i := 3) sc_cut_of.nd rfl (Or.inl rfl) (pe_call G_copied R_copied rfl T.m_copied T.k_copied T.b_copied .nil pass0 (pa_cons (pv 0) pa_nil)))
      (pss_cons (ps_set (i := 4) sc_cut_of.nd rfl (Or.inr rfl) (pe_call G_knot_at R_knot_at rfl T.m_knot_at T.k_knot_at T.b_knot_at .nil pass0 (pa_cons (pv 3) (pa_cons (pe_slice (r := rSlL K) sl_list (pv 1) po_none (po_some (pe_un un_neg pe_int))) pa_nil))))
      (pss_cons (ps_expr (pe_bm PySem.F.plainAttrs_list PySem.F.slot_list_pop PySem.F.type_list_pop mt_popAt (pv 4) (pa_cons (pe_ix (r := rIxL K) ix_list (pv 1) (pe_un un_neg pe_int) (fun _ _ => rfl)) pa_nil)))
      (pss_cut2 (ps_if (pt_cmpR op_gt (pe_callB (r := rLenS K) call_len_seqK rfl T.z_len PySem.boot_len (pa_cons (pv 1) pa_nil)) pe_int (nomark _)) (pss_one (ps_expr (pe_bm PySem.F.plainAttrs_list PySem.F.slot_list_extend PySem.F.type_list_extend mt_extend (pe_call G_knot_at R_knot_at rfl T.m_knot_at T.k_knot_at T.b_knot_at .nil pass0 (pa_cons (pv 3) (pa_cons (pe_slice (r := rSlL K) sl_list (pv 1) po_none (po_some (pe_un un_neg pe_int))) pa_nil))) (pa_cons (pe_lc (own := [("time", 5)]) (g := gName 5) (tt := tYes) rfl sc_cut_of.nd (pi_range1 (by rfl) T.z_range (pa_cons (pv 2) pa_nil)) (blkOk_by (own := [("time", 5)]) (N := ["tree", "way", "times", "found", "bearer", "time"]) (sc := defScope s_cut_of) (by decide +kernel)) (fun _ _ _ _ _ => (pg_name (i := 5) sc_cut_of.nd rfl (Or.inl rfl))) (fun _ _ _ _ _ => pts_nil) (fun _ _ _ _ _ => (pe_call G_copied R_copied rfl T.m_copied T.k_copied T.b_copied .nil pass0 (pa_cons (pv 4) pa_nil)))) pa_nil)))) pss_nil)
      (pss_one (ps_ret (pv 3))))))), ?_⟩
  obtain ⟨w1, i, bs, rfl, hs, hi, hcase⟩ := cut_last hc
  clear hc
  refine ⟨_, rfl, v, t, rfl, ht, ho.fit, ho.dp, fun H1 x n1 => ?_⟩
  refine ⟨_, rfl, _, rfl, _, rfl, _, rfl, b, _, rfl, SqL.of (n1.1 _ _ hb), fun p np => ?_⟩
  have e1 : cutV (mI (w1 ++ [i])) none (some (-1)) = mI w1 := by rw [mI_app]; exact cutV_m1 _ _
  have sp := same_new np (.lst (cutV (mI (w1 ++ [i])) none (some (-1))))
  have up : upd H1 p (.lst (cutV (mI (w1 ++ [i])) none (some (-1)))) p = some (.lst (mI w1)) := by rw [upd_same, e1]
  generalize upd H1 p (.lst (cutV (mI (w1 ++ [i])) none (some (-1)))) = H2 at sp up ⊢
  have n2 := n1.step sp
  have kbs := sub_knots hs
  have lbs := knotsL_len bs
  have oi := (List.getElem?_eq_some_iff.mp hi).1
  have kt := ho.1
  have dbs := sub_depth hs
  have dt := ho.2
  obtain ⟨au, xs, k1, ha, hx, _, er, _⟩ := n2.knot hs
  obtain ⟨n3, t3, _⟩ := er i _ hi
  obtain ⟨y, hy, _⟩ := hx.get' hi
  have lx := hx.len
  refine ⟨x, p, w1, .ref au, rfl, SqL.of up, k1, ?_⟩
  refine ⟨_, rfl, .inl ⟨rfl, _, SqL.of ha⟩, _, rfl, _, rfl, b, _, _, .int (i : Nat), rfl, rfl, SqL.of (n2.1 _ _ hb), by rw [mI_app]; exact atI_last _ _, ?_⟩
  refine ⟨au, xs, (i : Int), i, y, rfl, rfl, ha, ?_, ?_, ?_, hy, ?_⟩
  · omega
  · rw [knots] at kbs; omega
  · rw [PySem.StrLaws.seqIndex_nonneg (by omega) (by omega), Int.toNat_natCast]
  have hb3 := n3.1 _ _ hb
  generalize upd H2 au (.lst (xs.eraseIdx i)) = H3 at n3 t3 hb3 ⊢
  refine ⟨fun σ' H' => σ' = [some v, some (.ref b), some (.int (n : Nat)), some x, some (.ref au), none] ∧ New H H' x r, ?_, ?_⟩
  · refine ⟨_, rfl, b, _, rfl, .inl (SqL.of hb3), _, _, rfl, rfl, _, rfl, ite2 (fun c => ?_) (fun c => ?_)⟩
    · have c' : (1 : Int) < (((mI (w1 ++ [i])).length : Nat) : Int) := of_decide_eq_true c
      rw [mI_len, List.length_append, List.length_singleton] at c'
      rcases hcase with ⟨e, _⟩ | ⟨w0, j, cs, rfl, h1, h2, rfl⟩
      · rw [e] at c'; exact absurd c' (by decide)
      · have e2 : cutV (mI (w0 ++ [j] ++ [i])) none (some (-2)) = mI w0 := by
          have e : w0 ++ [j] ++ [i] = w0 ++ [j, i] := by simp
          rw [e, mI_app]; exact cutV_m2 _ _ _
        refine ⟨_, rfl, _, rfl, _, rfl, _, rfl, b, _, rfl, SqL.of hb3, fun p2 np2 => ?_⟩
        have sp2 := same_new np2 (.lst (cutV (mI (w0 ++ [j] ++ [i])) none (some (-2))))
        have up2 : upd H3 p2 (.lst (cutV (mI (w0 ++ [j] ++ [i])) none (some (-2)))) p2 = some (.lst (mI w0)) := by rw [upd_same, e2]
        generalize upd H3 p2 (.lst (cutV (mI (w0 ++ [j] ++ [i])) none (some (-2)))) = H4 at sp2 up2 ⊢
        have n4 := n3.step sp2
        have t4 := TreeAt.same sp2 _ t3
        have hs4 : subT (putT t (w0 ++ [j]) (.mk (bs.eraseIdx i))) w0 = some (.mk (cs.set j (.mk (bs.eraseIdx i)))) := by rw [subT_put h1, putT_cons h2, putT_nil]
        obtain ⟨au2, xs2, k2, ha2, hx2, _, _, gr⟩ := n4.knot hs4
        have lx2 := hx2.len
        have nk := cut_times (n := n) (j := j) (s' := .mk (bs.eraseIdx i)) h1
        have kcs := sub_knots h1
        have lcs := knotsL_len cs
        rw [List.length_set] at lx2
        rw [knots] at kcs kbs
        have fs : okT (.mk (bs.eraseIdx i)) := by
          have h4 := knotsL_erase hi
          have h5 := depthL_erase bs i
          rw [depth] at dbs
          exact ⟨by rw [knots]; omega, by rw [depth]; omega⟩
        refine ⟨x, p2, w0, .ref au2, rfl, SqL.of up2, k2, .inl ⟨rfl, _, SqL.of ha2⟩, ?_⟩
        refine ⟨_, rfl, _, rfl, by omega, by omega, fun D nD => ?_⟩
        rw [Int.toNat_natCast]
        refine lc_it walk_range (fun k H' => Grow H4 H' D (List.replicate k (.mk (bs.eraseIdx i)))) (Grow.start nD) (fun _ _ _ _ => trivial) ?_ ?_
        · rintro k z H5 H6 hk5 g ⟨rfl, rfl⟩
          refine ⟨rfl, _, rfl, .ref au, _, rfl, TreeAt.same g.same _ t4, fs.fit, fs.dp, fun H7 r7 n7 => ?_⟩
          obtain ⟨acc, m1, m2, m3⟩ := g.more n7
          refine ⟨acc, m1, ?_, ?_⟩
          · rw [m2, List.length_replicate]
            exact Nat.lt_of_le_of_lt (m := 1000) (by omega) (by decide)
          · rw [List.replicate_succ']; exact m3
        · rintro H5 ⟨s45, _, acc, as, hD, ow, nd, fr⟩
          have la := ow.len
          rw [List.length_replicate] at la
          have g2 := GrowAt.ext ha2 s45 ow (List.nodup_cons.mp nd).2 fr
          obtain ⟨nf, _⟩ := gr _ _ _ g2
          rw [putT_put h1] at nf
          exact ⟨au2, D, xs2, acc, rfl, rfl, s45 _ _ ha2, hD, Nat.le_trans (show xs2.length + acc.length ≤ 1000 by omega) (by decide), rfl, nf⟩
    · have c' : ¬ (1 : Int) < (((mI (w1 ++ [i])).length : Nat) : Int) := of_decide_eq_false (Bool.eq_false_iff.mpr c)
      rw [mI_len, List.length_append, List.length_singleton] at c'
      rcases hcase with ⟨rfl, rfl, rfl⟩ | ⟨w0, j, cs, rfl, _⟩
      · rw [putT_nil] at n3
        exact ⟨rfl, n3⟩
      · rw [List.length_append, List.length_singleton] at c'
        omega
  · rintro σ' H' ⟨rfl, nr⟩
    exact ⟨_, rfl, q _ _ nr⟩
end
section
variable {P : Program} {w : World} {K : PySem.W.Frag} {mg : Str → Option Value} {base : Heap}
/-- a new tree may be spoilt: what stood before it stays, and what was made behind it -/
theorem New.spoil {H1 H2 H3 : Hp} {v : V} {t : Tt} (n : New H1 H2 v t) (s : Same H2 H3) : ∃ as, Own H3 v t as ∧ as.Nodup ∧
    ∀ H4, (∀ b o, b ∉ as → H3 b = some o → H4 b = some o) → Same H1 H4 ∧ (∀ b o, H2 b = none → H3 b = some o → H4 b = some o) ∧ ∀ {H' : Hp} {u : V} {r : Tt}, New H2 H' u r → Same H' H3 → TreeAt H4 u r := by
  obtain ⟨s12, as, o, nd, fr⟩ := n
  refine ⟨as, Own.frame t o fun a _ u e => s _ _ e, nd, fun H4 k => ?_⟩
  have tr : ∀ b, H2 b = none → b ∉ as := fun b hb h => by obtain ⟨xs, e⟩ := Own.tracked t o b h; rw [hb] at e; cases e
  refine ⟨fun b u e => k b u (fun h => by rw [fr b h] at e; cases e) (s _ _ (s12 _ _ e)), fun b u hb e => k b u (tr b hb) e, fun {H' u r} m s' => ?_⟩
  obtain ⟨s2, bs, o2, _, fr2⟩ := m
  exact Own.at_ r (Own.frame r o2 fun a ha x e => k a x (tr a (fr2 a ha)) (s' _ _ e))
theorem depth41 {t : Tt} (h : okT t) : depth t < 41 := h.dp
theorem dep63 {t : Tt} (h : okT t) : depth t ≤ 63 := Nat.le_trans h.2 (by decide)
theorem knotsL_perm {l m : List Tt} (p : l.Perm m) : knotsL l = knotsL m := by
  induction p with
  | nil => rfl
  | cons x _ ih => rw [knotsL, knotsL, ih]
  | swap x y l => rw [knotsL, knotsL, knotsL, knotsL]; omega
  | trans _ _ ih1 ih2 => rw [ih1, ih2]
theorem knotsL_map {f : Tt → Tt} : ∀ {l : List Tt}, (∀ x, x ∈ l → knots (f x) = knots x) → knotsL (l.map f) = knotsL l
  | [], _ => rfl
  | x :: l, h => by rw [List.map_cons, knotsL, knotsL, h x List.mem_cons_self, knotsL_map fun y hy => h y (List.mem_cons_of_mem _ hy)]
theorem knots_told (t : Tt) : knots (told t) = knots t := by
  induction t using Tt.ind with
  | h l ih =>
    rw [told_mk, knots, knots, knotsL_perm (toldL_perm l []), List.nil_append, knotsL_map ih]
theorem okT_told {t : Tt} (h : okT t) : okT (told t) := ⟨by rw [knots_told]; exact h.1, Nat.le_trans (depth_told_le t) h.2⟩
theorem fit_ok {t : Tt} (h : okT t) : fit t := h.fit
theorem kn_lim {t : Tt} (h : okT t) : knots t ≤ lim - 1 := Nat.le_trans h.1 (by decide)
end
section
variable {P : Program} {w : World} {K : PySem.W.Frag} {mg : Str → Option Value} {base : Heap}
/-! ### what may be no way, no times -/
theorem Same.seqT {H H' : Hp} {a : Addr} {xs : List V} (e : Same H H') (h : SqT K H a xs) : SqT K H' a xs := by
  rcases h with (h | ⟨o, h⟩) | h
  · exact .inl (.inl (e _ _ h))
  · exact .inl (.inr ⟨o, e _ _ h⟩)
  · exact .inr h
mutual
theorem dp_same {H H' : Hp} (s : Same H H') : ∀ {v : V} {d : PyData}, Dp K H v d → Dp K H' v d
  | _, _, .non => .non
  | _, _, .bl b => .bl b
  | _, _, .int i => .int i
  | _, _, .str x => .str x
  | _, _, .lst h k => .lst (s.seq h) (dpAll_same s k)
  | _, _, .tup h k => .tup (Same.seqT s h) (dpAll_same s k)
theorem dpAll_same {H H' : Hp} (s : Same H H') : ∀ {vs : List V} {ds : List PyData}, DpAll K H vs ds → DpAll K H' vs ds
  | _, _, .nil => .nil
  | _, _, .cons h k => .cons (dp_same s h) (dpAll_same s k)
end
theorem units65 {k : Nat} {A : Around} (r : Room k A) : A.units + 65 < cLine := by have := r.un; omega
inductive NoNum (H : Hp) : V → Prop
  | leaf {v : V} (h : Leaf H v) (n : ∀ i, v ≠ .int i) : NoNum H v
  | lst {a : Addr} {xs : List V} (h : H a = some (.lst xs)) : NoNum H (.ref a)
theorem NoNum.same {H H' : Hp} {v : V} (s : Same H H') (h : NoNum H v) : NoNum H' v := by
  cases h with
  | leaf h n => exact .leaf (h.same s) n
  | lst h => exact .lst (s _ _ h)
theorem NoNum.num {H : Hp} {v : V} (h : NoNum H v) : NumQ K H v false := by
  cases h with
  | lst h => exact .other (.base (.lst h)) (kit_ty (by decide +kernel))
  | leaf h n =>
    cases h with
    | non => exact .other (.base .non) (kit_ty (by decide +kernel))
    | bl b => exact .bool b
    | int i => exact absurd rfl (n i)
    | str x => exact .other (.base (.str x)) (kit_ty (by decide +kernel))
    | tup e => exact .other (.base (.tup e)) (kit_ty (by decide +kernel))
    | dK e => exact .other (.base (.dK e)) (kit_ty (by decide +kernel))
inductive NumB (H : Hp) : V → Bool → Prop
  | int (i : Int) : NumB H (.int i) true
  | no {v : V} (h : NoNum H v) : NumB H v false
theorem NumB.num {H : Hp} {v : V} {b : Bool} (h : NumB H v b) : NumQ K H v b := by
  cases h with
  | int i => exact .int i
  | no h => exact h.num
theorem NumB.same {H H' : Hp} {v : V} {b : Bool} (s : Same H H') (h : NumB H v b) : NumB H' v b := by
  cases h with
  | int i => exact .int i
  | no h => exact .no (h.same s)
/-- whether it is refused as a way: no list, not among the heads' ways, or not of numbers -/
def WayB (K : PySem.W.Frag) (H : Hp) (t : Tt) (way : V) (c : Bool) : Prop := (Leaf H way ∧ c = true) ∨ ∃ (b : Addr) (xs : List V) (d : PyData) (bs : List Bool), way = .ref b ∧ H b = some (.lst xs) ∧ Dp K H way d ∧ SeqAt.shaped d = true ∧ xs.length ≤ 1000 ∧ bs.length = xs.length ∧
  (∀ (i : Nat) (x : V), xs[i]? = some x → ∃ y, bs[i]? = some y ∧ NumB H x y) ∧ c = (!((waysD (wsI (headsT t))).any fun z => PyData.eqv z d) || !(bs.all id))
theorem WayB.same {H H' : Hp} {t : Tt} {way : V} {c : Bool} (s : Same H H') (h : WayB K H t way c) : WayB K H' t way c := by
  rcases h with ⟨h, e⟩ | ⟨b, xs, d, bs, e, h1, h2, h3, h4, h5, h6, h7⟩
  · exact .inl ⟨h.same s, e⟩
  · exact .inr ⟨b, xs, d, bs, e, s _ _ h1, dp_same s h2, h3, h4, h5, fun i x hx => let ⟨y, k1, k2⟩ := h6 i x hx; ⟨y, k1, k2.same s⟩, h7⟩
theorem wayB_good {H : Hp} {t : Tt} {b : Addr} {wy : List Nat} (h : H b = some (.lst (mI wy))) (hw : wy ∈ headsT t) (hd : depth t ≤ 40) : WayB K H t (.ref b) false := by
  have lw := (heads_way t wy hw).2
  refine .inr ⟨b, _, _, List.replicate wy.length true, rfl, h, .lst (SqL.of h) (dpInts (wI wy)), intsShaped _, by rw [mI_len]; omega, by rw [List.length_replicate, mI_len], fun i x hx => ?_, ?_⟩
  · obtain ⟨k, hk, rfl⟩ := mI_get hx
    have hi := (List.getElem?_eq_some_iff.mp hk).1
    exact ⟨true, by rw [List.getElem?_replicate, if_pos hi], .int _⟩
  · rw [way_in, decide_eq_true (show wI wy ∈ wsI (headsT t) from List.mem_map_of_mem hw)]
    simp
def NoTimes (H : Hp) (v : V) : Prop := NoNum H v ∨ ∃ i : Int, v = .int i ∧ i < 0
theorem NoTimes.same {H H' : Hp} {v : V} (s : Same H H') (h : NoTimes H v) : NoTimes H' v := h.imp (fun k => k.same s) id
/-! ### cut -/
theorem size_int {t s : Tt} {wy : List Nat} {n : Nat} (hs : subT t wy.dropLast = some s) (hl : 1 < wy.length) : (n : Int) * ((knots s : Int) - 1) + (knots t : Int) - 1 = ((sizeT t wy n : Nat) : Int) := by
  unfold sizeT bearer
  rw [hs, if_pos hl]
  have h1 := depth_knots1 s
  have h2 := depth_knots1 t
  obtain ⟨k, hk⟩ : ∃ k, knots s = k + 1 := ⟨knots s - 1, by omega⟩
  show (n : Int) * ((knots s : Int) - 1) + (knots t : Int) - 1 = ((knots t - 1 + n * (knots s - 1) : Nat) : Int)
  rw [hk]
  have e1 : ((k + 1 : Nat) : Int) - 1 = (k : Int) := by omega
  have e2 : k + 1 - 1 = k := by omega
  rw [e1, e2, ← Int.natCast_mul]
  omega
theorem heads_last {t : Tt} {wy : List Nat} (hw : wy ∈ headsT t) : ∃ w1 i bs, wy = w1 ++ [i] ∧ subT t w1 = some (.mk bs) ∧ bs[i]? = some (.mk []) ∧ (w1 = [] → t = .mk bs) := by
  obtain ⟨r, hr⟩ := cut_of_head t wy hw 0
  obtain ⟨w1, i, bs, h1, h2, h3, h4⟩ := cut_last hr
  refine ⟨w1, i, bs, h1, h2, h3, fun e => ?_⟩
  rcases h4 with ⟨_, _, h⟩ | ⟨w0, j, _, h, _⟩
  · exact h
  · rw [h] at e; simp at e
def spCut (K : PySem.W.Frag) (A1 A2 A3 A4 : Addr) : Sp := fun vs H Q E => ∃ v way times, vs = [v, way, times] ∧ (
  (∃ t, TreeAt H v t ∧ okT t ∧ (
    (∃ b wy, way = .ref b ∧ H b = some (.lst (mI wy)) ∧ wy ∈ headsT t ∧ (
      (∃ n : Nat, times = .int (n : Nat) ∧ Bits (n : Int) 2200000 ∧ ((∃ r, Cut t wy n r ∧ knots r ≤ 300 ∧ ∀ H' x, New H H' x (told r) → Q x H') ∨ (300 < sizeT t wy n ∧ ∀ H', Same H H' → E (.ref A4) none H')))
      ∨ (NoTimes H times ∧ ∀ H', Same H H' → E (.ref A3) none H')))
    ∨ (WayB K H t way true ∧ ∀ H', Same H H' → E (.ref A2) none H')))
  ∨ (Bad H v ∧ ∀ H', Same H H' → E (.ref A1) none H'))
theorem ok_cut (T : Txt K mg) : FnOk P w K mg base (L2N.CX P w) 44 T.a_cut T.d_cut ["tree", "way", "times"] (spCut K T.A_BadTree T.A_BadWay T.A_BadTimes T.A_TooGreat) := by
  have G_asked_tree := ok_asked_tree (P := P) (w := w) (base := base) T
  have G_heads_of := ok_heads_of (P := P) (w := w) (base := base) T 41
  have G_is_number := ok_is_number (P := P) (w := w) (base := base) T
  have G_knots := ok_knots (P := P) (w := w) (base := base) T 41
  have G_knot_at := ok_knot_at (P := P) (w := w) (base := base) T
  have G_asked_great := ok_asked_great (P := P) (w := w) (base := base) T
  have G_told_of := ok_told_of (P := P) (w := w) (base := base) T 41
  have G_cut_of := ok_cut_of (P := P) (w := w) (base := base) T
  refine okN T.F_cut sc_cut (fun vs H Q E h => ?_) (fun cdv A outer s H vs Q E hr h => ?_)
  · obtain ⟨v, way, times, rfl, _⟩ := h; rfl
  obtain ⟨v, way, times, rfl, h⟩ := h
  have R_asked_tree : Room 43 _ := hr
  have R_heads_of : Room 41 _ := hr.mono (by omega)
  have R_is_number : Room 1 _ := hr.mono (by omega)
  have R_knots : Room 41 _ := hr.mono (by omega)
  have R_knot_at : Room 1 _ := hr.mono (by omega)
  have R_asked_great : Room 42 _ := hr.mono (by omega)
  have R_told_of : Room 43 _ := hr.mono (by omega)
  have R_cut_of : Room 42 _ := hr.mono (by omega)
  have hu65 := units65 hr
  refine ⟨_, (pss_cons (ps_expr (pe_call G_asked_tree R_asked_tree rfl T.m_asked_tree T.k_asked_tree T.b_asked_tree .nil (L2N.passes_call (L2N.takes_of rfl rfl rfl rfl) (fun _ _ _ _ h => h)) (pa_cons (pv 0) pa_nil)))
      (pss_cons (ps_if (PW.pt (pw_or (pt_not (pt_val (pe_callB (r := rIsi K) call_isi (by rfl) T.z_isinstance (by decide +kernel) (pa_cons (pv 1) (pa_cons (pe_bltn (v := .ty "list") (u := .type "list") (by rfl) T.z_list (by decide +kernel) rfl) pa_nil))))) (pw_or (pt_cmpR (r := rNotInD K) (op_notInD hu65) (pv 1) (pe_call G_heads_of R_heads_of rfl T.m_heads_of T.k_heads_of T.b_heads_of .nil pass0 (pa_cons (pv 0) pa_nil)) (by rfl)) (pw_or1 (pt_not (pt_val (pe_callB (r := rAll K) (cr_all rfl) (by rfl) T.z_all (by decide +kernel) (pa_cons (pe_lc (own := [("at", 3)]) (g := gName 3) (tt := tYes) rfl sc_cut.nd (pi_list (pv 1)) (blkOk_by (own := [("at", 3)]) (N := ["tree", "way", "times", "at"]) (sc := defScope s_cut) (by decide +kernel)) (fun _ _ _ _ _ => (pg_name (i := 3) sc_cut.nd rfl (Or.inl rfl))) (fun _ _ _ _ _ => pts_nil) (fun _ _ _ _ _ => (pe_call G_is_number R_is_number rfl T.m_is_number T.k_is_number T.b_is_number .nil pass0 (pa_cons (pv 3) pa_nil)))) pa_nil)))))))) (pss_one (L2N.ps_raise rfl (L2N.takes_of rfl rfl rfl rfl) (L2N.pmk_own PySem.F.excBase_ValueError T.x_BadWay T.g_BadWay T.k_BadWay (raises_own T.sb_BadWay T.tt_BadWay) (by exact rfl)))) pss_nil)
      (pss_cons (ps_if (PW.pt (pw_or (pt_not (pt_val (pe_call G_is_number R_is_number rfl T.m_is_number T.k_is_number T.b_is_number .nil pass0 (pa_cons (pv 2) pa_nil)))) (pw_or1 (pt_cmpR op_lt (pv 2) pe_int (nomark _))))) (pss_one (L2N.ps_raise rfl (L2N.takes_of rfl rfl rfl rfl) (L2N.pmk_own PySem.F.excBase_ValueError T.x_BadTimes T.g_BadTimes T.k_BadTimes (raises_own T.sb_BadTimes T.tt_BadTimes) (by exact rfl)))) pss_nil)
      (pss_cons (ps_if (PW.pt (pw_and (pt_cmpR op_gt (pe_callB (r := rLenS K) call_len_seqK rfl T.z_len PySem.boot_len (pa_cons (pv 1) pa_nil)) pe_int (nomark _)) (pw_and1 (pt_cmpR op_gt (pe_op op_sub (pe_op op_add (pe_op op_mulX (pv 2) (pe_op op_sub (pe_call G_knots R_knots rfl T.m_knots T.k_knots T.b_knots .nil pass0 (pa_cons (pe_call G_knot_at R_knot_at rfl T.m_knot_at T.k_knot_at T.b_knot_at .nil pass0 (pa_cons (pv 0) (pa_cons (pe_slice (r := rSlL K) sl_list (pv 1) po_none (po_some (pe_un un_neg pe_int))) pa_nil))) pa_nil)) pe_int)) (pe_call G_knots R_knots rfl T.m_knots T.k_knots T.b_knots .nil pass0 (pa_cons (pv 0) pa_nil))) pe_int) (pe_glob (v := .int 300) rfl T.c_MOST ⟨_, rfl⟩) (nomark _))))) (pss_one (L2N.ps_raise rfl (L2N.takes_of rfl rfl rfl rfl) (L2N.pmk_own PySem.F.excBase_ValueError T.x_TooGreat T.g_TooGreat T.k_TooGreat (raises_own T.sb_TooGreat T.tt_TooGreat) (by exact rfl)))) pss_nil)
      (pss_one (ps_ret (pe_call G_asked_great R_asked_great rfl T.m_asked_great T.k_asked_great T.b_asked_great .nil (L2N.passes_call (L2N.takes_of rfl rfl rfl rfl) (fun _ _ _ _ h => h)) (pa_cons (pe_call G_told_of R_told_of rfl T.m_told_of T.k_told_of T.b_told_of .nil pass0 (pa_cons (pe_call G_cut_of R_cut_of rfl T.m_cut_of T.k_cut_of T.b_cut_of .nil pass0 (pa_cons (pv 0) (pa_cons (pv 1) (pa_cons (pv 2) pa_nil)))) pa_nil)) pa_nil)))))))), ?_⟩
  rcases h with ⟨t, ht, ho, h⟩ | ⟨hb, q⟩
  case inr => exact ⟨_, rfl, v, rfl, .inr ⟨hb, q⟩⟩
  refine ⟨_, rfl, v, rfl, .inl ⟨t, ht, ho, fun H1 s1 => ?_⟩⟩
  obtain ⟨c, hc, hh⟩ : ∃ c, WayB K H t way c ∧ ((c = false ∧ ∃ b wy, way = .ref b ∧ H b = some (.lst (mI wy)) ∧ wy ∈ headsT t ∧ (
      (∃ n : Nat, times = .int (n : Nat) ∧ Bits (n : Int) 2200000 ∧ ((∃ r, Cut t wy n r ∧ knots r ≤ 300 ∧ ∀ H' x, New H H' x (told r) → Q x H') ∨ (300 < sizeT t wy n ∧ ∀ H', Same H H' → E (.ref T.A_TooGreat) none H')))
      ∨ (NoTimes H times ∧ ∀ H', Same H H' → E (.ref T.A_BadTimes) none H'))) ∨ (c = true ∧ ∀ H', Same H H' → E (.ref T.A_BadWay) none H')) := by
    rcases h with ⟨b, wy, e, hb, hw, g⟩ | ⟨hw, q⟩
    · exact ⟨false, by rw [e]; exact wayB_good hb hw ho.2, .inl ⟨rfl, b, wy, e, hb, hw, g⟩⟩
    · exact ⟨true, hw, .inr ⟨rfl, q⟩⟩
  clear h
  dsimp only
  show tOr _ _ _ _ _
  refine cut_t (fun b H' => Same H H' ∧ b = c) (fun Q' hQ' => ?_) ?_
  · rcases hc.same s1 with ⟨hl, rfl⟩ | ⟨b, xs, d, bs, rfl, hb, hd, sd, hx, hbl, hnum, hce⟩
    · obtain ⟨ty, h1, h2⟩ := Leaf.isi (K := K) hl
      exact ⟨_, rfl, _, _, ty, _, false, rfl, ClsV.ty _, h1, h2, _, rfl, iteT (hQ' _ _ ⟨s1, rfl⟩)⟩
    · obtain ⟨h1, h2⟩ := list_isi (K := K) hb
      refine ⟨_, rfl, _, _, _, _, true, rfl, ClsV.ty _, h1, h2, _, rfl, iteF ?_⟩
      refine ⟨_, rfl, _, rfl, v, t, rfl, TreeAt.same s1 _ ht, Nat.le_trans ho.1 (by decide), ho.dp, ho.2, fun H2 D rs nw => ?_⟩
      refine ⟨_, _, dp_same nw.1 hd, .lst (SqL.of nw.2.2.1) nw.2.2.2.1.dp, sd, waysShaped _, _, rfl, ?_⟩
      cases hany : ((waysD (wsI (headsT t))).any fun z => PyData.eqv z d) with
      | false => exact iteT (hQ' _ _ ⟨s1.trans nw.1, by rw [hce, hany]; rfl⟩)
      | true =>
        refine iteF ?_
        refine ⟨_, rfl, b, rfl, ⟨_, SqL.of (nw.1 _ _ hb)⟩, fun D2 nD2 => ?_⟩
        refine lc_it (walk_list (xs := xs)) (fun i H' => Fill H2 H' D2 ((bs.take i).map V.bl)) (Fill.start nD2) (fun i H' _ g => SqL.of (g.1 _ _ (nw.1 _ _ hb))) ?_ ?_
        · rintro i x H3 H4 hi g ⟨rfl, hxi⟩
          obtain ⟨y, hy, hn⟩ := hnum i x hxi
          refine ⟨rfl, _, rfl, x, y, rfl, (hn.same (nw.1.trans g.1)).num, ?_⟩
          obtain ⟨k1, k2⟩ := g.more (v := .bl y) (Same.refl _)
          refine ⟨_, k1, ?_, ?_⟩
          · rw [List.length_map, List.length_take]
            exact Nat.lt_of_le_of_lt (m := 1000) (by omega) (by decide)
          · rw [take_more hy, List.map_append]; exact k2
        · intro H3 g
          rw [← hbl, List.take_length] at g
          refine ⟨D2, bs, rfl, SqL.of g.2.2, _, rfl, hQ' _ _ ⟨s1.trans (nw.1.trans g.1), by rw [hce, hany]; rfl⟩⟩
  rintro c' H2 ⟨s2, rfl⟩
  rcases hh with ⟨rfl, b, wy, rfl, hb, hw, h⟩ | ⟨rfl, q⟩
  case inr => exact iteT (q _ s2)
  refine iteF ?_
  clear hc
  have hb2 := s2 _ _ hb
  -- times
  show Ends.nx _ _ _
  dsimp only
  show tOr _ _ _ _ _
  refine cut_t (fun c H' => H' = H2 ∧ ((c = false ∧ ∃ n : Nat, times = .int (n : Nat) ∧ Bits (n : Int) 2200000 ∧ ((∃ r, Cut t wy n r ∧ knots r ≤ 300 ∧ ∀ H' x, New H H' x (told r) → Q x H') ∨ (300 < sizeT t wy n ∧ ∀ H', Same H H' → E (.ref T.A_TooGreat) none H'))) ∨ (c = true ∧ ∀ H', Same H H' → E (.ref T.A_BadTimes) none H'))) (fun Q' hQ' => ?_) ?_
  · rcases h with ⟨n, rfl, bn, h⟩ | ⟨hn | ⟨z, rfl, hz⟩, q⟩
    · refine ⟨_, rfl, _, true, rfl, .int _, _, rfl, iteF ?_⟩
      refine ⟨_, rfl, _, _, rfl, rfl, _, rfl, hQ' _ _ ⟨rfl, .inl ⟨decide_eq_false (by omega), n, rfl, bn, h⟩⟩⟩
    · exact ⟨_, rfl, _, false, rfl, (hn.same s2).num, _, rfl, iteT (hQ' _ _ ⟨rfl, .inr ⟨rfl, q⟩⟩)⟩
    · refine ⟨_, rfl, _, true, rfl, .int _, _, rfl, iteF ?_⟩
      refine ⟨_, rfl, _, _, rfl, rfl, _, rfl, hQ' _ _ ⟨rfl, .inr ⟨decide_eq_true hz, q⟩⟩⟩
  clear h
  rintro c' H2' ⟨rfl, ⟨rfl, n, rfl, bn, h⟩ | ⟨rfl, q⟩⟩
  case inr => exact iteT (q _ s2)
  refine iteF ?_
  obtain ⟨w1, i, bs, rfl, hs, hi, hroot⟩ := heads_last hw
  have kt := ho.1
  show Ends.nx _ _ _
  dsimp only
  show tAnd _ _ _ _ _
  refine cut_t (fun c H' => Same H H' ∧ c = decide (300 < sizeT t (w1 ++ [i]) n)) (fun Q' hQ' => ?_) ?_
  · refine ⟨_, rfl, b, _, rfl, .inl (SqL.of hb2), _, _, rfl, rfl, _, rfl, ite2 (fun c => ?_) (fun c => ?_)⟩
    · have c' : (1 : Int) < (((mI (w1 ++ [i])).length : Nat) : Int) := of_decide_eq_true c
      rw [mI_len] at c'
      refine ⟨_, rfl, _, rfl, _, rfl, _, rfl, _, rfl, b, _, rfl, SqL.of hb2, fun p np => ?_⟩
      have e1 : cutV (mI (w1 ++ [i])) none (some (-1)) = mI w1 := by rw [mI_app]; exact cutV_m1 _ _
      have sp := same_new np (.lst (cutV (mI (w1 ++ [i])) none (some (-1))))
      have up : upd H2' p (.lst (cutV (mI (w1 ++ [i])) none (some (-1)))) p = some (.lst (mI w1)) := by rw [upd_same, e1]
      generalize upd H2' p (.lst (cutV (mI (w1 ++ [i])) none (some (-1)))) = H3 at sp up ⊢
      have t3 := TreeAt.same (s2.trans sp) _ ht
      obtain ⟨u, wu, tu⟩ := t3.walk hs
      have kbs := sub_knots hs
      have dbs := sub_depth hs
      have os : okT (.mk bs) := ⟨by omega, by have := ho.2; omega⟩
      refine ⟨v, p, w1, u, rfl, SqL.of up, wu, ?_⟩
      refine ⟨u, _, rfl, tu, os.fit, os.dp, fun H4 s4 => ?_⟩
      refine ⟨_, _, rfl, rfl, ?_⟩
      have bk : Bits ((knots (.mk bs) : Int) - 1) 10 := Bits.lt (n := 1024) (by have := depth_knots1 (.mk bs); omega) (by omega) (by decide)
      refine ⟨_, _, rfl, rfl, bn.mulX bk (by decide), ?_⟩
      refine ⟨_, rfl, v, t, rfl, TreeAt.same s4 _ t3, ho.fit, ho.dp, fun H5 s5 => ?_⟩
      refine ⟨_, _, rfl, rfl, _, _, rfl, rfl, _, _, rfl, rfl, _, rfl, hQ' _ _ ⟨s2.trans (sp.trans (s4.trans s5)), ?_⟩⟩
      have e2 := size_int (t := t) (n := n) (wy := w1 ++ [i]) (by rw [List.dropLast_concat]; exact hs) (by omega)
      rw [e2]
      exact decide_eq_decide.mpr (by omega)
    · have c' : ¬ (1 : Int) < (((mI (w1 ++ [i])).length : Nat) : Int) := of_decide_eq_false (Bool.eq_false_iff.mpr c)
      rw [mI_len] at c'
      refine hQ' _ _ ⟨s2, ?_⟩
      unfold sizeT
      rw [if_neg (by omega)]
      exact (decide_eq_false (by omega)).symm
  rintro c' H3 ⟨s3, rfl⟩
  rcases h with ⟨r, hr, hk, q⟩ | ⟨hz, q⟩
  case inr =>
    rw [decide_eq_true hz]
    exact iteT (q _ s3)
  have ez := cut_size hr
  rw [decide_eq_false (by omega)]
  refine iteF ?_
  have dr := cut_depth hr
  have orr : okT r := ⟨hk, Nat.le_trans dr ho.2⟩
  refine ⟨_, rfl, _, rfl, _, rfl, v, b, t, _, n, r, rfl, TreeAt.same s3 _ ht, ho, s3 _ _ hb, hr, hk, fun H4 x n4 => ?_⟩
  refine ⟨x, r, rfl, n4.at_, orr.fit, orr.dp, fun H5 y n5 => ?_⟩
  have o2 := okT_told orr
  refine ⟨y, _, rfl, n5.at_, o2.fit, o2.2, fun _ H6 s6 => q _ _ ((n5.of (s3.trans n4.1)).step s6), fun z => ?_⟩
  have := o2.1
  omega
end
/-! ### numbers written by a base: plain -/
def digsW (W : Nat → Tt) (b n : Nat) : Nat → List Tt
  | 0 => []
  | p + 1 => List.replicate (n / b ^ p % b) (W p) ++ digsW W b n p
def WT : Nat → Nat → Nat → Tt
  | 0, _, _ => .mk []
  | f + 1, b, n => .mk (digsW (WT f b) b n n)
def writtenT (b n : Nat) : Tt := WT n b n
theorem pow_gt {b : Nat} (hb : 2 ≤ b) (p : Nat) : p < b ^ p := Nat.lt_of_lt_of_le Nat.lt_two_pow_self (Nat.pow_le_pow_left hb p)
theorem digit_lt {b n q : Nat} (hb : 2 ≤ b) (h : n / b ^ q % b ≠ 0) : q < n ∧ b ^ q ≤ n := by
  have h1 : n / b ^ q ≠ 0 := fun e => h (by rw [e, Nat.zero_mod])
  have h2 : b ^ q ≤ n := by
    by_cases c : n < b ^ q
    · exact absurd (Nat.div_eq_of_lt c) h1
    · omega
  have := pow_gt hb q
  exact ⟨by omega, h2⟩
theorem digsW_congr {W W' : Nat → Tt} {b n : Nat} : ∀ {p : Nat}, (∀ q, q < p → n / b ^ q % b ≠ 0 → W q = W' q) → digsW W b n p = digsW W' b n p
  | 0, _ => rfl
  | p + 1, h => by
    unfold digsW
    rw [digsW_congr fun q hq => h q (by omega)]
    by_cases c : n / b ^ p % b = 0
    · rw [c, List.replicate_zero, List.replicate_zero]
    · rw [h p (by omega) c]
theorem WT_eq {b : Nat} (hb : 2 ≤ b) : ∀ (n f g : Nat), n ≤ f → n ≤ g → WT f b n = WT g b n := by
  intro n
  induction n using Nat.strongRecOn with
  | ind n ih =>
    intro f g hf hg
    cases f with
    | zero =>
      have e : n = 0 := by omega
      subst e
      cases g with
      | zero => rfl
      | succ g => rfl
    | succ f =>
      cases g with
      | zero =>
        have e : n = 0 := by omega
        subst e
        rfl
      | succ g =>
        refine congrArg Tt.mk (digsW_congr fun q hq c => ?_)
        exact ih q (digit_lt hb c).1 f g (by omega) (by omega)
theorem writtenT_eq {b : Nat} (hb : 2 ≤ b) (n : Nat) : writtenT b n = .mk (digsW (writtenT b) b n n) := by
  have e : writtenT b n = WT (n + 1) b n := WT_eq hb n _ _ (Nat.le_refl _) (by omega)
  rw [e]
  refine congrArg Tt.mk (digsW_congr fun q hq c => ?_)
  exact WT_eq hb q _ _ (by omega) (Nat.le_refl _)
theorem digsW_end {W : Nat → Tt} {b n p : Nat} (h : n / b ^ p = 0) (hb : 2 ≤ b) : ∀ k, digsW W b n (p + k) = digsW W b n p
  | 0 => rfl
  | k + 1 => by
    show List.replicate (n / b ^ (p + k) % b) (W (p + k)) ++ digsW W b n (p + k) = _
    rw [digsW_end h hb k]
    have e : n / b ^ (p + k) = 0 := by rw [Nat.pow_add, ← Nat.div_div_eq_div_mul, h, Nat.zero_div]
    rw [e, Nat.zero_mod, List.replicate_zero, List.nil_append]
theorem digsW_whole {W : Nat → Tt} {b n p : Nat} (h : n / b ^ p = 0) (hb : 2 ≤ b) : digsW W b n p = digsW W b n n := by
  have h2 : n / b ^ n = 0 := Nat.div_eq_of_lt (pow_gt hb n)
  by_cases c : p ≤ n
  · have := digsW_end (W := W) h hb (n - p)
    rw [show p + (n - p) = n by omega] at this
    exact this.symm
  · have := digsW_end (W := W) h2 hb (p - n)
    rw [show n + (p - n) = p by omega] at this
    exact this
theorem digsW_mono {W : Nat → Tt} {b n : Nat} : ∀ {p k : Nat}, p ≤ k → knotsL (digsW W b n p) ≤ knotsL (digsW W b n k)
  | p, 0, h => by
    have e : p = 0 := by omega
    rw [e]; exact Nat.le_refl _
  | p, k + 1, h => by
    by_cases c : p = k + 1
    · rw [c]; exact Nat.le_refl _
    · have := digsW_mono (W := W) (b := b) (n := n) (p := p) (k := k) (by omega)
      show _ ≤ knotsL (List.replicate (n / b ^ k % b) (W k) ++ digsW W b n k)
      rw [knotsL_append]
      omega
/-- towers of twos -/
def tw : Nat → Nat
  | 0 => 0
  | k + 1 => 2 ^ tw k
theorem tw_exp {b n p k : Nat} (hb : 2 ≤ b) (h : n < tw (k + 1)) (hp : b ^ p ≤ n) : p < tw k := by
  have h1 : 2 ^ p ≤ n := Nat.le_trans (Nat.pow_le_pow_left hb p) hp
  have h2 : 2 ^ p < 2 ^ tw k := Nat.lt_of_le_of_lt h1 h
  exact (Nat.pow_lt_pow_iff_right (by decide)).mp h2
theorem mem_digsW {W : Nat → Tt} {b n : Nat} {x : Tt} : ∀ {p : Nat}, x ∈ digsW W b n p → ∃ q, q < p ∧ n / b ^ q % b ≠ 0 ∧ x = W q
  | 0, h => by cases h
  | p + 1, h => by
    rcases List.mem_append.mp h with h | h
    · have h1 := List.mem_replicate.mp h
      exact ⟨p, by omega, h1.1, h1.2⟩
    · obtain ⟨q, h1, h2⟩ := mem_digsW h
      exact ⟨q, by omega, h2⟩
theorem written_depth {b : Nat} (hb : 2 ≤ b) : ∀ (k n : Nat), n < tw k → depth (writtenT b n) < k
  | 0, n, h => absurd h (Nat.not_lt_zero _)
  | k + 1, n, h => by
    rw [writtenT_eq hb, depth]
    refine Nat.lt_succ_of_le (depthL_iff.mpr fun x hx => ?_)
    obtain ⟨q, _, h2, rfl⟩ := mem_digsW hx
    exact written_depth hb k q (tw_exp hb h (digit_lt hb h2).2)
/-! ### a heap without one place -/
def hid (l : Addr) (H : Hp) : Hp := fun b => if b = l then none else H b
theorem hid_ne {l b : Addr} {H : Hp} (h : b ≠ l) : hid l H b = H b := if_neg h
theorem hid_self {l : Addr} {H : Hp} : hid l H l = none := if_pos rfl
theorem hid_upd {l D : Addr} {H : Hp} {o : HO} (h : D ≠ l) : hid l (upd H D o) = upd (hid l H) D o := by
  funext b
  by_cases c : b = l
  · subst c
    rw [hid_self, upd_ne (Ne.symm h), hid_self]
  · rw [hid_ne c]
    by_cases d : b = D
    · subst d; rw [upd_same, upd_same]
    · rw [upd_ne d, upd_ne d, hid_ne c]
theorem hid_upd_self {l : Addr} {H : Hp} {o : HO} : hid l (upd H l o) = hid l H := by
  funext b
  by_cases c : b = l
  · subst c; rw [hid_self, hid_self]
  · rw [hid_ne c, hid_ne c, upd_ne c]
theorem hid_kept {l : Addr} {H H' : Hp} (s : Same (hid l H) (hid l H')) : Kept l H H' := fun b o n e => by
  have h : hid l H b = some o := by rw [hid_ne n]; exact e
  have h2 := s _ _ h
  rw [hid_ne n] at h2; exact h2
theorem hid_same {l : Addr} {H H' : Hp} (s : Same H H') : Same (hid l H) (hid l H') := fun b o e => by
  by_cases c : b = l
  · subst c; rw [hid_self] at e; cases e
  · rw [hid_ne c] at e ⊢; exact s _ _ e
theorem hid_of {l b : Addr} {H : Hp} {o : HO} (e : hid l H b = some o) : H b = some o := by
  by_cases c : b = l
  · subst c; rw [hid_self] at e; cases e
  · rw [hid_ne c] at e; exact e
theorem hid_free {l b : Addr} {H : Hp} (h : H b = none) : hid l H b = none := by
  by_cases c : b = l
  · subst c; exact hid_self
  · rw [hid_ne c]; exact h
/-- new trees ahead of a new tree's branches, in a new list -/
theorem New.cat {H H2 H3 : Hp} {f D : Addr} {ts us : List Tt} (nw : New H H2 (.ref f) (.mk ts)) (g : Grow H2 H3 D us) : ∃ acc fv, H3 D = some (.lst acc) ∧ H3 f = some (.lst fv) ∧ acc.length = us.length ∧ fv.length = ts.length ∧
    ∀ G, H3 G = none → New H (upd H3 G (.lst (acc ++ fv))) (.ref G) (.mk (us ++ ts)) := by
  obtain ⟨s23, _, acc, as, hD, ow, nd, fr⟩ := g
  obtain ⟨s12, as2, ow2, nd2, fr2⟩ := nw
  rw [own_mk] at ow2
  obtain ⟨f', fv, as3, ef, rfl, hf, ow3⟩ := ow2
  cases ef
  have tr3 := Owns.tracked _ ow3
  have ow3' := Owns.frame ts ow3 fun a _ u e => s23 _ _ e
  refine ⟨acc, fv, hD, s23 _ _ hf, ow.len, ow3.len, fun G nG => ⟨fun b u e => by rw [upd_ne (ne_of_none (s23 _ _ (s12 _ _ e)) nG)]; exact s23 _ _ (s12 _ _ e), G :: (as ++ as3), ?_, ?_, ?_⟩⟩
  · rw [own_mk]
    refine ⟨G, acc ++ fv, as ++ as3, rfl, rfl, upd_same, ?_⟩
    have keep : ∀ a u, H3 a = some u → upd H3 G (.lst (acc ++ fv)) a = some u := fun a u e => by rw [upd_ne (ne_of_none e nG)]; exact e
    exact Owns.append (Owns.frame us ow fun a _ u e => keep a u e) (Owns.frame ts ow3' fun a _ u e => keep a u e)
  · refine List.nodup_cons.mpr ⟨fun h => ?_, List.nodup_append.mpr ⟨(List.nodup_cons.mp nd).2, (List.nodup_cons.mp nd2).2, fun a ha b hb e => ?_⟩⟩
    · rcases List.mem_append.mp h with h | h
      · obtain ⟨xs, e⟩ := Owns.tracked _ ow G h
        rw [nG] at e; cases e
      · obtain ⟨xs, e⟩ := Owns.tracked _ ow3' G h
        rw [nG] at e; cases e
    · obtain ⟨xs, q⟩ := tr3 b hb
      rw [← e, fr a ha] at q; cases q
  · intro a ha
    rcases List.mem_cons.mp ha with e | ha
    · rw [e]; exact s12.free (s23.free nG)
    · rcases List.mem_append.mp ha with ha | ha
      · exact s12.free (fr a ha)
      · exact fr2 a (List.mem_cons_of_mem _ ha)
/-- a new place was hid: it needn't be -/
theorem New.unhid {l : Addr} {H H1 H' : Hp} {v : V} {t : Tt} (n : New (hid l H1) (hid l H') v t) (nl : H l = none) (s : Same H H1) : New H H' v t := by
  obtain ⟨s1, as, o, nd, fr⟩ := n
  refine ⟨fun b u e => hid_kept s1 b u (ne_of_none e nl) (s _ _ e), as, Own.frame t o fun a _ u e => hid_of e, nd, fun a ha => ?_⟩
  by_cases c : a = l
  · rw [c]; exact nl
  · have := fr a ha
    rw [hid_ne c] at this
    exact s.free this
section
variable {P : Program} {w : World} {K : PySem.W.Frag} {mg : Str → Option Value} {base : Heap}
/-! ### asked_base -/
def NoBase (H : Hp) (v : V) : Prop := NoNum H v ∨ ∃ i : Int, v = .int i ∧ i < 2
def spAskedBase (A : Addr) : Sp := fun vs H Q E => ∃ v, vs = [v] ∧ ((∃ b : Nat, v = .int (b : Nat) ∧ 2 ≤ b ∧ Q .non H) ∨ (NoBase H v ∧ E (.ref A) none H))
theorem ok_asked_base (T : Txt K mg) : FnOk P w K mg base (L2N.CX P w) 2 T.a_asked_base T.d_asked_base ["base"] (spAskedBase T.A_BadBase) := by
  have G_is_number := ok_is_number (P := P) (w := w) (base := base) T
  refine okN T.F_asked_base sc_asked_base (fun vs H Q E h => ?_) (fun cdv A outer s H vs Q E hr h => ?_)
  · obtain ⟨v, rfl, _⟩ := h; rfl
  obtain ⟨v, rfl, h⟩ := h
  have R_is_number : Room 1 _ := hr
  refine ⟨_, (pss_one (ps_if (PW.pt (pw_or (pt_not (pt_val (pe_call G_is_number R_is_number rfl T.m_is_number T.k_is_number T.b_is_number .nil pass0 (pa_cons (pv 0) pa_nil)))) (pw_or1 (pt_cmpR op_lt (pv 0) pe_int (nomark _))))) (pss_one (L2N.ps_raise rfl (L2N.takes_of rfl rfl rfl rfl) (L2N.pmk_own PySem.F.excBase_ValueError T.x_BadBase T.g_BadBase T.k_BadBase (raises_own T.sb_BadBase T.tt_BadBase) (by exact rfl)))) pss_nil)), ?_⟩
  rcases h with ⟨b, rfl, hb, q⟩ | ⟨hn | ⟨i, rfl, hi⟩, q⟩
  · refine ⟨_, rfl, _, true, rfl, .int _, _, rfl, iteF ?_⟩
    refine ⟨_, rfl, _, _, rfl, rfl, _, rfl, ?_⟩
    rw [decide_eq_false (show ¬ (b : Int) < 2 by omega)]
    exact iteF q
  · exact ⟨_, rfl, _, false, rfl, hn.num, _, rfl, iteT (iteT q)⟩
  · refine ⟨_, rfl, _, true, rfl, .int _, _, rfl, iteF ?_⟩
    refine ⟨_, rfl, _, _, rfl, rfl, _, rfl, ?_⟩
    rw [decide_eq_true (show i < 2 from hi)]
    exact iteT q
/-! ### written_of -/
def TooBig (L b n : Nat) : Prop := 0 < n ∧ L < n % b
def spWrittenOf (A : Addr) (k : Nat) : Sp := fun vs H Q E => ∃ (n b L : Nat) (l : Addr), vs = [.int (n : Nat), .int (b : Nat), .ref l] ∧ 2 ≤ b ∧ Bits (b : Int) 1000 ∧ n < tw k ∧ L ≤ 1000 ∧ H l = some (.lst [.int (L : Nat)]) ∧
  ((knotsL (digsW (writtenT b) b n n) ≤ L ∧ ∀ H' r, New (hid l H) (hid l H') r (writtenT b n) → H' l = some (.lst [.int ((L - knotsL (digsW (writtenT b) b n n) : Nat) : Int)]) → Q r H') ∨ (TooBig L b n ∧ ∀ H', Kept l H H' → E (.ref A) none H'))
theorem ok_written_of (T : Txt K mg) : ∀ k, FnOk P w K mg base (L2N.CX P w) k T.a_written_of T.d_written_of ["number", "base", "left"] (spWrittenOf T.A_TooGreat k)
  | 0 => none_left fun vs H Q E ⟨n, b, L, l, _, _, _, h, _⟩ => absurd h (Nat.not_lt_zero _)
  | k + 1 => by
    have G_written_of := ok_written_of T k
    refine okN T.F_written_of sc_written_of (fun vs H Q E h => ?_) (fun cdv A outer s H vs Q E hr h => ?_)
    · obtain ⟨n, b, L, l, rfl, _⟩ := h; rfl
    obtain ⟨n, b, L, l, rfl, hb2, hbb, hn, hL, hl, h⟩ := h
    have R_written_of : Room k _ := hr
    refine ⟨_, (pss_cons (ps_set (i := 3) sc_written_of.nd rfl (Or.inl rfl) (pe_lst pa_nil))
      (pss_cons (ps_set (i := 4) sc_written_of.nd rfl (Or.inr rfl) pe_int)
      (pss_cons (ps_while (passes_of rfl) (pt_cmpR op_gt (pv 0) pe_int (nomark _)) (pss_cons (ps_set (i := 5) sc_written_of.nd rfl (Or.inl rfl) (pe_op op_mod (pv 0) (pv 1)))
        (pss_cons (ps_asg (pe_op op_sub (pe_ix (r := rIxL K) ix_list (pv 2) pe_int (fun _ _ => rfl)) (pv 5)) (pg_sub (pv 2) pe_int set_list))
        (pss_cons (ps_if (pt_cmpR op_lt (pe_ix (r := rIxL K) ix_list (pv 2) pe_int (fun _ _ => rfl)) pe_int (nomark _)) (pss_one (L2N.ps_raise rfl (L2N.takes_of rfl rfl rfl rfl) (L2N.pmk_own PySem.F.excBase_ValueError T.x_TooGreat T.g_TooGreat T.k_TooGreat (raises_own T.sb_TooGreat T.tt_TooGreat) (by exact rfl)))) pss_nil)
        (pss_cons (ps_set (i := 3) sc_written_of.nd rfl (Or.inl rfl) (pe_op op_cat (pe_lc (own := [("time", 6)]) (g := gName 6) (tt := tYes) rfl sc_written_of.nd (pi_range1 (by rfl) T.z_range (pa_cons (pv 5) pa_nil)) (blkOk_by (own := [("time", 6)]) (N := ["number", "base", "left", "found", "power", "many", "time"]) (sc := defScope s_written_of) (by decide +kernel)) (fun _ _ _ _ _ => (pg_name (i := 6) sc_written_of.nd rfl (Or.inl rfl))) (fun _ _ _ _ _ => pts_nil) (fun _ _ _ _ _ => (pe_call G_written_of R_written_of rfl T.m_written_of T.k_written_of T.b_written_of .nil passLN (pa_cons (pv 4) (pa_cons (pv 1) (pa_cons (pv 2) pa_nil)))))) (pv 3)))
        (pss_cons (ps_set (i := 0) sc_written_of.nd rfl (Or.inl rfl) (pe_op op_fdivW (pv 0) (pv 1)))
        (pss_one (ps_set (i := 4) sc_written_of.nd rfl (Or.inr rfl) (pe_op op_add (pv 4) pe_int)))))))))
      (pss_one (ps_ret (pv 3)))))), ?_⟩
    have hbpos : (0 : Int) < (b : Int) := by omega
    refine ⟨(by show 0 ≤ sizeLine; decide), fun F nF => ?_⟩
    have nFl : F ≠ l := fun e => by rw [e, hl] at nF; cases nF
    have hl0 : upd H F (.lst []) l = some (.lst [.int (L : Nat)]) := by rw [upd_ne (Ne.symm nFl)]; exact hl
    have n0 : New (hid l H) (hid l (upd H F (.lst []))) (.ref F) (.mk []) := by
      rw [hid_upd nFl]
      exact (Grow.start (hid_free nF)).done
    have d0 : digsW (writtenT b) b n 0 = [] := rfl
    have e0 : n / b ^ 0 = n := by rw [Nat.pow_zero, Nat.div_one]
    generalize upd H F (.lst []) = H0 at hl0 n0 ⊢
    rcases h with ⟨hfit, q⟩ | ⟨⟨hn0, hmany⟩, q⟩
    · refine ⟨fun m σ H' => ∃ (p : Nat) (f : Addr) (o5 : Option V), σ = [some (.int ((n / b ^ p : Nat) : Int)), some (.int (b : Nat)), some (.ref l), some (.ref f), some (.int (p : Nat)), o5, none] ∧ m = n / b ^ p ∧
        New (hid l H) (hid l H') (.ref f) (.mk (digsW (writtenT b) b n p)) ∧ knotsL (digsW (writtenT b) b n p) ≤ L ∧ H' l = some (.lst [.int ((L - knotsL (digsW (writtenT b) b n p) : Nat) : Int)]), ?_, ?_⟩
      · refine ⟨n, 0, F, none, by rw [e0]; rfl, by rw [e0], n0, by rw [d0, knotsL]; omega, ?_⟩
        rw [d0, knotsL]; exact hl0
      rintro m σ H1 ⟨p, f, o5, rfl, rfl, nw, hk, hl1⟩
      refine ⟨_, rfl, _, _, rfl, rfl, _, rfl, ite2 (fun c => ?_) (fun c => ?_)⟩
      · have c' : (0 : Int) < ((n / b ^ p : Nat) : Int) := of_decide_eq_true c
        have hpos : 0 < n / b ^ p := by omega
        have hbp : b ^ p ≤ n := by
          by_cases z : n < b ^ p
          · rw [Nat.div_eq_of_lt z] at hpos; omega
          · omega
        have hpn : p < n := by have := pow_gt hb2 p; omega
        have hpk := tw_exp hb2 hn hbp
        have hwhole : knotsL (digsW (writtenT b) b n (p + 1)) ≤ L := Nat.le_trans (digsW_mono (by omega)) hfit
        have hstep : knotsL (digsW (writtenT b) b n (p + 1)) = (n / b ^ p % b) * knots (writtenT b p) + knotsL (digsW (writtenT b) b n p) := by
          show knotsL (List.replicate (n / b ^ p % b) (writtenT b p) ++ digsW (writtenT b) b n p) = _
          rw [knotsL_append, knotsL_rep]
        have kp := depth_knots1 (writtenT b p)
        have kdig : knots (writtenT b p) = 1 + knotsL (digsW (writtenT b) b p p) := by rw [writtenT_eq hb2, knots]
        generalize hmm : n / b ^ p % b = many at hstep
        have hmk : many ≤ many * knots (writtenT b p) := Nat.le_mul_of_pos_right _ kp
        have em : ((n / b ^ p : Nat) : Int) % (b : Int) = (many : Int) := by rw [← hmm]; exact (Int.natCast_emod _ _).symm
        refine ⟨fun σ' H' => ∃ (f : Addr), σ' = [some (.int ((n / b ^ (p + 1) : Nat) : Int)), some (.int (b : Nat)), some (.ref l), some (.ref f), some (.int ((p + 1 : Nat) : Int)), some (.int (many : Nat)), none] ∧
          New (hid l H) (hid l H') (.ref f) (.mk (digsW (writtenT b) b n (p + 1))) ∧ H' l = some (.lst [.int ((L - knotsL (digsW (writtenT b) b n (p + 1)) : Nat) : Int)]), fun σ' H' ⟨f', e, nw', hl'⟩ => ⟨n / b ^ (p + 1), ?_, p + 1, f', _, e, rfl, nw', hwhole, hl'⟩, ?_⟩
        · rw [Nat.pow_succ, ← Nat.div_div_eq_div_mul]
          exact Nat.div_lt_self hpos hb2
        refine ⟨_, rfl, _, rfl, _, _, rfl, rfl, hbpos, ?_⟩
        show tSeq _ _ _ [_, _, _, _, _, some (V.int (((n / b ^ p : Nat) : Int) % (b : Int))), _] _
        rw [em]
        refine ⟨_, rfl, l, _, 0, _, rfl, rfl, SqL.of hl1, rfl, _, rfl, _, _, rfl, rfl, _, rfl, l, _, 0, 0, rfl, rfl, hl1, rfl, ?_⟩
        have e1 : ((L - knotsL (digsW (writtenT b) b n p) : Nat) : Int) - (many : Int) = ((L - knotsL (digsW (writtenT b) b n p) - many : Nat) : Int) := by omega
        have h2 : Same (hid l H1) (hid l (upd H1 l (.lst ([V.int ((L - knotsL (digsW (writtenT b) b n p) : Nat) : Int)].set 0 (.int (((L - knotsL (digsW (writtenT b) b n p) : Nat) : Int) - (many : Int))))))) := by rw [hid_upd_self]; exact Same.refl _
        have hl2 : upd H1 l (.lst ([V.int ((L - knotsL (digsW (writtenT b) b n p) : Nat) : Int)].set 0 (.int (((L - knotsL (digsW (writtenT b) b n p) : Nat) : Int) - (many : Int))))) l = some (.lst [.int ((L - knotsL (digsW (writtenT b) b n p) - many : Nat) : Int)]) := by rw [upd_same, e1]; rfl
        generalize upd H1 l (.lst ([V.int ((L - knotsL (digsW (writtenT b) b n p) : Nat) : Int)].set 0 (.int (((L - knotsL (digsW (writtenT b) b n p) : Nat) : Int) - (many : Int))))) = H2 at h2 hl2 ⊢
        have nw2 := nw.step h2
        refine ⟨_, rfl, l, _, 0, _, rfl, rfl, SqL.of hl2, rfl, _, _, rfl, rfl, _, rfl, ?_⟩
        rw [decide_eq_false (show ¬ (((L - knotsL (digsW (writtenT b) b n p) - many : Nat) : Int) < 0) by omega)]
        refine iteF ?_
        refine ⟨_, rfl, _, rfl, by omega, by omega, fun D nD => ?_⟩
        rw [Int.toNat_natCast]
        have nDl : D ≠ l := fun e => by rw [e, hl2] at nD; cases nD
        have hl3 : upd H2 D (.lst []) l = some (.lst [.int ((L - knotsL (digsW (writtenT b) b n p) - many : Nat) : Int)]) := by rw [upd_ne (Ne.symm nDl)]; exact hl2
        refine lc_it walk_range (fun i H' => Grow (hid l H2) (hid l H') D (List.replicate i (writtenT b p)) ∧ ∃ L' : Nat, H' l = some (.lst [.int (L' : Nat)]) ∧ L' + i * (knots (writtenT b p) - 1) = L - knotsL (digsW (writtenT b) b n p) - many) ?_ (fun _ _ _ _ => trivial) ?_ ?_
        · refine ⟨by rw [hid_upd nDl]; exact Grow.start (hid_free nD), _, hl3, by omega⟩
        · rintro i z H3 H4 hi ⟨g, L', hlx, eL⟩ ⟨rfl, rfl⟩
          have hmul : i * (knots (writtenT b p) - 1) + (knots (writtenT b p) - 1) ≤ many * (knots (writtenT b p) - 1) := by
            rw [← Nat.succ_mul]; exact Nat.mul_le_mul_right _ hi
          have hmul2 : many * knots (writtenT b p) = many * (knots (writtenT b p) - 1) + many := by
            have : knots (writtenT b p) = (knots (writtenT b p) - 1) + 1 := by omega
            rw [this, Nat.mul_succ, Nat.add_sub_cancel]
          refine ⟨rfl, _, rfl, _, rfl, _, rfl, p, b, L', l, rfl, hb2, hbb, hpk, by omega, hlx, .inl ⟨by omega, fun H5 r5 n5 hl5 => ?_⟩⟩
          obtain ⟨acc, h1, h2', h3⟩ := g.more n5
          refine ⟨acc, hid_of h1, ?_, ?_, L' - knotsL (digsW (writtenT b) b p p), ?_, ?_⟩
          · rw [h2', List.length_replicate]
            exact Nat.lt_of_le_of_lt (m := 1000) (by omega) (by decide)
          · rw [hid_upd nDl, List.replicate_succ']; exact h3
          · rw [upd_ne (Ne.symm nDl)]; exact hl5
          · rw [Nat.succ_mul]; omega
        · rintro H3 ⟨g, L', hlx, eL⟩
          have kl := knotsL_len (digsW (writtenT b) b n p)
          have eb : ((n / b ^ p : Nat) : Int) / (b : Int) = ((n / b ^ (p + 1) : Nat) : Int) := by rw [Nat.pow_succ, ← Nat.div_div_eq_div_mul]; exact (Int.natCast_ediv _ _).symm
          obtain ⟨acc, fv, hD, hf, la, lf, cat⟩ := nw2.cat g
          rw [List.length_replicate] at la
          refine ⟨_, rfl, D, f, acc, fv, rfl, rfl, hid_of hD, hid_of hf, Nat.le_trans (show acc.length + fv.length ≤ 3000 by omega) (by decide), fun G nG => ?_⟩
          have nGl : G ≠ l := fun e => by rw [e, hlx] at nG; cases nG
          have hl4 : upd H3 G (.lst (acc ++ fv)) l = some (.lst [.int (L' : Nat)]) := by rw [upd_ne (Ne.symm nGl)]; exact hlx
          have nw4 : New (hid l H) (hid l (upd H3 G (.lst (acc ++ fv)))) (.ref G) (.mk (digsW (writtenT b) b n (p + 1))) := by
            rw [hid_upd nGl]
            have := cat G (hid_free nG)
            show New _ _ _ (.mk (List.replicate (n / b ^ p % b) (writtenT b p) ++ digsW (writtenT b) b n p))
            rw [hmm]; exact this
          refine ⟨_, rfl, _, rfl, _, _, rfl, rfl, wide_div (b := 1000) hbpos hbb (by decide) (by decide), ?_⟩
          refine ⟨_, rfl, _, _, rfl, rfl, G, ?_, nw4, ?_⟩
          · show [some (V.int (((n / b ^ p : Nat) : Int) / (b : Int))), _, _, _, some (V.int ((p : Int) + 1)), _, _] = _
            rw [eb]; rfl
          · have hmul2 : many * knots (writtenT b p) = many * (knots (writtenT b p) - 1) + many := by
              have : knots (writtenT b p) = (knots (writtenT b p) - 1) + 1 := by omega
              rw [this, Nat.mul_succ, Nat.add_sub_cancel]
            have e5 : L' = L - knotsL (digsW (writtenT b) b n (p + 1)) := by omega
            rw [hl4, e5]
      · have c' : ¬ (0 : Int) < ((n / b ^ p : Nat) : Int) := of_decide_eq_false (Bool.eq_false_iff.mpr c)
        have hz : n / b ^ p = 0 := Nat.eq_zero_of_not_pos fun z => c' (Int.ofNat_lt.mpr z)
        rw [digsW_whole hz hb2] at nw hl1
        refine ⟨_, rfl, q _ _ ?_ hl1⟩
        rw [writtenT_eq hb2]; exact nw
    · refine ⟨fun m σ H' => σ = [some (.int (n : Nat)), some (.int (b : Nat)), some (.ref l), some (.ref F), some (.int 0), none, none] ∧ H' = H0, ⟨0, rfl, rfl⟩, ?_⟩
      rintro m σ H1 ⟨rfl, rfl⟩
      refine ⟨_, rfl, _, _, rfl, rfl, _, rfl, ?_⟩
      rw [decide_eq_true (show (0 : Int) < (n : Int) by omega)]
      refine iteT ⟨fun _ _ => False, fun _ _ z => z.elim, ?_⟩
      refine ⟨_, rfl, _, rfl, _, _, rfl, rfl, hbpos, ?_⟩
      have em : (n : Int) % (b : Int) = ((n % b : Nat) : Int) := (Int.natCast_emod _ _).symm
      show tSeq _ _ _ [_, _, _, _, _, some (V.int ((n : Int) % (b : Int))), _] _
      rw [em]
      refine ⟨_, rfl, l, _, 0, _, rfl, rfl, SqL.of hl0, rfl, _, rfl, _, _, rfl, rfl, _, rfl, l, _, 0, 0, rfl, rfl, hl0, rfl, ?_⟩
      have k2 : Kept l H (upd H1 l (.lst ([V.int (L : Nat)].set 0 (.int ((L : Int) - ((n % b : Nat) : Int)))))) := hid_kept (by rw [hid_upd_self]; exact n0.1)
      have hl2 : upd H1 l (.lst ([V.int (L : Nat)].set 0 (.int ((L : Int) - ((n % b : Nat) : Int))))) l = some (.lst [.int ((L : Int) - ((n % b : Nat) : Int))]) := by rw [upd_same]; rfl
      generalize upd H1 l (.lst ([V.int (L : Nat)].set 0 (.int ((L : Int) - ((n % b : Nat) : Int))))) = H2 at k2 hl2 ⊢
      refine ⟨_, rfl, l, _, 0, _, rfl, rfl, SqL.of hl2, rfl, _, _, rfl, rfl, _, rfl, ?_⟩
      rw [decide_eq_true (show (L : Int) - ((n % b : Nat) : Int) < 0 by omega)]
      exact iteT (q _ k2)
end
/-! ### values: plain -/
def GR : Nat := 2 ^ 400
def okRow (b : Nat) (l : List Tt) : Bool := (List.range l.length).all fun i => !(decide (b ≤ i + 1) && decide (l[i + 1 - b]? = l[i]?))
mutual
def cw (b : Nat) : Tt → Bool
  | .mk l => okRow b l && cwL b l
def cwL (b : Nat) : List Tt → Bool
  | [] => true
  | x :: l => cw b x && cwL b l
end
theorem cw_mk (b : Nat) (l : List Tt) : cw b (.mk l) = (okRow b l && cwL b l) := by rw [cw]
theorem cwL_all (b : Nat) : ∀ l, cwL b l = (l.map (cw b)).all id
  | [] => by rw [cwL]; rfl
  | x :: l => by rw [cwL, cwL_all b l, List.map_cons, List.all_cons]; rfl
theorem okRow_false {b i : Nat} {l : List Tt} (hi : i < l.length) (hb : b ≤ i + 1) (e : l[i + 1 - b]? = l[i]?) : okRow b l = false := by
  unfold okRow
  rw [List.all_eq_false]
  refine ⟨i, List.mem_range.mpr hi, ?_⟩
  rw [decide_eq_true hb, decide_eq_true e]
  decide
theorem okRow_true {b : Nat} {l : List Tt} (h : ∀ i, i < l.length → b ≤ i + 1 → l[i + 1 - b]? ≠ l[i]?) : okRow b l = true := by
  unfold okRow
  rw [List.all_eq_true]
  intro i hi
  have hi' := List.mem_range.mp hi
  by_cases c : b ≤ i + 1
  · rw [decide_eq_false (h i hi' c), Bool.and_false]; rfl
  · rw [decide_eq_false c]; rfl
def powc (b : Nat) : Nat → Nat
  | 0 => 1
  | k + 1 => min (powc b k * b) GR
mutual
def val (b : Nat) : Tt → Nat
  | .mk l => valL b 0 l
def valL (b : Nat) (acc : Nat) : List Tt → Nat
  | [] => acc
  | x :: l => valL b (min (acc + powc b (min (val b x) 401)) GR) l
end
theorem val_mk (b : Nat) (l : List Tt) : val b (.mk l) = valL b 0 l := by rw [val]
theorem valL_nil (b acc : Nat) : valL b acc [] = acc := by rw [valL]
theorem valL_cons (b acc : Nat) (x : Tt) (l : List Tt) : valL b acc (x :: l) = valL b (min (acc + powc b (min (val b x) 401)) GR) l := by rw [valL]
theorem valL_snoc (b : Nat) (x : Tt) : ∀ (l : List Tt) (acc : Nat), valL b acc (l ++ [x]) = min (valL b acc l + powc b (min (val b x) 401)) GR
  | [], acc => by rw [List.nil_append, valL_cons, valL_nil, valL_nil]
  | y :: l, acc => by rw [List.cons_append, valL_cons, valL_snoc b x l, valL_cons]
theorem valL_le (b : Nat) : ∀ (l : List Tt) (acc : Nat), acc ≤ GR → valL b acc l ≤ GR
  | [], acc, h => by rw [valL_nil]; exact h
  | y :: l, acc, h => by rw [valL_cons]; exact valL_le b l _ (Nat.min_le_right _ _)
theorem GR_pos : 1 ≤ GR := by decide +kernel
theorem powc_le (b : Nat) : ∀ k, powc b k ≤ GR
  | 0 => GR_pos
  | k + 1 => Nat.min_le_right _ _
theorem val_le (b : Nat) (t : Tt) : val b t ≤ GR := by
  cases t with
  | mk l => rw [val_mk]; exact valL_le b l 0 (Nat.zero_le _)
theorem min_int (i j : Nat) : (if (j : Int) < (i : Int) then (j : Int) else (i : Int)) = ((min i j : Nat) : Int) := by
  by_cases h : j < i
  · rw [if_pos (by omega)]; omega
  · rw [if_neg (by omega)]; omega
theorem GR_int : (2582249878086908589655919172003011874329705792829223512830659356540647622016841194629645353280137831435903171972747493376 : Int) = ((GR : Nat) : Int) := by decide +kernel
theorem GR_bits : Bits ((GR : Nat) : Int) 401 := by
  show ((GR : Nat) : Int).natAbs < 2 ^ 401
  decide +kernel
def NoNumber (H : Hp) (v : V) : Prop := NoNum H v ∨ ∃ i : Int, v = .int i ∧ (i < 0 ∨ (GR : Int) ≤ i)
section
variable {P : Program} {w : World} {K : PySem.W.Frag} {mg : Str → Option Value} {base : Heap}
/-! ### written -/
theorem NoBase.same {H H' : Hp} {v : V} (s : Same H H') (h : NoBase H v) : NoBase H' v := h.imp (fun k => k.same s) id
def spWritten (A1 A2 A3 : Addr) : Sp := fun vs H Q E => ∃ vn vb, vs = [vn, vb] ∧ (
  (∃ n : Nat, vn = .int (n : Nat) ∧ n < GR ∧ (
    (∃ b : Nat, vb = .int (b : Nat) ∧ 2 ≤ b ∧ Bits (b : Int) 1000 ∧ ((knots (writtenT b n) ≤ 300 ∧ ∀ H' r, New H H' r (writtenT b n) → Q r H') ∨ (TooBig 299 b n ∧ ∀ H', Same H H' → E (.ref A3) none H')))
    ∨ (NoBase H vb ∧ E (.ref A2) none H)))
  ∨ (NoNumber H vn ∧ E (.ref A1) none H))
theorem tw6 {n : Nat} (h : n < GR) : n < tw 6 := by
  have h1 : GR ≤ 2 ^ 65536 := Nat.pow_le_pow_right (by decide) (by decide)
  have h2 : tw 6 = 2 ^ tw 5 := rfl
  have h3 : tw 5 = 65536 := by decide +kernel
  rw [h2, h3]
  omega
theorem ok_written (T : Txt K mg) : FnOk P w K mg base (L2N.CX P w) 7 T.a_written T.d_written ["number", "base"] (spWritten T.A_BadNumber T.A_BadBase T.A_TooGreat) := by
  have G_is_number := ok_is_number (P := P) (w := w) (base := base) T
  have G_asked_base := ok_asked_base (P := P) (w := w) (base := base) T
  have G_written_of := ok_written_of (P := P) (w := w) (base := base) T 6
  refine okN T.F_written sc_written (fun vs H Q E h => ?_) (fun cdv A outer s H vs Q E hr h => ?_)
  · obtain ⟨vn, vb, rfl, _⟩ := h; rfl
  obtain ⟨vn, vb, rfl, h⟩ := h
  have R_is_number : Room 1 _ := hr.mono (by omega)
  have R_asked_base : Room 2 _ := hr.mono (by omega)
  have R_written_of : Room 6 _ := hr
  refine ⟨_, (pss_cons (ps_if (PW.pt (pw_or (pt_not (pt_val (pe_call G_is_number R_is_number rfl T.m_is_number T.k_is_number T.b_is_number .nil pass0 (pa_cons (pv 0) pa_nil)))) (pw_or1 (pt_not (pt_chain op_le op_lt pe_int (pv 0) (pe_glob (v := .int 2582249878086908589655919172003011874329705792829223512830659356540647622016841194629645353280137831435903171972747493376) rfl T.c_GREATEST ⟨_, rfl⟩)))))) (pss_one (L2N.ps_raise rfl (L2N.takes_of rfl rfl rfl rfl) (L2N.pmk_own PySem.F.excBase_ValueError T.x_BadNumber T.g_BadNumber T.k_BadNumber (raises_own T.sb_BadNumber T.tt_BadNumber) (by exact rfl)))) pss_nil)
      (pss_cons (ps_expr (pe_call G_asked_base R_asked_base rfl T.m_asked_base T.k_asked_base T.b_asked_base .nil (L2N.passes_call (L2N.takes_of rfl rfl rfl rfl) (fun _ _ _ _ h => h)) (pa_cons (pv 1) pa_nil)))
      (pss_one (ps_ret (pe_call G_written_of R_written_of rfl T.m_written_of T.k_written_of T.b_written_of .nil (L2N.passes_call (L2N.takes_of rfl rfl rfl rfl) (fun _ _ _ _ h => h)) (pa_cons (pv 0) (pa_cons (pv 1) (pa_cons (pe_lst (pa_cons (pe_op op_sub (pe_glob (v := .int 300) rfl T.c_MOST ⟨_, rfl⟩) pe_int) pa_nil)) pa_nil)))))))), ?_⟩
  rcases h with ⟨n, rfl, hn, h⟩ | ⟨hn | ⟨i, rfl, hi⟩, q⟩
  · refine ⟨_, rfl, _, true, rfl, .int _, _, rfl, iteF ?_⟩
    refine ⟨_, rfl, _, _, rfl, rfl, _, rfl, ?_⟩
    rw [decide_eq_true (show (0 : Int) ≤ (n : Int) by omega)]
    refine iteT ⟨_, _, rfl, rfl, _, rfl, ?_⟩
    rw [decide_eq_true (show (n : Int) < 2582249878086908589655919172003011874329705792829223512830659356540647622016841194629645353280137831435903171972747493376 by rw [GR_int]; omega)]
    refine iteF ?_
    rcases h with ⟨b, rfl, hb, bb, h⟩ | ⟨hb, q⟩
    · refine ⟨_, rfl, _, rfl, .inl ⟨b, rfl, hb, ?_⟩⟩
      refine ⟨_, rfl, _, rfl, _, _, rfl, rfl, (by show 1 ≤ sizeLine; decide), fun l nl => ?_⟩
      have hl : upd H l (.lst [V.int 299]) l = some (.lst [.int ((299 : Nat) : Int)]) := upd_same
      have sl := same_new nl (.lst [V.int 299])
      refine ⟨n, b, 299, l, rfl, hb, bb, tw6 hn, by decide, hl, ?_⟩
      rcases h with ⟨hk, q⟩ | ⟨hk, q⟩
      · refine .inl ⟨?_, fun H' r nw _ => q _ _ (nw.unhid nl sl)⟩
        rw [writtenT_eq hb, knots] at hk
        omega
      · exact .inr ⟨hk, fun H' k => q _ (k.same sl nl)⟩
    · exact ⟨_, rfl, _, rfl, .inr ⟨hb, q⟩⟩
  · exact ⟨_, rfl, _, false, rfl, hn.num, _, rfl, iteT (iteT q)⟩
  · refine ⟨_, rfl, _, true, rfl, .int _, _, rfl, iteF ?_⟩
    refine ⟨_, rfl, _, _, rfl, rfl, _, rfl, ?_⟩
    rcases hi with hi | hi
    · rw [decide_eq_false (show ¬ (0 : Int) ≤ i by omega)]
      exact iteF ⟨_, rfl, iteT q⟩
    · have g0 : (0 : Int) ≤ ((GR : Nat) : Int) := Int.natCast_nonneg _
      rw [decide_eq_true (show (0 : Int) ≤ i by omega)]
      refine iteT ⟨_, _, rfl, rfl, _, rfl, ?_⟩
      rw [decide_eq_false (show ¬ i < 2582249878086908589655919172003011874329705792829223512830659356540647622016841194629645353280137831435903171972747493376 by rw [GR_int]; omega)]
      exact iteT q
/-! ### can_write -/
def spCanWrite (n : Nat) : Sp := fun vs H Q _ => ∃ (v : V) (b : Nat) (t : Tt), vs = [v, .int (b : Nat)] ∧ TreeAt H v t ∧ fit t ∧ depth t < n ∧ depth t ≤ 60 ∧ 1 ≤ b ∧ ∀ H', Same H H' → Q (.bl (cw b t)) H'
theorem ok_can_write (T : Txt K mg) : ∀ n, FnOk P w K mg base CX0 n T.a_can_write T.d_can_write ["tree", "base"] (spCanWrite n)
  | 0 => none_left fun vs H Q E ⟨v, b, t, _, _, _, h, _⟩ => absurd h (Nat.not_lt_zero _)
  | n + 1 => by
    have G_can_write := ok_can_write T n
    refine T.F_can_write.ok sc_can_write (fun vs H Q E h => ?_) (fun cdv A outer s H vs Q E hr h => ?_)
    · obtain ⟨v, b, t, rfl, _⟩ := h; rfl
    obtain ⟨v, b, ⟨bs⟩, rfl, ht, hf, hd, hd60, hb1, q⟩ := h
    have R_can_write : Room n _ := hr
    have hu64 := hr.units
    rw [treeAt_mk] at ht
    obtain ⟨a, xs, rfl, ha, hbs⟩ := ht
    have hbl := hbs.len
    have flen := fit_len hf
    refine ⟨_, (pss_cons (ps_for PassesOwn.never rfl (pi_enum (by rfl) T.z_enumerate (pa_cons (pv 0) pa_nil)) (pg_tup rfl (pgs_cons (pg_name (i := 2) sc_can_write.nd rfl (Or.inl rfl)) (pgs_cons (pg_name (i := 3) sc_can_write.nd rfl (Or.inl rfl)) pgs_nil))) (pss_one (ps_if (PW.pt (pw_and (pt_cmpR op_ge (pe_op op_add (pv 2) pe_int) (pv 1) (nomark _)) (pw_and1 (pt_cmpR (r := rEqD K) (op_eqD hu64) (pe_ix (r := rIxL K) ix_list (pv 0) (pe_op op_sub (pe_op op_add (pv 2) pe_int) (pv 1)) (fun _ _ => rfl)) (pv 3) (nomark _))))) (pss_one (ps_ret pe_bl)) pss_nil)))
      (pss_one (ps_ret (pe_callB (r := rAll K) (cr_all rfl) (by rfl) T.z_all (by decide +kernel) (pa_cons (pe_lc (own := [("branch", 3)]) (g := gName 3) (tt := tYes) rfl sc_can_write.nd (pi_list (pv 0)) (blkOk_by (own := [("branch", 3)]) (N := ["tree", "base", "at", "branch"]) (sc := defScope s_can_write) (by decide +kernel)) (fun _ _ _ _ _ => (pg_name (i := 3) sc_can_write.nd rfl (Or.inl rfl))) (fun _ _ _ _ _ => pts_nil) (fun _ _ _ _ _ => (pe_call G_can_write R_can_write rfl T.m_can_write T.k_can_write T.b_can_write .nil pass0 (pa_cons (pv 3) (pa_cons (pv 1) pa_nil))))) pa_nil))))), ?_⟩
    refine ⟨_, rfl, a, _, rfl, SqL.of ha, ?_⟩
    refine for_it (walk_enum (xs := xs)) (fun i σ H' => Same H H' ∧ (∃ o2 o3, σ = [some (.ref a), some (.int (b : Nat)), o2, o3]) ∧ ∀ j, j < i → b ≤ j + 1 → bs[j + 1 - b]? ≠ bs[j]?) ⟨Same.refl _, ⟨none, none, rfl⟩, fun j hj => absurd hj (Nat.not_lt_zero _)⟩ (fun i σ H' _ p => SqL.of (p.1 _ _ ha)) ?_ ?_
    · rintro i x σ H1 H2 hi ⟨s1, ⟨o2, o3, rfl⟩, hno⟩ ⟨Tp, x1, y1, rfl, nT, rfl, hx, hy⟩
      cases hx
      obtain ⟨y, hby, hyt⟩ := hbs.get hy
      have hi2 : i < bs.length := by omega
      have sT := same_new nT (.tup [.int (i : Nat), y1])
      have uT : upd H1 Tp (.tup [.int (i : Nat), y1]) Tp = some (.tup [.int (i : Nat), y1]) := upd_same
      generalize upd H1 Tp (.tup [.int (i : Nat), y1]) = H3 at sT uT ⊢
      have s3 := s1.trans sT
      refine ⟨Tp, _, rfl, SqT.of uT, rfl, _, _, rfl, _, _, rfl, rfl, ?_⟩
      refine ⟨_, rfl, _, _, rfl, rfl, _, rfl, _, _, rfl, rfl, _, rfl, ite2 (fun c => ?_) (fun c => ?_)⟩
      · have c' : (b : Int) ≤ (i : Int) + 1 := of_decide_eq_true c
        have hk : i + 1 - b < bs.length := by omega
        obtain ⟨z, hz, hzt⟩ := hbs.get' (List.getElem?_eq_getElem hk)
        have ei : (i : Int) + 1 - (b : Int) = ((i + 1 - b : Nat) : Int) := by omega
        have gz := atI_nat hz
        rw [← ei] at gz
        have md := List.getElem_mem hk
        have my := List.mem_of_getElem? hby
        have d1 := depthL_le md
        have d2 := depthL_le my
        rw [depth] at hd60
        refine ⟨_, rfl, _, rfl, _, _, rfl, rfl, _, rfl, _, _, rfl, rfl, a, xs, _, z, rfl, rfl, SqL.of (s3 _ _ ha), gz, _, rfl, ?_⟩
        refine eq_trees (TreeAt.same s3 _ hzt) (TreeAt.same s3 _ hyt) (by omega) (by omega) ⟨_, rfl, ite2 (fun c2 => ?_) (fun c2 => ?_)⟩
        · have e2 : bs[i + 1 - b] = y := of_decide_eq_true c2
          have e : cw b (.mk bs) = false := by
            rw [cw_mk, okRow_false hi2 (by omega) (by rw [List.getElem?_eq_getElem hk, hby, e2]), Bool.false_and]
          have := q _ s3
          rw [e] at this
          exact this
        · have e2 : bs[i + 1 - b] ≠ y := of_decide_eq_false (Bool.eq_false_iff.mpr c2)
          refine ⟨s3, ⟨_, _, rfl⟩, fun j hj hbj => ?_⟩
          by_cases ej : j = i
          · subst ej
            rw [List.getElem?_eq_getElem hk, hby]
            exact fun e => e2 (Option.some.inj e)
          · exact hno j (by omega) hbj
      · have c' : ¬ (b : Int) ≤ (i : Int) + 1 := of_decide_eq_false (Bool.eq_false_iff.mpr c)
        refine iteF ⟨s3, ⟨_, _, rfl⟩, fun j hj hbj => ?_⟩
        by_cases ej : j = i
        · omega
        · exact hno j (by omega) hbj
    rintro σ H1 ⟨s1, ⟨o2, o3, rfl⟩, hno⟩
    rw [hbl] at hno
    refine ⟨_, rfl, a, rfl, ⟨xs, SqL.of (s1 _ _ ha)⟩, fun D nD => ?_⟩
    refine lc_it (walk_list (xs := xs)) (fun i H' => Fill H1 H' D (((bs.take i).map (cw b)).map V.bl)) (Fill.start nD) (fun i H' _ g => SqL.of (g.1 _ _ (s1 _ _ ha))) ?_ ?_
    · rintro i x H3 H4 hi g ⟨rfl, hx⟩
      obtain ⟨y, hy, hyt⟩ := hbs.get hx
      have my := List.mem_of_getElem? hy
      have d2 := depthL_le my
      rw [depth] at hd60
      refine ⟨rfl, _, rfl, _, rfl, x, b, y, rfl, TreeAt.same (s1.trans g.1) _ hyt, fit_bs hf my, depth_bs hd my, by omega, hb1, fun H5 s5 => ?_⟩
      obtain ⟨k1, k2⟩ := g.more (v := .bl (cw b y)) s5
      refine ⟨_, k1, ?_, ?_⟩
      · rw [List.length_map, List.length_map, List.length_take]
        exact lim_line (by omega)
      · rw [take_more hy, List.map_append, List.map_append]; exact k2
    · intro H3 g
      rw [hbl, List.take_length] at g
      refine ⟨D, _, rfl, SqL.of g.2.2, ?_⟩
      have e : cw b (.mk bs) = (bs.map (cw b)).all id := by rw [cw_mk, okRow_true hno, Bool.true_and, cwL_all]
      rw [← e]
      exact q _ (s1.trans g.1)
/-! ### value_of -/
def spValueOf (n : Nat) : Sp := fun vs H Q _ => ∃ (v : V) (b : Nat) (t : Tt), vs = [v, .int (b : Nat)] ∧ TreeAt H v t ∧ depth t < n ∧ Bits (b : Int) 1001 ∧ ∀ H', Same H H' → Q (.int ((val b t : Nat) : Int)) H'
theorem ok_value_of (T : Txt K mg) : ∀ n, FnOk P w K mg base CX0 n T.a_value_of T.d_value_of ["tree", "base"] (spValueOf n)
  | 0 => none_left fun vs H Q E ⟨v, b, t, _, _, h, _⟩ => absurd h (Nat.not_lt_zero _)
  | n + 1 => by
    have G_value_of := ok_value_of T n
    refine T.F_value_of.ok sc_value_of (fun vs H Q E h => ?_) (fun cdv A outer s H vs Q E hr h => ?_)
    · obtain ⟨v, b, t, rfl, _⟩ := h; rfl
    obtain ⟨v, b, ⟨bs⟩, rfl, ht, hd, hbb, q⟩ := h
    have R_value_of : Room n _ := hr
    rw [treeAt_mk] at ht
    obtain ⟨a, xs, rfl, ha, hbs⟩ := ht
    have hbl := hbs.len
    refine ⟨_, (pss_cons (ps_set (i := 2) sc_value_of.nd rfl (Or.inl rfl) pe_int)
      (pss_cons (ps_for PassesOwn.never rfl (pi_list (pv 0)) (pg_name (i := 3) sc_value_of.nd rfl (Or.inl rfl)) (pss_cons (ps_set (i := 4) sc_value_of.nd rfl (Or.inl rfl) (pe_call G_value_of R_value_of rfl T.m_value_of T.k_value_of T.b_value_of .nil pass0 (pa_cons (pv 3) (pa_cons (pv 1) pa_nil))))
        (pss_cons (ps_set (i := 5) sc_value_of.nd rfl (Or.inl rfl) pe_int)
        (pss_cons (ps_for PassesOwn.never rfl (pi_range1 (by rfl) T.z_range (pa_cons (pe_callB (call_min2 rfl) (by rfl) T.z_min (by decide +kernel) (pa_cons (pv 4) (pa_cons pe_int pa_nil))) pa_nil)) (pg_name (i := 6) sc_value_of.nd rfl (Or.inl rfl)) (pss_one (ps_set (i := 5) sc_value_of.nd rfl (Or.inl rfl) (pe_callB (call_min2 rfl) (by rfl) T.z_min (by decide +kernel) (pa_cons (pe_op op_mulX (pv 5) (pv 1)) (pa_cons (pe_glob (v := .int 2582249878086908589655919172003011874329705792829223512830659356540647622016841194629645353280137831435903171972747493376) rfl T.c_GREATEST ⟨_, rfl⟩) pa_nil))))))
        (pss_one (ps_set (i := 2) sc_value_of.nd rfl (Or.inl rfl) (pe_callB (call_min2 rfl) (by rfl) T.z_min (by decide +kernel) (pa_cons (pe_op op_add (pv 2) (pv 5)) (pa_cons (pe_glob (v := .int 2582249878086908589655919172003011874329705792829223512830659356540647622016841194629645353280137831435903171972747493376) rfl T.c_GREATEST ⟨_, rfl⟩) pa_nil)))))))))
      (pss_one (ps_ret (pv 2))))), ?_⟩
    refine ⟨_, rfl, a, rfl, ⟨_, SqL.of ha⟩, ?_⟩
    refine for_it (walk_list (xs := xs)) (fun i σ H' => Same H H' ∧ ∃ o3 o4 o5 o6, σ = [some (.ref a), some (.int (b : Nat)), some (.int ((valL b 0 (bs.take i) : Nat) : Int)), o3, o4, o5, o6]) ⟨Same.refl _, none, none, none, none, by rw [List.take_zero, valL_nil]; rfl⟩ (fun i σ H' _ p => SqL.of (p.1 _ _ ha)) ?_ ?_
    · rintro i x σ H1 H2 hi ⟨s1, o3, o4, o5, o6, rfl⟩ ⟨rfl, hx⟩
      obtain ⟨y, hy, hyt⟩ := hbs.get hx
      have my := List.mem_of_getElem? hy
      refine ⟨_, rfl, _, rfl, x, b, y, rfl, TreeAt.same s1 _ hyt, depth_bs hd my, hbb, fun H3 s3 => ?_⟩
      refine ⟨_, rfl, _, _, rfl, _, rfl, ?_⟩
      have e401 : (if (401 : Int) < ((val b y : Nat) : Int) then (401 : Int) else ((val b y : Nat) : Int)) = ((min (val b y) 401 : Nat) : Int) := min_int (val b y) 401
      rw [e401]
      refine ⟨by omega, by omega, ?_⟩
      rw [Int.toNat_natCast]
      refine for_range (fun k σ' H' => H' = H3 ∧ ∃ o6, σ' = [some (.ref a), some (.int (b : Nat)), some (.int ((valL b 0 (bs.take i) : Nat) : Int)), some x, some (.int ((val b y : Nat) : Int)), some (.int ((powc b k : Nat) : Int)), o6]) ⟨rfl, o6, rfl⟩ ?_ ?_
      · rintro k σ' H4 hk ⟨rfl, o6', rfl⟩
        have bp : Bits ((powc b k : Nat) : Int) 401 := GR_bits.le (by have := powc_le b k; omega)
        refine ⟨_, rfl, _, rfl, _, _, rfl, rfl, bp.mulX hbb (by decide), _, _, rfl, ?_⟩
        have e : (if (2582249878086908589655919172003011874329705792829223512830659356540647622016841194629645353280137831435903171972747493376 : Int) < ((powc b k : Nat) : Int) * (b : Int) then (2582249878086908589655919172003011874329705792829223512830659356540647622016841194629645353280137831435903171972747493376 : Int) else ((powc b k : Nat) : Int) * (b : Int)) = ((powc b (k + 1) : Nat) : Int) := by
          rw [GR_int, ← Int.natCast_mul]; exact min_int _ _
        refine ⟨rfl, some (.int (0 + (k : Int))), ?_⟩
        rw [e]; rfl
      · rintro σ' H4 ⟨rfl, o6', rfl⟩
        refine ⟨_, rfl, _, rfl, _, _, rfl, rfl, _, _, rfl, s1.trans s3, some x, some (.int ((val b y : Nat) : Int)), some (.int ((powc b (min (val b y) 401) : Nat) : Int)), o6', ?_⟩
        have e : (if (2582249878086908589655919172003011874329705792829223512830659356540647622016841194629645353280137831435903171972747493376 : Int) < ((valL b 0 (bs.take i) : Nat) : Int) + ((powc b (min (val b y) 401) : Nat) : Int) then (2582249878086908589655919172003011874329705792829223512830659356540647622016841194629645353280137831435903171972747493376 : Int) else ((valL b 0 (bs.take i) : Nat) : Int) + ((powc b (min (val b y) 401) : Nat) : Int)) = ((valL b 0 (bs.take (i + 1)) : Nat) : Int) := by
          rw [take_more hy, valL_snoc, GR_int, ← Int.natCast_add]; exact min_int _ _
        rw [e]; rfl
    · rintro σ H1 ⟨s1, o3, o4, o5, o6, rfl⟩
      rw [hbl, List.take_length, ← val_mk]
      exact ⟨_, rfl, q _ s1⟩
end
section
variable {P : Program} {w : World} {K : PySem.W.Frag} {mg : Str → Option Value} {base : Heap}
/-! ### number_of -/
def spNumberOf (A1 A2 A3 : Addr) : Sp := fun vs H Q E => ∃ v vb, vs = [v, vb] ∧ (
  (∃ t, TreeAt H v t ∧ okT t ∧ (
    (∃ b : Nat, vb = .int (b : Nat) ∧ 2 ≤ b ∧ Bits (b : Int) 1000 ∧ (
      (cw b (told t) = false ∧ ∀ H', Same H H' → E (.ref A2) none H')
      ∨ (cw b (told t) = true ∧ val b t < GR ∧ ∀ H', Same H H' → Q (.int ((val b t : Nat) : Int)) H')
      ∨ (cw b (told t) = true ∧ GR ≤ val b t ∧ ∀ H', Same H H' → E (.ref A3) none H')))
    ∨ (NoBase H vb ∧ ∀ H', Same H H' → E (.ref A2) none H')))
  ∨ (Bad H v ∧ ∀ H', Same H H' → E (.ref A1) none H'))
theorem ok_number_of (T : Txt K mg) : FnOk P w K mg base (L2N.CX P w) 44 T.a_number_of T.d_number_of ["tree", "base"] (spNumberOf T.A_BadTree T.A_BadBase T.A_TooGreat) := by
  have G_asked_tree := ok_asked_tree (P := P) (w := w) (base := base) T
  have G_asked_base := ok_asked_base (P := P) (w := w) (base := base) T
  have G_told_of := ok_told_of (P := P) (w := w) (base := base) T 41
  have G_can_write := ok_can_write (P := P) (w := w) (base := base) T 41
  have G_value_of := ok_value_of (P := P) (w := w) (base := base) T 41
  refine okN T.F_number_of sc_number_of (fun vs H Q E h => ?_) (fun cdv A outer s H vs Q E hr h => ?_)
  · obtain ⟨v, vb, rfl, _⟩ := h; rfl
  obtain ⟨v, vb, rfl, h⟩ := h
  have R_asked_tree : Room 43 _ := hr
  have R_asked_base : Room 2 _ := hr.mono (by omega)
  have R_told_of : Room 43 _ := hr
  have R_can_write : Room 41 _ := hr.mono (by omega)
  have R_value_of : Room 41 _ := hr.mono (by omega)
  refine ⟨_, (pss_cons (ps_expr (pe_call G_asked_tree R_asked_tree rfl T.m_asked_tree T.k_asked_tree T.b_asked_tree .nil (L2N.passes_call (L2N.takes_of rfl rfl rfl rfl) (fun _ _ _ _ h => h)) (pa_cons (pv 0) pa_nil)))
      (pss_cons (ps_expr (pe_call G_asked_base R_asked_base rfl T.m_asked_base T.k_asked_base T.b_asked_base .nil (L2N.passes_call (L2N.takes_of rfl rfl rfl rfl) (fun _ _ _ _ h => h)) (pa_cons (pv 1) pa_nil)))
      (pss_cons (ps_if (pt_not (pt_val (pe_call G_can_write R_can_write rfl T.m_can_write T.k_can_write T.b_can_write .nil pass0 (pa_cons (pe_call G_told_of R_told_of rfl T.m_told_of T.k_told_of T.b_told_of .nil pass0 (pa_cons (pv 0) pa_nil)) (pa_cons (pv 1) pa_nil))))) (pss_one (L2N.ps_raise rfl (L2N.takes_of rfl rfl rfl rfl) (L2N.pmk_own PySem.F.excBase_ValueError T.x_BadBase T.g_BadBase T.k_BadBase (raises_own T.sb_BadBase T.tt_BadBase) (by exact rfl)))) pss_nil)
      (pss_cons (ps_set (i := 2) sc_number_of.nd rfl (Or.inl rfl) (pe_call G_value_of R_value_of rfl T.m_value_of T.k_value_of T.b_value_of .nil pass0 (pa_cons (pv 0) (pa_cons (pv 1) pa_nil))))
      (pss_cons (ps_if (pt_cmpR op_ge (pv 2) (pe_glob (v := .int 2582249878086908589655919172003011874329705792829223512830659356540647622016841194629645353280137831435903171972747493376) rfl T.c_GREATEST ⟨_, rfl⟩) (nomark _)) (pss_one (L2N.ps_raise rfl (L2N.takes_of rfl rfl rfl rfl) (L2N.pmk_own PySem.F.excBase_ValueError T.x_TooGreat T.g_TooGreat T.k_TooGreat (raises_own T.sb_TooGreat T.tt_TooGreat) (by exact rfl)))) pss_nil)
      (pss_one (ps_ret (pv 2)))))))), ?_⟩
  rcases h with ⟨t, ht, ho, h⟩ | ⟨hb, q⟩
  case inr => exact ⟨_, rfl, v, rfl, .inr ⟨hb, q⟩⟩
  refine ⟨_, rfl, v, rfl, .inl ⟨t, ht, ho, fun H1 s1 => ?_⟩⟩
  rcases h with ⟨b, rfl, hb2, hbb, h⟩ | ⟨hb, q⟩
  case inr => exact ⟨_, rfl, _, rfl, .inr ⟨hb.same s1, q _ s1⟩⟩
  refine ⟨_, rfl, _, rfl, .inl ⟨b, rfl, hb2, ?_⟩⟩
  have o2 := okT_told ho
  refine ⟨_, rfl, v, t, rfl, TreeAt.same s1 _ ht, ho.fit, ho.dp, fun H2 r n2 => ?_⟩
  refine ⟨_, rfl, r, b, _, rfl, n2.at_, o2.fit, o2.dp, Nat.le_trans o2.2 (by decide), by omega, fun H3 s3 => ⟨_, rfl, ?_⟩⟩
  have s03 := s1.trans (n2.1.trans s3)
  rcases h with ⟨hc, q⟩ | ⟨hc, hv, q⟩ | ⟨hc, hv, q⟩
  · rw [hc]
    exact iteT (q _ s03)
  · rw [hc]
    refine iteF ?_
    refine ⟨_, rfl, _, rfl, v, b, t, rfl, TreeAt.same s03 _ ht, ho.dp, hbb.mono (by decide), fun H4 s4 => ?_⟩
    refine ⟨_, rfl, _, _, rfl, rfl, _, rfl, ?_⟩
    rw [decide_eq_false (show ¬ (2582249878086908589655919172003011874329705792829223512830659356540647622016841194629645353280137831435903171972747493376 : Int) ≤ ((val b t : Nat) : Int) by rw [GR_int]; omega)]
    exact iteF ⟨_, rfl, q _ (s03.trans s4)⟩
  · rw [hc]
    refine iteF ?_
    refine ⟨_, rfl, _, rfl, v, b, t, rfl, TreeAt.same s03 _ ht, ho.dp, hbb.mono (by decide), fun H4 s4 => ?_⟩
    refine ⟨_, rfl, _, _, rfl, rfl, _, rfl, ?_⟩
    rw [decide_eq_true (show (2582249878086908589655919172003011874329705792829223512830659356540647622016841194629645353280137831435903171972747493376 : Int) ≤ ((val b t : Nat) : Int) by rw [GR_int]; omega)]
    exact iteT (q _ (s03.trans s4))
/-! ### stepped -/
def spStepped (A1 A2 A3 : Addr) : Sp := fun vs H Q E => ∃ vn vb, vs = [vn, vb] ∧ (
  (∃ n : Nat, vn = .int (n : Nat) ∧ n < GR ∧ (
    (∃ b : Nat, vb = .int (b : Nat) ∧ 2 ≤ b ∧ Bits (b : Int) 1000 ∧ (
      (knots (writtenT b n) ≤ 300 ∧ val (b + 1) (writtenT b n) < GR ∧ ∀ H', Same H H' → Q (.int ((val (b + 1) (writtenT b n) - 1 : Nat) : Int)) H')
      ∨ (knots (writtenT b n) ≤ 300 ∧ GR ≤ val (b + 1) (writtenT b n) ∧ ∀ H', Same H H' → E (.ref A3) none H')
      ∨ (TooBig 299 b n ∧ ∀ H', Same H H' → E (.ref A3) none H')))
    ∨ (NoBase H vb ∧ E (.ref A2) none H)))
  ∨ (NoNumber H vn ∧ E (.ref A1) none H))
theorem ok_stepped (T : Txt K mg) : FnOk P w K mg base (L2N.CX P w) 42 T.a_stepped T.d_stepped ["number", "base"] (spStepped T.A_BadNumber T.A_BadBase T.A_TooGreat) := by
  have G_written := ok_written (P := P) (w := w) (base := base) T
  have G_value_of := ok_value_of (P := P) (w := w) (base := base) T 41
  refine okN T.F_stepped sc_stepped (fun vs H Q E h => ?_) (fun cdv A outer s H vs Q E hr h => ?_)
  · obtain ⟨vn, vb, rfl, _⟩ := h; rfl
  obtain ⟨vn, vb, rfl, h⟩ := h
  have R_written : Room 7 _ := hr.mono (by omega)
  have R_value_of : Room 41 _ := hr
  refine ⟨_, (pss_cons (ps_set (i := 2) sc_stepped.nd rfl (Or.inl rfl) (pe_call G_written R_written rfl T.m_written T.k_written T.b_written .nil (L2N.passes_call (L2N.takes_of rfl rfl rfl rfl) (fun _ _ _ _ h => h)) (pa_cons (pv 0) (pa_cons (pv 1) pa_nil))))
      (pss_cons (ps_set (i := 3) sc_stepped.nd rfl (Or.inl rfl) (pe_call G_value_of R_value_of rfl T.m_value_of T.k_value_of T.b_value_of .nil pass0 (pa_cons (pv 2) (pa_cons (pe_op op_add (pv 1) pe_int) pa_nil))))
      (pss_cons (ps_if (pt_cmpR op_ge (pv 3) (pe_glob (v := .int 2582249878086908589655919172003011874329705792829223512830659356540647622016841194629645353280137831435903171972747493376) rfl T.c_GREATEST ⟨_, rfl⟩) (nomark _)) (pss_one (L2N.ps_raise rfl (L2N.takes_of rfl rfl rfl rfl) (L2N.pmk_own PySem.F.excBase_ValueError T.x_TooGreat T.g_TooGreat T.k_TooGreat (raises_own T.sb_TooGreat T.tt_TooGreat) (by exact rfl)))) pss_nil)
      (pss_one (ps_ret (pe_callB (call_max2 rfl) (by rfl) T.z_max (by decide +kernel) (pa_cons pe_int (pa_cons (pe_op op_sub (pv 3) pe_int) pa_nil)))))))), ?_⟩
  rcases h with ⟨n, rfl, hn, h⟩ | ⟨hn, q⟩
  case inr => exact ⟨_, rfl, _, rfl, _, _, rfl, .inr ⟨hn, q⟩⟩
  rcases h with ⟨b, rfl, hb, bb, h⟩ | ⟨hb, q⟩
  case inr => exact ⟨_, rfl, _, rfl, _, _, rfl, .inl ⟨n, rfl, hn, .inr ⟨hb, q⟩⟩⟩
  have ev : (b : Int) + 1 = ((b + 1 : Nat) : Int) := rfl
  have b1 : Bits ((b + 1 : Nat) : Int) 1001 := by rw [← ev]; exact bb.add (Bits.mono (a := 1) (by show (1 : Nat) < 2; decide) (by decide))
  have dw := written_depth hb 6 n (tw6 hn)
  rcases h with ⟨hk, hv, q⟩ | ⟨hk, hv, q⟩ | ⟨hk, q⟩
  · refine ⟨_, rfl, _, rfl, _, _, rfl, .inl ⟨n, rfl, hn, .inl ⟨b, rfl, hb, bb, .inl ⟨hk, fun H1 r n1 => ?_⟩⟩⟩⟩
    refine ⟨_, rfl, _, rfl, _, _, rfl, rfl, r, b + 1, _, rfl, n1.at_, Nat.lt_of_lt_of_le dw (by decide), b1, fun H2 s2 => ?_⟩
    refine ⟨_, rfl, _, _, rfl, rfl, _, rfl, ?_⟩
    rw [decide_eq_false (show ¬ (2582249878086908589655919172003011874329705792829223512830659356540647622016841194629645353280137831435903171972747493376 : Int) ≤ ((val (b + 1) (writtenT b n) : Nat) : Int) by rw [GR_int]; omega)]
    refine iteF ⟨_, rfl, _, _, rfl, rfl, _, _, rfl, ?_⟩
    have e : (if ((val (b + 1) (writtenT b n) : Nat) : Int) - 1 > 0 then ((val (b + 1) (writtenT b n) : Nat) : Int) - 1 else 0) = ((val (b + 1) (writtenT b n) - 1 : Nat) : Int) := by
      by_cases c : ((val (b + 1) (writtenT b n) : Nat) : Int) - 1 > 0
      · rw [if_pos c]; omega
      · rw [if_neg c]; omega
    show Q (.int (if ((val (b + 1) (writtenT b n) : Nat) : Int) - 1 > 0 then ((val (b + 1) (writtenT b n) : Nat) : Int) - 1 else 0)) H2
    rw [e]
    exact q _ (n1.1.trans s2)
  · refine ⟨_, rfl, _, rfl, _, _, rfl, .inl ⟨n, rfl, hn, .inl ⟨b, rfl, hb, bb, .inl ⟨hk, fun H1 r n1 => ?_⟩⟩⟩⟩
    refine ⟨_, rfl, _, rfl, _, _, rfl, rfl, r, b + 1, _, rfl, n1.at_, Nat.lt_of_lt_of_le dw (by decide), b1, fun H2 s2 => ?_⟩
    refine ⟨_, rfl, _, _, rfl, rfl, _, rfl, ?_⟩
    rw [decide_eq_true (show (2582249878086908589655919172003011874329705792829223512830659356540647622016841194629645353280137831435903171972747493376 : Int) ≤ ((val (b + 1) (writtenT b n) : Nat) : Int) by rw [GR_int]; omega)]
    exact iteT (q _ (n1.1.trans s2))
  · exact ⟨_, rfl, _, rfl, _, _, rfl, .inl ⟨n, rfl, hn, .inl ⟨b, rfl, hb, bb, .inr ⟨hk, q⟩⟩⟩⟩
end
section
variable {P : Program} {w : World} {K : PySem.W.Frag} {mg : Str → Option Value} {base : Heap}
/-! ### text_of -/
def spTextOf (n : Nat) : Sp := fun vs H Q _ => ∃ (v : V) (t : Tt), vs = [v] ∧ TreeAt H v t ∧ knots t ≤ 100000 ∧ depth t < n ∧ ∀ H', Same H H' → Q (.str (mkS (txt t))) H'
theorem sum_len : ∀ l : List (List Nat), ((l.map mkS).map (·.length)).sum = l.flatten.length
  | [] => rfl
  | x :: l => by
    rw [List.map_cons, List.map_cons, List.sum_cons, sum_len l, List.flatten_cons, List.length_append]
    have := mkS_len x
    omega
theorem ok_text_of (T : Txt K mg) : ∀ n, FnOk P w K mg base CX0 n T.a_text_of T.d_text_of ["tree"] (spTextOf n)
  | 0 => none_left fun vs H Q E ⟨v, t, _, _, _, h, _⟩ => by omega
  | n + 1 => by
    have G_text_of := ok_text_of T n
    refine T.F_text_of.ok sc_text_of (fun vs H Q E h => ?_) (fun cdv A outer s H vs Q E hr h => ?_)
    · obtain ⟨v, t, rfl, _⟩ := h; rfl
    obtain ⟨v, ⟨bs⟩, rfl, ht, hk, hd, q⟩ := h
    have R_text_of : Room n _ := hr
    rw [treeAt_mk] at ht
    obtain ⟨a, xs, rfl, ha, hbs⟩ := ht
    have hk' : 1 + knotsL bs ≤ 100000 := by rw [knots] at hk; exact hk
    have hlen := knotsL_len bs
    refine ⟨_, (pss_one (ps_ret (pe_bm PySem.F.plainAttrs_str PySem.F.slot_str_join PySem.F.type_str_join mt_join pe_str (pa_cons (pe_lc (own := [("branch", 1)]) (g := gName 1) (tt := tYes) rfl sc_text_of.nd (pi_list (pv 0)) (blkOk_by (own := [("branch", 1)]) (N := ["tree", "branch"]) (sc := defScope s_text_of) (by decide +kernel)) (fun _ _ _ _ _ => (pg_name (i := 1) sc_text_of.nd rfl (Or.inl rfl))) (fun _ _ _ _ _ => pts_nil) (fun _ _ _ _ _ => (pe_op op_add_str (pe_op op_add_str pe_str (pe_call G_text_of R_text_of rfl T.m_text_of T.k_text_of T.b_text_of .nil pass0 (pa_cons (pv 1) pa_nil))) pe_str))) pa_nil)))), ?_⟩
    refine ⟨rfl, _, rfl, a, rfl, ⟨xs, SqL.of ha⟩, fun D nD => ?_⟩
    refine lc_it (walk_list (xs := xs)) (fun i H' => Fill H H' D (((bs.take i).map fun x => 40 :: (txt x ++ [41])).map fun l => V.str (mkS l))) (Fill.start nD) (fun i H' _ g => SqL.of (g.1 _ _ ha)) ?_ ?_
    · rintro i x H1 H2 hi g ⟨rfl, hx⟩
      obtain ⟨b, hb, hxb⟩ := hbs.get hx
      have mb := List.mem_of_getElem? hb
      have hib := (List.getElem?_eq_some_iff.mp hb).1
      have kb := knotsL_mem mb
      have lb := txt_len b
      have szl : (100000 : Nat) * 2 + 2 ≤ sizeLine := by decide
      refine ⟨rfl, _, rfl, x, b, rfl, TreeAt.same g.1 b hxb, by omega, depth_bs hd mb, fun H3 s3 => ?_⟩
      have e1 : Str.ofString "(" ++ mkS (txt b) = mkS (40 :: txt b) := by rw [lit40, mkS_append]; rfl
      have e2 : mkS (40 :: txt b) ++ Str.ofString ")" = mkS (40 :: (txt b ++ [41])) := by rw [lit41, mkS_append]; rfl
      refine ⟨_, _, rfl, rfl, ?_, ?_⟩
      · rw [lit40, mkS_len, mkS_len, List.length_singleton]; omega
      rw [e1]
      refine ⟨_, _, rfl, rfl, ?_, ?_⟩
      · rw [lit41, mkS_len, mkS_len, List.length_singleton, List.length_cons]; omega
      rw [e2]
      obtain ⟨h1, h2⟩ := g.more (v := .str (mkS (40 :: (txt b ++ [41])))) s3
      refine ⟨_, h1, ?_, ?_⟩
      · rw [List.length_map, List.length_map, List.length_take]
        exact lim_line (by have : (100000 : Nat) ≤ lim := by decide
                           omega)
      · rw [take_more hb, List.map_append, List.map_append]; exact h2
    · intro H1 g
      rw [hbs.len, List.take_length] at g
      have ef := flatten_txt bs
      refine ⟨_, D, (bs.map fun x => 40 :: (txt x ++ [41])).map mkS, rfl, rfl, .inl (SqL.of (by rw [g.2.2, List.map_map, List.map_map, List.map_map]; rfl)), ?_, ?_⟩
      · rw [sum_len, ef, txtL_len, List.length_map, List.length_map]
        have : (Str.ofString "").length = 0 := by rw [litE, mkS_len]; rfl
        rw [this]
        omega
      · rw [litE, join_nil, ef]
        have := q H1 g.1
        rw [txt_mk] at this
        exact this
/-! ### text -/
def spText (A : Addr) : Sp := fun vs H Q E => ∃ v, vs = [v] ∧ ((∃ t, TreeAt H v t ∧ okT t ∧ ∀ H', Same H H' → Q (.str (mkS (txt (told t)))) H') ∨ (Bad H v ∧ ∀ H', Same H H' → E (.ref A) none H'))
theorem ok_text (T : Txt K mg) : FnOk P w K mg base (L2N.CX P w) 44 T.a_text T.d_text ["tree"] (spText T.A_BadTree) := by
  have G_asked_tree := ok_asked_tree (P := P) (w := w) (base := base) T
  have G_told_of := ok_told_of (P := P) (w := w) (base := base) T 41
  have G_text_of := ok_text_of (P := P) (w := w) (base := base) T 41
  refine okN T.F_text sc_text (fun vs H Q E h => ?_) (fun cdv A outer s H vs Q E hr h => ?_)
  · obtain ⟨v, rfl, _⟩ := h; rfl
  obtain ⟨v, rfl, h⟩ := h
  have R_asked_tree : Room 43 _ := hr
  have R_told_of : Room 43 _ := hr
  have R_text_of : Room 41 _ := hr.mono (by omega)
  refine ⟨_, (pss_cons (ps_expr (pe_call G_asked_tree R_asked_tree rfl T.m_asked_tree T.k_asked_tree T.b_asked_tree .nil (L2N.passes_call (L2N.takes_of rfl rfl rfl rfl) (fun _ _ _ _ h => h)) (pa_cons (pv 0) pa_nil)))
      (pss_one (ps_ret (pe_call G_text_of R_text_of rfl T.m_text_of T.k_text_of T.b_text_of .nil pass0 (pa_cons (pe_call G_told_of R_told_of rfl T.m_told_of T.k_told_of T.b_told_of .nil pass0 (pa_cons (pv 0) pa_nil)) pa_nil))))), ?_⟩
  rcases h with ⟨t, ht, ho, q⟩ | ⟨hb, q⟩
  · refine ⟨_, rfl, v, rfl, .inl ⟨t, ht, ho, fun H1 s1 => ?_⟩⟩
    refine ⟨_, rfl, v, t, rfl, TreeAt.same s1 t ht, ho.fit, ho.dp, fun H2 r nw => ?_⟩
    exact ⟨r, told t, rfl, nw.at_, by rw [knots_told]; exact Nat.le_trans ho.1 (by decide), depth_told ho.dp, fun H3 s3 => q _ (s1.trans (nw.1.trans s3))⟩
  · exact ⟨_, rfl, v, rfl, .inr ⟨hb, fun H1 s1 => q _ s1⟩⟩
end
/-- the last but one takes the last one in -/
theorem Grow.fold {H H' : Hp} {O : Addr} {ts p b : List Tt} (g : Grow H H' O (ts ++ [.mk p, .mk b])) : ∃ acc ap ab pv, H' O = some (.lst (acc ++ [.ref ap, .ref ab])) ∧ acc.length = ts.length ∧ ap ≠ O ∧ H' ap = some (.lst pv) ∧ pv.length = p.length ∧
    Grow H (upd (upd H' O (.lst (acc ++ [.ref ap]))) ap (.lst (pv ++ [.ref ab]))) O (ts ++ [.mk (p ++ [.mk b])]) := by
  obtain ⟨k, hO, vs, as, h1, ow, nd, fr⟩ := g
  obtain ⟨acc, v2, a1, a2, rfl, rfl, o1, o2⟩ := ow.split
  rw [owns_cons] at o2
  obtain ⟨vp, w2, c1, c2, rfl, rfl, p1, p2⟩ := o2
  rw [owns_cons] at p2
  obtain ⟨vb, w3, c3, c4, rfl, rfl, p3, p4⟩ := p2
  rw [owns_nil] at p4
  obtain ⟨rfl, rfl⟩ := p4
  rw [own_mk] at p1 p3
  obtain ⟨ap, pv, asp, rfl, rfl, hp, op⟩ := p1
  obtain ⟨ab, bv, asb, rfl, rfl, hb, ob⟩ := p3
  rw [List.append_nil] at nd fr
  obtain ⟨nO, nas⟩ := List.nodup_cons.mp nd
  obtain ⟨n1, n2, n12⟩ := List.nodup_append.mp nas
  obtain ⟨n3, n4, n34⟩ := List.nodup_append.mp n2
  obtain ⟨n5, n6⟩ := List.nodup_cons.mp n3
  have apO : ap ≠ O := fun e => nO (by rw [← e]; exact List.mem_append_right _ (List.mem_append_left _ List.mem_cons_self))
  have keep : ∀ c, c ≠ O → c ≠ ap → ∀ o, H' c = some o → upd (upd H' O (.lst (acc ++ [.ref ap]))) ap (.lst (pv ++ [.ref ab])) c = some o := fun c h1 h2 o e => by
    rw [upd_ne h2, upd_ne h1]; exact e
  have ap1 : ∀ c, c ∈ a1 → c ≠ ap := fun c hc e => n12 c hc ap (List.mem_append_left _ List.mem_cons_self) e
  have ne1 : ∀ c, c ∈ a1 → c ≠ O := fun c hc e => nO (by rw [← e]; exact List.mem_append_left _ hc)
  have ne2 : ∀ c, c ∈ asp → c ≠ O := fun c hc e => nO (by rw [← e]; exact List.mem_append_right _ (List.mem_append_left _ (List.mem_cons_of_mem _ hc)))
  have ne3 : ∀ c, c ∈ (ab :: asb) → c ≠ O := fun c hc e => nO (by rw [← e]; exact List.mem_append_right _ (List.mem_append_right _ hc))
  have ap2 : ∀ c, c ∈ asp → c ≠ ap := fun c hc e => n5 (by rw [← e]; exact hc)
  have ap3 : ∀ c, c ∈ (ab :: asb) → c ≠ ap := fun c hc e => n34 ap List.mem_cons_self c hc e.symm
  refine ⟨acc, ap, ab, pv, h1, o1.len, apO, hp, op.len, ⟨fun c o e => ?_, hO, acc ++ [.ref ap], a1 ++ (ap :: (asp ++ (ab :: asb))), ?_, ?_, ?_, fun c hc => ?_⟩⟩
  · have h2 : c ≠ ap := fun z => by
      have := fr ap (List.mem_append_right _ (List.mem_append_left _ List.mem_cons_self))
      rw [z, this] at e; cases e
    exact keep c (ne_of_none e hO) h2 o (k _ _ e)
  · rw [upd_ne apO.symm]; exact upd_same
  · refine Owns.append (Owns.frame _ o1 fun c hc o e => keep c (ne1 c hc) (ap1 c hc) o e) (Owns.one ?_)
    rw [own_mk]
    refine ⟨ap, _, _, rfl, rfl, upd_same, Owns.append (Owns.frame _ op fun c hc o e => keep c (ne2 c hc) (ap2 c hc) o e) (Owns.one ?_)⟩
    rw [own_mk]
    refine ⟨ab, bv, asb, rfl, rfl, keep ab (ne3 ab List.mem_cons_self) (ap3 ab List.mem_cons_self) _ hb, Owns.frame _ ob fun c hc o e => keep c (ne3 c (List.mem_cons_of_mem _ hc)) (ap3 c (List.mem_cons_of_mem _ hc)) o e⟩
  · have e : a1 ++ (ap :: (asp ++ (ab :: asb))) = a1 ++ (ap :: asp ++ (ab :: asb)) := by simp
    rw [e]; exact nd
  · have e : a1 ++ (ap :: (asp ++ (ab :: asb))) = a1 ++ (ap :: asp ++ (ab :: asb)) := by simp
    rw [e] at hc; exact fr c hc
/-- the one that is left -/
theorem Grow.only {H H' : Hp} {O : Addr} {t : List Tt} (g : Grow H H' O [.mk t]) : ∃ r, H' O = some (.lst [r]) ∧ New H H' r (.mk t) := by
  obtain ⟨k, hO, vs, as, h1, ow, nd, fr⟩ := g
  rw [owns_cons] at ow
  obtain ⟨v, w, c1, c2, rfl, rfl, p1, p2⟩ := ow
  rw [owns_nil] at p2
  obtain ⟨rfl, rfl⟩ := p2
  rw [List.append_nil] at nd fr
  exact ⟨v, h1, k, c1, p1, (List.nodup_cons.mp nd).2, fr⟩
/-- the stack as it lies in the list, the innermost last -/
def stkT (st : Stk) : List Tt := st.reverse.map Tt.mk
theorem stkT_push (st : Stk) : stkT ([] :: st) = stkT st ++ [.mk []] := by unfold stkT; simp
theorem stkT_two (b p : List Tt) (r : Stk) : stkT (b :: p :: r) = stkT r ++ [.mk p, .mk b] := by unfold stkT; simp
theorem stkT_fold (b p : List Tt) (r : Stk) : stkT ((p ++ [.mk b]) :: r) = stkT r ++ [.mk (p ++ [.mk b])] := by unfold stkT; simp
theorem stkT_len (st : Stk) : (stkT st).length = st.length := by unfold stkT; simp
theorem atI_end {α : Type} (xs : List α) (v : α) : atI (xs ++ [v]) (-1) = some v := atI_last xs v
theorem sign_eq (c : Nat) : (V.str ⟨#[c]⟩ = V.str (Str.ofString "(")) ↔ c = 40 := by
  rw [lit40]
  constructor
  · intro h
    injection h with h
    unfold mkS at h
    injection h with h
    have := congrArg Array.toList h
    simpa using this
  · intro h; rw [h]; rfl
/-- open_ones = [[]] -/
theorem grow_one {H : Hp} {p0 O : Addr} (np0 : H p0 = none) (nO : upd H p0 (.lst []) O = none) : Grow H (upd (upd H p0 (.lst [])) O (.lst [.ref p0])) O (stkT [[]]) := by
  have s1 : Same H (upd H p0 (.lst [])) := same_new np0 _
  have u1 : upd H p0 (.lst []) p0 = some (.lst []) := upd_same
  have ne : p0 ≠ O := fun e => by rw [e] at u1 nO; rw [nO] at u1; cases u1
  have s2 : Same (upd H p0 (.lst [])) (upd (upd H p0 (.lst [])) O (.lst [.ref p0])) := same_new nO _
  refine ⟨s1.trans s2, s1.free nO, [.ref p0], [p0], upd_same, ?_, ?_, ?_⟩
  · refine Owns.one ?_
    rw [own_mk]
    refine ⟨p0, [], [], rfl, rfl, s2 _ _ u1, ?_⟩
    rw [owns_nil]
    exact ⟨rfl, rfl⟩
  · simp; exact fun e => ne e.symm
  · intro a ha
    rw [List.mem_singleton] at ha
    rw [ha]; exact np0
theorem rdL_at {l : List Nat} {i c : Nat} {st : Stk} (h : l[i]? = some c) : rdL st l = (rdL st (l.take i)).bind fun s => rdL s (c :: l.drop (i + 1)) := by
  have e : l = l.take i ++ (c :: l.drop (i + 1)) := by
    obtain ⟨hi, e⟩ := List.getElem?_eq_some_iff.mp h
    rw [← e, List.getElem_cons_drop, List.take_append_drop]
  rw [← rdL_append, ← e]
theorem len_knotsL : ∀ l : List Tt, l.length ≤ knotsL l
  | [] => by simp [knotsL]
  | x :: l => by
    rw [List.length_cons, knotsL]
    have := len_knotsL l
    have := depth_knots x
    omega
theorem stT_le : ∀ st : Stk, st ≠ [] → st.length ≤ (stT st).length + 1 ∧ ∀ p, p ∈ st → p.length ≤ (stT st).length
  | [], h => absurd rfl h
  | [s], _ => by
    refine ⟨by simp, fun p hp => ?_⟩
    rw [List.mem_singleton] at hp
    subst hp
    show _ ≤ (txtL p).length
    have := txtL_len p
    have := len_knotsL p
    omega
  | s :: t :: r, _ => by
    obtain ⟨h1, h2⟩ := stT_le (t :: r) (by simp)
    have e1 : (stT (s :: t :: r)).length = (stT (t :: r)).length + ((txtL s).length + 1) := by
      rw [stT_two, List.length_append, List.length_cons]
    rw [e1]
    refine ⟨by rw [List.length_cons]; omega, fun p hp => ?_⟩
    rcases List.mem_cons.mp hp with e | hp
    · subst e
      have := txtL_len p
      have := len_knotsL p
      omega
    · have := h2 p hp
      omega
theorem stk_le {l : List Nat} {st : Stk} (h : rdL [[]] l = some st) (hb : brk l) : st.length ≤ l.length + 1 ∧ ∀ p, p ∈ st → p.length ≤ l.length := by
  obtain ⟨h1, h2⟩ := rdS_txt _ _ _ (by simp) hb (rdL_rdS _ _ _ h)
  have h3 := stT_le st h1
  have e : stT st = l := by
    rw [h2]
    show txtL [] ++ l = l
    rw [txtL_nil]; rfl
  rw [e] at h3
  exact h3
section
variable {P : Program} {w : World} {K : PySem.W.Frag} {mg : Str → Option Value} {base : Heap}
/-! ### read -/
/-- no text at all, too long a one, one with other signs -/
inductive BadTx (K : PySem.W.Frag) (H : Hp) : V → Prop where
  | other {v : V} {ty : Value} (h : TyX K H v ty) (k : PySem.W.kitOne K ty (.type "str") = some false) : BadTx K H v
  | long {z : Str} (h : 598 < z.length) (hz : z.length ≤ sizeLine) : BadTx K H (.str z)
  | signs {z : Str} (h : z.length ≤ 598) (k : Txt.stripChars z (Str.ofString "()") ≠ Str.ofString "") : BadTx K H (.str z)
def spRead (K : PySem.W.Frag) (A : Addr) : Sp := fun vs H Q E => ∃ v, vs = [v] ∧
  ((∃ l, v = .str (mkS l) ∧ brk l ∧ l.length ≤ 598 ∧ (∀ t, rdL [[]] l = some [t] → ∀ H' r, New H H' r (.mk t) → Q r H') ∧ ((∀ t, rdL [[]] l ≠ some [t]) → ∀ H', Same H H' → E (.ref A) none H')) ∨
    (BadTx K H v ∧ ∀ H', Same H H' → E (.ref A) none H'))
theorem ok_read (T : Txt K mg) : FnOk P w K mg base (L2N.CX P w) 2 T.a_read T.d_read ["text"] (spRead K T.A_BadText) := by
  refine okN T.F_read sc_read (fun vs H Q E h => ?_) (fun cdv A outer s H vs Q E hr h => ?_)
  · obtain ⟨v, rfl, _⟩ := h; rfl
  obtain ⟨v, rfl, h⟩ := h
  refine ⟨_, (pss_cons (ps_if (PW.pt (pw_or (pt_not (pt_val (pe_callB (r := rIsi K) call_isi (by rfl) T.z_isinstance (by decide +kernel) (pa_cons (pv 0) (pa_cons (pe_bltn (v := .ty "str") (u := .type "str") (by rfl) T.z_str (by decide +kernel) rfl) pa_nil))))) (pw_or (pt_cmpR op_gt (pe_callB call_len_str rfl T.z_len PySem.boot_len (pa_cons (pv 0) pa_nil)) (pe_op op_sub (pe_op op_mulX pe_int (pe_glob (v := .int 300) rfl T.c_MOST ⟨_, rfl⟩)) pe_int) (nomark _)) (pw_or1 (pt_cmpR op_ne (pe_bm PySem.F.plainAttrs_str PySem.F.slot_str_strip PySem.F.type_str_strip mt_stripChars (pv 0) (pa_cons pe_str pa_nil)) pe_str (nomark _)))))) (pss_one (L2N.ps_raise rfl (L2N.takes_of rfl rfl rfl rfl) (L2N.pmk_own PySem.F.excBase_ValueError T.x_BadText T.g_BadText T.k_BadText (raises_own T.sb_BadText T.tt_BadText) (by exact rfl)))) pss_nil)
      (pss_cons (ps_set (i := 1) sc_read.nd rfl (Or.inl rfl) (pe_lst (pa_cons (pe_lst pa_nil) pa_nil)))
      (pss_cons (ps_for (passes_of rfl) rfl (pi_str (pv 0)) (pg_name (i := 2) sc_read.nd rfl (Or.inl rfl)) (pss_cut2 (ps_if (pt_cmpR op_eq (pv 2) pe_str (nomark _)) (pss_one (ps_expr (pe_bm PySem.F.plainAttrs_list PySem.F.slot_list_append PySem.F.type_list_append mt_append (pv 1) (pa_cons (pe_lst pa_nil) pa_nil)))) (pss_one (ps_if (pt_cmpR op_gt (pe_callB (r := rLenS K) call_len_seqK rfl T.z_len PySem.boot_len (pa_cons (pv 1) pa_nil)) pe_int (nomark _)) (pss_cons (ps_set (i := 3) sc_read.nd rfl (Or.inl rfl) (pe_bm0 PySem.F.plainAttrs_list PySem.F.slot_list_pop PySem.F.type_list_pop mt_pop (pv 1)))
            (pss_one (ps_expr (pe_bm PySem.F.plainAttrs_list PySem.F.slot_list_append PySem.F.type_list_append mt_append (pe_ix (r := rIxL K) ix_list (pv 1) (pe_un un_neg pe_int) (fun _ _ => rfl)) (pa_cons (pv 3) pa_nil))))) (pss_one (L2N.ps_raise rfl (L2N.takes_of rfl rfl rfl rfl) (L2N.pmk_own PySem.F.excBase_ValueError T.x_BadText T.g_BadText T.k_BadText (raises_own T.sb_BadText T.tt_BadText) (by exact rfl)))))))
        (pss_one (ps_if (pt_cmpR op_gt (pe_callB (r := rLenS K) call_len_seqK rfl T.z_len PySem.boot_len (pa_cons (pv 1) pa_nil)) (pe_op op_add (pe_glob (v := .int 40) rfl T.c_DEEPEST ⟨_, rfl⟩) pe_int) (nomark _)) (pss_one (L2N.ps_raise rfl (L2N.takes_of rfl rfl rfl rfl) (L2N.pmk_own PySem.F.excBase_ValueError T.x_BadText T.g_BadText T.k_BadText (raises_own T.sb_BadText T.tt_BadText) (by exact rfl)))) pss_nil))))
      (pss_cons (ps_if (pt_cmpR op_gt (pe_callB (r := rLenS K) call_len_seqK rfl T.z_len PySem.boot_len (pa_cons (pv 1) pa_nil)) pe_int (nomark _)) (pss_one (L2N.ps_raise rfl (L2N.takes_of rfl rfl rfl rfl) (L2N.pmk_own PySem.F.excBase_ValueError T.x_BadText T.g_BadText T.k_BadText (raises_own T.sb_BadText T.tt_BadText) (by exact rfl)))) pss_nil)
      (pss_one (ps_ret (pe_ix (r := rIxL K) ix_list (pv 1) pe_int (fun _ _ => rfl)))))))), ?_⟩
  have mo : CMulX 2 300 := mulX (a := 2) (b := 9) (by decide) (by decide) (by decide)
  rcases h with ⟨l, rfl, hb, hl, qt, qf⟩ | ⟨hbad, q⟩
  · have hcl := mkS_len l
    have szl : (1000 : Nat) ≤ sizeLine := by decide
    refine ⟨_, rfl, _, _, .type "str", .type "str", true, rfl, ClsV.ty _, .base (.str _), kit_ty (by decide +kernel), _, rfl, iteF ?_⟩
    refine ⟨_, rfl, _, rfl, by rw [hcl]; omega, _, _, rfl, rfl, mo, _, _, rfl, rfl, _, _, rfl, rfl, _, rfl, ?_⟩
    refine ite2 (fun c => ?_) (fun c => ?_)
    · have c' : (2 * 300 - 2 : Int) < ((mkS l).length : Nat) := of_decide_eq_true c
      rw [hcl] at c'; omega
    refine ⟨_, rfl, rfl, _, _, rfl, rfl, by rw [hcl]; omega, ?_⟩
    have es : Txt.stripChars (mkS l) (Str.ofString "()") = Str.ofString "" := by rw [litB, litE, strip_brk hb]
    rw [es]
    refine ⟨rfl, _, rfl, iteNS rfl ?_⟩
    -- open_ones = [[]]
    refine ⟨(by show 0 ≤ sizeLine; decide), fun p0 np0 => ?_⟩
    have n0 : New H (upd H p0 (.lst [])) (.ref p0) (.mk []) := (Grow.start np0).done
    refine ⟨(by show 1 ≤ sizeLine; decide), fun O nO => ?_⟩
    have g0 : Grow H (upd (upd H p0 (.lst [])) O (.lst [.ref p0])) O (stkT [[]]) := grow_one np0 nO
    generalize upd (upd H p0 (.lst [])) O (.lst [.ref p0]) = G0 at g0 ⊢
    have e0 : (mkS l).cps.toList = l := by unfold mkS; simp
    have ez : (mkS l).cps.size = l.length := by unfold mkS; simp
    refine ⟨_, rfl, mkS l, rfl, ?_⟩
    refine for_it walk_str (fun i σ H' => ∃ o2 o3 st, σ = [some (.str (mkS l)), some (.ref O), o2, o3] ∧ rdL [[]] (l.take i) = some st ∧ Grow H H' O (stkT st)) ⟨none, none, [[]], rfl, rfl, g0⟩ (fun _ _ _ _ _ => trivial) ?_ ?_
    · rintro i x σ H1 H2 hi ⟨o2, o3, st, rfl, hst, g⟩ ⟨rfl, c, hc, rfl⟩
      have hc' : l[i]? = some c := by rw [← Array.getElem?_toList, e0] at hc; exact hc
      have hne : st ≠ [] := (rdS_txt _ _ _ (by simp) (fun d hd => hb d (List.mem_of_mem_take hd)) (rdL_rdS _ _ _ hst)).1
      have hbound := stk_le hst (fun d hd => hb d (List.mem_of_mem_take hd))
      have htk : (l.take i).length ≤ 598 := by rw [List.length_take]; omega
      have hcc := hb c (List.mem_of_getElem? hc')
      refine ⟨fun σ' H' => ∃ o3 s, σ' = [some (.str (mkS l)), some (.ref O), some (.str ⟨#[c]⟩), o3] ∧ step1 st c = some s ∧ Grow H H' O (stkT s), ?_, ?_⟩
      · refine ⟨_, rfl, rfl, _, rfl, ite2 (fun e => ?_) (fun e => ?_)⟩
        · have ec := (sign_eq c).mp (of_decide_eq_true e)
          obtain ⟨acc, hO, hacc, _⟩ := g.at_
          refine ⟨_, rfl, .inl ⟨rfl, _, SqL.of hO⟩, (by show 0 ≤ sizeLine; decide), fun p np => ?_⟩
          obtain ⟨acc2, h1, h2, h3⟩ := g.more (Grow.start np).done
          refine ⟨_, _, _, rfl, rfl, h1, ?_, o3, [] :: st, rfl, ?_, ?_⟩
          · rw [h2, stkT_len]; omega
          · unfold step1; rw [if_pos ec]
          · rw [stkT_push]; exact h3
        · have ec : ¬ c = 40 := fun z => e (decide_eq_true ((sign_eq c).mpr z))
          obtain ⟨acc, hO, hT, hacc⟩ := g.at_
          rw [stkT_len] at hacc
          refine ⟨_, rfl, _, _, rfl, .inl (SqL.of hO), _, _, rfl, rfl, _, rfl, ite2 (fun e2 => ?_) (fun e2 => ?_)⟩
          · have e3 : (1 : Int) < (acc.length : Nat) := of_decide_eq_true e2
            have e4 : 2 ≤ st.length := by omega
            obtain ⟨b, p, r, rfl⟩ : ∃ b p r, st = b :: p :: r := by
              match st, e4 with
              | b :: p :: r, _ => exact ⟨b, p, r, rfl⟩
            rw [stkT_two] at g
            obtain ⟨ac, ap, ab, pv, k1, k2, k3, k4, k5, k6⟩ := g.fold
            refine ⟨_, rfl, .inl ⟨rfl, _, SqL.of k1⟩, _, _, .ref ab, rfl, rfl, k1, ?_, ?_⟩
            · show (ac ++ [V.ref ap, V.ref ab])[(ac ++ [V.ref ap, V.ref ab]).length - 1]? = some (V.ref ab)
              have e5 : ac ++ [V.ref ap, V.ref ab] = (ac ++ [V.ref ap]) ++ [V.ref ab] := by simp
              rw [e5, List.length_append, List.length_singleton, Nat.add_sub_cancel]
              exact List.getElem?_concat_length
            · have e5 : (ac ++ [V.ref ap, V.ref ab]).dropLast = ac ++ [V.ref ap] := by
                have e5 : ac ++ [V.ref ap, V.ref ab] = (ac ++ [V.ref ap]) ++ [V.ref ab] := by simp
                rw [e5, List.dropLast_concat]
              rw [e5]
              have kp : upd H2 O (.lst (ac ++ [.ref ap])) ap = some (.lst pv) := by rw [upd_ne k3]; exact k4
              refine ⟨_, rfl, _, rfl, O, _, _, .ref ap, rfl, rfl, SqL.of upd_same, atI_end _ _, .inl ⟨rfl, _, SqL.of kp⟩, _, rfl, ap, pv, _, rfl, rfl, kp, ?_, _, (p ++ [.mk b]) :: r, rfl, ?_, ?_⟩
              · have := hbound.2 p (by simp)
                omega
              · unfold step1; rw [if_neg ec]
              · rw [stkT_fold]; exact k6
          · have e3 : ¬ (1 : Int) < (acc.length : Nat) := fun z => e2 (decide_eq_true z)
            refine qf (fun t ht => ?_) _ g.same
            obtain ⟨b, rfl⟩ : ∃ b, st = [b] := by
              match st, hne with
              | [b], _ => exact ⟨b, rfl⟩
              | b :: p :: r, _ => rw [List.length_cons, List.length_cons] at hacc; omega
            have hs : step1 [b] c = none := by unfold step1; rw [if_neg ec]
            rw [rdL_at hc', hst, Option.bind_some, rdL_cons, hs] at ht
            cases ht
      · rintro σ' H' ⟨o3', s1, rfl, hs1, g1⟩
        obtain ⟨acc, hO, hT, hacc⟩ := g1.at_
        rw [stkT_len] at hacc
        refine ⟨_, rfl, _, _, rfl, .inl (SqL.of hO), _, _, rfl, rfl, _, _, rfl, rfl, _, rfl, ite2 (fun e2 => ?_) (fun e2 => ?_)⟩
        · have e3 : (40 + 1 : Int) < (acc.length : Nat) := of_decide_eq_true e2
          refine qf (fun t ht => ?_) _ g1.same
          rw [rdL_at hc', hst, Option.bind_some, rdL_cons, hs1, Option.bind_some, if_pos (by omega)] at ht
          cases ht
        · have e3 : ¬ (40 + 1 : Int) < (acc.length : Nat) := fun z => e2 (decide_eq_true z)
          refine ⟨_, _, s1, rfl, ?_, g1⟩
          rw [take_more hc', rdL_append, hst, Option.bind_some, rdL_cons, hs1, Option.bind_some, if_neg (by omega)]
          rfl
    · rintro σ H1 ⟨o2, o3, st, rfl, hst, g⟩
      rw [ez, List.take_length] at hst
      have hne : st ≠ [] := (rdS_txt _ _ _ (by simp) hb (rdL_rdS _ _ _ hst)).1
      obtain ⟨acc, hO, hT, hacc⟩ := g.at_
      rw [stkT_len] at hacc
      refine ⟨_, rfl, _, _, rfl, .inl (SqL.of hO), _, _, rfl, rfl, _, rfl, ite2 (fun e2 => ?_) (fun e2 => ?_)⟩
      · have e3 : (1 : Int) < (acc.length : Nat) := of_decide_eq_true e2
        refine qf (fun t ht => ?_) _ g.same
        rw [hst] at ht
        injection ht with ht
        rw [ht, List.length_singleton] at hacc
        omega
      · have e3 : ¬ (1 : Int) < (acc.length : Nat) := fun z => e2 (decide_eq_true z)
        obtain ⟨b, rfl⟩ : ∃ b, st = [b] := by
          match st, hne with
          | [b], _ => exact ⟨b, rfl⟩
          | b :: p :: r, _ => rw [List.length_cons, List.length_cons] at hacc; omega
        obtain ⟨r, h1, h2⟩ := Grow.only g
        exact ⟨_, rfl, O, [r], 0, r, rfl, rfl, SqL.of h1, rfl, qt b hst _ _ h2⟩
  · have mo : CMulX 2 300 := mulX (a := 2) (b := 9) (by decide) (by decide) (by decide)
    cases hbad with
    | other ht hk => exact ⟨_, rfl, _, _, _, _, false, rfl, ClsV.ty _, ht, hk, _, rfl, iteT (q _ (Same.refl _))⟩
    | long hz hz2 =>
      refine ⟨_, rfl, _, _, .type "str", .type "str", true, rfl, ClsV.ty _, .base (.str _), kit_ty (by decide +kernel), _, rfl, iteF ?_⟩
      refine ⟨_, rfl, _, rfl, hz2, _, _, rfl, rfl, mo, _, _, rfl, rfl, _, _, rfl, rfl, _, rfl, ?_⟩
      refine ite2 (fun c => q _ (Same.refl _)) (fun c => absurd (decide_eq_true ?_) c)
      omega
    | signs hz hz2 =>
      refine ⟨_, rfl, _, _, .type "str", .type "str", true, rfl, ClsV.ty _, .base (.str _), kit_ty (by decide +kernel), _, rfl, iteF ?_⟩
      have szl : (598 : Nat) ≤ sizeLine := by decide
      refine ⟨_, rfl, _, rfl, by omega, _, _, rfl, rfl, mo, _, _, rfl, rfl, _, _, rfl, rfl, _, rfl, ?_⟩
      refine ite2 (fun c => q _ (Same.refl _)) (fun c => ?_)
      refine ⟨_, rfl, rfl, _, _, rfl, rfl, by omega, ?_⟩
      refine ⟨rfl, _, rfl, ?_⟩
      refine ite2 (fun c => q _ (Same.refl _)) (fun c => absurd ?_ c)
      simpa using hz2
end
section
variable {P : Program} {w : World} {K : PySem.W.Frag} {mg : Str → Option Value} {base : Heap}
theorem bad_of {H : Hp} {v : V} {th : Th} (h : ThAt H v th) (f : fitTh th) (e : (isT th 0 300).1 = false) : Bad H v := ⟨th, h, f, e⟩
theorem bad_leaf {H : Hp} {v : V} (h : Leaf H v) : Bad H v := bad_of (th := .no) (by rw [thAt_no]; exact h) (by rw [fitTh]; trivial) (by rw [isT_no])
theorem th_li {H : Hp} {a : Addr} {vs : List V} {ts : List Th} (h : H a = some (.lst vs)) (k : ThsAt H vs ts) : ThAt H (.ref a) (.li ts) := by rw [thAt_li]; exact ⟨a, vs, rfl, h, k⟩
theorem ths_nil {H : Hp} : ThsAt H [] [] := by rw [thsAt_nil]
theorem ths_cons {H : Hp} {v : V} {vs : List V} {t : Th} {ts : List Th} (h : ThAt H v t) (k : ThsAt H vs ts) : ThsAt H (v :: vs) (t :: ts) := by rw [thsAt_cons]; exact ⟨v, vs, rfl, h, k⟩
theorem th_no {H : Hp} {v : V} (h : Leaf H v) : ThAt H v .no := by rw [thAt_no]; exact h
theorem th_nil {H : Hp} {a : Addr} (h : H a = some (.lst [])) : ThAt H (.ref a) (.li []) := th_li h ths_nil
theorem fit_li {l : List Th} (h : l.length ≤ lim) (k : fitThL l) : fitTh (.li l) := by rw [fitTh]; exact ⟨h, k⟩
theorem fit_no : fitTh .no := by rw [fitTh]; trivial
theorem fitL0 : fitThL [] := by rw [fitThL]; trivial
theorem fitLc {x : Th} {l : List Th} (h : fitTh x) (k : fitThL l) : fitThL (x :: l) := by rw [fitThL]; exact ⟨h, k⟩
/-! ### a chain of lists, a leaf [] at its end; its lists from the outermost one inwards -/
def Ch (H : Hp) : List Addr → V → Prop
  | [], _ => False
  | [a], v => v = .ref a ∧ H a = some (.lst [])
  | a :: b :: l, v => v = .ref a ∧ (∃ r, H a = some (.lst (.ref b :: r)) ∧ (r = [] ∨ ∃ e, r = [.ref e] ∧ H e = some (.lst []))) ∧ Ch H (b :: l) (.ref b)
theorem ch_one {H : Hp} {a : Addr} {v : V} : Ch H [a] v = (v = .ref a ∧ H a = some (.lst [])) := by rw [Ch]
theorem ch_cons {H : Hp} {a b : Addr} {l : List Addr} {v : V} : Ch H (a :: b :: l) v = (v = .ref a ∧ (∃ r, H a = some (.lst (.ref b :: r)) ∧ (r = [] ∨ ∃ e, r = [.ref e] ∧ H e = some (.lst []))) ∧ Ch H (b :: l) (.ref b)) := by rw [Ch]
theorem Ch.head {H : Hp} {a : Addr} {l : List Addr} {v : V} (h : Ch H (a :: l) v) : v = .ref a := by
  cases l with
  | nil => rw [ch_one] at h; exact h.1
  | cons b l => rw [ch_cons] at h; exact h.1
theorem Ch.same {H H' : Hp} (s : Same H H') : ∀ {l : List Addr} {v : V}, Ch H l v → Ch H' l v
  | [], v, h => by rw [Ch] at h; exact h.elim
  | [a], v, h => by rw [ch_one] at h ⊢; exact ⟨h.1, s _ _ h.2⟩
  | a :: b :: l, v, h => by
    rw [ch_cons] at h ⊢
    obtain ⟨e, ⟨r, h1, h2⟩, h3⟩ := h
    exact ⟨e, ⟨r, s _ _ h1, h2.imp id fun ⟨e, h4, h5⟩ => ⟨e, h4, s _ _ h5⟩⟩, Ch.same s h3⟩
theorem Ch.kept {H H' : Hp} : ∀ {l : List Addr} {v : V}, Ch H l v → ∀ a, a ∈ l → ∃ xs, H a = some (.lst xs)
  | [], v, h, a, ha => by cases ha
  | [b], v, h, a, ha => by
    rw [ch_one] at h
    rw [List.mem_singleton] at ha
    rw [ha]; exact ⟨_, h.2⟩
  | c :: b :: l, v, h, a, ha => by
    rw [ch_cons] at h
    obtain ⟨e, ⟨r, h1, h2⟩, h3⟩ := h
    rcases List.mem_cons.mp ha with e | ha
    · rw [e]; exact ⟨_, h1⟩
    · exact Ch.kept (H' := H') h3 a ha
/-- a chain is a tree, of the depth of its length -/
theorem Ch.tree {H : Hp} : ∀ {l : List Addr} {v : V}, Ch H l v → ∃ t, TreeAt H v t ∧ depth t < l.length ∧ fit t ∧ (t = .mk [] ↔ l.length = 1)
  | [], v, h => by rw [Ch] at h; exact h.elim
  | [a], v, h => by
    rw [ch_one] at h
    obtain ⟨rfl, h⟩ := h
    exact ⟨.mk [], nil_tree h, by rw [depth, depthL]; exact Nat.zero_lt_one, by rw [fit_mk, fitL]; exact ⟨Nat.zero_le _, trivial⟩, by simp⟩
  | a :: b :: l, v, h => by
    rw [ch_cons] at h
    obtain ⟨rfl, ⟨r, h1, h2⟩, h3⟩ := h
    obtain ⟨t, t1, t2, t3, _⟩ := Ch.tree h3
    have f0 : fit (.mk []) := by rw [fit_mk, fitL]; exact ⟨Nat.zero_le _, trivial⟩
    rcases h2 with rfl | ⟨e, rfl, h2⟩
    · refine ⟨.mk [t], by rw [treeAt_mk]; exact ⟨a, _, rfl, h1, TreesAt.one t1⟩, ?_, ?_, ?_⟩
      · rw [depth, depthL, depthL, List.length_cons]; omega
      · rw [fit_mk, fitL, fitL]; exact ⟨(by show 1 ≤ lim; decide), t3, trivial⟩
      · simp
    · refine ⟨.mk [t, .mk []], by rw [treeAt_mk]; exact ⟨a, _, rfl, h1, treesAt_c t1 (TreesAt.one (nil_tree h2))⟩, ?_, ?_, ?_⟩
      · rw [depth, depthL, depthL, depthL, depth, depthL, List.length_cons]
        rw [List.length_cons] at t2 ⊢
        omega
      · rw [fit_mk, fitL, fitL, fitL]; exact ⟨(by show 2 ≤ lim; decide), t3, f0, trivial⟩
      · simp
/-- too long a chain is no tree to be asked with -/
theorem Ch.deep {H : Hp} : ∀ {l : List Addr} {v : V}, Ch H l v → ∃ th, ThAt H v th ∧ fitTh th ∧ ∀ (d : Nat) (L : Int), 41 < d + l.length → (isT th d L).1 = false
  | [], v, h => by rw [Ch] at h; exact h.elim
  | [a], v, h => by
    rw [ch_one] at h
    obtain ⟨rfl, h⟩ := h
    refine ⟨.li [], th_nil h, fit_li (Nat.zero_le _) fitL0, fun d L hd => ?_⟩
    rw [List.length_singleton] at hd
    rw [isT_li, if_pos (.inl (by omega))]
  | a :: b :: l, v, h => by
    rw [ch_cons] at h
    obtain ⟨rfl, ⟨r, h1, h2⟩, h3⟩ := h
    obtain ⟨t, t1, t2, t3⟩ := Ch.deep h3
    have key : ∀ (ts : List Th) (d : Nat) (L : Int), 41 < d + (a :: b :: l).length → (isT (.li (t :: ts)) d L).1 = false := fun ts d L hd => by
      rw [isT_li]
      split
      · rfl
      · rw [isTl_cons]
        show (((isT t (d + 1) (L - 1)).1 :: _).all id) = false
        rw [t3 (d + 1) (L - 1) (by rw [List.length_cons] at hd; omega)]
        rfl
    rcases h2 with rfl | ⟨e, rfl, h2⟩
    · exact ⟨.li [t], th_li h1 (ths_cons t1 ths_nil), fit_li (by show 1 ≤ lim; decide) (fitLc t2 fitL0), key []⟩
    · exact ⟨.li [t, .li []], th_li h1 (ths_cons t1 (ths_cons (th_nil h2) ths_nil)), fit_li (by show 2 ≤ lim; decide) (fitLc t2 (fitLc (fit_li (Nat.zero_le _) fitL0) fitL0)), key [.li []]⟩
/-- a chain whose last list got something strange put in -/
theorem Ch.spoil {H H' : Hp} {x : V} : ∀ {l : List Addr} {a b : Addr} {v : V}, Ch H (l ++ [a, b]) v → (l ++ [a, b]).Nodup → (∀ c o, c ≠ a → H c = some o → H' c = some o) → (∃ r, H a = some (.lst (.ref b :: r)) ∧ H' a = some (.lst (x :: r))) → Leaf H' x →
    ∃ th, ThAt H' v th ∧ fitTh th ∧ ∀ (d : Nat) (L : Int), (isT th d L).1 = false
  | [], a, b, v, h, nd, k, ⟨r, h1, h2⟩, hx => by
    rw [List.nil_append, ch_cons] at h
    obtain ⟨rfl, ⟨r', h3, h4⟩, _⟩ := h
    rw [h1] at h3
    injection h3 with h3
    injection h3 with h3
    injection h3 with _ h3
    subst h3
    have key : ∀ (ts : List Th) (d : Nat) (L : Int), (isT (.li (.no :: ts)) d L).1 = false := fun ts d L => by
      rw [isT_li]
      split
      · rfl
      · rw [isTl_cons, isT_no]; rfl
    rcases h4 with rfl | ⟨e, rfl, h4⟩
    · exact ⟨.li [.no], th_li h2 (ths_cons (th_no hx) ths_nil), fit_li (by decide) (fitLc fit_no fitL0), key []⟩
    · have ne : e ≠ a := fun z => by rw [z, h1] at h4; cases h4
      exact ⟨.li [.no, .li []], th_li h2 (ths_cons (th_no hx) (ths_cons (th_nil (k e _ ne h4)) ths_nil)), fit_li (by decide) (fitLc fit_no (fitLc (fit_li (Nat.zero_le _) fitL0) fitL0)), key [.li []]⟩
  | c :: l, a, b, v, h, nd, k, hr, hx => by
    obtain ⟨n1, n2⟩ := List.nodup_cons.mp nd
    have ca : c ≠ a := fun z => n1 (by rw [z]; simp)
    have step : ∀ {d' : Addr} {l' : List Addr}, l ++ [a, b] = d' :: l' → ∃ th, ThAt H' v th ∧ fitTh th ∧ ∀ (d : Nat) (L : Int), (isT th d L).1 = false := fun {d' l'} e => by
      rw [List.cons_append, e, ch_cons] at h
      obtain ⟨rfl, ⟨r, h1, h2⟩, h3⟩ := h
      rw [← e] at h3
      obtain ⟨t, t1, t2, t3⟩ := Ch.spoil h3 n2 k hr hx
      have key : ∀ (ts : List Th) (d : Nat) (L : Int), (isT (.li (t :: ts)) d L).1 = false := fun ts d L => by
        rw [isT_li]
        split
        · rfl
        · rw [isTl_cons]
          show (((isT t (d + 1) (L - 1)).1 :: _).all id) = false
          rw [t3]; rfl
      rcases h2 with rfl | ⟨e', rfl, h2⟩
      · exact ⟨.li [t], th_li (k c _ ca h1) (ths_cons t1 ths_nil), fit_li (by show 1 ≤ lim; decide) (fitLc t2 fitL0), key []⟩
      · have ne : e' ≠ a := fun z => by
          obtain ⟨r', h5, _⟩ := hr
          rw [z, h5] at h2; cases h2
        exact ⟨.li [t, .li []], th_li (k c _ ca h1) (ths_cons t1 (ths_cons (th_nil (k e' _ ne h2)) ths_nil)), fit_li (by show 2 ≤ lim; decide) (fitLc t2 (fitLc (fit_li (Nat.zero_le _) fitL0) fitL0)), key [.li []]⟩
    cases l with
    | nil => exact step rfl
    | cons d l => exact step rfl
theorem bad300 : (isT (toTh (.mk (List.replicate 300 (.mk [])))) 0 300).1 = false := by decide +kernel
theorem fit300 : fit (.mk (List.replicate 300 (.mk []))) := by
  rw [fit_mk]
  refine ⟨by rw [List.length_replicate]; decide, fitL_iff.mpr fun x hx => ?_⟩
  rw [List.eq_of_mem_replicate hx, fit_mk, fitL]
  exact ⟨Nat.zero_le _, trivial⟩
end
section
variable {P : Program} {w : World} {K : PySem.W.Frag} {mg : Str → Option Value} {base : Heap}
theorem atI_0 {α : Type} {x : α} {xs : List α} : atI (x :: xs) 0 = some x := by
  have h : atI (x :: xs) ((0 : Nat) : Int) = some x := atI_nat rfl
  exact h
theorem ixN_0 (x : V) (l : List V) : ixN (x :: l).length 0 = some 0 := by
  unfold ixN
  rw [if_pos (by decide), if_pos (by show (0 : Int) < ((l.length + 1 : Nat) : Int); omega)]
  rfl
theorem Ch.suffix {H : Hp} : ∀ {pre : List Addr} {a : Addr} {suf : List Addr} {v : V}, Ch H (pre ++ a :: suf) v → Ch H (a :: suf) (.ref a)
  | [], a, suf, v, h => by
    have e := Ch.head h
    rw [e] at h; exact h
  | [c], a, suf, v, h => by
    rw [List.cons_append, List.nil_append, ch_cons] at h
    exact h.2.2
  | c :: d :: pre, a, suf, v, h => by
    rw [List.cons_append, List.cons_append, ch_cons] at h
    exact Ch.suffix (pre := d :: pre) h.2.2
theorem Ch.before {H : Hp} {pre : List Addr} {a b : Addr} {v : V} (h : Ch H (pre ++ [b, a]) v) : ∃ r, H b = some (.lst (.ref a :: r)) := by
  have h2 := Ch.suffix (suf := [a]) h
  rw [ch_cons] at h2
  obtain ⟨_, ⟨r, hr, _⟩, _⟩ := h2
  exact ⟨r, hr⟩
/-! ### _law_bad_tree -/
def spLawBadTree : Sp := fun vs H Q _ => ∃ (wh mo : Nat), vs = [.int (wh : Nat), .int (mo : Nat)] ∧ ∀ H' v, Same H H' → Bad H' v → Q v H'
theorem mod_nat (a b : Nat) : ((a : Nat) : Int) % ((b : Nat) : Int) = ((a % b : Nat) : Int) := (Int.natCast_emod _ _).symm
theorem atI_all {xs : List V} {k : Nat} {Pv : V → Prop} (hk : k < xs.length) (h : ∀ x, x ∈ xs → Pv x) : ∃ x, atI xs ((k : Nat) : Int) = some x ∧ Pv x :=
  ⟨xs[k], atI_nat (List.getElem?_eq_getElem hk), h _ (List.getElem_mem hk)⟩
theorem ok__law_bad_tree (T : Txt K mg) : FnOk P w K mg base CX0 1 T.a__law_bad_tree T.d__law_bad_tree ["_law_which", "_law_more"] spLawBadTree := by
  refine T.F__law_bad_tree.ok sc__law_bad_tree (fun vs H Q E h => ?_) (fun cdv A outer s H vs Q E hr h => ?_)
  · obtain ⟨wh, mo, rfl, _⟩ := h; rfl
  obtain ⟨wh, mo, rfl, q⟩ := h
  have hu64 := hr.units
  have e18 : (wh : Int) % 18 = ((wh % 18 : Nat) : Int) := mod_nat wh 18
  have e30 : (mo : Int) % 30 = ((mo % 30 : Nat) : Int) := mod_nat mo 30
  have w18 : wh % 18 < 18 := Nat.mod_lt _ (by decide)
  have m30 : mo % 30 < 30 := Nat.mod_lt _ (by decide)
  generalize hk : wh % 18 = k at e18 w18
  generalize hm : mo % 30 = m at e30 m30
  refine ⟨_, (pss_cons (ps_set (i := 2) sc__law_bad_tree.nd rfl (Or.inl rfl) (pe_lst (pa_cons pe_non (pa_cons (pe_tup pa_nil) (pa_cons pe_str (pa_cons pe_int (pa_cons pe_dnewK (pa_cons pe_bl (pa_cons (pe_lst (pa_cons pe_non pa_nil)) (pa_cons (pe_lst (pa_cons (pe_tup pa_nil) pa_nil)) (pa_cons (pe_lst (pa_cons (pe_lst pa_nil) (pa_cons pe_int pa_nil))) (pa_cons (pe_lst (pa_cons (pe_lst (pa_cons (pe_lst pa_nil) (pa_cons (pe_lst (pa_cons pe_str pa_nil)) pa_nil))) pa_nil)) (pa_cons (pe_lc (own := [("_law_knot", 5)]) (g := gName 5) (tt := tYes) rfl sc__law_bad_tree.nd (pi_range1 (by rfl) T.z_range (pa_cons pe_int pa_nil)) (blkOk_by (own := [("_law_knot", 5)]) (N := ["_law_which", "_law_more", "_law_bad", "_law_deep", "_law_turn", "_law_knot", "_law_last"]) (sc := defScope s__law_bad_tree) (by decide +kernel)) (fun _ _ _ _ _ => (pg_name (i := 5) sc__law_bad_tree.nd rfl (Or.inl rfl))) (fun _ _ _ _ _ => pts_nil) (fun _ _ _ _ _ => (pe_lst pa_nil))) pa_nil)))))))))))))
      (pss_cons (ps_if (pt_cmpR op_lt (pe_op op_mod (pv 0) pe_int) pe_int (nomark _)) (pss_one (ps_ret (pe_ix (r := rIxL K) ix_list (pv 2) (pe_op op_mod (pv 0) pe_int) (fun _ _ => rfl)))) pss_nil)
      (pss_cons (ps_set (i := 3) sc__law_bad_tree.nd rfl (Or.inl rfl) (pe_lst pa_nil))
      (pss_cons (ps_for PassesOwn.never rfl (pi_range1 (by rfl) T.z_range (pa_cons (pe_ifExp (pt_cmpR op_eq (pe_op op_mod (pv 0) pe_int) pe_int (nomark _)) pe_int (pe_op op_add pe_int (pe_op op_mod (pv 1) pe_int))) pa_nil)) (pg_name (i := 4) sc__law_bad_tree.nd rfl (Or.inl rfl)) (pss_one (ps_set (i := 3) sc__law_bad_tree.nd rfl (Or.inl rfl) (pe_ifExp (pt_cmpR op_eq (pe_op op_mod (pv 4) pe_int) pe_int (nomark _)) (pe_lst (pa_cons (pv 3) (pa_cons (pe_lst pa_nil) pa_nil))) (pe_lst (pa_cons (pv 3) pa_nil))))))
      (pss_cons (ps_if (pt_cmpR op_eq (pe_op op_mod (pv 0) pe_int) pe_int (nomark _)) (pss_one (ps_ret (pv 3))) pss_nil)
      (pss_cons (ps_set (i := 5) sc__law_bad_tree.nd rfl (Or.inl rfl) (pv 3))
      (pss_cons (ps_while PassesOwn.never (pt_cmpR (r := rNeD K) (op_neD hu64) (pv 5) (pe_lst pa_nil) (nomark _)) (pss_cons (ps_set (i := 6) sc__law_bad_tree.nd rfl (Or.inl rfl) (pv 5))
        (pss_one (ps_set (i := 5) sc__law_bad_tree.nd rfl (Or.inl rfl) (pe_ix (r := rIxL K) ix_list (pv 5) pe_int (fun _ _ => rfl))))))
      (pss_cons (ps_asg (pe_ix (r := rIxL K) ix_list (pe_lst (pa_cons pe_non (pa_cons pe_str (pa_cons pe_int (pa_cons (pe_tup pa_nil) (pa_cons pe_dnewK (pa_cons pe_bl pa_nil))))))) (pe_op op_sub (pe_op op_mod (pv 0) pe_int) pe_int) (fun _ _ => rfl)) (pg_sub (pv 6) pe_int set_list))
      (pss_one (ps_ret (pv 3))))))))))), ?_⟩
  refine ⟨(by show 0 ≤ sizeLine; decide), fun p0 n_p0 => ?_⟩
  have s_p0 := same_new n_p0 (.tup [])
  have u_p0 : upd H p0 (.tup []) p0 = some (.tup []) := upd_same
  generalize upd H p0 (.tup []) = H0 at s_p0 u_p0 ⊢
  refine fun p1 n_p1 => ?_
  have s_p1 := same_new n_p1 (.dK [])
  have u_p1 : upd H0 p1 (.dK []) p1 = some (.dK []) := upd_same
  generalize upd H0 p1 (.dK []) = H1 at s_p1 u_p1 ⊢
  refine ⟨(by show 1 ≤ sizeLine; decide), fun p2 n_p2 => ?_⟩
  have s_p2 := same_new n_p2 (.lst [V.non])
  have u_p2 : upd H1 p2 (.lst [V.non]) p2 = some (.lst [V.non]) := upd_same
  generalize upd H1 p2 (.lst [V.non]) = H2 at s_p2 u_p2 ⊢
  refine ⟨(by show 0 ≤ sizeLine; decide), fun p3 n_p3 => ?_⟩
  have s_p3 := same_new n_p3 (.tup [])
  have u_p3 : upd H2 p3 (.tup []) p3 = some (.tup []) := upd_same
  generalize upd H2 p3 (.tup []) = H3 at s_p3 u_p3 ⊢
  refine ⟨(by show 1 ≤ sizeLine; decide), fun p4 n_p4 => ?_⟩
  have s_p4 := same_new n_p4 (.lst [V.ref p3])
  have u_p4 : upd H3 p4 (.lst [V.ref p3]) p4 = some (.lst [V.ref p3]) := upd_same
  generalize upd H3 p4 (.lst [V.ref p3]) = H4 at s_p4 u_p4 ⊢
  refine ⟨(by show 0 ≤ sizeLine; decide), fun p5 n_p5 => ?_⟩
  have s_p5 := same_new n_p5 (.lst [])
  have u_p5 : upd H4 p5 (.lst []) p5 = some (.lst []) := upd_same
  generalize upd H4 p5 (.lst []) = H5 at s_p5 u_p5 ⊢
  refine ⟨(by show 2 ≤ sizeLine; decide), fun p6 n_p6 => ?_⟩
  have s_p6 := same_new n_p6 (.lst [V.ref p5, .int 0])
  have u_p6 : upd H5 p6 (.lst [V.ref p5, .int 0]) p6 = some (.lst [V.ref p5, .int 0]) := upd_same
  generalize upd H5 p6 (.lst [V.ref p5, .int 0]) = H6 at s_p6 u_p6 ⊢
  refine ⟨(by show 0 ≤ sizeLine; decide), fun p7 n_p7 => ?_⟩
  have s_p7 := same_new n_p7 (.lst [])
  have u_p7 : upd H6 p7 (.lst []) p7 = some (.lst []) := upd_same
  generalize upd H6 p7 (.lst []) = H7 at s_p7 u_p7 ⊢
  refine ⟨(by show 1 ≤ sizeLine; decide), fun p8 n_p8 => ?_⟩
  have s_p8 := same_new n_p8 (.lst [V.str (Str.ofString "")])
  have u_p8 : upd H7 p8 (.lst [V.str (Str.ofString "")]) p8 = some (.lst [V.str (Str.ofString "")]) := upd_same
  generalize upd H7 p8 (.lst [V.str (Str.ofString "")]) = H8 at s_p8 u_p8 ⊢
  refine ⟨(by show 2 ≤ sizeLine; decide), fun p9 n_p9 => ?_⟩
  have s_p9 := same_new n_p9 (.lst [V.ref p7, .ref p8])
  have u_p9 : upd H8 p9 (.lst [V.ref p7, .ref p8]) p9 = some (.lst [V.ref p7, .ref p8]) := upd_same
  generalize upd H8 p9 (.lst [V.ref p7, .ref p8]) = H9 at s_p9 u_p9 ⊢
  refine ⟨(by show 1 ≤ sizeLine; decide), fun p10 n_p10 => ?_⟩
  have s_p10 := same_new n_p10 (.lst [V.ref p9])
  have u_p10 : upd H9 p10 (.lst [V.ref p9]) p10 = some (.lst [V.ref p9]) := upd_same
  generalize upd H9 p10 (.lst [V.ref p9]) = H10 at s_p10 u_p10 ⊢
  refine ⟨_, rfl, by decide, by decide, fun D nD => ?_⟩
  refine lc_it walk_range (fun i H' => Grow H10 H' D (List.replicate i (.mk []))) (Grow.start nD) (fun _ _ _ _ => trivial) ?_ ?_
  · rintro i z J1 J2 hi g ⟨rfl, rfl⟩
    refine ⟨rfl, (by show 0 ≤ sizeLine; decide), fun p np => ?_⟩
    obtain ⟨acc, h1, h2, h3⟩ := g.more (Grow.start np).done
    refine ⟨acc, h1, ?_, ?_⟩
    · rw [h2, List.length_replicate]
      exact Nat.lt_of_lt_of_le (m := 300) hi (by decide)
    · rw [List.replicate_succ']; exact h3
  intro H11 g
  have t300 := TreeAt.th _ g.done.at_
  have f300 : fitTh (toTh (.mk (List.replicate 300 (.mk [])))) := fit_toTh _ fit300
  have s11 := g.same
  refine ⟨(by show 11 ≤ sizeLine; decide), fun L n_L => ?_⟩
  have s_L := same_new n_L (.lst [V.non, .ref p0, .str (Str.ofString "()"), .int 5, .ref p1, .bl true, .ref p2, .ref p4, .ref p6, .ref p10, .ref D])
  have u_L : upd H11 L (.lst [V.non, .ref p0, .str (Str.ofString "()"), .int 5, .ref p1, .bl true, .ref p2, .ref p4, .ref p6, .ref p10, .ref D]) L = some (.lst [V.non, .ref p0, .str (Str.ofString "()"), .int 5, .ref p1, .bl true, .ref p2, .ref p4, .ref p6, .ref p10, .ref D]) := upd_same
  generalize upd H11 L (.lst [V.non, .ref p0, .str (Str.ofString "()"), .int 5, .ref p1, .bl true, .ref p2, .ref p4, .ref p6, .ref p10, .ref D]) = H12 at s_L u_L ⊢
  have a11 := s11.trans s_L
  have a10 := s_p10.trans a11
  have a9 := s_p9.trans a10
  have a8 := s_p8.trans a9
  have a7 := s_p7.trans a8
  have a6 := s_p6.trans a7
  have a5 := s_p5.trans a6
  have a4 := s_p4.trans a5
  have a3 := s_p3.trans a4
  have a2 := s_p2.trans a3
  have a1 := s_p1.trans a2
  have a0 := s_p0.trans a1
  have all : ∀ x, x ∈ [V.non, .ref p0, .str (Str.ofString "()"), .int 5, .ref p1, .bl true, .ref p2, .ref p4, .ref p6, .ref p10, .ref D] → Bad H12 x := by
    intro x hx
    simp only [List.mem_cons, List.mem_nil_iff, or_false] at hx
    rcases hx with e | e | e | e | e | e | e | e | e | e | e <;> rw [e]
    · exact bad_leaf .non
    · exact bad_leaf (.tup (a1 _ _ u_p0))
    · exact bad_leaf (.str _)
    · exact bad_leaf (.int _)
    · exact bad_leaf (.dK (a2 _ _ u_p1))
    · exact bad_leaf (.bl _)
    · exact bad_of (th_li (a3 _ _ u_p2) (ths_cons (th_no .non) ths_nil)) (fit_li (by decide) (fitLc fit_no fitL0)) (by decide +kernel)
    · exact bad_of (th_li (a5 _ _ u_p4) (ths_cons (th_no (.tup (a4 _ _ u_p3))) ths_nil)) (fit_li (by decide) (fitLc fit_no fitL0)) (by decide +kernel)
    · exact bad_of (th_li (a7 _ _ u_p6) (ths_cons (th_nil (a6 _ _ u_p5)) (ths_cons (th_no (.int _)) ths_nil))) (fit_li (by decide) (fitLc (fit_li (by decide) fitL0) (fitLc fit_no fitL0))) (by decide +kernel)
    · exact bad_of (th_li (a11 _ _ u_p10) (ths_cons (th_li (a10 _ _ u_p9) (ths_cons (th_nil (a8 _ _ u_p7)) (ths_cons (th_li (a9 _ _ u_p8) (ths_cons (th_no (.str _)) ths_nil)) ths_nil))) ths_nil))
        (fit_li (by decide) (fitLc (fit_li (by decide) (fitLc (fit_li (by decide) fitL0) (fitLc (fit_li (by decide) (fitLc fit_no fitL0)) fitL0))) fitL0)) (by decide +kernel)
    · exact bad_of (ThAt.same s_L _ t300) f300 bad300
  -- below 11
  refine ⟨_, rfl, _, _, rfl, rfl, (by show (0 : Int) < 18; decide), _, _, rfl, rfl, _, rfl, ?_⟩
  rw [e18]
  refine ite2 (fun c => ?_) (fun c => ?_)
  · have c' : ((k : Nat) : Int) < 11 := of_decide_eq_true c
    obtain ⟨x, hx, bx⟩ := atI_all (k := k) (xs := [V.non, .ref p0, .str (Str.ofString "()"), .int 5, .ref p1, .bl true, .ref p2, .ref p4, .ref p6, .ref p10, .ref D]) (by show k < 11; omega) all
    refine ⟨_, rfl, _, rfl, _, _, rfl, rfl, (by show (0 : Int) < 18; decide), ?_⟩
    show rIxL K _ (V.int ((wh : Int) % 18)) _ _
    rw [e18]
    exact ⟨L, _, _, x, rfl, rfl, SqL.of u_L, hx, q _ _ a0 bx⟩
  have c' : ¬ ((k : Nat) : Int) < 11 := of_decide_eq_false (Bool.eq_false_iff.mpr c)
  clear all t300 u_p0 u_p1 u_p2 u_p3 u_p4 u_p5 u_p6 u_p7 u_p8 u_p9 u_p10 u_L
  refine ⟨(by show 0 ≤ sizeLine; decide), fun f0 n_f0 => ?_⟩
  have s_f0 := same_new n_f0 (.lst [])
  have u_f0 : upd H12 f0 (.lst []) f0 = some (.lst []) := upd_same
  generalize upd H12 f0 (.lst []) = H13 at s_f0 u_f0 ⊢
  -- how many lists
  obtain ⟨z, hz41, hz11, hz1, ez1, ez2⟩ : ∃ z : Nat, z ≤ 41 ∧ (k = 11 → z = 41) ∧ 1 ≤ z ∧ (k = 11 → (41 : Int) = (z : Nat)) ∧ (k ≠ 11 → 3 + (m : Int) = (z : Nat)) := by
    by_cases e : k = 11
    · exact ⟨41, by decide, fun _ => rfl, by decide, fun _ => rfl, fun h => absurd e h⟩
    · exact ⟨3 + m, by omega, fun z => absurd z e, by omega, fun z => absurd z e, fun _ => by omega⟩
  dsimp only [gName]
  show tIf _ _ _ _ _ _
  refine cut_e (fun v H' => H' = H13 ∧ v = .int (z : Nat)) (fun Q' hQ' => ?_) ?_
  · refine ⟨_, rfl, _, _, rfl, rfl, (by show (0 : Int) < 18; decide), rfl, _, rfl, ?_⟩
    show if decide (V.int ((wh : Int) % 18) = V.int 11) = true then _ else _
    rw [e18]
    by_cases e : k = 11
    · rw [decide_eq_true (by rw [e]; rfl)]
      exact iteT (hQ' _ _ ⟨rfl, by rw [← ez1 e]⟩)
    · rw [decide_eq_false (fun y => by injection y with y; exact e (by omega))]
      refine iteF ⟨_, rfl, _, _, rfl, rfl, (by show (0 : Int) < 30; decide), _, _, rfl, rfl, hQ' _ _ ⟨rfl, ?_⟩⟩
      show V.int (3 + (mo : Int) % 30) = _
      rw [e30, ez2 e]
  rintro v H' ⟨rfl, rfl⟩
  refine ⟨_, rfl, by omega, by omega, ?_⟩
  rw [Int.toNat_natCast]
  have s0 := a0.trans s_f0
  refine for_range (fun i σ H' => ∃ (v : V) (l : List Addr) (o4 : Option V), σ = [some (.int (wh : Nat)), some (.int (mo : Nat)), some (.ref L), some v, o4, none, none] ∧ Same H H' ∧ Ch H' l v ∧ l.length = i + 1 ∧ l.Nodup ∧ ∀ a, a ∈ l → H a = none) ⟨.ref f0, [f0], none, rfl, s0, by rw [ch_one]; exact ⟨rfl, u_f0⟩, rfl, by simp, fun a ha => by rw [List.mem_singleton] at ha; rw [ha]; exact a0.free n_f0⟩ ?_ ?_
  · rintro i σ J hi ⟨v, l, o4, rfl, sj, hc, hl, nd, fr⟩
    have ezz : (0 : Int) + (i : Int) = (i : Int) := by omega
    rw [ezz]
    obtain ⟨a, l', rfl⟩ : ∃ a l', l = a :: l' := by
      cases l with
      | nil => cases hl
      | cons a l' => exact ⟨a, l', rfl⟩
    have ev := hc.head
    subst ev
    have old := hc.kept (H' := J)
    refine ⟨_, rfl, _, _, rfl, rfl, (by show (0 : Int) < 5; decide), rfl, _, rfl, ite2 (fun _ => ?_) (fun _ => ?_)⟩
    · refine ⟨_, rfl, ?_⟩
      refine ⟨(by show 0 ≤ sizeLine; decide), fun e n_e => ?_⟩
      have s_e := same_new n_e (.lst [])
      have u_e : upd J e (.lst []) e = some (.lst []) := upd_same
      generalize upd J e (.lst []) = J1 at s_e u_e ⊢
      refine ⟨(by show 2 ≤ sizeLine; decide), fun p n_p => ?_⟩
      have s_p := same_new n_p (.lst [V.ref a, .ref e])
      have u_p : upd J1 p (.lst [V.ref a, .ref e]) p = some (.lst [V.ref a, .ref e]) := upd_same
      generalize upd J1 p (.lst [V.ref a, .ref e]) = J2 at s_p u_p ⊢
      have sJ := s_e.trans s_p
      refine ⟨.ref p, p :: a :: l', _, rfl, sj.trans sJ, ?_, by rw [List.length_cons, hl], List.nodup_cons.mpr ⟨fun h => ?_, nd⟩, fun b hb => ?_⟩
      · rw [ch_cons]
        exact ⟨rfl, ⟨[.ref e], u_p, .inr ⟨e, rfl, s_p _ _ u_e⟩⟩, hc.same sJ⟩
      · obtain ⟨xs, hx⟩ := old p h
        have := s_e _ _ hx
        rw [n_p] at this; cases this
      · rcases List.mem_cons.mp hb with e' | hb
        · rw [e']; exact sj.free (s_e.free n_p)
        · exact fr b hb
    · refine ⟨_, rfl, ?_⟩
      refine ⟨(by show 1 ≤ sizeLine; decide), fun p n_p => ?_⟩
      have s_p := same_new n_p (.lst [V.ref a])
      have u_p : upd J p (.lst [V.ref a]) p = some (.lst [V.ref a]) := upd_same
      generalize upd J p (.lst [V.ref a]) = J2 at s_p u_p ⊢
      refine ⟨.ref p, p :: a :: l', _, rfl, sj.trans s_p, ?_, by rw [List.length_cons, hl], List.nodup_cons.mpr ⟨fun h => ?_, nd⟩, fun b hb => ?_⟩
      · rw [ch_cons]
        exact ⟨rfl, ⟨[], u_p, .inl rfl⟩, hc.same s_p⟩
      · obtain ⟨xs, hx⟩ := old p h
        rw [n_p] at hx; cases hx
      · rcases List.mem_cons.mp hb with e' | hb
        · rw [e']; exact sj.free n_p
        · exact fr b hb
  rintro σ J ⟨v, l, o4, rfl, sj, hc, hl, nd, fr⟩
  refine ⟨_, rfl, _, _, rfl, rfl, (by show (0 : Int) < 18; decide), rfl, _, rfl, ?_⟩
  show if decide (V.int ((wh : Int) % 18) = V.int 11) = true then _ else _
  rw [e18]
  by_cases e : k = 11
  · rw [decide_eq_true (by rw [e]; rfl)]
    obtain ⟨th, h1, h2, h3⟩ := hc.deep
    exact iteT ⟨_, rfl, q _ _ sj (bad_of h1 h2 (h3 0 300 (by rw [hl, hz11 e]; decide)))⟩
  rw [decide_eq_false (fun y => by injection y with y; exact e (by omega))]
  refine iteF ⟨_, rfl, ?_⟩
  -- down to its end
  refine ⟨fun m σ H' => ∃ (pre : List Addr) (a : Addr) (suf : List Addr) (o6 : Option V), l = pre ++ a :: suf ∧ σ = [some (.int (wh : Nat)), some (.int (mo : Nat)), some (.ref L), some v, o4, some (.ref a), o6] ∧ (∀ b pre', pre = pre' ++ [b] → o6 = some (.ref b)) ∧ m = suf.length ∧ Same J H', ?_, ?_⟩
  · obtain ⟨a, l', rfl⟩ : ∃ a l', l = a :: l' := by
      cases l with
      | nil => cases hl
      | cons a l' => exact ⟨a, l', rfl⟩
    have ev := hc.head
    subst ev
    exact ⟨_, [], a, l', none, rfl, rfl, fun b pre' e => by simp at e, rfl, Same.refl _⟩
  rintro m' σ J1 ⟨pre, a, suf, o6, hls, rfl, h6, rfl, sJ⟩
  have hc1 := hc.same sJ
  rw [hls] at hc1
  have hs := hc1.suffix
  obtain ⟨t, t1, t2, _, t3⟩ := hs.tree
  rw [List.length_cons] at t2 t3
  have hlen : pre.length + (suf.length + 1) = z + 1 := by rw [← hl, hls, List.length_append, List.length_cons]
  refine ⟨_, rfl, ?_⟩
  refine ⟨(by show 0 ≤ sizeLine; decide), fun pe n_pe => ?_⟩
  have s_pe := same_new n_pe (.lst [])
  have u_pe : upd J1 pe (.lst []) pe = some (.lst []) := upd_same
  generalize upd J1 pe (.lst []) = J2 at s_pe u_pe ⊢
  refine ne_trees (TreeAt.same s_pe _ t1) (nil_tree u_pe) (by omega) (by decide +kernel) ⟨_, rfl, ite2 (fun c => ?_) (fun c => ?_)⟩
  · have hne : t ≠ .mk [] := fun e => by rw [decide_eq_true e] at c; cases c
    obtain ⟨b, suf', rfl⟩ : ∃ b suf', suf = b :: suf' := by
      cases suf with
      | nil => exact absurd (t3.mpr rfl) hne
      | cons b suf' => exact ⟨b, suf', rfl⟩
    rw [ch_cons] at hs
    obtain ⟨_, ⟨r, hr, _⟩, _⟩ := hs
    refine ⟨fun σ' H' => σ' = [some (.int (wh : Nat)), some (.int (mo : Nat)), some (.ref L), some v, o4, some (.ref b), some (.ref a)] ∧ H' = J2, fun σ' H' ⟨e1, e2⟩ => ⟨suf'.length, by rw [List.length_cons]; omega, pre ++ [a], b, suf', _, by rw [hls]; simp, e1, fun b' pre' e3 => ?_, rfl, by rw [e2]; exact sJ.trans s_pe⟩, ?_⟩
    · obtain ⟨_, e4⟩ := List.append_inj' e3 rfl
      injection e4 with e4
      rw [e4]
    · exact ⟨_, rfl, _, rfl, a, _, 0, .ref b, rfl, rfl, SqL.of (s_pe _ _ hr), atI_0, rfl, rfl⟩
  have hnil : t = .mk [] := by
    by_cases e : t = .mk []
    · exact e
    · rw [decide_eq_false e] at c; exact absurd rfl c
  have hs0 : suf = [] := List.length_eq_zero_iff.mp (by have := t3.mp hnil; omega)
  subst hs0
  obtain ⟨pre', b, rfl⟩ : ∃ pre' b, pre = pre' ++ [b] := by
    rcases List.eq_nil_or_concat pre with e | ⟨p', b', e⟩
    · rw [e] at hlen; simp at hlen; omega
    · exact ⟨p', b', by rw [e, List.concat_eq_append]⟩
  have h6' := h6 b pre' rfl
  subst h6'
  have hls2 : l = pre' ++ [b, a] := by rw [hls]; simp
  have sj2 := sj.trans (sJ.trans s_pe)
  have hc2 := hc.same (sJ.trans s_pe)
  rw [hls2] at hc2 nd
  have mb : b ∈ l := by rw [hls2]; simp
  obtain ⟨rb, hrb⟩ := hc2.before
  -- something strange put in
  refine ⟨(by show 0 ≤ sizeLine; decide), fun q0 n_q0 => ?_⟩
  have s_q0 := same_new n_q0 (.tup [])
  have u_q0 : upd J2 q0 (.tup []) q0 = some (.tup []) := upd_same
  generalize upd J2 q0 (.tup []) = J3 at s_q0 u_q0 ⊢
  refine fun q1 n_q1 => ?_
  have s_q1 := same_new n_q1 (.dK [])
  have u_q1 : upd J3 q1 (.dK []) q1 = some (.dK []) := upd_same
  generalize upd J3 q1 (.dK []) = J4 at s_q1 u_q1 ⊢
  refine ⟨(by show 6 ≤ sizeLine; decide), fun q2 n_q2 => ?_⟩
  have s_q2 := same_new n_q2 (.lst [V.non, .str (Str.ofString ""), .int 0, .ref q0, .ref q1, .bl false])
  have u_q2 : upd J4 q2 (.lst [V.non, .str (Str.ofString ""), .int 0, .ref q0, .ref q1, .bl false]) q2 = some (.lst [V.non, .str (Str.ofString ""), .int 0, .ref q0, .ref q1, .bl false]) := upd_same
  generalize upd J4 q2 (.lst [V.non, .str (Str.ofString ""), .int 0, .ref q0, .ref q1, .bl false]) = J5 at s_q2 u_q2 ⊢
  have s25 := s_q0.trans (s_q1.trans s_q2)
  have all : ∀ x, x ∈ [V.non, .str (Str.ofString ""), .int 0, .ref q0, .ref q1, .bl false] → Leaf J5 x := by
    intro x hx
    simp only [List.mem_cons, List.mem_nil_iff, or_false] at hx
    rcases hx with e | e | e | e | e | e <;> rw [e]
    · exact .non
    · exact .str _
    · exact .int _
    · exact .tup (s_q2 _ _ (s_q1 _ _ u_q0))
    · exact .dK (s_q2 _ _ u_q1)
    · exact .bl _
  obtain ⟨x, hx, lx⟩ := atI_all (k := k - 12) (xs := [V.non, .str (Str.ofString ""), .int 0, .ref q0, .ref q1, .bl false]) (by show k - 12 < 6; omega) all
  have ek : ((k : Nat) : Int) - 12 = ((k - 12 : Nat) : Int) := by omega
  rw [← ek, ← e18] at hx
  have hrb5 := s25 _ _ hrb
  refine ⟨_, rfl, _, _, rfl, rfl, (by show (0 : Int) < 18; decide), _, _, rfl, rfl, q2, _, _, x, rfl, rfl, SqL.of u_q2, hx, _, rfl, b, _, 0, 0, rfl, rfl, hrb5, ixN_0 _ _, ?_⟩
  refine ⟨_, rfl, q _ _ (fun c o e => ?_) ?_⟩
  · have ne : c ≠ b := fun y => by rw [y, fr b mb] at e; cases e
    rw [upd_ne ne]
    exact (sj2.trans s25) _ _ e
  · obtain ⟨th, h1, h2, h3⟩ := Ch.spoil (x := x) (H' := upd J5 b (.lst ((V.ref a :: rb).set 0 x))) (hc2.same s25) nd (fun c o ne e => by rw [upd_ne ne]; exact e) ⟨rb, hrb5, upd_same⟩ (by
      cases lx with
      | non => exact .non
      | bl b' => exact .bl b'
      | int i => exact .int i
      | str y => exact .str y
      | tup h => exact .tup (by rw [upd_ne (fun y => by rw [y, hrb5] at h; cases h)]; exact h)
      | dK h => exact .dK (by rw [upd_ne (fun y => by rw [y, hrb5] at h; cases h)]; exact h))
    exact bad_of h1 h2 (h3 0 300)
end
section
variable {P : Program} {w : World} {K : PySem.W.Frag} {mg : Str → Option Value} {base : Heap}
theorem tr_li {H : Hp} {a : Addr} {vs : List V} {ts : List Tt} (h : H a = some (.lst vs)) (k : TreesAt H vs ts) : TreeAt H (.ref a) (.mk ts) := by rw [treeAt_mk]; exact ⟨a, vs, rfl, h, k⟩
theorem trs_nil {H : Hp} : TreesAt H [] [] := by rw [treesAt_nil]
/-! ### _law_with_tree -/
def spWithTree (A : Addr) : Sp := fun vs H Q E => ∃ (d : Nat) (v : V), vs = [.int (d : Nat), v] ∧ d < 9 ∧ Bad H v ∧ ∀ H', Same H H' → E (.ref A) none H'
theorem ok__law_with_tree (T : Txt K mg) : FnOk P w K mg base (L2N.CX P w) 45 T.a__law_with_tree T.d__law_with_tree ["_law_door", "_law_tree"] (spWithTree T.A_BadTree) := by
  have G_told := ok_told (P := P) (w := w) (base := base) T
  have G_compare := ok_compare (P := P) (w := w) (base := base) T
  have G_together := ok_together (P := P) (w := w) (base := base) T
  have G_behind := ok_behind (P := P) (w := w) (base := base) T
  have G_heads := ok_heads (P := P) (w := w) (base := base) T
  have G_cut := ok_cut (P := P) (w := w) (base := base) T
  have G_number_of := ok_number_of (P := P) (w := w) (base := base) T
  have G_text := ok_text (P := P) (w := w) (base := base) T
  refine okN T.F__law_with_tree sc__law_with_tree (fun vs H Q E h => ?_) (fun cdv A outer s H vs Q E hr h => ?_)
  · obtain ⟨d, v, rfl, _⟩ := h; rfl
  obtain ⟨d, v, rfl, hd, hb, q⟩ := h
  have R_told : Room 44 _ := hr
  have R_compare : Room 44 _ := hr
  have R_together : Room 44 _ := hr
  have R_behind : Room 44 _ := hr
  have R_heads : Room 44 _ := hr
  have R_cut : Room 44 _ := hr
  have R_number_of : Room 44 _ := hr
  have R_text : Room 44 _ := hr
  have o0 : okT (.mk []) := ⟨by decide +kernel, by decide +kernel⟩
  have o1 : okT (.mk [.mk []]) := ⟨by decide +kernel, by decide +kernel⟩
  refine ⟨_, (pss_cons (ps_if (pt_cmpR op_lt (pv 0) pe_int (nomark _)) (pss_one (ps_ret (pe_ifExp (pt_cmpR op_eq (pv 0) pe_int (nomark _)) (pe_call G_told R_told rfl T.m_told T.k_told T.b_told .nil (L2N.passes_call (L2N.takes_of rfl rfl rfl rfl) (fun _ _ _ _ h => h)) (pa_cons (pv 1) pa_nil)) (pe_ifExp (pt_cmpR op_eq (pv 0) pe_int (nomark _)) (pe_call G_compare R_compare rfl T.m_compare T.k_compare T.b_compare .nil (L2N.passes_call (L2N.takes_of rfl rfl rfl rfl) (fun _ _ _ _ h => h)) (pa_cons (pv 1) (pa_cons pe_non pa_nil))) (pe_call G_compare R_compare rfl T.m_compare T.k_compare T.b_compare .nil (L2N.passes_call (L2N.takes_of rfl rfl rfl rfl) (fun _ _ _ _ h => h)) (pa_cons (pe_lst pa_nil) (pa_cons (pv 1) pa_nil))))))) pss_nil)
      (pss_cons (ps_if (pt_cmpR op_lt (pv 0) pe_int (nomark _)) (pss_one (ps_ret (pe_ifExp (pt_cmpR op_eq (pv 0) pe_int (nomark _)) (pe_call G_together R_together rfl T.m_together T.k_together T.b_together .nil (L2N.passes_call (L2N.takes_of rfl rfl rfl rfl) (fun _ _ _ _ h => h)) (pa_cons (pe_lst (pa_cons (pe_lst pa_nil) pa_nil)) (pa_cons (pv 1) pa_nil))) (pe_call G_behind R_behind rfl T.m_behind T.k_behind T.b_behind .nil (L2N.passes_call (L2N.takes_of rfl rfl rfl rfl) (fun _ _ _ _ h => h)) (pa_cons (pv 1) (pa_cons (pe_lst pa_nil) pa_nil)))))) pss_nil)
      (pss_cons (ps_if (pt_cmpR op_lt (pv 0) pe_int (nomark _)) (pss_one (ps_ret (pe_ifExp (pt_cmpR op_eq (pv 0) pe_int (nomark _)) (pe_call G_heads R_heads rfl T.m_heads T.k_heads T.b_heads .nil (L2N.passes_call (L2N.takes_of rfl rfl rfl rfl) (fun _ _ _ _ h => h)) (pa_cons (pv 1) pa_nil)) (pe_call G_cut R_cut rfl T.m_cut T.k_cut T.b_cut .nil (L2N.passes_call (L2N.takes_of rfl rfl rfl rfl) (fun _ _ _ _ h => h)) (pa_cons (pv 1) (pa_cons (pe_lst (pa_cons pe_int pa_nil)) (pa_cons (pe_un un_neg pe_int) pa_nil))))))) pss_nil)
      (pss_one (ps_ret (pe_ifExp (pt_cmpR op_eq (pv 0) pe_int (nomark _)) (pe_call G_number_of R_number_of rfl T.m_number_of T.k_number_of T.b_number_of .nil (L2N.passes_call (L2N.takes_of rfl rfl rfl rfl) (fun _ _ _ _ h => h)) (pa_cons (pv 1) (pa_cons pe_non pa_nil))) (pe_call G_text R_text rfl T.m_text T.k_text T.b_text .nil (L2N.passes_call (L2N.takes_of rfl rfl rfl rfl) (fun _ _ _ _ h => h)) (pa_cons (pv 1) pa_nil)))))))), ?_⟩
  have hd' : d = 0 ∨ d = 1 ∨ d = 2 ∨ d = 3 ∨ d = 4 ∨ d = 5 ∨ d = 6 ∨ d = 7 ∨ d = 8 := by omega
  rcases hd' with e | e | e | e | e | e | e | e | e <;> subst e
  · refine ⟨_, rfl, _, _, rfl, rfl, _, rfl, iteT ?_⟩
    refine ⟨_, rfl, rfl, _, rfl, iteT ?_⟩
    exact ⟨_, rfl, v, rfl, .inr ⟨hb, q⟩⟩
  · refine ⟨_, rfl, _, _, rfl, rfl, _, rfl, iteT ?_⟩
    refine ⟨_, rfl, rfl, _, rfl, iteF ?_⟩
    refine ⟨_, rfl, rfl, _, rfl, iteT ?_⟩
    exact ⟨_, rfl, v, .non, rfl, .inr ⟨.inl hb, q⟩⟩
  · refine ⟨_, rfl, _, _, rfl, rfl, _, rfl, iteT ?_⟩
    refine ⟨_, rfl, rfl, _, rfl, iteF ?_⟩
    refine ⟨_, rfl, rfl, _, rfl, iteF ?_⟩
    refine ⟨(by show 0 ≤ sizeLine; decide), fun p n_p => ?_⟩
    have s_p := same_new n_p (.lst [])
    have u_p : upd H p (.lst []) p = some (.lst []) := upd_same
    generalize upd H p (.lst []) = H1 at s_p u_p ⊢
    exact ⟨_, rfl, .ref p, v, rfl, .inr ⟨.inr ⟨⟨_, nil_tree u_p, o0⟩, hb.same s_p⟩, fun H' s' => q _ (s_p.trans s')⟩⟩
  · refine ⟨_, rfl, _, _, rfl, rfl, _, rfl, iteF ?_⟩
    refine ⟨_, rfl, _, _, rfl, rfl, _, rfl, iteT ?_⟩
    refine ⟨_, rfl, rfl, _, rfl, iteT ?_⟩
    refine ⟨(by show 0 ≤ sizeLine; decide), fun p n_p => ?_⟩
    have s_p := same_new n_p (.lst [])
    have u_p : upd H p (.lst []) p = some (.lst []) := upd_same
    generalize upd H p (.lst []) = H1 at s_p u_p ⊢
    refine ⟨(by show 1 ≤ sizeLine; decide), fun p2 n_p2 => ?_⟩
    have s_p2 := same_new n_p2 (.lst [V.ref p])
    have u_p2 : upd H1 p2 (.lst [V.ref p]) p2 = some (.lst [V.ref p]) := upd_same
    generalize upd H1 p2 (.lst [V.ref p]) = H2 at s_p2 u_p2 ⊢
    have s2 := s_p.trans s_p2
    exact ⟨_, rfl, .ref p2, v, rfl, .inr ⟨.inr ⟨⟨_, tr_li u_p2 (TreesAt.one (nil_tree (s_p2 _ _ u_p))), o1⟩, hb.same s2⟩, fun H' s' => q _ (s2.trans s')⟩⟩
  · refine ⟨_, rfl, _, _, rfl, rfl, _, rfl, iteF ?_⟩
    refine ⟨_, rfl, _, _, rfl, rfl, _, rfl, iteT ?_⟩
    refine ⟨_, rfl, rfl, _, rfl, iteF ?_⟩
    refine ⟨_, rfl, ?_⟩
    refine ⟨(by show 0 ≤ sizeLine; decide), fun p n_p => ?_⟩
    have s_p := same_new n_p (.lst [])
    have u_p : upd H p (.lst []) p = some (.lst []) := upd_same
    generalize upd H p (.lst []) = H1 at s_p u_p ⊢
    exact ⟨v, .ref p, rfl, .inr ⟨.inl (hb.same s_p), fun H' s' => q _ (s_p.trans s')⟩⟩
  · refine ⟨_, rfl, _, _, rfl, rfl, _, rfl, iteF ?_⟩
    refine ⟨_, rfl, _, _, rfl, rfl, _, rfl, iteF ?_⟩
    refine ⟨_, rfl, _, _, rfl, rfl, _, rfl, iteT ?_⟩
    refine ⟨_, rfl, rfl, _, rfl, iteT ?_⟩
    exact ⟨_, rfl, v, rfl, .inr ⟨hb, q⟩⟩
  · refine ⟨_, rfl, _, _, rfl, rfl, _, rfl, iteF ?_⟩
    refine ⟨_, rfl, _, _, rfl, rfl, _, rfl, iteF ?_⟩
    refine ⟨_, rfl, _, _, rfl, rfl, _, rfl, iteT ?_⟩
    refine ⟨_, rfl, rfl, _, rfl, iteF ?_⟩
    refine ⟨_, rfl, ?_⟩
    refine ⟨(by show 1 ≤ sizeLine; decide), fun p n_p => ?_⟩
    have s_p := same_new n_p (.lst [V.int 0])
    have u_p : upd H p (.lst [V.int 0]) p = some (.lst [V.int 0]) := upd_same
    generalize upd H p (.lst [V.int 0]) = H1 at s_p u_p ⊢
    exact ⟨_, rfl, v, .ref p, _, rfl, .inr ⟨hb.same s_p, fun H' s' => q _ (s_p.trans s')⟩⟩
  · refine ⟨_, rfl, _, _, rfl, rfl, _, rfl, iteF ?_⟩
    refine ⟨_, rfl, _, _, rfl, rfl, _, rfl, iteF ?_⟩
    refine ⟨_, rfl, _, _, rfl, rfl, _, rfl, iteF ?_⟩
    refine ⟨_, rfl, rfl, _, rfl, iteT ?_⟩
    exact ⟨_, rfl, v, .non, rfl, .inr ⟨hb, q⟩⟩
  · refine ⟨_, rfl, _, _, rfl, rfl, _, rfl, iteF ?_⟩
    refine ⟨_, rfl, _, _, rfl, rfl, _, rfl, iteF ?_⟩
    refine ⟨_, rfl, _, _, rfl, rfl, _, rfl, iteF ?_⟩
    refine ⟨_, rfl, rfl, _, rfl, iteF ?_⟩
    exact ⟨_, rfl, v, rfl, .inr ⟨hb, q⟩⟩
/-! ### _law_great -/
theorem mod_nat' (a b : Nat) : ((a : Nat) : Int) % ((b : Nat) : Int) = ((a % b : Nat) : Int) := (Int.natCast_emod _ _).symm
theorem div_nat (a b : Nat) : ((a : Nat) : Int) / ((b : Nat) : Int) = ((a / b : Nat) : Int) := (Int.natCast_ediv _ _).symm
theorem knotsL_told' (l : List Tt) : knotsL (toldL [] l) = knotsL l := by
  rw [knotsL_perm (toldL_perm l []), List.nil_append]
  exact knotsL_map fun x _ => knots_told x
theorem flat_knots (n : Nat) : knotsL (List.replicate n (.mk [])) = n := by
  rw [knotsL_rep, knots, knotsL, Nat.mul_one]
theorem okT_flat {n : Nat} (h : n ≤ 299) : okT (.mk (List.replicate n (.mk []))) := by
  refine ⟨by rw [knots, flat_knots]; omega, ?_⟩
  rw [depth]
  refine depthL_iff.mpr fun x hx => ?_
  rw [List.eq_of_mem_replicate hx, depth, depthL]
  decide
def T7 : Tt := .mk [.mk [.mk [.mk [.mk [.mk [.mk []]]]]]]
theorem t7_big : ∀ b : Fin 9, cw (b.val + 2) (told T7) = true ∧ GR ≤ val (b.val + 2) T7 := by decide +kernel
def T5 : Tt := .mk [.mk [.mk [], .mk []], .mk []]
def spLawGreat (A : Addr) : Sp := fun vs H Q E => ∃ (wh mo : Nat), vs = [.int (wh : Nat), .int (mo : Nat)] ∧ mo < 1000 ∧ ∀ H', Same H H' → E (.ref A) none H'
theorem ok__law_great (T : Txt K mg) : FnOk P w K mg base (L2N.CX P w) 45 T.a__law_great T.d__law_great ["_law_which", "_law_more"] (spLawGreat T.A_TooGreat) := by
  have G_together := ok_together (P := P) (w := w) (base := base) T
  have G_cut := ok_cut (P := P) (w := w) (base := base) T
  have G_written := ok_written (P := P) (w := w) (base := base) T
  have G_number_of := ok_number_of (P := P) (w := w) (base := base) T
  refine okN T.F__law_great sc__law_great (fun vs H Q E h => ?_) (fun cdv A outer s H vs Q E hr h => ?_)
  · obtain ⟨wh, mo, rfl, _⟩ := h; rfl
  obtain ⟨wh, mo, rfl, hmo, q⟩ := h
  have R_together : Room 44 _ := hr
  have R_cut : Room 44 _ := hr
  have R_written : Room 7 _ := hr.mono (by omega)
  have R_number_of : Room 44 _ := hr
  have e4 : (wh : Int) % 4 = ((wh % 4 : Nat) : Int) := mod_nat' wh 4
  have w4 : wh % 4 < 4 := Nat.mod_lt _ (by decide)
  generalize hk : wh % 4 = k at e4 w4
  have flatC : ∀ {H0 H1 : Hp} {D : Addr} {i : Nat}, Grow H0 H1 D (List.replicate i (.mk [])) → i < 1000 → ∀ p, H1 p = none → ∃ acc, upd H1 p (.lst []) D = some (.lst acc) ∧ acc.length < sizeLine ∧ Grow H0 (upd (upd H1 p (.lst [])) D (.lst (acc ++ [.ref p]))) D (List.replicate (i + 1) (.mk [])) := fun {H0 H1 D i} g hi p np => by
    obtain ⟨acc, h1, h2, h3⟩ := g.more (Grow.start np).done
    refine ⟨acc, h1, ?_, ?_⟩
    · rw [h2, List.length_replicate]
      exact Nat.lt_of_lt_of_le hi (by decide)
    · rw [List.replicate_succ']; exact h3
  refine ⟨_, (pss_cons (ps_setLc (i := 2) (own := [("_law_knot", 3)]) (g := gName 3) (tt := tYes) rfl sc__law_great.nd rfl rfl (sw_true rfl rfl rfl (by decide +kernel)) (pi_range1 (by rfl) T.z_range (pa_cons pe_int pa_nil)) (blkOk_by (own := [("_law_knot", 3)]) (N := ["_law_which", "_law_more", "_law_wide", "_law_knot"]) (sc := defScope s__law_great) (by decide +kernel)) (fun _ _ _ _ _ => (pg_name (i := 3) sc__law_great.nd rfl (Or.inl rfl))) (fun _ _ _ _ _ => pts_nil) (fun _ _ _ _ _ => (pe_lst pa_nil)))
      (pss_cons (ps_if (pt_cmpR op_eq (pe_op op_mod (pv 0) pe_int) pe_int (nomark _)) (pss_one (ps_ret (pe_call G_together R_together rfl T.m_together T.k_together T.b_together .nil (L2N.passes_call (L2N.takes_of rfl rfl rfl rfl) (fun _ _ _ _ h => h)) (pa_cons (pv 2) (pa_cons (pe_lc (own := [("_law_knot", 3)]) (g := gName 3) (tt := tYes) rfl sc__law_great.nd (pi_range1 (by rfl) T.z_range (pa_cons (pe_op op_add pe_int (pe_op op_mod (pv 1) pe_int)) pa_nil)) (blkOk_by (own := [("_law_knot", 3)]) (N := ["_law_which", "_law_more", "_law_wide", "_law_knot"]) (sc := defScope s__law_great) (by decide +kernel)) (fun _ _ _ _ _ => (pg_name (i := 3) sc__law_great.nd rfl (Or.inl rfl))) (fun _ _ _ _ _ => pts_nil) (fun _ _ _ _ _ => (pe_lst pa_nil))) pa_nil))))) pss_nil)
      (pss_cons (ps_if (pt_cmpR op_eq (pe_op op_mod (pv 0) pe_int) pe_int (nomark _)) (pss_one (ps_ret (pe_call G_cut R_cut rfl T.m_cut T.k_cut T.b_cut .nil (L2N.passes_call (L2N.takes_of rfl rfl rfl rfl) (fun _ _ _ _ h => h)) (pa_cons (pe_lst (pa_cons (pe_lst (pa_cons (pe_lst pa_nil) (pa_cons (pe_lst pa_nil) pa_nil))) (pa_cons (pe_lst pa_nil) pa_nil))) (pa_cons (pe_lst (pa_cons pe_int (pa_cons (pe_op op_mod (pe_op op_fdivW (pv 0) pe_int) pe_int) pa_nil))) (pa_cons (pe_op op_add pe_int (pv 1)) pa_nil)))))) pss_nil)
      (pss_cons (ps_if (pt_cmpR op_eq (pe_op op_mod (pv 0) pe_int) pe_int (nomark _)) (pss_one (ps_ret (pe_call G_written R_written rfl T.m_written T.k_written T.b_written .nil (L2N.passes_call (L2N.takes_of rfl rfl rfl rfl) (fun _ _ _ _ h => h)) (pa_cons (pe_op op_add pe_int (pv 1)) (pa_cons (pe_op op_pow pe_int pe_int) pa_nil))))) pss_nil)
      (pss_one (ps_ret (pe_call G_number_of R_number_of rfl T.m_number_of T.k_number_of T.b_number_of .nil (L2N.passes_call (L2N.takes_of rfl rfl rfl rfl) (fun _ _ _ _ h => h)) (pa_cons (pe_lst (pa_cons (pe_lst (pa_cons (pe_lst (pa_cons (pe_lst (pa_cons (pe_lst (pa_cons (pe_lst (pa_cons (pe_lst pa_nil) pa_nil)) pa_nil)) pa_nil)) pa_nil)) pa_nil)) pa_nil)) (pa_cons (pe_op op_add pe_int (pe_op op_mod (pv 1) pe_int)) pa_nil))))))))), ?_⟩
  refine ⟨_, rfl, by decide, by decide, fun D nD => ?_⟩
  refine lc_it walk_range (fun i H' => Grow H H' D (List.replicate i (.mk []))) (Grow.start nD) (fun _ _ _ _ => trivial) ?_ ?_
  · rintro i z J1 J2 hi g ⟨rfl, rfl⟩
    replace hi : i < 200 := hi
    exact ⟨rfl, (by show 0 ≤ sizeLine; decide), fun p np => flatC g (by omega) p np⟩
  intro H1 g
  replace g : Grow H H1 D (List.replicate 200 (.mk [])) := g
  have s01 := g.same
  refine ⟨_, rfl, _, _, rfl, rfl, (by show (0 : Int) < 4; decide), rfl, _, rfl, ?_⟩
  show if decide (V.int ((wh : Int) % 4) = V.int 0) = true then _ else _
  rw [e4]
  have kk : k = 0 ∨ k = 1 ∨ k = 2 ∨ k = 3 := by omega
  rcases kk with e | e | e | e <;> subst e
  · refine iteT ⟨_, rfl, ?_⟩
    have e99 : (mo : Int) % 99 = ((mo % 99 : Nat) : Int) := mod_nat' mo 99
    have m99 : mo % 99 < 99 := Nat.mod_lt _ (by decide)
    generalize mo % 99 = m at e99 m99
    refine ⟨_, rfl, _, _, rfl, rfl, (by show (0 : Int) < 99; decide), _, _, rfl, rfl, _, rfl, ?_⟩
    show -(2 ^ 62) ≤ 100 + (mo : Int) % 99 ∧ 100 + (mo : Int) % 99 < 2 ^ 62 ∧ ∀ D, _ → _
    rw [e99]
    refine ⟨by omega, by omega, fun D2 nD2 => ?_⟩
    have ej : (100 + (m : Int)).toNat = 100 + m := by omega
    rw [ej]
    refine lc_it walk_range (fun i H' => Grow H1 H' D2 (List.replicate i (.mk []))) (Grow.start nD2) (fun _ _ _ _ => trivial) ?_ ?_
    · rintro i z J1 J2 hi g2 ⟨rfl, rfl⟩
      exact ⟨rfl, (by show 0 ≤ sizeLine; decide), fun p np => flatC g2 (by omega) p np⟩
    intro H2 g2
    refine ⟨.ref D, .ref D2, rfl, .inl ⟨_, _, TreeAt.same g2.same _ g.done.at_, okT_flat (by decide), g2.done.at_, okT_flat (by omega), fun hle => ?_, fun _ H' s' => q _ (s01.trans (g2.same.trans s'))⟩⟩
    rw [knots, knotsL_perm (merge_perm _ _), knotsL_append, knotsL_told', knotsL_told', flat_knots, flat_knots] at hle
    omega
  · refine iteF ?_
    refine ⟨_, rfl, _, _, rfl, rfl, (by show (0 : Int) < 4; decide), rfl, _, rfl, ?_⟩
    show if decide (V.int ((wh : Int) % 4) = V.int 1) = true then _ else _
    rw [e4]
    refine iteT ?_
    refine ⟨(by show 0 ≤ sizeLine; decide), fun a1 n_a1 => ?_⟩
    have s_a1 := same_new n_a1 (.lst [])
    have u_a1 : upd H1 a1 (.lst []) a1 = some (.lst []) := upd_same
    generalize upd H1 a1 (.lst []) = G1 at s_a1 u_a1 ⊢
    refine ⟨(by show 0 ≤ sizeLine; decide), fun a2 n_a2 => ?_⟩
    have s_a2 := same_new n_a2 (.lst [])
    have u_a2 : upd G1 a2 (.lst []) a2 = some (.lst []) := upd_same
    generalize upd G1 a2 (.lst []) = G2 at s_a2 u_a2 ⊢
    refine ⟨(by show 2 ≤ sizeLine; decide), fun a3 n_a3 => ?_⟩
    have s_a3 := same_new n_a3 (.lst [V.ref a1, .ref a2])
    have u_a3 : upd G2 a3 (.lst [V.ref a1, .ref a2]) a3 = some (.lst [V.ref a1, .ref a2]) := upd_same
    generalize upd G2 a3 (.lst [V.ref a1, .ref a2]) = G3 at s_a3 u_a3 ⊢
    refine ⟨(by show 0 ≤ sizeLine; decide), fun a4 n_a4 => ?_⟩
    have s_a4 := same_new n_a4 (.lst [])
    have u_a4 : upd G3 a4 (.lst []) a4 = some (.lst []) := upd_same
    generalize upd G3 a4 (.lst []) = G4 at s_a4 u_a4 ⊢
    refine ⟨(by show 2 ≤ sizeLine; decide), fun a5 n_a5 => ?_⟩
    have s_a5 := same_new n_a5 (.lst [V.ref a3, .ref a4])
    have u_a5 : upd G4 a5 (.lst [V.ref a3, .ref a4]) a5 = some (.lst [V.ref a3, .ref a4]) := upd_same
    generalize upd G4 a5 (.lst [V.ref a3, .ref a4]) = G5 at s_a5 u_a5 ⊢
    have e2 : (wh : Int) / 4 % 2 = ((wh / 4 % 2 : Nat) : Int) := by rw [show (4 : Int) = ((4 : Nat) : Int) from rfl, div_nat]; exact mod_nat' _ 2
    have m2 : wh / 4 % 2 < 2 := Nat.mod_lt _ (by decide)
    generalize wh / 4 % 2 = j at e2 m2
    refine ⟨_, rfl, _, _, rfl, rfl, wide_div (b := 4) (by decide) (by decide) (by decide) (by decide), _, _, rfl, rfl, (by show (0 : Int) < 2; decide), ?_⟩
    refine ⟨(by show 2 ≤ sizeLine; decide), fun b1 nb1 => ?_⟩
    have s_b1 := same_new nb1 (.lst [V.int 0, .int ((wh : Int) / 4 % 2)])
    have u_b1 : upd G5 b1 (.lst [V.int 0, .int ((wh : Int) / 4 % 2)]) b1 = some (.lst (mI [0, j])) := by rw [upd_same, e2]; rfl
    have t5 : TreeAt G5 (.ref a5) T5 := tr_li u_a5 (treesAt_c (tr_li (s_a5 _ _ (s_a4 _ _ u_a3)) (treesAt_c (nil_tree (s_a5 _ _ (s_a4 _ _ (s_a3 _ _ (s_a2 _ _ u_a1))))) (TreesAt.one (nil_tree (s_a5 _ _ (s_a4 _ _ (s_a3 _ _ u_a2))))))) (TreesAt.one (nil_tree (s_a5 _ _ u_a4))))
    have sall : Same H1 G5 := s_a1.trans (s_a2.trans (s_a3.trans (s_a4.trans s_a5)))
    have hw : [0, j] ∈ headsT T5 := by
      have : j = 0 ∨ j = 1 := by omega
      rcases this with e | e <;> subst e <;> decide +kernel
    refine ⟨_, rfl, _, _, rfl, rfl, .ref a5, .ref b1, .int ((149 + mo : Nat) : Int), ?_, .inl ⟨T5, TreeAt.same s_b1 _ t5, ⟨by decide +kernel, by decide +kernel⟩, .inl ⟨b1, [0, j], rfl, u_b1, hw, .inl ⟨149 + mo, rfl, ?_, .inr ⟨?_, fun H' s' => q _ (s01.trans (sall.trans (s_b1.trans s')))⟩⟩⟩⟩⟩
    · have e : (149 : Int) + (mo : Int) = ((149 + mo : Nat) : Int) := by omega
      rw [← e]; rfl
    · exact Bits.mono (a := 20) (Bits.lt (n := 1048576) (by omega) (by omega) (by decide)) (by decide)
    · have e1 : sizeT T5 [0, j] (149 + mo) = knots T5 - 1 + (149 + mo) * (knots (.mk [.mk [], .mk []]) - 1) := rfl
      have e2 : knots T5 = 5 := by decide +kernel
      have e3 : knots (.mk [.mk [], .mk []]) = 3 := by decide +kernel
      rw [e1, e2, e3]
      omega
  · refine iteF ?_
    refine ⟨_, rfl, _, _, rfl, rfl, (by show (0 : Int) < 4; decide), rfl, _, rfl, ?_⟩
    show if decide (V.int ((wh : Int) % 4) = V.int 1) = true then _ else _
    rw [e4]
    refine iteF ?_
    refine ⟨_, rfl, _, _, rfl, rfl, (by show (0 : Int) < 4; decide), rfl, _, rfl, ?_⟩
    show if decide (V.int ((wh : Int) % 4) = V.int 2) = true then _ else _
    rw [e4]
    refine iteT ?_
    have ez : (300 : Int) + (mo : Int) = ((300 + mo : Nat) : Int) := by omega
    have gr : 300 + mo < GR := Nat.lt_of_lt_of_le (m := 2 ^ 11) (by omega) (Nat.pow_le_pow_right (by decide) (by decide))
    refine ⟨_, rfl, _, _, rfl, rfl, _, _, rfl, rfl, (by exact ⟨by decide, by decide, by decide⟩), _, _, rfl, .inl ⟨300 + mo, by rw [← ez], gr, .inl ⟨10 ^ 6, rfl, by decide, Bits.mono (a := 20) (by show (10 ^ 6 : Nat) < 2 ^ 20; decide) (by decide), .inr ⟨⟨by omega, ?_⟩, fun H' s' => q _ (s01.trans s')⟩⟩⟩⟩
    rw [Nat.mod_eq_of_lt (by omega)]
    omega
  · refine iteF ?_
    refine ⟨_, rfl, _, _, rfl, rfl, (by show (0 : Int) < 4; decide), rfl, _, rfl, ?_⟩
    show if decide (V.int ((wh : Int) % 4) = V.int 1) = true then _ else _
    rw [e4]
    refine iteF ?_
    refine ⟨_, rfl, _, _, rfl, rfl, (by show (0 : Int) < 4; decide), rfl, _, rfl, ?_⟩
    show if decide (V.int ((wh : Int) % 4) = V.int 2) = true then _ else _
    rw [e4]
    refine iteF ?_
    refine ⟨(by show 0 ≤ sizeLine; decide), fun a1 n_a1 => ?_⟩
    have s_a1 := same_new n_a1 (.lst [])
    have u_a1 : upd H1 a1 (.lst []) a1 = some (.lst []) := upd_same
    generalize upd H1 a1 (.lst []) = G1 at s_a1 u_a1 ⊢
    refine ⟨(by show 1 ≤ sizeLine; decide), fun a2 n_a2 => ?_⟩
    have s_a2 := same_new n_a2 (.lst [V.ref a1])
    have u_a2 : upd G1 a2 (.lst [V.ref a1]) a2 = some (.lst [V.ref a1]) := upd_same
    generalize upd G1 a2 (.lst [V.ref a1]) = G2 at s_a2 u_a2 ⊢
    refine ⟨(by show 1 ≤ sizeLine; decide), fun a3 n_a3 => ?_⟩
    have s_a3 := same_new n_a3 (.lst [V.ref a2])
    have u_a3 : upd G2 a3 (.lst [V.ref a2]) a3 = some (.lst [V.ref a2]) := upd_same
    generalize upd G2 a3 (.lst [V.ref a2]) = G3 at s_a3 u_a3 ⊢
    refine ⟨(by show 1 ≤ sizeLine; decide), fun a4 n_a4 => ?_⟩
    have s_a4 := same_new n_a4 (.lst [V.ref a3])
    have u_a4 : upd G3 a4 (.lst [V.ref a3]) a4 = some (.lst [V.ref a3]) := upd_same
    generalize upd G3 a4 (.lst [V.ref a3]) = G4 at s_a4 u_a4 ⊢
    refine ⟨(by show 1 ≤ sizeLine; decide), fun a5 n_a5 => ?_⟩
    have s_a5 := same_new n_a5 (.lst [V.ref a4])
    have u_a5 : upd G4 a5 (.lst [V.ref a4]) a5 = some (.lst [V.ref a4]) := upd_same
    generalize upd G4 a5 (.lst [V.ref a4]) = G5 at s_a5 u_a5 ⊢
    refine ⟨(by show 1 ≤ sizeLine; decide), fun a6 n_a6 => ?_⟩
    have s_a6 := same_new n_a6 (.lst [V.ref a5])
    have u_a6 : upd G5 a6 (.lst [V.ref a5]) a6 = some (.lst [V.ref a5]) := upd_same
    generalize upd G5 a6 (.lst [V.ref a5]) = G6 at s_a6 u_a6 ⊢
    refine ⟨(by show 1 ≤ sizeLine; decide), fun a7 n_a7 => ?_⟩
    have s_a7 := same_new n_a7 (.lst [V.ref a6])
    have u_a7 : upd G6 a7 (.lst [V.ref a6]) a7 = some (.lst [V.ref a6]) := upd_same
    generalize upd G6 a7 (.lst [V.ref a6]) = G7 at s_a7 u_a7 ⊢
    have t1 : TreeAt G1 (.ref a1) (.mk []) := nil_tree u_a1
    have t2 := tr_li u_a2 (TreesAt.one (TreeAt.same s_a2 _ t1))
    have t3 := tr_li u_a3 (TreesAt.one (TreeAt.same s_a3 _ t2))
    have t4 := tr_li u_a4 (TreesAt.one (TreeAt.same s_a4 _ t3))
    have t5 := tr_li u_a5 (TreesAt.one (TreeAt.same s_a5 _ t4))
    have t6 := tr_li u_a6 (TreesAt.one (TreeAt.same s_a6 _ t5))
    have t7 : TreeAt G7 (.ref a7) T7 := tr_li u_a7 (TreesAt.one (TreeAt.same s_a7 _ t6))
    have sall : Same H1 G7 := s_a1.trans (s_a2.trans (s_a3.trans (s_a4.trans (s_a5.trans (s_a6.trans s_a7)))))
    have e9 : (mo : Int) % 9 = ((mo % 9 : Nat) : Int) := mod_nat' mo 9
    have m9 : mo % 9 < 9 := Nat.mod_lt _ (by decide)
    generalize mo % 9 = m at e9 m9
    obtain ⟨k1, k2⟩ := t7_big ⟨m, m9⟩
    have ez : (2 : Int) + (m : Int) = ((m + 2 : Nat) : Int) := by omega
    refine ⟨_, rfl, _, _, rfl, rfl, (by show (0 : Int) < 9; decide), _, _, rfl, rfl, .ref a7, .int ((m + 2 : Nat) : Int), ?_, .inl ⟨T7, t7, ⟨by decide +kernel, by decide +kernel⟩, .inl ⟨m + 2, rfl, by omega, Bits.mono (a := 4) (Bits.lt (n := 16) (by omega) (by omega) (by decide)) (by decide), .inr (.inr ⟨k1, k2, fun H' s' => q _ (s01.trans (sall.trans s'))⟩)⟩⟩⟩
    rw [← ez, ← e9]; rfl
end
section
variable {P : Program} {w : World} {K : PySem.W.Frag} {mg : Str → Option Value} {base : Heap}
/-! ### _law_with_other -/
theorem wayB_leaf {H : Hp} {t : Tt} {v : V} (h : Leaf H v) : WayB K H t v true := .inl ⟨h, rfl⟩
theorem wayB_no {H : Hp} {t : Tt} {a : Addr} {ws : List Int} (h : H a = some (.lst (ws.map V.int))) (hl : ws.length ≤ 1000) (no : ws ∉ wsI (headsT t)) : WayB K H t (.ref a) true := by
  refine .inr ⟨a, _, _, List.replicate ws.length true, rfl, h, .lst (SqL.of h) (dpInts ws), intsShaped ws, by rw [List.length_map]; exact hl, by rw [List.length_replicate, List.length_map], fun i x hx => ?_, ?_⟩
  · rw [List.getElem?_map] at hx
    obtain ⟨z, hz, e⟩ := Option.map_eq_some_iff.mp hx
    have hi := (List.getElem?_eq_some_iff.mp hz).1
    rw [← e]
    exact ⟨true, by rw [List.getElem?_replicate, if_pos hi], .int _⟩
  · rw [way_in, decide_eq_false no]; rfl
theorem wayB_odd {H : Hp} {t : Tt} {a : Addr} {xs : List V} {ds : List PyData} {bs : List Bool} (h : H a = some (.lst xs)) (hd : DpAll K H xs ds) (sd : SeqAt.shaped (.list ds) = true) (hl : xs.length ≤ 1000) (hb : bs.length = xs.length)
    (hn : ∀ (i : Nat) (x : V), xs[i]? = some x → ∃ y, bs[i]? = some y ∧ NumB H x y) (hf : bs.all id = false) : WayB K H t (.ref a) true := by
  refine .inr ⟨a, xs, _, bs, rfl, h, .lst (SqL.of h) hd, sd, hl, hb, hn, ?_⟩
  rw [hf]; simp
theorem num1 {H : Hp} {x : V} {b : Bool} (h : NumB H x b) : ∀ (i : Nat) (y : V), [x][i]? = some y → ∃ z, [b][i]? = some z ∧ NumB H y z := fun i y hy => by
  cases i with
  | zero => cases (Option.some.inj hy : x = y); exact ⟨b, rfl, h⟩
  | succ i => simp at hy
theorem num2 {H : Hp} {x x2 : V} {b b2 : Bool} (h : NumB H x b) (h2 : NumB H x2 b2) : ∀ (i : Nat) (y : V), [x, x2][i]? = some y → ∃ z, [b, b2][i]? = some z ∧ NumB H y z := fun i y hy => by
  cases i with
  | zero => cases (Option.some.inj hy : x = y); exact ⟨b, rfl, h⟩
  | succ i =>
    cases i with
    | zero => cases (Option.some.inj hy : x2 = y); exact ⟨b2, rfl, h2⟩
    | succ i => simp at hy
theorem no_bl {H : Hp} (b : Bool) : NoNum H (.bl b) := .leaf (.bl b) (fun i e => by cases e)
theorem no_non {H : Hp} : NoNum H .non := .leaf .non (fun i e => by cases e)
def T4 : Tt := .mk [.mk [.mk [], .mk [.mk []]], .mk []]
theorem mulok40 : ∀ k : Fin 40, MulOk (Str.ofString "()") ((k.val : Nat) : Int) := by unfold MulOk; decide +kernel
theorem sign40 : ∀ k : Fin 40, (Txt.mul (Str.ofString "()") ((k.val : Nat) : Int)).length ≤ 78 ∧ (Txt.mul (Str.ofString "()") ((k.val : Nat) : Int) ++ Str.ofString "x").length ≤ 598 ∧ Txt.stripChars (Txt.mul (Str.ofString "()") ((k.val : Nat) : Int) ++ Str.ofString "x") (Str.ofString "()") ≠ Str.ofString "" := by decide +kernel
def TxtQ (K : PySem.W.Frag) (H : Hp) (v : V) : Prop := (∃ l, v = .str (mkS l) ∧ brk l ∧ l.length ≤ 598 ∧ ∀ t, rdL [[]] l ≠ some [t]) ∨ BadTx K H v
theorem txtq_l {H : Hp} (l : List Nat) {z : Str} (e : z = mkS l) (h1 : brk l) (h2 : l.length ≤ 598) (h3 : (rdL [[]] l).map List.length ≠ some 1) : TxtQ K H (.str z) :=
  .inl ⟨l, by rw [e], h1, h2, fun t e => h3 (by rw [e]; rfl)⟩
theorem brk_dec {l : List Nat} (h : l.all (fun c => c == 40 || c == 41) = true) : brk l := fun c hc => by
  have := List.all_eq_true.mp h c hc
  simpa using this
def spWithOther (A1 A2 A3 A4 A5 : Addr) : Sp := fun vs H Q E => ∃ (k wh mo : Nat), vs = [.int (k : Nat), .int (wh : Nat), .int (mo : Nat)] ∧ mo < 1000 ∧
  ((k = 1 ∧ ∀ H', Same H H' → E (.ref A1) none H') ∨ (k = 2 ∧ ∀ H', Same H H' → E (.ref A2) none H') ∨ (k = 3 ∧ ∀ H', Same H H' → E (.ref A3) none H') ∨ (k = 4 ∧ ∀ H', Same H H' → E (.ref A4) none H') ∨ (k = 5 ∧ ∀ H', Same H H' → E (.ref A5) none H'))
theorem ok__law_with_other (T : Txt K mg) : FnOk P w K mg base (L2N.CX P w) 45 T.a__law_with_other T.d__law_with_other ["_law_kind", "_law_which", "_law_more"] (spWithOther T.A_BadWay T.A_BadTimes T.A_BadNumber T.A_BadBase T.A_BadText) := by
  have G_cut := ok_cut (P := P) (w := w) (base := base) T
  have G_written := ok_written (P := P) (w := w) (base := base) T
  have G_stepped := ok_stepped (P := P) (w := w) (base := base) T
  have G_number_of := ok_number_of (P := P) (w := w) (base := base) T
  have G_read := ok_read (P := P) (w := w) (base := base) T
  refine okN T.F__law_with_other sc__law_with_other (fun vs H Q E h => ?_) (fun cdv A outer s H vs Q E hr h => ?_)
  · obtain ⟨k, wh, mo, rfl, _⟩ := h; rfl
  obtain ⟨k, wh, mo, rfl, hmo, h⟩ := h
  have R_cut : Room 44 _ := hr
  have R_written : Room 7 _ := hr.mono (by omega)
  have R_stepped : Room 42 _ := hr.mono (by omega)
  have R_number_of : Room 44 _ := hr
  have R_read : Room 2 _ := hr.mono (by omega)
  refine ⟨_, (pss_cons (ps_set (i := 3) sc__law_with_other.nd rfl (Or.inl rfl) (pe_lst (pa_cons pe_non (pa_cons pe_str (pa_cons pe_bl (pa_cons pe_bl (pa_cons (pe_lst (pa_cons pe_int pa_nil)) (pa_cons (pe_tup (pa_cons pe_int pa_nil)) (pa_cons pe_dnewK (pa_cons (pe_un un_neg pe_int) (pa_cons (pe_op op_sub (pe_un un_neg pe_int) (pv 2)) pa_nil)))))))))))
      (pss_cons (ps_set (i := 4) sc__law_with_other.nd rfl (Or.inl rfl) (pe_lst (pa_cons (pe_lst (pa_cons (pe_lst pa_nil) (pa_cons (pe_lst (pa_cons (pe_lst pa_nil) pa_nil)) pa_nil))) (pa_cons (pe_lst pa_nil) pa_nil))))
      (pss_cons (ps_if (pt_cmpR op_eq (pv 0) pe_int (nomark _)) (pss_cons (ps_set (i := 5) sc__law_with_other.nd rfl (Or.inl rfl) (pe_lst (pa_cons pe_non (pa_cons (pe_tup (pa_cons pe_int (pa_cons pe_int pa_nil))) (pa_cons pe_str (pa_cons pe_int (pa_cons pe_dnewK (pa_cons (pe_lst pa_nil) (pa_cons (pe_lst (pa_cons pe_int pa_nil)) (pa_cons (pe_lst (pa_cons pe_int (pa_cons pe_int pa_nil))) (pa_cons (pe_lst (pa_cons pe_int pa_nil)) (pa_cons (pe_lst (pa_cons pe_int (pa_cons pe_int pa_nil))) (pa_cons (pe_lst (pa_cons (pe_un un_neg pe_int) pa_nil)) (pa_cons (pe_lst (pa_cons pe_int (pa_cons pe_int (pa_cons pe_int pa_nil)))) (pa_cons (pe_lst (pa_cons pe_bl pa_nil)) (pa_cons (pe_lst (pa_cons pe_int (pa_cons pe_bl pa_nil))) pa_nil))))))))))))))))
        (pss_one (ps_ret (pe_call G_cut R_cut rfl T.m_cut T.k_cut T.b_cut .nil (L2N.passes_call (L2N.takes_of rfl rfl rfl rfl) (fun _ _ _ _ h => h)) (pa_cons (pv 4) (pa_cons (pe_ix (r := rIxL K) ix_list (pe_op op_cat (pv 5) (pe_lst (pa_cons (pe_lst (pa_cons pe_int (pa_cons pe_int pa_nil))) (pa_cons (pe_lst (pa_cons (pe_op op_add (pv 2) pe_int) pa_nil)) (pa_cons (pe_lst (pa_cons pe_int (pa_cons pe_non pa_nil))) pa_nil))))) (pe_op op_mod (pv 1) pe_int) (fun _ _ => rfl)) (pa_cons pe_non pa_nil))))))) pss_nil)
      (pss_cons (ps_if (pt_cmpR op_eq (pv 0) pe_int (nomark _)) (pss_one (ps_ret (pe_call G_cut R_cut rfl T.m_cut T.k_cut T.b_cut .nil (L2N.passes_call (L2N.takes_of rfl rfl rfl rfl) (fun _ _ _ _ h => h)) (pa_cons (pv 4) (pa_cons (pe_ix (r := rIxL K) ix_list (pe_lst (pa_cons (pe_lst (pa_cons pe_int pa_nil)) (pa_cons (pe_lst (pa_cons pe_int (pa_cons pe_int pa_nil))) (pa_cons (pe_lst (pa_cons pe_int (pa_cons pe_int (pa_cons pe_int pa_nil)))) pa_nil)))) (pe_op op_mod (pe_op op_fdivW (pv 1) pe_int) pe_int) (fun _ _ => rfl)) (pa_cons (pe_ix (r := rIxL K) ix_list (pv 3) (pe_op op_mod (pv 1) pe_int) (fun _ _ => rfl)) pa_nil)))))) pss_nil)
      (pss_cons (ps_if (pt_cmpR op_eq (pv 0) pe_int (nomark _)) (pss_cons (ps_set (i := 5) sc__law_with_other.nd rfl (Or.inl rfl) (pe_ix (r := rIxL K) ix_list (pe_op op_cat (pv 3) (pe_lst (pa_cons (pe_op op_shl pe_int pe_int) (pa_cons (pe_op op_add (pe_op op_shl pe_int pe_int) (pv 2)) pa_nil)))) (pe_op op_mod (pv 1) pe_int) (fun _ _ => rfl)))
        (pss_one (ps_ret (pe_ifExp (pt_cmpR op_eq (pe_op op_mod (pe_op op_fdivW (pv 1) pe_int) pe_int) pe_int (nomark _)) (pe_call G_written R_written rfl T.m_written T.k_written T.b_written .nil (L2N.passes_call (L2N.takes_of rfl rfl rfl rfl) (fun _ _ _ _ h => h)) (pa_cons (pv 5) (pa_cons pe_int pa_nil))) (pe_call G_stepped R_stepped rfl T.m_stepped T.k_stepped T.b_stepped .nil (L2N.passes_call (L2N.takes_of rfl rfl rfl rfl) (fun _ _ _ _ h => h)) (pa_cons (pv 5) (pa_cons pe_non pa_nil))))))) pss_nil)
      (pss_cons (ps_if (pt_cmpR op_eq (pv 0) pe_int (nomark _)) (pss_cons (ps_set (i := 5) sc__law_with_other.nd rfl (Or.inl rfl) (pe_ix (r := rIxL K) ix_list (pe_op op_cat (pv 3) (pe_lst (pa_cons pe_int (pa_cons pe_int pa_nil)))) (pe_op op_mod (pv 1) pe_int) (fun _ _ => rfl)))
        (pss_cons (ps_set (i := 6) sc__law_with_other.nd rfl (Or.inl rfl) (pe_op op_mod (pe_op op_fdivW (pv 1) pe_int) pe_int))
        (pss_one (ps_ret (pe_ifExp (pt_cmpR op_eq (pv 6) pe_int (nomark _)) (pe_call G_written R_written rfl T.m_written T.k_written T.b_written .nil (L2N.passes_call (L2N.takes_of rfl rfl rfl rfl) (fun _ _ _ _ h => h)) (pa_cons (pv 2) (pa_cons (pv 5) pa_nil))) (pe_ifExp (pt_cmpR op_eq (pv 6) pe_int (nomark _)) (pe_call G_stepped R_stepped rfl T.m_stepped T.k_stepped T.b_stepped .nil (L2N.passes_call (L2N.takes_of rfl rfl rfl rfl) (fun _ _ _ _ h => h)) (pa_cons (pv 2) (pa_cons (pv 5) pa_nil))) (pe_call G_number_of R_number_of rfl T.m_number_of T.k_number_of T.b_number_of .nil (L2N.passes_call (L2N.takes_of rfl rfl rfl rfl) (fun _ _ _ _ h => h)) (pa_cons (pv 4) (pa_cons (pv 5) pa_nil))))))))) pss_nil)
      (pss_cons (ps_set (i := 5) sc__law_with_other.nd rfl (Or.inl rfl) (pe_lst (pa_cons pe_non (pa_cons pe_int (pa_cons (pe_lst pa_nil) (pa_cons (pe_lst (pa_cons pe_str (pa_cons pe_str pa_nil))) (pa_cons pe_str (pa_cons pe_str (pa_cons pe_str (pa_cons pe_str (pa_cons pe_str (pa_cons pe_str (pa_cons pe_str (pa_cons pe_str (pa_cons (pe_op op_repS pe_str pe_int) (pa_cons (pe_op op_add_str (pe_op op_repS pe_str pe_int) (pe_op op_repS pe_str pe_int)) pa_nil))))))))))))))))
      (pss_one (ps_ret (pe_call G_read R_read rfl T.m_read T.k_read T.b_read .nil (L2N.passes_call (L2N.takes_of rfl rfl rfl rfl) (fun _ _ _ _ h => h)) (pa_cons (pe_ifExp (pt_cmpR op_lt (pe_op op_mod (pv 1) pe_int) pe_int (nomark _)) (pe_ix (r := rIxL K) ix_list (pv 5) (pe_op op_mod (pv 1) pe_int) (fun _ _ => rfl)) (pe_op op_add_str (pe_op op_repS pe_str (pe_op op_mod (pv 2) pe_int)) pe_str)) pa_nil))))))))))), ?_⟩
  refine ⟨(by show 1 ≤ sizeLine; decide), fun p1 n_p1 => ?_⟩
  have s_p1 := same_new n_p1 (.lst [V.int 1])
  have u_p1 : upd H p1 (.lst [V.int 1]) p1 = some (.lst [V.int 1]) := upd_same
  generalize upd H p1 (.lst [V.int 1]) = H1 at s_p1 u_p1 ⊢
  refine ⟨(by show 1 ≤ sizeLine; decide), fun p2 n_p2 => ?_⟩
  have s_p2 := same_new n_p2 (.tup [V.int 1])
  have u_p2 : upd H1 p2 (.tup [V.int 1]) p2 = some (.tup [V.int 1]) := upd_same
  generalize upd H1 p2 (.tup [V.int 1]) = H2 at s_p2 u_p2 ⊢
  refine fun p3 n_p3 => ?_
  have s_p3 := same_new n_p3 (.dK [])
  have u_p3 : upd H2 p3 (.dK []) p3 = some (.dK []) := upd_same
  generalize upd H2 p3 (.dK []) = H3 at s_p3 u_p3 ⊢
  refine ⟨_, rfl, _, rfl, _, rfl, _, _, rfl, rfl, ?_⟩
  dsimp only
  refine ⟨(by show 9 ≤ sizeLine; decide), fun L n_L => ?_⟩
  have s_L := same_new n_L (.lst [V.non, .str (Str.ofString "1"), .bl true, .bl false, .ref p1, .ref p2, .ref p3, .int (-1), .int (-1 - (mo : Int))])
  have u_L : upd H3 L (.lst [V.non, .str (Str.ofString "1"), .bl true, .bl false, .ref p1, .ref p2, .ref p3, .int (-1), .int (-1 - (mo : Int))]) L = some (.lst [V.non, .str (Str.ofString "1"), .bl true, .bl false, .ref p1, .ref p2, .ref p3, .int (-1), .int (-1 - (mo : Int))]) := upd_same
  generalize upd H3 L (.lst [V.non, .str (Str.ofString "1"), .bl true, .bl false, .ref p1, .ref p2, .ref p3, .int (-1), .int (-1 - (mo : Int))]) = H4 at s_L u_L ⊢
  refine ⟨(by show 0 ≤ sizeLine; decide), fun a1 n_a1 => ?_⟩
  have s_a1 := same_new n_a1 (.lst [])
  have u_a1 : upd H4 a1 (.lst []) a1 = some (.lst []) := upd_same
  generalize upd H4 a1 (.lst []) = G1 at s_a1 u_a1 ⊢
  refine ⟨(by show 0 ≤ sizeLine; decide), fun a2 n_a2 => ?_⟩
  have s_a2 := same_new n_a2 (.lst [])
  have u_a2 : upd G1 a2 (.lst []) a2 = some (.lst []) := upd_same
  generalize upd G1 a2 (.lst []) = G2 at s_a2 u_a2 ⊢
  refine ⟨(by show 1 ≤ sizeLine; decide), fun a3 n_a3 => ?_⟩
  have s_a3 := same_new n_a3 (.lst [V.ref a2])
  have u_a3 : upd G2 a3 (.lst [V.ref a2]) a3 = some (.lst [V.ref a2]) := upd_same
  generalize upd G2 a3 (.lst [V.ref a2]) = G3 at s_a3 u_a3 ⊢
  refine ⟨(by show 2 ≤ sizeLine; decide), fun a4 n_a4 => ?_⟩
  have s_a4 := same_new n_a4 (.lst [V.ref a1, .ref a3])
  have u_a4 : upd G3 a4 (.lst [V.ref a1, .ref a3]) a4 = some (.lst [V.ref a1, .ref a3]) := upd_same
  generalize upd G3 a4 (.lst [V.ref a1, .ref a3]) = G4 at s_a4 u_a4 ⊢
  refine ⟨(by show 0 ≤ sizeLine; decide), fun a5 n_a5 => ?_⟩
  have s_a5 := same_new n_a5 (.lst [])
  have u_a5 : upd G4 a5 (.lst []) a5 = some (.lst []) := upd_same
  generalize upd G4 a5 (.lst []) = G5 at s_a5 u_a5 ⊢
  refine ⟨(by show 2 ≤ sizeLine; decide), fun tr n_tr => ?_⟩
  have s_tr := same_new n_tr (.lst [V.ref a4, .ref a5])
  have u_tr : upd G5 tr (.lst [V.ref a4, .ref a5]) tr = some (.lst [V.ref a4, .ref a5]) := upd_same
  generalize upd G5 tr (.lst [V.ref a4, .ref a5]) = G6 at s_tr u_tr ⊢
  have tt : TreeAt G6 (.ref tr) T4 := tr_li u_tr (treesAt_c (tr_li (s_tr _ _ (s_a5 _ _ u_a4)) (treesAt_c (nil_tree (s_tr _ _ (s_a5 _ _ (s_a4 _ _ (s_a3 _ _ (s_a2 _ _ u_a1)))))) (TreesAt.one (tr_li (s_tr _ _ (s_a5 _ _ (s_a4 _ _ u_a3))) (TreesAt.one (nil_tree (s_tr _ _ (s_a5 _ _ (s_a4 _ _ (s_a3 _ _ u_a2)))))))))) (TreesAt.one (nil_tree (s_tr _ _ u_a5))))
  have o4 : okT T4 := ⟨by decide +kernel, by decide +kernel⟩
  have s46 : Same H4 G6 := s_a1.trans (s_a2.trans (s_a3.trans (s_a4.trans (s_a5.trans s_tr))))
  have s06 : Same H G6 := s_p1.trans (s_p2.trans (s_p3.trans (s_L.trans s46)))
  have hL := s46 _ _ u_L
  have strange : ∀ x, x ∈ [V.non, .str (Str.ofString "1"), .bl true, .bl false, .ref p1, .ref p2, .ref p3, .int (-1), .int (-1 - (mo : Int))] → NoTimes G6 x := by
    intro x hx
    simp only [List.mem_cons, List.mem_nil_iff, or_false] at hx
    rcases hx with e | e | e | e | e | e | e | e | e <;> rw [e]
    · exact .inl no_non
    · exact .inl (.leaf (.str _) (fun i e => by cases e))
    · exact .inl (no_bl _)
    · exact .inl (no_bl _)
    · exact .inl (.lst ((s_p2.trans (s_p3.trans (s_L.trans s46))) _ _ u_p1))
    · exact .inl (.leaf (.tup ((s_p3.trans (s_L.trans s46)) _ _ u_p2)) (fun i e => by cases e))
    · exact .inl (.leaf (.dK ((s_L.trans s46) _ _ u_p3)) (fun i e => by cases e))
    · exact .inr ⟨_, rfl, by decide⟩
    · exact .inr ⟨_, rfl, by omega⟩
  clear u_p1 u_p2 u_p3 u_L u_a1 u_a2 u_a3 u_a4 u_a5 u_tr s_p1 s_p2 s_p3 s_L s_a1 s_a2 s_a3 s_a4 s_a5 s_tr s46
  have gmo : mo < GR := Nat.lt_of_lt_of_le (m := 2 ^ 10) (by omega) (Nat.pow_le_pow_right (by decide) (by decide))
  rcases h with ⟨rfl, q⟩ | ⟨rfl, q⟩ | ⟨rfl, q⟩ | ⟨rfl, q⟩ | ⟨rfl, q⟩
  · -- no way
    refine ⟨_, rfl, rfl, _, rfl, iteT ?_⟩
    refine ⟨(by show 2 ≤ sizeLine; decide), fun b1 n_b1 => ?_⟩
    have s_b1 := same_new n_b1 (.tup [V.int 0, .int 0])
    have u_b1 : upd G6 b1 (.tup [V.int 0, .int 0]) b1 = some (.tup [V.int 0, .int 0]) := upd_same
    generalize upd G6 b1 (.tup [V.int 0, .int 0]) = J1 at s_b1 u_b1 ⊢
    refine fun b2 n_b2 => ?_
    have s_b2 := same_new n_b2 (.dK [])
    have u_b2 : upd J1 b2 (.dK []) b2 = some (.dK []) := upd_same
    generalize upd J1 b2 (.dK []) = J2 at s_b2 u_b2 ⊢
    refine ⟨(by show 0 ≤ sizeLine; decide), fun b3 n_b3 => ?_⟩
    have s_b3 := same_new n_b3 (.lst [])
    have u_b3 : upd J2 b3 (.lst []) b3 = some (.lst []) := upd_same
    generalize upd J2 b3 (.lst []) = J3 at s_b3 u_b3 ⊢
    refine ⟨(by show 1 ≤ sizeLine; decide), fun b4 n_b4 => ?_⟩
    have s_b4 := same_new n_b4 (.lst [V.int 0])
    have u_b4 : upd J3 b4 (.lst [V.int 0]) b4 = some (.lst [V.int 0]) := upd_same
    generalize upd J3 b4 (.lst [V.int 0]) = J4 at s_b4 u_b4 ⊢
    refine ⟨(by show 2 ≤ sizeLine; decide), fun b5 n_b5 => ?_⟩
    have s_b5 := same_new n_b5 (.lst [V.int 0, .int 1])
    have u_b5 : upd J4 b5 (.lst [V.int 0, .int 1]) b5 = some (.lst [V.int 0, .int 1]) := upd_same
    generalize upd J4 b5 (.lst [V.int 0, .int 1]) = J5 at s_b5 u_b5 ⊢
    refine ⟨(by show 1 ≤ sizeLine; decide), fun b6 n_b6 => ?_⟩
    have s_b6 := same_new n_b6 (.lst [V.int 2])
    have u_b6 : upd J5 b6 (.lst [V.int 2]) b6 = some (.lst [V.int 2]) := upd_same
    generalize upd J5 b6 (.lst [V.int 2]) = J6 at s_b6 u_b6 ⊢
    refine ⟨(by show 2 ≤ sizeLine; decide), fun b7 n_b7 => ?_⟩
    have s_b7 := same_new n_b7 (.lst [V.int 0, .int 2])
    have u_b7 : upd J6 b7 (.lst [V.int 0, .int 2]) b7 = some (.lst [V.int 0, .int 2]) := upd_same
    generalize upd J6 b7 (.lst [V.int 0, .int 2]) = J7 at s_b7 u_b7 ⊢
    refine ⟨_, rfl, ?_⟩
    dsimp only
    refine ⟨(by show 1 ≤ sizeLine; decide), fun b8 n_b8 => ?_⟩
    have s_b8 := same_new n_b8 (.lst [V.int (-1)])
    have u_b8 : upd J7 b8 (.lst [V.int (-1)]) b8 = some (.lst [V.int (-1)]) := upd_same
    generalize upd J7 b8 (.lst [V.int (-1)]) = J8 at s_b8 u_b8 ⊢
    refine ⟨(by show 3 ≤ sizeLine; decide), fun b9 n_b9 => ?_⟩
    have s_b9 := same_new n_b9 (.lst [V.int 0, .int 0, .int 0])
    have u_b9 : upd J8 b9 (.lst [V.int 0, .int 0, .int 0]) b9 = some (.lst [V.int 0, .int 0, .int 0]) := upd_same
    generalize upd J8 b9 (.lst [V.int 0, .int 0, .int 0]) = J9 at s_b9 u_b9 ⊢
    refine ⟨(by show 1 ≤ sizeLine; decide), fun b10 n_b10 => ?_⟩
    have s_b10 := same_new n_b10 (.lst [V.bl true])
    have u_b10 : upd J9 b10 (.lst [V.bl true]) b10 = some (.lst [V.bl true]) := upd_same
    generalize upd J9 b10 (.lst [V.bl true]) = J10 at s_b10 u_b10 ⊢
    refine ⟨(by show 2 ≤ sizeLine; decide), fun b11 n_b11 => ?_⟩
    have s_b11 := same_new n_b11 (.lst [V.int 0, .bl false])
    have u_b11 : upd J10 b11 (.lst [V.int 0, .bl false]) b11 = some (.lst [V.int 0, .bl false]) := upd_same
    generalize upd J10 b11 (.lst [V.int 0, .bl false]) = J11 at s_b11 u_b11 ⊢
    refine ⟨(by show 14 ≤ sizeLine; decide), fun BL n_BL => ?_⟩
    have s_BL := same_new n_BL (.lst [V.non, .ref b1, .str (Str.ofString "0"), .int 0, .ref b2, .ref b3, .ref b4, .ref b5, .ref b6, .ref b7, .ref b8, .ref b9, .ref b10, .ref b11])
    have u_BL : upd J11 BL (.lst [V.non, .ref b1, .str (Str.ofString "0"), .int 0, .ref b2, .ref b3, .ref b4, .ref b5, .ref b6, .ref b7, .ref b8, .ref b9, .ref b10, .ref b11]) BL = some (.lst [V.non, .ref b1, .str (Str.ofString "0"), .int 0, .ref b2, .ref b3, .ref b4, .ref b5, .ref b6, .ref b7, .ref b8, .ref b9, .ref b10, .ref b11]) := upd_same
    generalize upd J11 BL (.lst [V.non, .ref b1, .str (Str.ofString "0"), .int 0, .ref b2, .ref b3, .ref b4, .ref b5, .ref b6, .ref b7, .ref b8, .ref b9, .ref b10, .ref b11]) = J12 at s_BL u_BL ⊢
    refine ⟨_, rfl, _, rfl, ?_⟩
    refine ⟨(by show 2 ≤ sizeLine; decide), fun c1 n_c1 => ?_⟩
    have s_c1 := same_new n_c1 (.lst [V.int 1, .int 0])
    have u_c1 : upd J12 c1 (.lst [V.int 1, .int 0]) c1 = some (.lst [V.int 1, .int 0]) := upd_same
    generalize upd J12 c1 (.lst [V.int 1, .int 0]) = J13 at s_c1 u_c1 ⊢
    refine ⟨_, rfl, _, _, rfl, rfl, ?_⟩
    dsimp only
    refine ⟨(by show 1 ≤ sizeLine; decide), fun c2 n_c2 => ?_⟩
    have s_c2 := same_new n_c2 (.lst [V.int ((mo : Int) + 2)])
    have u_c2 : upd J13 c2 (.lst [V.int ((mo : Int) + 2)]) c2 = some (.lst [V.int ((mo : Int) + 2)]) := upd_same
    generalize upd J13 c2 (.lst [V.int ((mo : Int) + 2)]) = J14 at s_c2 u_c2 ⊢
    refine ⟨(by show 2 ≤ sizeLine; decide), fun c3 n_c3 => ?_⟩
    have s_c3 := same_new n_c3 (.lst [V.int 0, .non])
    have u_c3 : upd J14 c3 (.lst [V.int 0, .non]) c3 = some (.lst [V.int 0, .non]) := upd_same
    generalize upd J14 c3 (.lst [V.int 0, .non]) = J15 at s_c3 u_c3 ⊢
    refine ⟨(by show 3 ≤ sizeLine; decide), fun c4 n_c4 => ?_⟩
    have s_c4 := same_new n_c4 (.lst [V.ref c1, .ref c2, .ref c3])
    have u_c4 : upd J15 c4 (.lst [V.ref c1, .ref c2, .ref c3]) c4 = some (.lst [V.ref c1, .ref c2, .ref c3]) := upd_same
    generalize upd J15 c4 (.lst [V.ref c1, .ref c2, .ref c3]) = J16 at s_c4 u_c4 ⊢
    have z16 := s_c4
    have z15 := s_c3.trans z16
    have z14 := s_c2.trans z15
    have z13 := s_c1.trans z14
    have z12 := s_BL.trans z13
    have z11 := s_b11.trans z12
    have z10 := s_b10.trans z11
    have z9 := s_b9.trans z10
    have z8 := s_b8.trans z9
    have z7 := s_b7.trans z8
    have z6 := s_b6.trans z7
    have z5 := s_b5.trans z6
    have z4 := s_b4.trans z5
    have z3 := s_b3.trans z4
    have z2 := s_b2.trans z3
    have z1 := s_b1.trans z2
    have all : ∀ x, x ∈ [V.non, .ref b1, .str (Str.ofString "0"), .int 0, .ref b2, .ref b3, .ref b4, .ref b5, .ref b6, .ref b7, .ref b8, .ref b9, .ref b10, .ref b11] ++ [V.ref c1, .ref c2, .ref c3] → WayB K J16 T4 x true := by
      intro x hx
      simp only [List.cons_append, List.nil_append, List.mem_cons, List.mem_nil_iff, or_false] at hx
      rcases hx with e | e | e | e | e | e | e | e | e | e | e | e | e | e | e | e | e <;> rw [e]
      · exact wayB_leaf .non
      · exact wayB_leaf (.tup (z2 _ _ u_b1))
      · exact wayB_leaf (.str _)
      · exact wayB_leaf (.int _)
      · exact wayB_leaf (.dK (z3 _ _ u_b2))
      · exact wayB_no (ws := []) (z4 _ _ u_b3) (by decide) (by decide +kernel)
      · exact wayB_no (ws := [0]) (z5 _ _ u_b4) (by decide) (by decide +kernel)
      · exact wayB_no (ws := [0, 1]) (z6 _ _ u_b5) (by decide) (by decide +kernel)
      · exact wayB_no (ws := [2]) (z7 _ _ u_b6) (by decide) (by decide +kernel)
      · exact wayB_no (ws := [0, 2]) (z8 _ _ u_b7) (by decide) (by decide +kernel)
      · exact wayB_no (ws := [-1]) (z9 _ _ u_b8) (by decide) (by decide +kernel)
      · exact wayB_no (ws := [0, 0, 0]) (z10 _ _ u_b9) (by decide) (by decide +kernel)
      · exact wayB_odd (bs := [false]) (z11 _ _ u_b10) (.cons (.bl _) .nil) (by decide +kernel) (by decide) rfl (num1 (.no (no_bl _))) rfl
      · exact wayB_odd (bs := [true, false]) (z12 _ _ u_b11) (.cons (.int _) (.cons (.bl _) .nil)) (by decide +kernel) (by decide) rfl (num2 (.int _) (.no (no_bl _))) rfl
      · exact wayB_no (ws := [1, 0]) (z14 _ _ u_c1) (by decide) (by decide +kernel)
      · refine wayB_no (ws := [(mo : Int) + 2]) (z15 _ _ u_c2) (by show 1 ≤ 1000; decide) fun hm => ?_
        have e4 : wsI (headsT T4) = [[0, 0], [0, 1, 0], [1]] := by decide +kernel
        rw [e4] at hm
        simp only [List.mem_cons, List.mem_nil_iff, or_false] at hm
        rcases hm with e | e | e
        · cases e
        · cases e
        · injection e with e; omega
      · exact wayB_odd (bs := [true, false]) (z16 _ _ u_c3) (.cons (.int _) (.cons .non .nil)) (by decide +kernel) (by decide) rfl (num2 (.int _) (.no no_non)) rfl
    refine ⟨BL, c4, _, _, rfl, rfl, z13 _ _ u_BL, u_c4, (by show 17 ≤ sizeLine; decide), fun ct nct => ?_⟩
    have sct := same_new nct (.lst ([V.non, .ref b1, .str (Str.ofString "0"), .int 0, .ref b2, .ref b3, .ref b4, .ref b5, .ref b6, .ref b7, .ref b8, .ref b9, .ref b10, .ref b11] ++ [V.ref c1, .ref c2, .ref c3]))
    have uct : upd J16 ct (.lst ([V.non, .ref b1, .str (Str.ofString "0"), .int 0, .ref b2, .ref b3, .ref b4, .ref b5, .ref b6, .ref b7, .ref b8, .ref b9, .ref b10, .ref b11] ++ [V.ref c1, .ref c2, .ref c3])) ct = some (.lst ([V.non, .ref b1, .str (Str.ofString "0"), .int 0, .ref b2, .ref b3, .ref b4, .ref b5, .ref b6, .ref b7, .ref b8, .ref b9, .ref b10, .ref b11] ++ [V.ref c1, .ref c2, .ref c3])) := upd_same
    generalize upd J16 ct (.lst ([V.non, .ref b1, .str (Str.ofString "0"), .int 0, .ref b2, .ref b3, .ref b4, .ref b5, .ref b6, .ref b7, .ref b8, .ref b9, .ref b10, .ref b11] ++ [V.ref c1, .ref c2, .ref c3])) = J17 at sct uct ⊢
    have e17 : (wh : Int) % 17 = ((wh % 17 : Nat) : Int) := mod_nat' wh 17
    have w17 : wh % 17 < 17 := Nat.mod_lt _ (by decide)
    obtain ⟨x, hx, hw⟩ := atI_all (k := wh % 17) (by show wh % 17 < 17; exact w17) all
    rw [← e17] at hx
    refine ⟨_, rfl, _, _, rfl, rfl, (by show (0 : Int) < 17; decide), ct, _, _, x, rfl, rfl, SqL.of uct, hx, ?_⟩
    exact ⟨.ref tr, x, .non, rfl, .inl ⟨T4, TreeAt.same (z1.trans sct) _ tt, o4, .inr ⟨hw.same sct, fun H' s' => q _ (s06.trans (z1.trans (sct.trans s')))⟩⟩⟩
  · -- no times
    refine ⟨_, rfl, rfl, _, rfl, iteF ?_⟩
    refine ⟨_, rfl, rfl, _, rfl, iteT ?_⟩
    refine ⟨_, rfl, ?_⟩
    refine ⟨(by show 1 ≤ sizeLine; decide), fun c1 n_c1 => ?_⟩
    have s_c1 := same_new n_c1 (.lst [V.int 1])
    have u_c1 : upd G6 c1 (.lst [V.int 1]) c1 = some (.lst [V.int 1]) := upd_same
    generalize upd G6 c1 (.lst [V.int 1]) = J1 at s_c1 u_c1 ⊢
    refine ⟨(by show 2 ≤ sizeLine; decide), fun c2 n_c2 => ?_⟩
    have s_c2 := same_new n_c2 (.lst [V.int 0, .int 0])
    have u_c2 : upd J1 c2 (.lst [V.int 0, .int 0]) c2 = some (.lst [V.int 0, .int 0]) := upd_same
    generalize upd J1 c2 (.lst [V.int 0, .int 0]) = J2 at s_c2 u_c2 ⊢
    refine ⟨(by show 3 ≤ sizeLine; decide), fun c3 n_c3 => ?_⟩
    have s_c3 := same_new n_c3 (.lst [V.int 0, .int 1, .int 0])
    have u_c3 : upd J2 c3 (.lst [V.int 0, .int 1, .int 0]) c3 = some (.lst [V.int 0, .int 1, .int 0]) := upd_same
    generalize upd J2 c3 (.lst [V.int 0, .int 1, .int 0]) = J3 at s_c3 u_c3 ⊢
    refine ⟨(by show 3 ≤ sizeLine; decide), fun c4 n_c4 => ?_⟩
    have s_c4 := same_new n_c4 (.lst [V.ref c1, .ref c2, .ref c3])
    have u_c4 : upd J3 c4 (.lst [V.ref c1, .ref c2, .ref c3]) c4 = some (.lst [V.ref c1, .ref c2, .ref c3]) := upd_same
    generalize upd J3 c4 (.lst [V.ref c1, .ref c2, .ref c3]) = J4 at s_c4 u_c4 ⊢
    have all : ∀ x, x ∈ [V.ref c1, .ref c2, .ref c3] → ∃ b wy, x = .ref b ∧ J4 b = some (.lst (mI wy)) ∧ wy ∈ headsT T4 := by
      intro x hx
      simp only [List.mem_cons, List.mem_nil_iff, or_false] at hx
      rcases hx with e | e | e <;> rw [e]
      · exact ⟨c1, [1], rfl, (s_c2.trans (s_c3.trans s_c4)) _ _ u_c1, by decide +kernel⟩
      · exact ⟨c2, [0, 0], rfl, (s_c3.trans s_c4) _ _ u_c2, by decide +kernel⟩
      · exact ⟨c3, [0, 1, 0], rfl, s_c4 _ _ u_c3, by decide +kernel⟩
    have z4 : Same G6 J4 := s_c1.trans (s_c2.trans (s_c3.trans s_c4))
    have e3 : (wh : Int) / 9 % 3 = ((wh / 9 % 3 : Nat) : Int) := by rw [show (9 : Int) = ((9 : Nat) : Int) from rfl, div_nat]; exact mod_nat' _ 3
    have w3 : wh / 9 % 3 < 3 := Nat.mod_lt _ (by decide)
    obtain ⟨x, hx, b, wy, rfl, hb, hm⟩ := atI_all (k := wh / 9 % 3) (by show wh / 9 % 3 < 3; exact w3) all
    rw [← e3] at hx
    refine ⟨_, rfl, _, _, rfl, rfl, wide_div (b := 4) (by decide) (by decide) (by decide) (by decide), _, _, rfl, rfl, (by show (0 : Int) < 3; decide), c4, _, _, _, rfl, rfl, SqL.of u_c4, hx, ?_⟩
    have e9 : (wh : Int) % 9 = ((wh % 9 : Nat) : Int) := mod_nat' wh 9
    have w9 : wh % 9 < 9 := Nat.mod_lt _ (by decide)
    obtain ⟨y, hy, hn⟩ := atI_all (k := wh % 9) (by show wh % 9 < 9; exact w9) strange
    rw [← e9] at hy
    refine ⟨_, rfl, _, rfl, _, _, rfl, rfl, (by show (0 : Int) < 9; decide), L, _, _, y, rfl, rfl, SqL.of (z4 _ _ hL), hy, ?_⟩
    exact ⟨.ref tr, .ref b, y, rfl, .inl ⟨T4, TreeAt.same z4 _ tt, o4, .inl ⟨b, wy, rfl, hb, hm, .inr ⟨hn.same z4, fun H' s' => q _ (s06.trans (z4.trans s'))⟩⟩⟩⟩
  · -- no number
    refine ⟨_, rfl, rfl, _, rfl, iteF ?_⟩
    refine ⟨_, rfl, rfl, _, rfl, iteF ?_⟩
    refine ⟨_, rfl, rfl, _, rfl, iteT ?_⟩
    refine ⟨_, rfl, _, _, rfl, rfl, (by exact ⟨by decide, by decide, by decide⟩), _, _, rfl, rfl, (by exact ⟨by decide, by decide, by decide⟩), _, rfl, _, _, rfl, rfl, (by show 2 ≤ sizeLine; decide), fun c1 nc1 => ?_⟩
    have s_c1 := same_new nc1 (.lst [V.int (1 * 2 ^ Int.toNat 400), .int (1 * 2 ^ Int.toNat 400 + (mo : Int))])
    refine ⟨L, c1, _, _, rfl, rfl, s_c1 _ _ hL, upd_same, (by show 11 ≤ sizeLine; decide), fun ct nct => ?_⟩
    have sct := s_c1.trans (same_new nct (.lst ([V.non, .str (Str.ofString "1"), .bl true, .bl false, .ref p1, .ref p2, .ref p3, .int (-1), .int (-1 - (mo : Int))] ++ [V.int (1 * 2 ^ Int.toNat 400), .int (1 * 2 ^ Int.toNat 400 + (mo : Int))])))
    have g400 : ((GR : Nat) : Int) ≤ 1 * 2 ^ Int.toNat 400 := by decide +kernel
    have all : ∀ x, x ∈ [V.non, .str (Str.ofString "1"), .bl true, .bl false, .ref p1, .ref p2, .ref p3, .int (-1), .int (-1 - (mo : Int))] ++ [V.int (1 * 2 ^ Int.toNat 400), .int (1 * 2 ^ Int.toNat 400 + (mo : Int))] → NoNumber G6 x := by
      intro x hx
      rcases List.mem_append.mp hx with hx | hx
      · rcases strange x hx with h | ⟨i, e, hi⟩
        · exact .inl h
        · exact .inr ⟨i, e, .inl hi⟩
      · rcases List.mem_cons.mp hx with e | hx
        · exact .inr ⟨_, e, .inr g400⟩
        · rw [List.mem_singleton] at hx
          exact .inr ⟨_, hx, .inr (by omega)⟩
    have e11 : (wh : Int) % 11 = ((wh % 11 : Nat) : Int) := mod_nat' wh 11
    have w11 : wh % 11 < 11 := Nat.mod_lt _ (by decide)
    obtain ⟨x, hx, hn⟩ := atI_all (k := wh % 11) (by show wh % 11 < 11; exact w11) all
    rw [← e11] at hx
    refine ⟨_, rfl, _, _, rfl, rfl, (by show (0 : Int) < 11; decide), ct, _, _, x, rfl, rfl, SqL.of upd_same, hx, ?_⟩
    have hn2 : NoNumber _ x := hn.imp (fun h => h.same sct) id
    refine ⟨_, rfl, _, _, rfl, rfl, wide_div (b := 4) (by decide) (by decide) (by decide) (by decide), _, _, rfl, rfl, (by show (0 : Int) < 2; decide), rfl, _, rfl, ite2 (fun _ => ?_) (fun _ => ?_)⟩
    · exact ⟨_, rfl, x, .int 1, rfl, .inr ⟨hn2, q _ (s06.trans sct)⟩⟩
    · exact ⟨_, rfl, x, .non, rfl, .inr ⟨hn2, q _ (s06.trans sct)⟩⟩
  · -- no base
    refine ⟨_, rfl, rfl, _, rfl, iteF ?_⟩
    refine ⟨_, rfl, rfl, _, rfl, iteF ?_⟩
    refine ⟨_, rfl, rfl, _, rfl, iteF ?_⟩
    refine ⟨_, rfl, rfl, _, rfl, iteT ?_⟩
    refine ⟨_, rfl, ?_⟩
    refine ⟨(by show 2 ≤ sizeLine; decide), fun c1 n_c1 => ?_⟩
    have s_c1 := same_new n_c1 (.lst [V.int 0, .int 1])
    have u_c1 : upd G6 c1 (.lst [V.int 0, .int 1]) c1 = some (.lst [V.int 0, .int 1]) := upd_same
    generalize upd G6 c1 (.lst [V.int 0, .int 1]) = J1 at s_c1 u_c1 ⊢
    refine ⟨L, c1, _, _, rfl, rfl, s_c1 _ _ hL, u_c1, (by show 11 ≤ sizeLine; decide), fun ct nct => ?_⟩
    have sct := s_c1.trans (same_new nct (.lst ([V.non, .str (Str.ofString "1"), .bl true, .bl false, .ref p1, .ref p2, .ref p3, .int (-1), .int (-1 - (mo : Int))] ++ [V.int 0, .int 1])))
    have all : ∀ x, x ∈ [V.non, .str (Str.ofString "1"), .bl true, .bl false, .ref p1, .ref p2, .ref p3, .int (-1), .int (-1 - (mo : Int))] ++ [V.int 0, .int 1] → NoBase G6 x := by
      intro x hx
      rcases List.mem_append.mp hx with hx | hx
      · rcases strange x hx with h | ⟨i, e, hi⟩
        · exact .inl h
        · exact .inr ⟨i, e, by omega⟩
      · rcases List.mem_cons.mp hx with e | hx
        · exact .inr ⟨_, e, by decide⟩
        · rw [List.mem_singleton] at hx
          exact .inr ⟨_, hx, by decide⟩
    have e11 : (wh : Int) % 11 = ((wh % 11 : Nat) : Int) := mod_nat' wh 11
    have w11 : wh % 11 < 11 := Nat.mod_lt _ (by decide)
    obtain ⟨x, hx, hn⟩ := atI_all (k := wh % 11) (by show wh % 11 < 11; exact w11) all
    rw [← e11] at hx
    refine ⟨_, rfl, _, _, rfl, rfl, (by show (0 : Int) < 11; decide), ct, _, _, x, rfl, rfl, SqL.of upd_same, hx, ?_⟩
    have hn2 : NoBase _ x := hn.same sct
    refine ⟨_, rfl, _, _, rfl, rfl, wide_div (b := 4) (by decide) (by decide) (by decide) (by decide), _, _, rfl, rfl, (by show (0 : Int) < 3; decide), ?_⟩
    refine ⟨_, rfl, rfl, _, rfl, ite2 (fun _ => ?_) (fun _ => ?_)⟩
    · exact ⟨_, rfl, _, rfl, .int (mo : Nat), x, rfl, .inl ⟨mo, rfl, gmo, .inr ⟨hn2, q _ (s06.trans sct)⟩⟩⟩
    refine ⟨_, rfl, rfl, _, rfl, ite2 (fun _ => ?_) (fun _ => ?_)⟩
    · exact ⟨_, rfl, _, rfl, .int (mo : Nat), x, rfl, .inl ⟨mo, rfl, gmo, .inr ⟨hn2, q _ (s06.trans sct)⟩⟩⟩
    · exact ⟨_, rfl, _, rfl, .ref tr, x, rfl, .inl ⟨T4, TreeAt.same sct _ tt, o4, .inr ⟨hn2, fun H' s' => q _ (s06.trans (sct.trans s'))⟩⟩⟩
  · -- no text
    refine ⟨_, rfl, rfl, _, rfl, iteF ?_⟩
    refine ⟨_, rfl, rfl, _, rfl, iteF ?_⟩
    refine ⟨_, rfl, rfl, _, rfl, iteF ?_⟩
    refine ⟨_, rfl, rfl, _, rfl, iteF ?_⟩
    refine ⟨(by show 0 ≤ sizeLine; decide), fun b1 n_b1 => ?_⟩
    have s_b1 := same_new n_b1 (.lst [])
    have u_b1 : upd G6 b1 (.lst []) b1 = some (.lst []) := upd_same
    generalize upd G6 b1 (.lst []) = J1 at s_b1 u_b1 ⊢
    refine ⟨(by show 2 ≤ sizeLine; decide), fun b2 n_b2 => ?_⟩
    have s_b2 := same_new n_b2 (.lst [V.str (Str.ofString "("), .str (Str.ofString ")")])
    have u_b2 : upd J1 b2 (.lst [V.str (Str.ofString "("), .str (Str.ofString ")")]) b2 = some (.lst [V.str (Str.ofString "("), .str (Str.ofString ")")]) := upd_same
    generalize upd J1 b2 (.lst [V.str (Str.ofString "("), .str (Str.ofString ")")]) = J2 at s_b2 u_b2 ⊢
    refine ⟨_, _, rfl, rfl, ⟨by decide +kernel, fun _ _ => by decide +kernel, fun _ _ => by decide +kernel⟩, _, _, rfl, rfl, ⟨by decide +kernel, fun _ _ => by decide +kernel, fun _ _ => by decide +kernel⟩, _, _, rfl, rfl, ⟨by decide +kernel, fun _ _ => by decide +kernel, fun _ _ => by decide +kernel⟩, _, _, rfl, rfl, (by decide +kernel), ?_⟩
    refine ⟨(by show 14 ≤ sizeLine; decide), fun TL nTL => ?_⟩
    have z2 := s_b1.trans s_b2
    have sTL := same_new nTL (.lst [V.non, .int 5, .ref b1, .ref b2, .str (Str.ofString "[]"), .str (Str.ofString "( )"), .str (Str.ofString "()\n"), .str (Str.ofString ")"), .str (Str.ofString "("), .str (Str.ofString "(()"), .str (Str.ofString "())"), .str (Str.ofString ")("), .str (Txt.mul (Str.ofString "()") 300), .str (Txt.mul (Str.ofString "(") 41 ++ Txt.mul (Str.ofString ")") 41)])
    have all : ∀ x, x ∈ [V.non, .int 5, .ref b1, .ref b2, .str (Str.ofString "[]"), .str (Str.ofString "( )"), .str (Str.ofString "()\n"), .str (Str.ofString ")"), .str (Str.ofString "("), .str (Str.ofString "(()"), .str (Str.ofString "())"), .str (Str.ofString ")("), .str (Txt.mul (Str.ofString "()") 300), .str (Txt.mul (Str.ofString "(") 41 ++ Txt.mul (Str.ofString ")") 41)] → ∀ H', Same J2 H' → TxtQ K H' x := by
      intro x hx H' sx
      simp only [List.mem_cons, List.mem_nil_iff, or_false] at hx
      rcases hx with e | e | e | e | e | e | e | e | e | e | e | e | e | e <;> rw [e]
      · exact .inr (.other (.base .non) (kit_ty (by decide +kernel)))
      · exact .inr (.other (.base (.int _)) (kit_ty (by decide +kernel)))
      · exact .inr (.other (.base (.lst ((s_b2.trans sx) _ _ u_b1))) (kit_ty (by decide +kernel)))
      · exact .inr (.other (.base (.lst (sx _ _ u_b2))) (kit_ty (by decide +kernel)))
      · exact .inr (.signs (by decide +kernel) (by decide +kernel))
      · exact .inr (.signs (by decide +kernel) (by decide +kernel))
      · exact .inr (.signs (by decide +kernel) (by decide +kernel))
      · exact txtq_l [41] (by decide +kernel) (brk_dec (by decide)) (by decide) (by decide +kernel)
      · exact txtq_l [40] (by decide +kernel) (brk_dec (by decide)) (by decide) (by decide +kernel)
      · exact txtq_l [40, 40, 41] (by decide +kernel) (brk_dec (by decide)) (by decide) (by decide +kernel)
      · exact txtq_l [40, 41, 41] (by decide +kernel) (brk_dec (by decide)) (by decide) (by decide +kernel)
      · exact txtq_l [41, 40] (by decide +kernel) (brk_dec (by decide)) (by decide) (by decide +kernel)
      · exact .inr (.long (by decide +kernel) (by decide +kernel))
      · exact txtq_l (List.replicate 41 40 ++ List.replicate 41 41) (by decide +kernel) (brk_dec (by decide +kernel)) (by decide +kernel) (by decide +kernel)
    have fin : ∀ x H', TxtQ K H' x → Same G6 H' → spRead K T.A_BadText [x] H' Q E := fun x H' hx sx => by
      refine ⟨x, rfl, ?_⟩
      rcases hx with ⟨l, e, h1, h2, h3⟩ | hx
      · exact .inl ⟨l, e, h1, h2, fun t ht => absurd ht (h3 t), fun _ H2 s2 => q _ (s06.trans (sx.trans s2))⟩
      · exact .inr ⟨hx, fun H2 s2 => q _ (s06.trans (sx.trans s2))⟩
    refine ⟨_, rfl, _, _, rfl, rfl, (by show (0 : Int) < 15; decide), _, _, rfl, rfl, _, rfl, ite2 (fun _ => ?_) (fun _ => ?_)⟩
    · have e14 : (wh : Int) % 14 = ((wh % 14 : Nat) : Int) := mod_nat' wh 14
      have w14 : wh % 14 < 14 := Nat.mod_lt _ (by decide)
      obtain ⟨x, hx, hn⟩ := atI_all (k := wh % 14) (by show wh % 14 < 14; exact w14) all
      rw [← e14] at hx
      refine ⟨_, rfl, _, rfl, _, _, rfl, rfl, (by show (0 : Int) < 14; decide), TL, _, _, x, rfl, rfl, SqL.of upd_same, hx, ?_⟩
      exact fin _ _ (hn _ sTL) (z2.trans sTL)
    · have e40 : (mo : Int) % 40 = ((mo % 40 : Nat) : Int) := mod_nat' mo 40
      have m40 : mo % 40 < 40 := Nat.mod_lt _ (by decide)
      have mok := mulok40 ⟨mo % 40, m40⟩
      obtain ⟨k0, k1, k2⟩ := sign40 ⟨mo % 40, m40⟩
      have lx : (Str.ofString "x").length = 1 := by decide +kernel
      simp only [← e40] at mok k0 k1 k2
      refine ⟨_, rfl, _, _, rfl, rfl, (by show (0 : Int) < 40; decide), _, _, rfl, rfl, mok, _, _, rfl, rfl, ?_, ?_⟩
      · rw [lx]
        exact Nat.le_trans (Nat.add_le_add_right k0 1) (by decide)
      exact fin _ _ (.inr (.signs k1 k2)) (z2.trans sTL)
end
section
variable {P : Program} {w : World} {K : PySem.W.Frag} {mg : Str → Option Value} {base : Heap}
/-! ### _law_told -/
def dueL (k : Nat) : List Bool := (List.range 7).map (fun i => decide (k = i)) ++ [true]
def spLawTold5 : Sp := fun vs H Q _ => ∃ (k wh mo : Nat), vs = [.int (k : Nat), .int (wh : Nat), .int (mo : Nat)] ∧ k < 7 ∧ mo < 1000 ∧ ∀ H' p, Same H H' → H' p = some (.lst ((dueL k).map V.bl)) → Q (.ref p) H'
theorem ok__law_told (T : Txt K mg) : FnOk P w K mg base CX0 46 T.a__law_told T.d__law_told ["_law_kind", "_law_which", "_law_more"] spLawTold5 := by
  have G__law_with_tree := ok__law_with_tree (P := P) (w := w) (base := base) T
  have G__law_bad_tree := ok__law_bad_tree (P := P) (w := w) (base := base) T
  have G__law_great := ok__law_great (P := P) (w := w) (base := base) T
  have G__law_with_other := ok__law_with_other (P := P) (w := w) (base := base) T
  refine T.F__law_told.ok sc__law_told (fun vs H Q E h => ?_) (fun cdv A outer s H vs Q E hr h => ?_)
  · obtain ⟨k, wh, mo, rfl, _⟩ := h; rfl
  obtain ⟨k, wh, mo, rfl, hk, hmo, q⟩ := h
  have R__law_with_tree : Room 45 _ := hr
  have R__law_bad_tree : Room 1 _ := hr.mono (by omega)
  have R__law_great : Room 45 _ := hr
  have R__law_with_other : Room 45 _ := hr
  have e9 : (wh : Int) / 18 % 9 = ((wh / 18 % 9 : Nat) : Int) := by rw [show (18 : Int) = ((18 : Nat) : Int) from rfl, div_nat]; exact mod_nat' _ 9
  have w9 : wh / 18 % 9 < 9 := Nat.mod_lt _ (by decide)
  have hk' : k = 0 ∨ k = 1 ∨ k = 2 ∨ k = 3 ∨ k = 4 ∨ k = 5 ∨ k = 6 := by omega
  refine ⟨_, (pss_cons (L2N.ps_try_as (i := 3) (Wout := fun _ _ _ _ => False) rfl rfl sc__law_told.nd rfl rfl ⟨rfl, by decide, Or.inl T.g_HeadError⟩ takesN0 (fun W pn xe tk _ => (pss_one (ps_if (pt_cmpR op_eq (pv 0) pe_int (nomark _)) (pss_one (ps_expr (pe_callS G__law_with_tree R__law_with_tree rfl T.m__law_with_tree T.k__law_with_tree T.b__law_with_tree (fun σ => L2N.passAt tk σ) (pa_cons (pe_op op_mod (pe_op op_fdivW (pv 1) pe_int) pe_int) (pa_cons (pe_call G__law_bad_tree R__law_bad_tree rfl T.m__law_bad_tree T.k__law_bad_tree T.b__law_bad_tree .nil pass0 (pa_cons (pv 1) (pa_cons (pv 2) pa_nil))) pa_nil))))) (pss_one (ps_if (pt_cmpR op_eq (pv 0) pe_int (nomark _)) (pss_one (ps_expr (pe_callS G__law_great R__law_great rfl T.m__law_great T.k__law_great T.b__law_great (fun σ => L2N.passAt tk σ) (pa_cons (pv 1) (pa_cons (pv 2) pa_nil))))) (pss_one (ps_expr (pe_callS G__law_with_other R__law_with_other rfl T.m__law_with_other T.k__law_with_other T.b__law_with_other (fun σ => L2N.passAt tk σ) (pa_cons (pv 0) (pa_cons (pv 1) (pa_cons (pv 2) pa_nil))))))))))) (fun a oe cls d pn hz hf => (pss_cons (ps_set (i := 4) sc__law_told.nd rfl (Or.inl rfl) (pe_lst (pa_cons (pe_callB (r := rIsEx K a cls d) (call_isEx hz hf) (by rfl) T.z_isinstance (by decide +kernel) (pa_cons (pv 3) (pa_cons (pe_glob (v := .ref T.A_BadTree) rfl T.g_BadTree rfl) pa_nil))) (pa_cons (pe_callB (r := rIsEx K a cls d) (call_isEx hz hf) (by rfl) T.z_isinstance (by decide +kernel) (pa_cons (pv 3) (pa_cons (pe_glob (v := .ref T.A_BadWay) rfl T.g_BadWay rfl) pa_nil))) (pa_cons (pe_callB (r := rIsEx K a cls d) (call_isEx hz hf) (by rfl) T.z_isinstance (by decide +kernel) (pa_cons (pv 3) (pa_cons (pe_glob (v := .ref T.A_BadTimes) rfl T.g_BadTimes rfl) pa_nil))) pa_nil)))))
        (pss_cons (ps_set (i := 4) sc__law_told.nd rfl (Or.inl rfl) (pe_op op_cat (pv 4) (pe_lst (pa_cons (pe_callB (r := rIsEx K a cls d) (call_isEx hz hf) (by rfl) T.z_isinstance (by decide +kernel) (pa_cons (pv 3) (pa_cons (pe_glob (v := .ref T.A_BadNumber) rfl T.g_BadNumber rfl) pa_nil))) (pa_cons (pe_callB (r := rIsEx K a cls d) (call_isEx hz hf) (by rfl) T.z_isinstance (by decide +kernel) (pa_cons (pv 3) (pa_cons (pe_glob (v := .ref T.A_BadBase) rfl T.g_BadBase rfl) pa_nil))) (pa_cons (pe_callB (r := rIsEx K a cls d) (call_isEx hz hf) (by rfl) T.z_isinstance (by decide +kernel) (pa_cons (pv 3) (pa_cons (pe_glob (v := .ref T.A_BadText) rfl T.g_BadText rfl) pa_nil))) pa_nil))))))
        (pss_one (ps_ret (pe_op op_cat (pv 4) (pe_lst (pa_cons (pe_callB (r := rIsEx K a cls d) (call_isEx hz hf) (by rfl) T.z_isinstance (by decide +kernel) (pa_cons (pv 3) (pa_cons (pe_glob (v := .ref T.A_TooGreat) rfl T.g_TooGreat rfl) pa_nil))) (pa_cons (pe_callB (r := rIsEx K a cls d) (call_isEx hz hf) (by rfl) T.z_isinstance (by decide +kernel) (pa_cons (pv 3) (pa_cons (pe_bltn (v := .ty "ValueError") (u := .type "ValueError") (by rfl) T.z_ValueError (by decide +kernel) rfl) pa_nil))) pa_nil))))))))))
      (pss_one (ps_ret (pe_lst pa_nil)))), ?_⟩
  rcases hk' with e | e | e | e | e | e | e <;> subst e
  · refine ⟨_, rfl, rfl, _, rfl, iteT ?_⟩
    refine ⟨_, rfl, _, _, rfl, rfl, wide_div (b := 5) (by decide) (by decide) (by decide) (by decide), _, _, rfl, rfl, (by show (0 : Int) < 9; decide), _, rfl, _, rfl, wh, mo, rfl, fun H0 v s0 hb => ?_⟩
    refine ⟨wh / 18 % 9, v, by rw [← e9], w9, hb, fun H1 s1' => ?_⟩
    have s1 := s0.trans s1'
    refine ⟨true, PySem.W.exm_ref T.sb_HeadError T.hd_HeadError T.tt_HeadError T.su_BadTree, fun _ a na => ?_, fun z => by cases z⟩
    refine ⟨_, rfl, T.A_BadTree, _, _, _, rfl, rfl, T.ex_BadTree, rfl, (fun _ h => h), T.kt_BadTree_BadTree, ?_⟩
    refine ⟨_, rfl, T.A_BadTree, _, _, _, rfl, rfl, T.ex_BadTree, rfl, (fun _ h => h), T.kt_BadTree_BadWay, ?_⟩
    refine ⟨_, rfl, T.A_BadTree, _, _, _, rfl, rfl, T.ex_BadTree, rfl, (fun _ h => h), T.kt_BadTree_BadTimes, ?_⟩
    refine ⟨(by show 3 ≤ sizeLine; decide), fun p np => ?_⟩
    have z1 := same_new np (.lst [V.bl (decide (0 = 0)), .bl (decide (0 = 1)), .bl (decide (0 = 2))])
    have u1 : upd H1 p (.lst [V.bl (decide (0 = 0)), .bl (decide (0 = 1)), .bl (decide (0 = 2))]) p = some (.lst [V.bl (decide (0 = 0)), .bl (decide (0 = 1)), .bl (decide (0 = 2))]) := upd_same
    refine ⟨_, rfl, ?_⟩
    refine ⟨_, rfl, T.A_BadTree, _, _, _, rfl, rfl, T.ex_BadTree, rfl, (fun _ h => h), T.kt_BadTree_BadNumber, ?_⟩
    refine ⟨_, rfl, T.A_BadTree, _, _, _, rfl, rfl, T.ex_BadTree, rfl, (fun _ h => h), T.kt_BadTree_BadBase, ?_⟩
    refine ⟨_, rfl, T.A_BadTree, _, _, _, rfl, rfl, T.ex_BadTree, rfl, (fun _ h => h), T.kt_BadTree_BadText, ?_⟩
    refine ⟨(by show 3 ≤ sizeLine; decide), fun p2 np2 => ?_⟩
    have z2 := same_new np2 (.lst [V.bl (decide (0 = 3)), .bl (decide (0 = 4)), .bl (decide (0 = 5))])
    refine ⟨p, p2, _, _, rfl, rfl, z2 _ _ u1, upd_same, (by show 6 ≤ sizeLine; decide), fun p3 np3 => ?_⟩
    have z3 := same_new np3 (.lst [V.bl (decide (0 = 0)), .bl (decide (0 = 1)), .bl (decide (0 = 2)), .bl (decide (0 = 3)), .bl (decide (0 = 4)), .bl (decide (0 = 5))])
    refine ⟨_, rfl, ?_⟩
    refine ⟨_, rfl, T.A_BadTree, _, _, _, rfl, rfl, T.ex_BadTree, rfl, (fun _ h => h), T.kt_BadTree_TooGreat, ?_⟩
    refine ⟨_, rfl, T.A_BadTree, _, _, _, rfl, rfl, T.ex_BadTree, rfl, (fun _ h => h), T.kt_BadTree_ValueError, ?_⟩
    refine ⟨(by show 2 ≤ sizeLine; decide), fun p4 np4 => ?_⟩
    have z4 := same_new np4 (.lst [V.bl (decide (0 = 6)), .bl true])
    refine ⟨p3, p4, [V.bl (decide (0 = 0)), .bl (decide (0 = 1)), .bl (decide (0 = 2)), .bl (decide (0 = 3)), .bl (decide (0 = 4)), .bl (decide (0 = 5))], [V.bl (decide (0 = 6)), .bl true], rfl, rfl, z4 _ _ upd_same, upd_same, (by show 8 ≤ sizeLine; decide), fun p5 np5 => ?_⟩
    have z5 := same_new np5 (.lst ([V.bl (decide (0 = 0)), .bl (decide (0 = 1)), .bl (decide (0 = 2)), .bl (decide (0 = 3)), .bl (decide (0 = 4)), .bl (decide (0 = 5))] ++ [V.bl (decide (0 = 6)), .bl true]))
    exact q _ _ (s1.trans (z1.trans (z2.trans (z3.trans (z4.trans z5))))) upd_same
  · refine ⟨_, rfl, rfl, _, rfl, iteF ?_⟩
    refine ⟨_, rfl, rfl, _, rfl, iteF ?_⟩
    refine ⟨_, rfl, _, rfl, _, rfl, 1, wh, mo, rfl, hmo, .inl ⟨rfl, fun H1 s1 => ?_⟩⟩
    refine ⟨true, PySem.W.exm_ref T.sb_HeadError T.hd_HeadError T.tt_HeadError T.su_BadWay, fun _ a na => ?_, fun z => by cases z⟩
    refine ⟨_, rfl, T.A_BadWay, _, _, _, rfl, rfl, T.ex_BadWay, rfl, (fun _ h => h), T.kt_BadWay_BadTree, ?_⟩
    refine ⟨_, rfl, T.A_BadWay, _, _, _, rfl, rfl, T.ex_BadWay, rfl, (fun _ h => h), T.kt_BadWay_BadWay, ?_⟩
    refine ⟨_, rfl, T.A_BadWay, _, _, _, rfl, rfl, T.ex_BadWay, rfl, (fun _ h => h), T.kt_BadWay_BadTimes, ?_⟩
    refine ⟨(by show 3 ≤ sizeLine; decide), fun p np => ?_⟩
    have z1 := same_new np (.lst [V.bl (decide (1 = 0)), .bl (decide (1 = 1)), .bl (decide (1 = 2))])
    have u1 : upd H1 p (.lst [V.bl (decide (1 = 0)), .bl (decide (1 = 1)), .bl (decide (1 = 2))]) p = some (.lst [V.bl (decide (1 = 0)), .bl (decide (1 = 1)), .bl (decide (1 = 2))]) := upd_same
    refine ⟨_, rfl, ?_⟩
    refine ⟨_, rfl, T.A_BadWay, _, _, _, rfl, rfl, T.ex_BadWay, rfl, (fun _ h => h), T.kt_BadWay_BadNumber, ?_⟩
    refine ⟨_, rfl, T.A_BadWay, _, _, _, rfl, rfl, T.ex_BadWay, rfl, (fun _ h => h), T.kt_BadWay_BadBase, ?_⟩
    refine ⟨_, rfl, T.A_BadWay, _, _, _, rfl, rfl, T.ex_BadWay, rfl, (fun _ h => h), T.kt_BadWay_BadText, ?_⟩
    refine ⟨(by show 3 ≤ sizeLine; decide), fun p2 np2 => ?_⟩
    have z2 := same_new np2 (.lst [V.bl (decide (1 = 3)), .bl (decide (1 = 4)), .bl (decide (1 = 5))])
    refine ⟨p, p2, _, _, rfl, rfl, z2 _ _ u1, upd_same, (by show 6 ≤ sizeLine; decide), fun p3 np3 => ?_⟩
    have z3 := same_new np3 (.lst [V.bl (decide (1 = 0)), .bl (decide (1 = 1)), .bl (decide (1 = 2)), .bl (decide (1 = 3)), .bl (decide (1 = 4)), .bl (decide (1 = 5))])
    refine ⟨_, rfl, ?_⟩
    refine ⟨_, rfl, T.A_BadWay, _, _, _, rfl, rfl, T.ex_BadWay, rfl, (fun _ h => h), T.kt_BadWay_TooGreat, ?_⟩
    refine ⟨_, rfl, T.A_BadWay, _, _, _, rfl, rfl, T.ex_BadWay, rfl, (fun _ h => h), T.kt_BadWay_ValueError, ?_⟩
    refine ⟨(by show 2 ≤ sizeLine; decide), fun p4 np4 => ?_⟩
    have z4 := same_new np4 (.lst [V.bl (decide (1 = 6)), .bl true])
    refine ⟨p3, p4, [V.bl (decide (1 = 0)), .bl (decide (1 = 1)), .bl (decide (1 = 2)), .bl (decide (1 = 3)), .bl (decide (1 = 4)), .bl (decide (1 = 5))], [V.bl (decide (1 = 6)), .bl true], rfl, rfl, z4 _ _ upd_same, upd_same, (by show 8 ≤ sizeLine; decide), fun p5 np5 => ?_⟩
    have z5 := same_new np5 (.lst ([V.bl (decide (1 = 0)), .bl (decide (1 = 1)), .bl (decide (1 = 2)), .bl (decide (1 = 3)), .bl (decide (1 = 4)), .bl (decide (1 = 5))] ++ [V.bl (decide (1 = 6)), .bl true]))
    exact q _ _ (s1.trans (z1.trans (z2.trans (z3.trans (z4.trans z5))))) upd_same
  · refine ⟨_, rfl, rfl, _, rfl, iteF ?_⟩
    refine ⟨_, rfl, rfl, _, rfl, iteF ?_⟩
    refine ⟨_, rfl, _, rfl, _, rfl, 2, wh, mo, rfl, hmo, .inr (.inl ⟨rfl, fun H1 s1 => ?_⟩)⟩
    refine ⟨true, PySem.W.exm_ref T.sb_HeadError T.hd_HeadError T.tt_HeadError T.su_BadTimes, fun _ a na => ?_, fun z => by cases z⟩
    refine ⟨_, rfl, T.A_BadTimes, _, _, _, rfl, rfl, T.ex_BadTimes, rfl, (fun _ h => h), T.kt_BadTimes_BadTree, ?_⟩
    refine ⟨_, rfl, T.A_BadTimes, _, _, _, rfl, rfl, T.ex_BadTimes, rfl, (fun _ h => h), T.kt_BadTimes_BadWay, ?_⟩
    refine ⟨_, rfl, T.A_BadTimes, _, _, _, rfl, rfl, T.ex_BadTimes, rfl, (fun _ h => h), T.kt_BadTimes_BadTimes, ?_⟩
    refine ⟨(by show 3 ≤ sizeLine; decide), fun p np => ?_⟩
    have z1 := same_new np (.lst [V.bl (decide (2 = 0)), .bl (decide (2 = 1)), .bl (decide (2 = 2))])
    have u1 : upd H1 p (.lst [V.bl (decide (2 = 0)), .bl (decide (2 = 1)), .bl (decide (2 = 2))]) p = some (.lst [V.bl (decide (2 = 0)), .bl (decide (2 = 1)), .bl (decide (2 = 2))]) := upd_same
    refine ⟨_, rfl, ?_⟩
    refine ⟨_, rfl, T.A_BadTimes, _, _, _, rfl, rfl, T.ex_BadTimes, rfl, (fun _ h => h), T.kt_BadTimes_BadNumber, ?_⟩
    refine ⟨_, rfl, T.A_BadTimes, _, _, _, rfl, rfl, T.ex_BadTimes, rfl, (fun _ h => h), T.kt_BadTimes_BadBase, ?_⟩
    refine ⟨_, rfl, T.A_BadTimes, _, _, _, rfl, rfl, T.ex_BadTimes, rfl, (fun _ h => h), T.kt_BadTimes_BadText, ?_⟩
    refine ⟨(by show 3 ≤ sizeLine; decide), fun p2 np2 => ?_⟩
    have z2 := same_new np2 (.lst [V.bl (decide (2 = 3)), .bl (decide (2 = 4)), .bl (decide (2 = 5))])
    refine ⟨p, p2, _, _, rfl, rfl, z2 _ _ u1, upd_same, (by show 6 ≤ sizeLine; decide), fun p3 np3 => ?_⟩
    have z3 := same_new np3 (.lst [V.bl (decide (2 = 0)), .bl (decide (2 = 1)), .bl (decide (2 = 2)), .bl (decide (2 = 3)), .bl (decide (2 = 4)), .bl (decide (2 = 5))])
    refine ⟨_, rfl, ?_⟩
    refine ⟨_, rfl, T.A_BadTimes, _, _, _, rfl, rfl, T.ex_BadTimes, rfl, (fun _ h => h), T.kt_BadTimes_TooGreat, ?_⟩
    refine ⟨_, rfl, T.A_BadTimes, _, _, _, rfl, rfl, T.ex_BadTimes, rfl, (fun _ h => h), T.kt_BadTimes_ValueError, ?_⟩
    refine ⟨(by show 2 ≤ sizeLine; decide), fun p4 np4 => ?_⟩
    have z4 := same_new np4 (.lst [V.bl (decide (2 = 6)), .bl true])
    refine ⟨p3, p4, [V.bl (decide (2 = 0)), .bl (decide (2 = 1)), .bl (decide (2 = 2)), .bl (decide (2 = 3)), .bl (decide (2 = 4)), .bl (decide (2 = 5))], [V.bl (decide (2 = 6)), .bl true], rfl, rfl, z4 _ _ upd_same, upd_same, (by show 8 ≤ sizeLine; decide), fun p5 np5 => ?_⟩
    have z5 := same_new np5 (.lst ([V.bl (decide (2 = 0)), .bl (decide (2 = 1)), .bl (decide (2 = 2)), .bl (decide (2 = 3)), .bl (decide (2 = 4)), .bl (decide (2 = 5))] ++ [V.bl (decide (2 = 6)), .bl true]))
    exact q _ _ (s1.trans (z1.trans (z2.trans (z3.trans (z4.trans z5))))) upd_same
  · refine ⟨_, rfl, rfl, _, rfl, iteF ?_⟩
    refine ⟨_, rfl, rfl, _, rfl, iteF ?_⟩
    refine ⟨_, rfl, _, rfl, _, rfl, 3, wh, mo, rfl, hmo, .inr (.inr (.inl ⟨rfl, fun H1 s1 => ?_⟩))⟩
    refine ⟨true, PySem.W.exm_ref T.sb_HeadError T.hd_HeadError T.tt_HeadError T.su_BadNumber, fun _ a na => ?_, fun z => by cases z⟩
    refine ⟨_, rfl, T.A_BadNumber, _, _, _, rfl, rfl, T.ex_BadNumber, rfl, (fun _ h => h), T.kt_BadNumber_BadTree, ?_⟩
    refine ⟨_, rfl, T.A_BadNumber, _, _, _, rfl, rfl, T.ex_BadNumber, rfl, (fun _ h => h), T.kt_BadNumber_BadWay, ?_⟩
    refine ⟨_, rfl, T.A_BadNumber, _, _, _, rfl, rfl, T.ex_BadNumber, rfl, (fun _ h => h), T.kt_BadNumber_BadTimes, ?_⟩
    refine ⟨(by show 3 ≤ sizeLine; decide), fun p np => ?_⟩
    have z1 := same_new np (.lst [V.bl (decide (3 = 0)), .bl (decide (3 = 1)), .bl (decide (3 = 2))])
    have u1 : upd H1 p (.lst [V.bl (decide (3 = 0)), .bl (decide (3 = 1)), .bl (decide (3 = 2))]) p = some (.lst [V.bl (decide (3 = 0)), .bl (decide (3 = 1)), .bl (decide (3 = 2))]) := upd_same
    refine ⟨_, rfl, ?_⟩
    refine ⟨_, rfl, T.A_BadNumber, _, _, _, rfl, rfl, T.ex_BadNumber, rfl, (fun _ h => h), T.kt_BadNumber_BadNumber, ?_⟩
    refine ⟨_, rfl, T.A_BadNumber, _, _, _, rfl, rfl, T.ex_BadNumber, rfl, (fun _ h => h), T.kt_BadNumber_BadBase, ?_⟩
    refine ⟨_, rfl, T.A_BadNumber, _, _, _, rfl, rfl, T.ex_BadNumber, rfl, (fun _ h => h), T.kt_BadNumber_BadText, ?_⟩
    refine ⟨(by show 3 ≤ sizeLine; decide), fun p2 np2 => ?_⟩
    have z2 := same_new np2 (.lst [V.bl (decide (3 = 3)), .bl (decide (3 = 4)), .bl (decide (3 = 5))])
    refine ⟨p, p2, _, _, rfl, rfl, z2 _ _ u1, upd_same, (by show 6 ≤ sizeLine; decide), fun p3 np3 => ?_⟩
    have z3 := same_new np3 (.lst [V.bl (decide (3 = 0)), .bl (decide (3 = 1)), .bl (decide (3 = 2)), .bl (decide (3 = 3)), .bl (decide (3 = 4)), .bl (decide (3 = 5))])
    refine ⟨_, rfl, ?_⟩
    refine ⟨_, rfl, T.A_BadNumber, _, _, _, rfl, rfl, T.ex_BadNumber, rfl, (fun _ h => h), T.kt_BadNumber_TooGreat, ?_⟩
    refine ⟨_, rfl, T.A_BadNumber, _, _, _, rfl, rfl, T.ex_BadNumber, rfl, (fun _ h => h), T.kt_BadNumber_ValueError, ?_⟩
    refine ⟨(by show 2 ≤ sizeLine; decide), fun p4 np4 => ?_⟩
    have z4 := same_new np4 (.lst [V.bl (decide (3 = 6)), .bl true])
    refine ⟨p3, p4, [V.bl (decide (3 = 0)), .bl (decide (3 = 1)), .bl (decide (3 = 2)), .bl (decide (3 = 3)), .bl (decide (3 = 4)), .bl (decide (3 = 5))], [V.bl (decide (3 = 6)), .bl true], rfl, rfl, z4 _ _ upd_same, upd_same, (by show 8 ≤ sizeLine; decide), fun p5 np5 => ?_⟩
    have z5 := same_new np5 (.lst ([V.bl (decide (3 = 0)), .bl (decide (3 = 1)), .bl (decide (3 = 2)), .bl (decide (3 = 3)), .bl (decide (3 = 4)), .bl (decide (3 = 5))] ++ [V.bl (decide (3 = 6)), .bl true]))
    exact q _ _ (s1.trans (z1.trans (z2.trans (z3.trans (z4.trans z5))))) upd_same
  · refine ⟨_, rfl, rfl, _, rfl, iteF ?_⟩
    refine ⟨_, rfl, rfl, _, rfl, iteF ?_⟩
    refine ⟨_, rfl, _, rfl, _, rfl, 4, wh, mo, rfl, hmo, .inr (.inr (.inr (.inl ⟨rfl, fun H1 s1 => ?_⟩)))⟩
    refine ⟨true, PySem.W.exm_ref T.sb_HeadError T.hd_HeadError T.tt_HeadError T.su_BadBase, fun _ a na => ?_, fun z => by cases z⟩
    refine ⟨_, rfl, T.A_BadBase, _, _, _, rfl, rfl, T.ex_BadBase, rfl, (fun _ h => h), T.kt_BadBase_BadTree, ?_⟩
    refine ⟨_, rfl, T.A_BadBase, _, _, _, rfl, rfl, T.ex_BadBase, rfl, (fun _ h => h), T.kt_BadBase_BadWay, ?_⟩
    refine ⟨_, rfl, T.A_BadBase, _, _, _, rfl, rfl, T.ex_BadBase, rfl, (fun _ h => h), T.kt_BadBase_BadTimes, ?_⟩
    refine ⟨(by show 3 ≤ sizeLine; decide), fun p np => ?_⟩
    have z1 := same_new np (.lst [V.bl (decide (4 = 0)), .bl (decide (4 = 1)), .bl (decide (4 = 2))])
    have u1 : upd H1 p (.lst [V.bl (decide (4 = 0)), .bl (decide (4 = 1)), .bl (decide (4 = 2))]) p = some (.lst [V.bl (decide (4 = 0)), .bl (decide (4 = 1)), .bl (decide (4 = 2))]) := upd_same
    refine ⟨_, rfl, ?_⟩
    refine ⟨_, rfl, T.A_BadBase, _, _, _, rfl, rfl, T.ex_BadBase, rfl, (fun _ h => h), T.kt_BadBase_BadNumber, ?_⟩
    refine ⟨_, rfl, T.A_BadBase, _, _, _, rfl, rfl, T.ex_BadBase, rfl, (fun _ h => h), T.kt_BadBase_BadBase, ?_⟩
    refine ⟨_, rfl, T.A_BadBase, _, _, _, rfl, rfl, T.ex_BadBase, rfl, (fun _ h => h), T.kt_BadBase_BadText, ?_⟩
    refine ⟨(by show 3 ≤ sizeLine; decide), fun p2 np2 => ?_⟩
    have z2 := same_new np2 (.lst [V.bl (decide (4 = 3)), .bl (decide (4 = 4)), .bl (decide (4 = 5))])
    refine ⟨p, p2, _, _, rfl, rfl, z2 _ _ u1, upd_same, (by show 6 ≤ sizeLine; decide), fun p3 np3 => ?_⟩
    have z3 := same_new np3 (.lst [V.bl (decide (4 = 0)), .bl (decide (4 = 1)), .bl (decide (4 = 2)), .bl (decide (4 = 3)), .bl (decide (4 = 4)), .bl (decide (4 = 5))])
    refine ⟨_, rfl, ?_⟩
    refine ⟨_, rfl, T.A_BadBase, _, _, _, rfl, rfl, T.ex_BadBase, rfl, (fun _ h => h), T.kt_BadBase_TooGreat, ?_⟩
    refine ⟨_, rfl, T.A_BadBase, _, _, _, rfl, rfl, T.ex_BadBase, rfl, (fun _ h => h), T.kt_BadBase_ValueError, ?_⟩
    refine ⟨(by show 2 ≤ sizeLine; decide), fun p4 np4 => ?_⟩
    have z4 := same_new np4 (.lst [V.bl (decide (4 = 6)), .bl true])
    refine ⟨p3, p4, [V.bl (decide (4 = 0)), .bl (decide (4 = 1)), .bl (decide (4 = 2)), .bl (decide (4 = 3)), .bl (decide (4 = 4)), .bl (decide (4 = 5))], [V.bl (decide (4 = 6)), .bl true], rfl, rfl, z4 _ _ upd_same, upd_same, (by show 8 ≤ sizeLine; decide), fun p5 np5 => ?_⟩
    have z5 := same_new np5 (.lst ([V.bl (decide (4 = 0)), .bl (decide (4 = 1)), .bl (decide (4 = 2)), .bl (decide (4 = 3)), .bl (decide (4 = 4)), .bl (decide (4 = 5))] ++ [V.bl (decide (4 = 6)), .bl true]))
    exact q _ _ (s1.trans (z1.trans (z2.trans (z3.trans (z4.trans z5))))) upd_same
  · refine ⟨_, rfl, rfl, _, rfl, iteF ?_⟩
    refine ⟨_, rfl, rfl, _, rfl, iteF ?_⟩
    refine ⟨_, rfl, _, rfl, _, rfl, 5, wh, mo, rfl, hmo, .inr (.inr (.inr (.inr (⟨rfl, fun H1 s1 => ?_⟩))))⟩
    refine ⟨true, PySem.W.exm_ref T.sb_HeadError T.hd_HeadError T.tt_HeadError T.su_BadText, fun _ a na => ?_, fun z => by cases z⟩
    refine ⟨_, rfl, T.A_BadText, _, _, _, rfl, rfl, T.ex_BadText, rfl, (fun _ h => h), T.kt_BadText_BadTree, ?_⟩
    refine ⟨_, rfl, T.A_BadText, _, _, _, rfl, rfl, T.ex_BadText, rfl, (fun _ h => h), T.kt_BadText_BadWay, ?_⟩
    refine ⟨_, rfl, T.A_BadText, _, _, _, rfl, rfl, T.ex_BadText, rfl, (fun _ h => h), T.kt_BadText_BadTimes, ?_⟩
    refine ⟨(by show 3 ≤ sizeLine; decide), fun p np => ?_⟩
    have z1 := same_new np (.lst [V.bl (decide (5 = 0)), .bl (decide (5 = 1)), .bl (decide (5 = 2))])
    have u1 : upd H1 p (.lst [V.bl (decide (5 = 0)), .bl (decide (5 = 1)), .bl (decide (5 = 2))]) p = some (.lst [V.bl (decide (5 = 0)), .bl (decide (5 = 1)), .bl (decide (5 = 2))]) := upd_same
    refine ⟨_, rfl, ?_⟩
    refine ⟨_, rfl, T.A_BadText, _, _, _, rfl, rfl, T.ex_BadText, rfl, (fun _ h => h), T.kt_BadText_BadNumber, ?_⟩
    refine ⟨_, rfl, T.A_BadText, _, _, _, rfl, rfl, T.ex_BadText, rfl, (fun _ h => h), T.kt_BadText_BadBase, ?_⟩
    refine ⟨_, rfl, T.A_BadText, _, _, _, rfl, rfl, T.ex_BadText, rfl, (fun _ h => h), T.kt_BadText_BadText, ?_⟩
    refine ⟨(by show 3 ≤ sizeLine; decide), fun p2 np2 => ?_⟩
    have z2 := same_new np2 (.lst [V.bl (decide (5 = 3)), .bl (decide (5 = 4)), .bl (decide (5 = 5))])
    refine ⟨p, p2, _, _, rfl, rfl, z2 _ _ u1, upd_same, (by show 6 ≤ sizeLine; decide), fun p3 np3 => ?_⟩
    have z3 := same_new np3 (.lst [V.bl (decide (5 = 0)), .bl (decide (5 = 1)), .bl (decide (5 = 2)), .bl (decide (5 = 3)), .bl (decide (5 = 4)), .bl (decide (5 = 5))])
    refine ⟨_, rfl, ?_⟩
    refine ⟨_, rfl, T.A_BadText, _, _, _, rfl, rfl, T.ex_BadText, rfl, (fun _ h => h), T.kt_BadText_TooGreat, ?_⟩
    refine ⟨_, rfl, T.A_BadText, _, _, _, rfl, rfl, T.ex_BadText, rfl, (fun _ h => h), T.kt_BadText_ValueError, ?_⟩
    refine ⟨(by show 2 ≤ sizeLine; decide), fun p4 np4 => ?_⟩
    have z4 := same_new np4 (.lst [V.bl (decide (5 = 6)), .bl true])
    refine ⟨p3, p4, [V.bl (decide (5 = 0)), .bl (decide (5 = 1)), .bl (decide (5 = 2)), .bl (decide (5 = 3)), .bl (decide (5 = 4)), .bl (decide (5 = 5))], [V.bl (decide (5 = 6)), .bl true], rfl, rfl, z4 _ _ upd_same, upd_same, (by show 8 ≤ sizeLine; decide), fun p5 np5 => ?_⟩
    have z5 := same_new np5 (.lst ([V.bl (decide (5 = 0)), .bl (decide (5 = 1)), .bl (decide (5 = 2)), .bl (decide (5 = 3)), .bl (decide (5 = 4)), .bl (decide (5 = 5))] ++ [V.bl (decide (5 = 6)), .bl true]))
    exact q _ _ (s1.trans (z1.trans (z2.trans (z3.trans (z4.trans z5))))) upd_same
  · refine ⟨_, rfl, rfl, _, rfl, iteF ?_⟩
    refine ⟨_, rfl, rfl, _, rfl, iteT ?_⟩
    refine ⟨_, rfl, _, rfl, wh, mo, rfl, hmo, fun H1 s1 => ?_⟩
    refine ⟨true, PySem.W.exm_ref T.sb_HeadError T.hd_HeadError T.tt_HeadError T.su_TooGreat, fun _ a na => ?_, fun z => by cases z⟩
    refine ⟨_, rfl, T.A_TooGreat, _, _, _, rfl, rfl, T.ex_TooGreat, rfl, (fun _ h => h), T.kt_TooGreat_BadTree, ?_⟩
    refine ⟨_, rfl, T.A_TooGreat, _, _, _, rfl, rfl, T.ex_TooGreat, rfl, (fun _ h => h), T.kt_TooGreat_BadWay, ?_⟩
    refine ⟨_, rfl, T.A_TooGreat, _, _, _, rfl, rfl, T.ex_TooGreat, rfl, (fun _ h => h), T.kt_TooGreat_BadTimes, ?_⟩
    refine ⟨(by show 3 ≤ sizeLine; decide), fun p np => ?_⟩
    have z1 := same_new np (.lst [V.bl (decide (6 = 0)), .bl (decide (6 = 1)), .bl (decide (6 = 2))])
    have u1 : upd H1 p (.lst [V.bl (decide (6 = 0)), .bl (decide (6 = 1)), .bl (decide (6 = 2))]) p = some (.lst [V.bl (decide (6 = 0)), .bl (decide (6 = 1)), .bl (decide (6 = 2))]) := upd_same
    refine ⟨_, rfl, ?_⟩
    refine ⟨_, rfl, T.A_TooGreat, _, _, _, rfl, rfl, T.ex_TooGreat, rfl, (fun _ h => h), T.kt_TooGreat_BadNumber, ?_⟩
    refine ⟨_, rfl, T.A_TooGreat, _, _, _, rfl, rfl, T.ex_TooGreat, rfl, (fun _ h => h), T.kt_TooGreat_BadBase, ?_⟩
    refine ⟨_, rfl, T.A_TooGreat, _, _, _, rfl, rfl, T.ex_TooGreat, rfl, (fun _ h => h), T.kt_TooGreat_BadText, ?_⟩
    refine ⟨(by show 3 ≤ sizeLine; decide), fun p2 np2 => ?_⟩
    have z2 := same_new np2 (.lst [V.bl (decide (6 = 3)), .bl (decide (6 = 4)), .bl (decide (6 = 5))])
    refine ⟨p, p2, _, _, rfl, rfl, z2 _ _ u1, upd_same, (by show 6 ≤ sizeLine; decide), fun p3 np3 => ?_⟩
    have z3 := same_new np3 (.lst [V.bl (decide (6 = 0)), .bl (decide (6 = 1)), .bl (decide (6 = 2)), .bl (decide (6 = 3)), .bl (decide (6 = 4)), .bl (decide (6 = 5))])
    refine ⟨_, rfl, ?_⟩
    refine ⟨_, rfl, T.A_TooGreat, _, _, _, rfl, rfl, T.ex_TooGreat, rfl, (fun _ h => h), T.kt_TooGreat_TooGreat, ?_⟩
    refine ⟨_, rfl, T.A_TooGreat, _, _, _, rfl, rfl, T.ex_TooGreat, rfl, (fun _ h => h), T.kt_TooGreat_ValueError, ?_⟩
    refine ⟨(by show 2 ≤ sizeLine; decide), fun p4 np4 => ?_⟩
    have z4 := same_new np4 (.lst [V.bl (decide (6 = 6)), .bl true])
    refine ⟨p3, p4, [V.bl (decide (6 = 0)), .bl (decide (6 = 1)), .bl (decide (6 = 2)), .bl (decide (6 = 3)), .bl (decide (6 = 4)), .bl (decide (6 = 5))], [V.bl (decide (6 = 6)), .bl true], rfl, rfl, z4 _ _ upd_same, upd_same, (by show 8 ≤ sizeLine; decide), fun p5 np5 => ?_⟩
    have z5 := same_new np5 (.lst ([V.bl (decide (6 = 0)), .bl (decide (6 = 1)), .bl (decide (6 = 2)), .bl (decide (6 = 3)), .bl (decide (6 = 4)), .bl (decide (6 = 5))] ++ [V.bl (decide (6 = 6)), .bl true]))
    exact q _ _ (s1.trans (z1.trans (z2.trans (z3.trans (z4.trans z5))))) upd_same
end
section
variable {P : Program} {w : World} {K : PySem.W.Frag} {mg : Str → Option Value} {base : Heap}
/-! ### lists of truths as data -/
theorem dpBools {H : Hp} : ∀ bs : List Bool, DpAll K H (bs.map V.bl) (bs.map PyData.bool)
  | [] => .nil
  | b :: bs => .cons (.bl b) (dpBools bs)
theorem boolsLay : ∀ bs : List Bool, PyData.canLayAll0 (bs.map PyData.bool) = true
  | [] => by rw [List.map_nil, PyData.canLayAll0]
  | b :: bs => by rw [List.map_cons, PyData.canLayAll0, PyData.canLay0, boolsLay bs]; rfl
theorem boolsDepth : ∀ bs : List Bool, PyData.depthAll (bs.map PyData.bool) = 0
  | [] => by rw [List.map_nil, PyData.depthAll]
  | b :: bs => by rw [List.map_cons, PyData.depthAll, PyData.depth, boolsDepth bs]; rfl
theorem boolsShaped (bs : List Bool) : SeqAt.shaped (.list (bs.map PyData.bool)) = true := by
  show (PyData.canLay0 (.list (bs.map PyData.bool)) && decide (PyData.depth (.list (bs.map PyData.bool)) ≤ 64)) = true
  rw [PyData.canLay0, PyData.depth, boolsLay, boolsDepth]
  rfl
theorem boolsEqv : ∀ bs : List Bool, PyData.eqvAll (bs.map PyData.bool) (bs.map PyData.bool) = true
  | [] => by simp [PyData.eqvAll]
  | b :: bs => by
    rw [List.map_cons, PyData.eqvAll, boolsEqv bs]
    cases b <;> simp [PyData.eqv]
theorem ne_bools {H : Hp} {a b : Addr} {bs : List Bool} {Q : VK} (h1 : SqL K H a (bs.map V.bl)) (h2 : SqL K H b (bs.map V.bl)) (q : Q (.bl false) H) : rNeD K (.ref a) (.ref b) H Q :=
  ⟨_, _, .lst h1 (dpBools bs), .lst h2 (dpBools bs), boolsShaped bs, boolsShaped bs, by rw [PyData.eqv, boolsEqv]; exact q⟩
theorem told_flat {t : Tt} (h : told t = t) (n : Nat) : told (.mk (List.replicate n t)) = .mk (List.replicate n t) := by
  rw [told_mk]
  refine congrArg Tt.mk (sd_unique _ _ (toldL_sd _ _ List.Pairwise.nil) ?_ ?_)
  · refine List.pairwise_iff_getElem.mpr fun i j hi hj _ => ?_
    rw [List.getElem_replicate, List.getElem_replicate]
    exact ge_refl t
  · refine (toldL_perm _ []).trans ?_
    rw [List.nil_append, List.map_replicate, h]
theorem flat_refs {v : V} (n : Nat) : (List.replicate n [v]).flatten = List.replicate n v := by
  induction n with
  | zero => rfl
  | succ n ih => rw [List.replicate_succ, List.flatten_cons, ih, List.replicate_succ]; rfl
theorem same_trees {H : Hp} {v : V} {t : Tt} (h : TreeAt H v t) : ∀ n, TreesAt H (List.replicate n v) (List.replicate n t)
  | 0 => by rw [List.replicate_zero, List.replicate_zero, treesAt_nil]
  | n + 1 => by rw [List.replicate_succ, List.replicate_succ]; exact treesAt_c h (same_trees h n)
/-! ### law -/
def NB : Nat := 1050000
def spLaw (K : PySem.W.Frag) : Sp := fun vs H Q _ => ∃ (a : Addr) (ns : List Int), vs = [.ref a] ∧ SqL K H a (ns.map V.int) ∧ ns.length ≤ 63 ∧ (∀ n, n ∈ ns → Bits n NB) ∧ ∀ H', Q (.bl true) H'
theorem ok_law (T : Txt K mg) : FnOk P w K mg base CX0 47 T.a_law T.d_law ["_law_script"] (spLaw K) := by
  have G__law_told := ok__law_told (P := P) (w := w) (base := base) T
  have G_together := ok_together (P := P) (w := w) (base := base) T
  have G_cut := ok_cut (P := P) (w := w) (base := base) T
  refine T.F_law.ok sc_law (fun vs H Q E h => ?_) (fun cdv A outer s H vs Q E hr h => ?_)
  · obtain ⟨a, ns, rfl, _⟩ := h; rfl
  obtain ⟨a, ns, rfl, hS, h63, hB, q⟩ := h
  have R__law_told : Room 46 _ := hr
  have R_together : Room 44 _ := hr.mono (by omega)
  have R_cut : Room 44 _ := hr.mono (by omega)
  have hu64 := hr.units
  refine ⟨_, (pss_cons (ps_for PassesOwn.never rfl (pi_list (pv 0)) (pg_name (i := 1) sc_law.nd rfl (Or.inl rfl)) (pss_cons (ps_set (i := 2) sc_law.nd rfl (Or.inr rfl) (pe_op op_mod (pv 1) pe_int))
        (pss_cons (ps_set (i := 3) sc_law.nd rfl (Or.inl rfl) (pe_op op_cat (pe_lc (own := [("_law_at", 4)]) (g := gName 4) (tt := tYes) rfl sc_law.nd (pi_range1 (by rfl) T.z_range (pa_cons pe_int pa_nil)) (blkOk_by (own := [("_law_at", 4)]) (N := ["_law_script", "_law_cell", "_law_kind", "_law_due", "_law_at"]) (sc := defScope s_law) (by decide +kernel)) (fun _ _ _ _ _ => (pg_name (i := 4) sc_law.nd rfl (Or.inl rfl))) (fun _ _ _ _ _ => pts_nil) (fun _ _ _ _ _ => (pe_cmpR op_eq (pv 2) (pv 4) (nomark _)))) (pe_lst (pa_cons pe_bl pa_nil))))
        (pss_one (ps_if (pt_cmpR (r := rNeD K) (op_neD hu64) (pe_call G__law_told R__law_told rfl T.m__law_told T.k__law_told T.b__law_told .nil pass0 (pa_cons (pv 2) (pa_cons (pe_op op_mod (pe_op op_fdivW (pv 1) pe_int) pe_int) (pa_cons (pe_op op_mod (pe_op op_fdivW (pv 1) pe_int) pe_int) pa_nil)))) (pv 3) (nomark _)) (pss_one (ps_ret pe_bl)) pss_nil)))))
      (pss_one (ps_ret (pe_and (pe_cmpR op_eq (pe_callB (r := rLenS K) call_len_seqK rfl T.z_len PySem.boot_len (pa_cons (pe_call G_together R_together rfl T.m_together T.k_together T.b_together .nil passLN (pa_cons (pe_op op_rep (pe_lst (pa_cons (pe_lst pa_nil) pa_nil)) pe_int) (pa_cons (pe_op op_rep (pe_lst (pa_cons (pe_lst pa_nil) pa_nil)) pe_int) pa_nil))) pa_nil)) pe_int (nomark _)) (pe_one (pe_cmpR (r := rEqD K) (op_eqD hu64) (pe_call G_cut R_cut rfl T.m_cut T.k_cut T.b_cut .nil passLN (pa_cons (pe_lst (pa_cons (pe_lst (pa_cons (pe_lst pa_nil) (pa_cons (pe_lst pa_nil) pa_nil))) pa_nil)) (pa_cons (pe_lst (pa_cons pe_int (pa_cons pe_int pa_nil))) (pa_cons pe_int pa_nil)))) (pe_op op_rep (pe_lst (pa_cons (pe_lst (pa_cons (pe_lst pa_nil) pa_nil)) pa_nil)) pe_int) (nomark _))))))), ?_⟩
  refine ⟨_, rfl, a, rfl, ⟨_, hS⟩, ?_⟩
  refine for_it (walk_list (xs := ns.map V.int)) (fun i σ H' => Same H H' ∧ ∃ o1 o2 o3, σ = [some (.ref a), o1, o2, o3, none]) ⟨Same.refl _, none, none, none, rfl⟩ (fun i σ H' _ p => p.1.seq hS) ?_ ?_
  · rintro i x σ H1 H2 hi ⟨s1, o1, o2, o3, rfl⟩ ⟨rfl, hx⟩
    rw [List.getElem?_map] at hx
    obtain ⟨c, hc, rfl⟩ := Option.map_eq_some_iff.mp hx
    have k0 : 0 ≤ c % 7 := Int.emod_nonneg _ (by decide)
    have k1 : c % 7 < 7 := Int.emod_lt_of_pos _ (by decide)
    have w0 : 0 ≤ c / 7 % 100000 := Int.emod_nonneg _ (by decide)
    have m0 : 0 ≤ c / 700000 % 1000 := Int.emod_nonneg _ (by decide)
    have m1 : c / 700000 % 1000 < 1000 := Int.emod_lt_of_pos _ (by decide)
    obtain ⟨wh, hwh⟩ : ∃ wh : Nat, c / 7 % 100000 = (wh : Int) := ⟨(c / 7 % 100000).toNat, by omega⟩
    obtain ⟨mo, hmo⟩ : ∃ mo : Nat, c / 700000 % 1000 = (mo : Int) := ⟨(c / 700000 % 1000).toNat, by omega⟩
    refine ⟨_, rfl, _, _, rfl, rfl, (by show (0 : Int) < 7; decide), ?_⟩
    show tSeq _ _ _ [some (.ref a), some (.int c), some (V.int (c % 7)), o3, none] H2
    obtain ⟨k, hk⟩ : ∃ k : Nat, c % 7 = (k : Int) := ⟨(c % 7).toNat, by omega⟩
    rw [hk]
    have k7 : k < 7 := by omega
    refine ⟨_, rfl, by decide, by decide, fun D nD => ?_⟩
    refine lc_it walk_range (fun i H' => Fill H2 H' D (((List.range i).map fun j => decide (k = j)).map V.bl)) (Fill.start nD) (fun _ _ _ _ => trivial) ?_ ?_
    · rintro j z H3 H4 hj g ⟨rfl, rfl⟩
      replace hj : j < 7 := hj
      obtain ⟨g1, g2⟩ := g.more (v := .bl (decide (k = j))) (Same.refl _)
      have e : decide (V.int (k : Nat) = V.int (0 + (j : Int))) = decide (k = j) := decide_eq_decide.mpr ⟨fun h => by injection h with h; omega, fun h => by rw [h]; congr 1; omega⟩
      refine ⟨rfl, _, rfl, _, rfl, rfl, _, g1, ?_, ?_⟩
      · rw [List.length_map, List.length_map, List.length_range]
        exact Nat.lt_of_lt_of_le hj (by decide)
      · rw [List.range_succ, List.map_append, List.map_append, e]
        exact g2
    intro H3 g
    replace g : Fill H2 H3 D (((List.range 7).map fun j => decide (k = j)).map V.bl) := g
    refine ⟨(by show 1 ≤ sizeLine; decide), fun p n_p => ?_⟩
    have s_p := same_new n_p (.lst [V.bl true])
    have u_p : upd H3 p (.lst [V.bl true]) p = some (.lst [V.bl true]) := upd_same
    generalize upd H3 p (.lst [V.bl true]) = H4 at s_p u_p ⊢
    refine ⟨D, p, _, _, rfl, rfl, s_p _ _ g.2.2, u_p, (by rw [List.length_map, List.length_map, List.length_range]; show 8 ≤ sizeLine; decide), fun du ndu => ?_⟩
    have sdu := same_new ndu (.lst (((List.range 7).map fun j => decide (k = j)).map V.bl ++ [V.bl true]))
    have udu : upd H4 du (.lst (((List.range 7).map fun j => decide (k = j)).map V.bl ++ [V.bl true])) du = some (.lst ((dueL k).map V.bl)) := by
      rw [upd_same]
      unfold dueL
      rw [List.map_append]; rfl
    generalize upd H4 du (.lst (((List.range 7).map fun j => decide (k = j)).map V.bl ++ [V.bl true])) = H5 at sdu udu ⊢
    refine ⟨_, rfl, _, rfl, _, _, rfl, rfl, wide_div (b := 3) (by decide) (by decide) (by decide) (by decide), _, _, rfl, rfl, (by show (0 : Int) < 100000; decide), _, rfl, _, _, rfl, rfl, wide_div (b := 20) (by decide) (by decide) (by decide) (by decide), _, _, rfl, rfl, (by show (0 : Int) < 1000; decide), k, wh, mo, ?_, k7, by omega, fun H6 r s6 hr6 => ?_⟩
    · show [V.int (k : Nat), V.int (c / 7 % 100000), V.int (c / 700000 % 1000)] = _
      rw [hwh, hmo]
    refine ⟨_, rfl, ne_bools (SqL.of hr6) (SqL.of (s6 _ _ udu)) ⟨_, rfl, iteF ?_⟩⟩
    exact ⟨s1.trans (g.1.trans (s_p.trans (sdu.trans s6))), _, _, _, rfl⟩
  rintro σ H1 ⟨s1, o1, o2, o3, rfl⟩
  have o0 : told (.mk []) = .mk [] := by decide +kernel
  -- 150 and 149
  dsimp only
  show tRet _ _ _ _
  show tAndV _ _ _ _ _
  show tOp _ (tCB _ _) _ _ _ _
  show tCall _ _ _ (tCons _ _) _ _ _
  show tCons _ _ _ _ _
  show tOp _ _ _ _ _ _
  refine ⟨(by show 0 ≤ sizeLine; decide), fun a1 n_a1 => ?_⟩
  have s_a1 := same_new n_a1 (.lst [])
  have u_a1 : upd H1 a1 (.lst []) a1 = some (.lst []) := upd_same
  generalize upd H1 a1 (.lst []) = G1 at s_a1 u_a1 ⊢
  refine ⟨(by show 1 ≤ sizeLine; decide), fun a2 n_a2 => ?_⟩
  have s_a2 := same_new n_a2 (.lst [V.ref a1])
  have u_a2 : upd G1 a2 (.lst [V.ref a1]) a2 = some (.lst [V.ref a1]) := upd_same
  generalize upd G1 a2 (.lst [V.ref a1]) = G2 at s_a2 u_a2 ⊢
  refine ⟨a2, 150, _, rfl, rfl, u_a2, by decide, by decide, (by show 1 * 150 ≤ sizeLine; decide), fun a3 na3 => ?_⟩
  have e150 : (List.replicate (Int.toNat 150) [V.ref a1]).flatten = List.replicate 150 (V.ref a1) := flat_refs 150
  rw [e150]
  have s_a3 := same_new na3 (.lst (List.replicate 150 (V.ref a1)))
  have u_a3 : upd G2 a3 (.lst (List.replicate 150 (V.ref a1))) a3 = some (.lst (List.replicate 150 (V.ref a1))) := upd_same
  generalize upd G2 a3 (.lst (List.replicate 150 (V.ref a1))) = G3 at s_a3 u_a3 ⊢
  refine ⟨(by show 0 ≤ sizeLine; decide), fun b1 n_b1 => ?_⟩
  have s_b1 := same_new n_b1 (.lst [])
  have u_b1 : upd G3 b1 (.lst []) b1 = some (.lst []) := upd_same
  generalize upd G3 b1 (.lst []) = G4 at s_b1 u_b1 ⊢
  refine ⟨(by show 1 ≤ sizeLine; decide), fun b2 n_b2 => ?_⟩
  have s_b2 := same_new n_b2 (.lst [V.ref b1])
  have u_b2 : upd G4 b2 (.lst [V.ref b1]) b2 = some (.lst [V.ref b1]) := upd_same
  generalize upd G4 b2 (.lst [V.ref b1]) = G5 at s_b2 u_b2 ⊢
  refine ⟨b2, 149, _, rfl, rfl, u_b2, by decide, by decide, (by show 1 * 149 ≤ sizeLine; decide), fun b3 nb3 => ?_⟩
  have e149 : (List.replicate (Int.toNat 149) [V.ref b1]).flatten = List.replicate 149 (V.ref b1) := flat_refs 149
  rw [e149]
  have s_b3 := same_new nb3 (.lst (List.replicate 149 (V.ref b1)))
  have u_b3 : upd G5 b3 (.lst (List.replicate 149 (V.ref b1))) b3 = some (.lst (List.replicate 149 (V.ref b1))) := upd_same
  generalize upd G5 b3 (.lst (List.replicate 149 (V.ref b1))) = G6 at s_b3 u_b3 ⊢
  have s36 : Same G3 G6 := s_b1.trans (s_b2.trans s_b3)
  have t1 : TreeAt G6 (.ref a3) (.mk (List.replicate 150 (.mk []))) := TreeAt.same s36 _ (tr_li u_a3 (same_trees (nil_tree (s_a3 _ _ (s_a2 _ _ u_a1))) 150))
  have t2 : TreeAt G6 (.ref b3) (.mk (List.replicate 149 (.mk []))) := tr_li u_b3 (same_trees (nil_tree (s_b3 _ _ (s_b2 _ _ u_b1))) 149)
  have hl : (merge (toldL [] (List.replicate 150 (.mk []))) (toldL [] (List.replicate 149 (.mk [])))).length = 299 := by
    rw [(merge_perm _ _).length_eq, List.length_append, toldL_len, toldL_len, List.length_replicate, List.length_replicate]; rfl
  refine ⟨.ref a3, .ref b3, rfl, .inl ⟨_, _, t1, okT_flat (by decide), t2, okT_flat (by decide), fun _ G7 r n7 => ?_, fun hbig => ?_⟩⟩
  case refine_2 =>
    rw [knots, knotsL_perm (merge_perm _ _), knotsL_append, knotsL_told', knotsL_told', flat_knots, flat_knots] at hbig
    omega
  have t7 := n7.at_
  rw [treeAt_mk] at t7
  obtain ⟨ra, rv, rfl, hra, hrt⟩ := t7
  have lr := hrt.len
  rw [hl] at lr
  refine ⟨ra, rv, rfl, .inl (SqL.of hra), rfl, true, ?_, ?_⟩
  · rw [lr]; rfl
  refine iteT ?_
  -- 149 copies
  show tOp _ (tCall _ _ _ (tCons _ _)) _ _ _ _
  show tCall _ _ _ (tCons _ _) _ _ _
  show tCons _ _ _ _ _
  show tLst _ _ _ _
  refine ⟨(by show 0 ≤ sizeLine; decide), fun c1 n_c1 => ?_⟩
  have s_c1 := same_new n_c1 (.lst [])
  have u_c1 : upd G7 c1 (.lst []) c1 = some (.lst []) := upd_same
  generalize upd G7 c1 (.lst []) = J1 at s_c1 u_c1 ⊢
  refine ⟨(by show 0 ≤ sizeLine; decide), fun c2 n_c2 => ?_⟩
  have s_c2 := same_new n_c2 (.lst [])
  have u_c2 : upd J1 c2 (.lst []) c2 = some (.lst []) := upd_same
  generalize upd J1 c2 (.lst []) = J2 at s_c2 u_c2 ⊢
  refine ⟨(by show 2 ≤ sizeLine; decide), fun c3 n_c3 => ?_⟩
  have s_c3 := same_new n_c3 (.lst [V.ref c1, .ref c2])
  have u_c3 : upd J2 c3 (.lst [V.ref c1, .ref c2]) c3 = some (.lst [V.ref c1, .ref c2]) := upd_same
  generalize upd J2 c3 (.lst [V.ref c1, .ref c2]) = J3 at s_c3 u_c3 ⊢
  refine ⟨(by show 1 ≤ sizeLine; decide), fun c4 n_c4 => ?_⟩
  have s_c4 := same_new n_c4 (.lst [V.ref c3])
  have u_c4 : upd J3 c4 (.lst [V.ref c3]) c4 = some (.lst [V.ref c3]) := upd_same
  generalize upd J3 c4 (.lst [V.ref c3]) = J4 at s_c4 u_c4 ⊢
  refine ⟨(by show 2 ≤ sizeLine; decide), fun c5 n_c5 => ?_⟩
  have s_c5 := same_new n_c5 (.lst [V.int 0, .int 0])
  have u_c5 : upd J4 c5 (.lst [V.int 0, .int 0]) c5 = some (.lst [V.int 0, .int 0]) := upd_same
  generalize upd J4 c5 (.lst [V.int 0, .int 0]) = J5 at s_c5 u_c5 ⊢
  have tc : TreeAt J5 (.ref c4) (.mk [.mk [.mk [], .mk []]]) := TreeAt.same s_c5 _ (tr_li u_c4 (TreesAt.one (tr_li (s_c4 _ _ u_c3) (treesAt_c (nil_tree (s_c4 _ _ (s_c3 _ _ (s_c2 _ _ u_c1)))) (TreesAt.one (nil_tree (s_c4 _ _ (s_c3 _ _ u_c2))))))))
  have cu : Cut (.mk [.mk [.mk [], .mk []]]) [0, 0] 148 _ := Cut.up (w := []) (i := 0) (j := 0) (n := 148) (subT_nil _) rfl rfl
  have er : putT (.mk [.mk [.mk [], .mk []]]) [] (.mk ([Tt.mk [.mk [], .mk []]].set 0 (.mk ([Tt.mk [], .mk []].eraseIdx 0)) ++ List.replicate 148 (.mk ([Tt.mk [], .mk []].eraseIdx 0)))) = .mk (List.replicate 149 (.mk [.mk []])) := rfl
  rw [er] at cu
  have kr : knots (.mk (List.replicate 149 (.mk [.mk []]))) ≤ 300 := by
    have e2 : knots (.mk [.mk []]) = 2 := by decide +kernel
    rw [knots, knotsL_rep, e2]
    decide
  have tf : told (.mk (List.replicate 149 (.mk [.mk []]))) = .mk (List.replicate 149 (.mk [.mk []])) := told_flat (by decide +kernel) 149
  refine ⟨.ref c4, .ref c5, .int ((148 : Nat) : Int), rfl, .inl ⟨_, tc, ⟨by decide +kernel, by decide +kernel⟩, .inl ⟨c5, [0, 0], rfl, u_c5, by decide +kernel, .inl ⟨148, rfl, Bits.mono (a := 8) (by show (148 : Nat) < 256; decide) (by decide), .inl ⟨_, cu, kr, fun J6 x n6 => ?_⟩⟩⟩⟩⟩
  rw [tf] at n6
  refine ⟨(by show 0 ≤ sizeLine; decide), fun d1 n_d1 => ?_⟩
  have s_d1 := same_new n_d1 (.lst [])
  have u_d1 : upd J6 d1 (.lst []) d1 = some (.lst []) := upd_same
  generalize upd J6 d1 (.lst []) = J7 at s_d1 u_d1 ⊢
  refine ⟨(by show 1 ≤ sizeLine; decide), fun d2 n_d2 => ?_⟩
  have s_d2 := same_new n_d2 (.lst [V.ref d1])
  have u_d2 : upd J7 d2 (.lst [V.ref d1]) d2 = some (.lst [V.ref d1]) := upd_same
  generalize upd J7 d2 (.lst [V.ref d1]) = J8 at s_d2 u_d2 ⊢
  refine ⟨(by show 1 ≤ sizeLine; decide), fun d3 n_d3 => ?_⟩
  have s_d3 := same_new n_d3 (.lst [V.ref d2])
  have u_d3 : upd J8 d3 (.lst [V.ref d2]) d3 = some (.lst [V.ref d2]) := upd_same
  generalize upd J8 d3 (.lst [V.ref d2]) = J9 at s_d3 u_d3 ⊢
  refine ⟨d3, 149, _, rfl, rfl, u_d3, by decide, by decide, (by show 1 * 149 ≤ sizeLine; decide), fun d4 nd4 => ?_⟩
  have e149' : (List.replicate (Int.toNat 149) [V.ref d2]).flatten = List.replicate 149 (V.ref d2) := flat_refs 149
  rw [e149']
  have s_d4 := same_new nd4 (.lst (List.replicate 149 (V.ref d2)))
  have u_d4 : upd J9 d4 (.lst (List.replicate 149 (V.ref d2))) d4 = some (.lst (List.replicate 149 (V.ref d2))) := upd_same
  generalize upd J9 d4 (.lst (List.replicate 149 (V.ref d2))) = J10 at s_d4 u_d4 ⊢
  have t9 : TreeAt J10 (.ref d4) (.mk (List.replicate 149 (.mk [.mk []]))) := tr_li u_d4 (same_trees (tr_li (s_d4 _ _ (s_d3 _ _ u_d2)) (TreesAt.one (nil_tree (s_d4 _ _ (s_d3 _ _ (s_d2 _ _ u_d1)))))) 149)
  have dp : depth (.mk (List.replicate 149 (.mk [.mk []]))) ≤ 63 := by
    rw [depth]
    refine depthL_iff.mpr fun x hx => ?_
    rw [List.eq_of_mem_replicate hx]
    decide +kernel
  refine eq_trees (TreeAt.same (s_d1.trans (s_d2.trans (s_d3.trans s_d4))) _ n6.at_) t9 dp dp ?_
  rw [decide_eq_true rfl]
  exact q _
end
theorem all_mk {l : PySem.W.OpenLaw} {w : World} {K : PySem.W.Frag} {h : Heap} {mg : Str → Option Value} {fa : Addr} (X : K.In h) (G : h.Ns mainGlobals mg) (hfa : mg "law" = some (.ref fa))
    {a_is_tree : Addr} {od0 an0 : Option Addr} {sl0 : Array (Option Value)} {oc0 kV0 dc0 pm0 cd0 ct0 : Value}
    {a_asked_tree : Addr} {od1 an1 : Option Addr} {sl1 : Array (Option Value)} {oc1 kV1 dc1 pm1 cd1 ct1 : Value}
    {a_compared : Addr} {od2 an2 : Option Addr} {sl2 : Array (Option Value)} {oc2 kV2 dc2 pm2 cd2 ct2 : Value}
    {a_merged : Addr} {od3 an3 : Option Addr} {sl3 : Array (Option Value)} {oc3 kV3 dc3 pm3 cd3 ct3 : Value}
    {a_copied : Addr} {od4 an4 : Option Addr} {sl4 : Array (Option Value)} {oc4 kV4 dc4 pm4 cd4 ct4 : Value}
    {a_told_of : Addr} {od5 an5 : Option Addr} {sl5 : Array (Option Value)} {oc5 kV5 dc5 pm5 cd5 ct5 : Value}
    {a_told : Addr} {od6 an6 : Option Addr} {sl6 : Array (Option Value)} {oc6 kV6 dc6 pm6 cd6 ct6 : Value}
    {a_compare : Addr} {od7 an7 : Option Addr} {sl7 : Array (Option Value)} {oc7 kV7 dc7 pm7 cd7 ct7 : Value}
    {a_knots : Addr} {od8 an8 : Option Addr} {sl8 : Array (Option Value)} {oc8 kV8 dc8 pm8 cd8 ct8 : Value}
    {a_asked_great : Addr} {od9 an9 : Option Addr} {sl9 : Array (Option Value)} {oc9 kV9 dc9 pm9 cd9 ct9 : Value}
    {a_together : Addr} {od10 an10 : Option Addr} {sl10 : Array (Option Value)} {oc10 kV10 dc10 pm10 cd10 ct10 : Value}
    {a_behind : Addr} {od11 an11 : Option Addr} {sl11 : Array (Option Value)} {oc11 kV11 dc11 pm11 cd11 ct11 : Value}
    {a_is_number : Addr} {od12 an12 : Option Addr} {sl12 : Array (Option Value)} {oc12 kV12 dc12 pm12 cd12 ct12 : Value}
    {a_heads_of : Addr} {od13 an13 : Option Addr} {sl13 : Array (Option Value)} {oc13 kV13 dc13 pm13 cd13 ct13 : Value}
    {a_heads : Addr} {od14 an14 : Option Addr} {sl14 : Array (Option Value)} {oc14 kV14 dc14 pm14 cd14 ct14 : Value}
    {a_knot_at : Addr} {od15 an15 : Option Addr} {sl15 : Array (Option Value)} {oc15 kV15 dc15 pm15 cd15 ct15 : Value}
    {a_cut_of : Addr} {od16 an16 : Option Addr} {sl16 : Array (Option Value)} {oc16 kV16 dc16 pm16 cd16 ct16 : Value}
    {a_cut : Addr} {od17 an17 : Option Addr} {sl17 : Array (Option Value)} {oc17 kV17 dc17 pm17 cd17 ct17 : Value}
    {a_asked_base : Addr} {od18 an18 : Option Addr} {sl18 : Array (Option Value)} {oc18 kV18 dc18 pm18 cd18 ct18 : Value}
    {a_written_of : Addr} {od19 an19 : Option Addr} {sl19 : Array (Option Value)} {oc19 kV19 dc19 pm19 cd19 ct19 : Value}
    {a_written : Addr} {od20 an20 : Option Addr} {sl20 : Array (Option Value)} {oc20 kV20 dc20 pm20 cd20 ct20 : Value}
    {a_can_write : Addr} {od21 an21 : Option Addr} {sl21 : Array (Option Value)} {oc21 kV21 dc21 pm21 cd21 ct21 : Value}
    {a_value_of : Addr} {od22 an22 : Option Addr} {sl22 : Array (Option Value)} {oc22 kV22 dc22 pm22 cd22 ct22 : Value}
    {a_number_of : Addr} {od23 an23 : Option Addr} {sl23 : Array (Option Value)} {oc23 kV23 dc23 pm23 cd23 ct23 : Value}
    {a_stepped : Addr} {od24 an24 : Option Addr} {sl24 : Array (Option Value)} {oc24 kV24 dc24 pm24 cd24 ct24 : Value}
    {a_text_of : Addr} {od25 an25 : Option Addr} {sl25 : Array (Option Value)} {oc25 kV25 dc25 pm25 cd25 ct25 : Value}
    {a_text : Addr} {od26 an26 : Option Addr} {sl26 : Array (Option Value)} {oc26 kV26 dc26 pm26 cd26 ct26 : Value}
    {a_read : Addr} {od27 an27 : Option Addr} {sl27 : Array (Option Value)} {oc27 kV27 dc27 pm27 cd27 ct27 : Value}
    {a__law_with_tree : Addr} {od28 an28 : Option Addr} {sl28 : Array (Option Value)} {oc28 kV28 dc28 pm28 cd28 ct28 : Value}
    {a__law_bad_tree : Addr} {od29 an29 : Option Addr} {sl29 : Array (Option Value)} {oc29 kV29 dc29 pm29 cd29 ct29 : Value}
    {a__law_with_other : Addr} {od30 an30 : Option Addr} {sl30 : Array (Option Value)} {oc30 kV30 dc30 pm30 cd30 ct30 : Value}
    {a__law_great : Addr} {od31 an31 : Option Addr} {sl31 : Array (Option Value)} {oc31 kV31 dc31 pm31 cd31 ct31 : Value}
    {a__law_told : Addr} {od32 an32 : Option Addr} {sl32 : Array (Option Value)} {oc32 kV32 dc32 pm32 cd32 ct32 : Value}
    {a_law : Addr} {od33 an33 : Option Addr} {sl33 : Array (Option Value)} {oc33 kV33 dc33 pm33 cd33 ct33 : Value}
    {t_MOST : Tok}
    {t_DEEPEST : Tok}
    {t_GREATEST : Tok}
    {A_HeadError : Addr}
    {A_BadTree : Addr}
    {A_BadWay : Addr}
    {A_BadTimes : Addr}
    {A_BadNumber : Addr}
    {A_BadBase : Addr}
    {A_BadText : Addr}
    {A_TooGreat : Addr}
    (n0 : PySem.W.nsIn K mainGlobals "is_tree" = some (some (.ref a_is_tree))) (l0 : K.lookup a_is_tree = some ⟨oc0, od0, .func (PySem.W.fnOf "is_tree" "is_tree" (defArgs s_is_tree) (defBody s_is_tree) (defScope s_is_tree) .none kV0 dc0 pm0 an0 cd0 ct0), sl0⟩) (c0 : PySem.W.codeIn K cd0 "is_tree" = true) (k0 : PySem.W.keepIn K (.ref a_is_tree) = true)
    (n1 : PySem.W.nsIn K mainGlobals "asked_tree" = some (some (.ref a_asked_tree))) (l1 : K.lookup a_asked_tree = some ⟨oc1, od1, .func (PySem.W.fnOf "asked_tree" "asked_tree" (defArgs s_asked_tree) (defBody s_asked_tree) (defScope s_asked_tree) .none kV1 dc1 pm1 an1 cd1 ct1), sl1⟩) (c1 : PySem.W.codeIn K cd1 "asked_tree" = true) (k1 : PySem.W.keepIn K (.ref a_asked_tree) = true)
    (n2 : PySem.W.nsIn K mainGlobals "compared" = some (some (.ref a_compared))) (l2 : K.lookup a_compared = some ⟨oc2, od2, .func (PySem.W.fnOf "compared" "compared" (defArgs s_compared) (defBody s_compared) (defScope s_compared) .none kV2 dc2 pm2 an2 cd2 ct2), sl2⟩) (c2 : PySem.W.codeIn K cd2 "compared" = true) (k2 : PySem.W.keepIn K (.ref a_compared) = true)
    (n3 : PySem.W.nsIn K mainGlobals "merged" = some (some (.ref a_merged))) (l3 : K.lookup a_merged = some ⟨oc3, od3, .func (PySem.W.fnOf "merged" "merged" (defArgs s_merged) (defBody s_merged) (defScope s_merged) .none kV3 dc3 pm3 an3 cd3 ct3), sl3⟩) (c3 : PySem.W.codeIn K cd3 "merged" = true) (k3 : PySem.W.keepIn K (.ref a_merged) = true)
    (n4 : PySem.W.nsIn K mainGlobals "copied" = some (some (.ref a_copied))) (l4 : K.lookup a_copied = some ⟨oc4, od4, .func (PySem.W.fnOf "copied" "copied" (defArgs s_copied) (defBody s_copied) (defScope s_copied) .none kV4 dc4 pm4 an4 cd4 ct4), sl4⟩) (c4 : PySem.W.codeIn K cd4 "copied" = true) (k4 : PySem.W.keepIn K (.ref a_copied) = true)
    (n5 : PySem.W.nsIn K mainGlobals "told_of" = some (some (.ref a_told_of))) (l5 : K.lookup a_told_of = some ⟨oc5, od5, .func (PySem.W.fnOf "told_of" "told_of" (defArgs s_told_of) (defBody s_told_of) (defScope s_told_of) .none kV5 dc5 pm5 an5 cd5 ct5), sl5⟩) (c5 : PySem.W.codeIn K cd5 "told_of" = true) (k5 : PySem.W.keepIn K (.ref a_told_of) = true)
    (n6 : PySem.W.nsIn K mainGlobals "told" = some (some (.ref a_told))) (l6 : K.lookup a_told = some ⟨oc6, od6, .func (PySem.W.fnOf "told" "told" (defArgs s_told) (defBody s_told) (defScope s_told) .none kV6 dc6 pm6 an6 cd6 ct6), sl6⟩) (c6 : PySem.W.codeIn K cd6 "told" = true) (k6 : PySem.W.keepIn K (.ref a_told) = true)
    (n7 : PySem.W.nsIn K mainGlobals "compare" = some (some (.ref a_compare))) (l7 : K.lookup a_compare = some ⟨oc7, od7, .func (PySem.W.fnOf "compare" "compare" (defArgs s_compare) (defBody s_compare) (defScope s_compare) .none kV7 dc7 pm7 an7 cd7 ct7), sl7⟩) (c7 : PySem.W.codeIn K cd7 "compare" = true) (k7 : PySem.W.keepIn K (.ref a_compare) = true)
    (n8 : PySem.W.nsIn K mainGlobals "knots" = some (some (.ref a_knots))) (l8 : K.lookup a_knots = some ⟨oc8, od8, .func (PySem.W.fnOf "knots" "knots" (defArgs s_knots) (defBody s_knots) (defScope s_knots) .none kV8 dc8 pm8 an8 cd8 ct8), sl8⟩) (c8 : PySem.W.codeIn K cd8 "knots" = true) (k8 : PySem.W.keepIn K (.ref a_knots) = true)
    (n9 : PySem.W.nsIn K mainGlobals "asked_great" = some (some (.ref a_asked_great))) (l9 : K.lookup a_asked_great = some ⟨oc9, od9, .func (PySem.W.fnOf "asked_great" "asked_great" (defArgs s_asked_great) (defBody s_asked_great) (defScope s_asked_great) .none kV9 dc9 pm9 an9 cd9 ct9), sl9⟩) (c9 : PySem.W.codeIn K cd9 "asked_great" = true) (k9 : PySem.W.keepIn K (.ref a_asked_great) = true)
    (n10 : PySem.W.nsIn K mainGlobals "together" = some (some (.ref a_together))) (l10 : K.lookup a_together = some ⟨oc10, od10, .func (PySem.W.fnOf "together" "together" (defArgs s_together) (defBody s_together) (defScope s_together) .none kV10 dc10 pm10 an10 cd10 ct10), sl10⟩) (c10 : PySem.W.codeIn K cd10 "together" = true) (k10 : PySem.W.keepIn K (.ref a_together) = true)
    (n11 : PySem.W.nsIn K mainGlobals "behind" = some (some (.ref a_behind))) (l11 : K.lookup a_behind = some ⟨oc11, od11, .func (PySem.W.fnOf "behind" "behind" (defArgs s_behind) (defBody s_behind) (defScope s_behind) .none kV11 dc11 pm11 an11 cd11 ct11), sl11⟩) (c11 : PySem.W.codeIn K cd11 "behind" = true) (k11 : PySem.W.keepIn K (.ref a_behind) = true)
    (n12 : PySem.W.nsIn K mainGlobals "is_number" = some (some (.ref a_is_number))) (l12 : K.lookup a_is_number = some ⟨oc12, od12, .func (PySem.W.fnOf "is_number" "is_number" (defArgs s_is_number) (defBody s_is_number) (defScope s_is_number) .none kV12 dc12 pm12 an12 cd12 ct12), sl12⟩) (c12 : PySem.W.codeIn K cd12 "is_number" = true) (k12 : PySem.W.keepIn K (.ref a_is_number) = true)
    (n13 : PySem.W.nsIn K mainGlobals "heads_of" = some (some (.ref a_heads_of))) (l13 : K.lookup a_heads_of = some ⟨oc13, od13, .func (PySem.W.fnOf "heads_of" "heads_of" (defArgs s_heads_of) (defBody s_heads_of) (defScope s_heads_of) .none kV13 dc13 pm13 an13 cd13 ct13), sl13⟩) (c13 : PySem.W.codeIn K cd13 "heads_of" = true) (k13 : PySem.W.keepIn K (.ref a_heads_of) = true)
    (n14 : PySem.W.nsIn K mainGlobals "heads" = some (some (.ref a_heads))) (l14 : K.lookup a_heads = some ⟨oc14, od14, .func (PySem.W.fnOf "heads" "heads" (defArgs s_heads) (defBody s_heads) (defScope s_heads) .none kV14 dc14 pm14 an14 cd14 ct14), sl14⟩) (c14 : PySem.W.codeIn K cd14 "heads" = true) (k14 : PySem.W.keepIn K (.ref a_heads) = true)
    (n15 : PySem.W.nsIn K mainGlobals "knot_at" = some (some (.ref a_knot_at))) (l15 : K.lookup a_knot_at = some ⟨oc15, od15, .func (PySem.W.fnOf "knot_at" "knot_at" (defArgs s_knot_at) (defBody s_knot_at) (defScope s_knot_at) .none kV15 dc15 pm15 an15 cd15 ct15), sl15⟩) (c15 : PySem.W.codeIn K cd15 "knot_at" = true) (k15 : PySem.W.keepIn K (.ref a_knot_at) = true)
    (n16 : PySem.W.nsIn K mainGlobals "cut_of" = some (some (.ref a_cut_of))) (l16 : K.lookup a_cut_of = some ⟨oc16, od16, .func (PySem.W.fnOf "cut_of" "cut_of" (defArgs s_cut_of) (defBody s_cut_of) (defScope s_cut_of) .none kV16 dc16 pm16 an16 cd16 ct16), sl16⟩) (c16 : PySem.W.codeIn K cd16 "cut_of" = true) (k16 : PySem.W.keepIn K (.ref a_cut_of) = true)
    (n17 : PySem.W.nsIn K mainGlobals "cut" = some (some (.ref a_cut))) (l17 : K.lookup a_cut = some ⟨oc17, od17, .func (PySem.W.fnOf "cut" "cut" (defArgs s_cut) (defBody s_cut) (defScope s_cut) .none kV17 dc17 pm17 an17 cd17 ct17), sl17⟩) (c17 : PySem.W.codeIn K cd17 "cut" = true) (k17 : PySem.W.keepIn K (.ref a_cut) = true)
    (n18 : PySem.W.nsIn K mainGlobals "asked_base" = some (some (.ref a_asked_base))) (l18 : K.lookup a_asked_base = some ⟨oc18, od18, .func (PySem.W.fnOf "asked_base" "asked_base" (defArgs s_asked_base) (defBody s_asked_base) (defScope s_asked_base) .none kV18 dc18 pm18 an18 cd18 ct18), sl18⟩) (c18 : PySem.W.codeIn K cd18 "asked_base" = true) (k18 : PySem.W.keepIn K (.ref a_asked_base) = true)
    (n19 : PySem.W.nsIn K mainGlobals "written_of" = some (some (.ref a_written_of))) (l19 : K.lookup a_written_of = some ⟨oc19, od19, .func (PySem.W.fnOf "written_of" "written_of" (defArgs s_written_of) (defBody s_written_of) (defScope s_written_of) .none kV19 dc19 pm19 an19 cd19 ct19), sl19⟩) (c19 : PySem.W.codeIn K cd19 "written_of" = true) (k19 : PySem.W.keepIn K (.ref a_written_of) = true)
    (n20 : PySem.W.nsIn K mainGlobals "written" = some (some (.ref a_written))) (l20 : K.lookup a_written = some ⟨oc20, od20, .func (PySem.W.fnOf "written" "written" (defArgs s_written) (defBody s_written) (defScope s_written) .none kV20 dc20 pm20 an20 cd20 ct20), sl20⟩) (c20 : PySem.W.codeIn K cd20 "written" = true) (k20 : PySem.W.keepIn K (.ref a_written) = true)
    (n21 : PySem.W.nsIn K mainGlobals "can_write" = some (some (.ref a_can_write))) (l21 : K.lookup a_can_write = some ⟨oc21, od21, .func (PySem.W.fnOf "can_write" "can_write" (defArgs s_can_write) (defBody s_can_write) (defScope s_can_write) .none kV21 dc21 pm21 an21 cd21 ct21), sl21⟩) (c21 : PySem.W.codeIn K cd21 "can_write" = true) (k21 : PySem.W.keepIn K (.ref a_can_write) = true)
    (n22 : PySem.W.nsIn K mainGlobals "value_of" = some (some (.ref a_value_of))) (l22 : K.lookup a_value_of = some ⟨oc22, od22, .func (PySem.W.fnOf "value_of" "value_of" (defArgs s_value_of) (defBody s_value_of) (defScope s_value_of) .none kV22 dc22 pm22 an22 cd22 ct22), sl22⟩) (c22 : PySem.W.codeIn K cd22 "value_of" = true) (k22 : PySem.W.keepIn K (.ref a_value_of) = true)
    (n23 : PySem.W.nsIn K mainGlobals "number_of" = some (some (.ref a_number_of))) (l23 : K.lookup a_number_of = some ⟨oc23, od23, .func (PySem.W.fnOf "number_of" "number_of" (defArgs s_number_of) (defBody s_number_of) (defScope s_number_of) .none kV23 dc23 pm23 an23 cd23 ct23), sl23⟩) (c23 : PySem.W.codeIn K cd23 "number_of" = true) (k23 : PySem.W.keepIn K (.ref a_number_of) = true)
    (n24 : PySem.W.nsIn K mainGlobals "stepped" = some (some (.ref a_stepped))) (l24 : K.lookup a_stepped = some ⟨oc24, od24, .func (PySem.W.fnOf "stepped" "stepped" (defArgs s_stepped) (defBody s_stepped) (defScope s_stepped) .none kV24 dc24 pm24 an24 cd24 ct24), sl24⟩) (c24 : PySem.W.codeIn K cd24 "stepped" = true) (k24 : PySem.W.keepIn K (.ref a_stepped) = true)
    (n25 : PySem.W.nsIn K mainGlobals "text_of" = some (some (.ref a_text_of))) (l25 : K.lookup a_text_of = some ⟨oc25, od25, .func (PySem.W.fnOf "text_of" "text_of" (defArgs s_text_of) (defBody s_text_of) (defScope s_text_of) .none kV25 dc25 pm25 an25 cd25 ct25), sl25⟩) (c25 : PySem.W.codeIn K cd25 "text_of" = true) (k25 : PySem.W.keepIn K (.ref a_text_of) = true)
    (n26 : PySem.W.nsIn K mainGlobals "text" = some (some (.ref a_text))) (l26 : K.lookup a_text = some ⟨oc26, od26, .func (PySem.W.fnOf "text" "text" (defArgs s_text) (defBody s_text) (defScope s_text) .none kV26 dc26 pm26 an26 cd26 ct26), sl26⟩) (c26 : PySem.W.codeIn K cd26 "text" = true) (k26 : PySem.W.keepIn K (.ref a_text) = true)
    (n27 : PySem.W.nsIn K mainGlobals "read" = some (some (.ref a_read))) (l27 : K.lookup a_read = some ⟨oc27, od27, .func (PySem.W.fnOf "read" "read" (defArgs s_read) (defBody s_read) (defScope s_read) .none kV27 dc27 pm27 an27 cd27 ct27), sl27⟩) (c27 : PySem.W.codeIn K cd27 "read" = true) (k27 : PySem.W.keepIn K (.ref a_read) = true)
    (n28 : PySem.W.nsIn K mainGlobals "_law_with_tree" = some (some (.ref a__law_with_tree))) (l28 : K.lookup a__law_with_tree = some ⟨oc28, od28, .func (PySem.W.fnOf "_law_with_tree" "_law_with_tree" (defArgs s__law_with_tree) (defBody s__law_with_tree) (defScope s__law_with_tree) .none kV28 dc28 pm28 an28 cd28 ct28), sl28⟩) (c28 : PySem.W.codeIn K cd28 "_law_with_tree" = true) (k28 : PySem.W.keepIn K (.ref a__law_with_tree) = true)
    (n29 : PySem.W.nsIn K mainGlobals "_law_bad_tree" = some (some (.ref a__law_bad_tree))) (l29 : K.lookup a__law_bad_tree = some ⟨oc29, od29, .func (PySem.W.fnOf "_law_bad_tree" "_law_bad_tree" (defArgs s__law_bad_tree) (defBody s__law_bad_tree) (defScope s__law_bad_tree) .none kV29 dc29 pm29 an29 cd29 ct29), sl29⟩) (c29 : PySem.W.codeIn K cd29 "_law_bad_tree" = true) (k29 : PySem.W.keepIn K (.ref a__law_bad_tree) = true)
    (n30 : PySem.W.nsIn K mainGlobals "_law_with_other" = some (some (.ref a__law_with_other))) (l30 : K.lookup a__law_with_other = some ⟨oc30, od30, .func (PySem.W.fnOf "_law_with_other" "_law_with_other" (defArgs s__law_with_other) (defBody s__law_with_other) (defScope s__law_with_other) .none kV30 dc30 pm30 an30 cd30 ct30), sl30⟩) (c30 : PySem.W.codeIn K cd30 "_law_with_other" = true) (k30 : PySem.W.keepIn K (.ref a__law_with_other) = true)
    (n31 : PySem.W.nsIn K mainGlobals "_law_great" = some (some (.ref a__law_great))) (l31 : K.lookup a__law_great = some ⟨oc31, od31, .func (PySem.W.fnOf "_law_great" "_law_great" (defArgs s__law_great) (defBody s__law_great) (defScope s__law_great) .none kV31 dc31 pm31 an31 cd31 ct31), sl31⟩) (c31 : PySem.W.codeIn K cd31 "_law_great" = true) (k31 : PySem.W.keepIn K (.ref a__law_great) = true)
    (n32 : PySem.W.nsIn K mainGlobals "_law_told" = some (some (.ref a__law_told))) (l32 : K.lookup a__law_told = some ⟨oc32, od32, .func (PySem.W.fnOf "_law_told" "_law_told" (defArgs s__law_told) (defBody s__law_told) (defScope s__law_told) .none kV32 dc32 pm32 an32 cd32 ct32), sl32⟩) (c32 : PySem.W.codeIn K cd32 "_law_told" = true) (k32 : PySem.W.keepIn K (.ref a__law_told) = true)
    (n33 : PySem.W.nsIn K mainGlobals "law" = some (some (.ref a_law))) (l33 : K.lookup a_law = some ⟨oc33, od33, .func (PySem.W.fnOf "law" "law" (defArgs s_law) (defBody s_law) (defScope s_law) .none kV33 dc33 pm33 an33 cd33 ct33), sl33⟩) (c33 : PySem.W.codeIn K cd33 "law" = true) (k33 : PySem.W.keepIn K (.ref a_law) = true)
    (z_len : PySem.W.nsIn K mainGlobals "len" = some none)
    (z_list : PySem.W.nsIn K mainGlobals "list" = some none)
    (z_range : PySem.W.nsIn K mainGlobals "range" = some none)
    (z_zip : PySem.W.nsIn K mainGlobals "zip" = some none)
    (z_enumerate : PySem.W.nsIn K mainGlobals "enumerate" = some none)
    (z_min : PySem.W.nsIn K mainGlobals "min" = some none)
    (z_max : PySem.W.nsIn K mainGlobals "max" = some none)
    (z_sum : PySem.W.nsIn K mainGlobals "sum" = some none)
    (z_all : PySem.W.nsIn K mainGlobals "all" = some none)
    (z_isinstance : PySem.W.nsIn K mainGlobals "isinstance" = some none)
    (z_int : PySem.W.nsIn K mainGlobals "int" = some none)
    (z_bool : PySem.W.nsIn K mainGlobals "bool" = some none)
    (z_str : PySem.W.nsIn K mainGlobals "str" = some none)
    (z_ValueError : PySem.W.nsIn K mainGlobals "ValueError" = some none)
    (c_MOST : PySem.W.nsIn K mainGlobals "MOST" = some (some (.int 300 t_MOST)))
    (c_DEEPEST : PySem.W.nsIn K mainGlobals "DEEPEST" = some (some (.int 40 t_DEEPEST)))
    (c_GREATEST : PySem.W.nsIn K mainGlobals "GREATEST" = some (some (.int 2582249878086908589655919172003011874329705792829223512830659356540647622016841194629645353280137831435903171972747493376 t_GREATEST)))
    (g_HeadError : PySem.W.nsIn K mainGlobals "HeadError" = some (some (.ref A_HeadError)))
    (kk_HeadError : PySem.W.keepIn K (.ref A_HeadError) = true)
    (x_HeadError : PySem.W.excIn K A_HeadError [.type "ValueError", .type "Exception", .type "BaseException", .type "object"] "ValueError.__new__" = true)
    (sb_HeadError : PySem.W.subIn K (.ref A_HeadError) (.type "BaseException") = some true)
    (tt_HeadError : PySem.W.typeIn K (.ref A_HeadError) = some (.type "type"))
    (g_BadTree : PySem.W.nsIn K mainGlobals "BadTree" = some (some (.ref A_BadTree)))
    (kk_BadTree : PySem.W.keepIn K (.ref A_BadTree) = true)
    (x_BadTree : PySem.W.excIn K A_BadTree [.type "ValueError", .type "Exception", .type "BaseException", .type "object"] "ValueError.__new__" = true)
    (sb_BadTree : PySem.W.subIn K (.ref A_BadTree) (.type "BaseException") = some true)
    (tt_BadTree : PySem.W.typeIn K (.ref A_BadTree) = some (.type "type"))
    (g_BadWay : PySem.W.nsIn K mainGlobals "BadWay" = some (some (.ref A_BadWay)))
    (kk_BadWay : PySem.W.keepIn K (.ref A_BadWay) = true)
    (x_BadWay : PySem.W.excIn K A_BadWay [.type "ValueError", .type "Exception", .type "BaseException", .type "object"] "ValueError.__new__" = true)
    (sb_BadWay : PySem.W.subIn K (.ref A_BadWay) (.type "BaseException") = some true)
    (tt_BadWay : PySem.W.typeIn K (.ref A_BadWay) = some (.type "type"))
    (g_BadTimes : PySem.W.nsIn K mainGlobals "BadTimes" = some (some (.ref A_BadTimes)))
    (kk_BadTimes : PySem.W.keepIn K (.ref A_BadTimes) = true)
    (x_BadTimes : PySem.W.excIn K A_BadTimes [.type "ValueError", .type "Exception", .type "BaseException", .type "object"] "ValueError.__new__" = true)
    (sb_BadTimes : PySem.W.subIn K (.ref A_BadTimes) (.type "BaseException") = some true)
    (tt_BadTimes : PySem.W.typeIn K (.ref A_BadTimes) = some (.type "type"))
    (g_BadNumber : PySem.W.nsIn K mainGlobals "BadNumber" = some (some (.ref A_BadNumber)))
    (kk_BadNumber : PySem.W.keepIn K (.ref A_BadNumber) = true)
    (x_BadNumber : PySem.W.excIn K A_BadNumber [.type "ValueError", .type "Exception", .type "BaseException", .type "object"] "ValueError.__new__" = true)
    (sb_BadNumber : PySem.W.subIn K (.ref A_BadNumber) (.type "BaseException") = some true)
    (tt_BadNumber : PySem.W.typeIn K (.ref A_BadNumber) = some (.type "type"))
    (g_BadBase : PySem.W.nsIn K mainGlobals "BadBase" = some (some (.ref A_BadBase)))
    (kk_BadBase : PySem.W.keepIn K (.ref A_BadBase) = true)
    (x_BadBase : PySem.W.excIn K A_BadBase [.type "ValueError", .type "Exception", .type "BaseException", .type "object"] "ValueError.__new__" = true)
    (sb_BadBase : PySem.W.subIn K (.ref A_BadBase) (.type "BaseException") = some true)
    (tt_BadBase : PySem.W.typeIn K (.ref A_BadBase) = some (.type "type"))
    (g_BadText : PySem.W.nsIn K mainGlobals "BadText" = some (some (.ref A_BadText)))
    (kk_BadText : PySem.W.keepIn K (.ref A_BadText) = true)
    (x_BadText : PySem.W.excIn K A_BadText [.type "ValueError", .type "Exception", .type "BaseException", .type "object"] "ValueError.__new__" = true)
    (sb_BadText : PySem.W.subIn K (.ref A_BadText) (.type "BaseException") = some true)
    (tt_BadText : PySem.W.typeIn K (.ref A_BadText) = some (.type "type"))
    (g_TooGreat : PySem.W.nsIn K mainGlobals "TooGreat" = some (some (.ref A_TooGreat)))
    (kk_TooGreat : PySem.W.keepIn K (.ref A_TooGreat) = true)
    (x_TooGreat : PySem.W.excIn K A_TooGreat [.type "ValueError", .type "Exception", .type "BaseException", .type "object"] "ValueError.__new__" = true)
    (sb_TooGreat : PySem.W.subIn K (.ref A_TooGreat) (.type "BaseException") = some true)
    (tt_TooGreat : PySem.W.typeIn K (.ref A_TooGreat) = some (.type "type"))
    (hd_HeadError : PySem.W.hasDictIn K A_HeadError = true)
    (e_hn : PySem.W.specialIn K (.builtin "object.__class__") "__get__" = some (some (.builtin "getset_descriptor.__get__")))
    (e_ht : PySem.W.takesIn K (.builtin "object.__class__") = some true)
    (e_hg_BadTree : PySem.W.findIn K (.ref A_BadTree) "__getattribute__" = some (some (.builtin "BaseException.__getattribute__")))
    (e_hk_BadTree : PySem.W.findIn K (.ref A_BadTree) "__getattr__" = some none)
    (e_hd_BadTree : PySem.W.hasDictIn K A_BadTree = true)
    (e_ha_BadTree : PySem.W.findIn K (.ref A_BadTree) "__class__" = some (some (.builtin "object.__class__")))
    (e_hm_BadTree : PySem.W.mroIn K A_BadTree (.type "object") = some true)
    (su_BadTree : PySem.W.subIn K (.ref A_BadTree) (.ref A_HeadError) = some true)
    (kt_BadTree_BadTree : PySem.W.subIn K (.ref A_BadTree) (.ref A_BadTree) = some true)
    (kt_BadTree_BadWay : PySem.W.subIn K (.ref A_BadTree) (.ref A_BadWay) = some false)
    (kt_BadTree_BadTimes : PySem.W.subIn K (.ref A_BadTree) (.ref A_BadTimes) = some false)
    (kt_BadTree_BadNumber : PySem.W.subIn K (.ref A_BadTree) (.ref A_BadNumber) = some false)
    (kt_BadTree_BadBase : PySem.W.subIn K (.ref A_BadTree) (.ref A_BadBase) = some false)
    (kt_BadTree_BadText : PySem.W.subIn K (.ref A_BadTree) (.ref A_BadText) = some false)
    (kt_BadTree_TooGreat : PySem.W.subIn K (.ref A_BadTree) (.ref A_TooGreat) = some false)
    (kt_BadTree_ValueError : PySem.W.subIn K (.ref A_BadTree) (.type "ValueError") = some true)
    (ks_BadTree : PySem.W.subIn K (.ref A_BadTree) (.ref A_BadTree) = some true)
    (e_hg_TooGreat : PySem.W.findIn K (.ref A_TooGreat) "__getattribute__" = some (some (.builtin "BaseException.__getattribute__")))
    (e_hk_TooGreat : PySem.W.findIn K (.ref A_TooGreat) "__getattr__" = some none)
    (e_hd_TooGreat : PySem.W.hasDictIn K A_TooGreat = true)
    (e_ha_TooGreat : PySem.W.findIn K (.ref A_TooGreat) "__class__" = some (some (.builtin "object.__class__")))
    (e_hm_TooGreat : PySem.W.mroIn K A_TooGreat (.type "object") = some true)
    (su_TooGreat : PySem.W.subIn K (.ref A_TooGreat) (.ref A_HeadError) = some true)
    (kt_TooGreat_BadTree : PySem.W.subIn K (.ref A_TooGreat) (.ref A_BadTree) = some false)
    (kt_TooGreat_BadWay : PySem.W.subIn K (.ref A_TooGreat) (.ref A_BadWay) = some false)
    (kt_TooGreat_BadTimes : PySem.W.subIn K (.ref A_TooGreat) (.ref A_BadTimes) = some false)
    (kt_TooGreat_BadNumber : PySem.W.subIn K (.ref A_TooGreat) (.ref A_BadNumber) = some false)
    (kt_TooGreat_BadBase : PySem.W.subIn K (.ref A_TooGreat) (.ref A_BadBase) = some false)
    (kt_TooGreat_BadText : PySem.W.subIn K (.ref A_TooGreat) (.ref A_BadText) = some false)
    (kt_TooGreat_TooGreat : PySem.W.subIn K (.ref A_TooGreat) (.ref A_TooGreat) = some true)
    (kt_TooGreat_ValueError : PySem.W.subIn K (.ref A_TooGreat) (.type "ValueError") = some true)
    (ks_TooGreat : PySem.W.subIn K (.ref A_TooGreat) (.ref A_TooGreat) = some true)
    (e_hg_BadWay : PySem.W.findIn K (.ref A_BadWay) "__getattribute__" = some (some (.builtin "BaseException.__getattribute__")))
    (e_hk_BadWay : PySem.W.findIn K (.ref A_BadWay) "__getattr__" = some none)
    (e_hd_BadWay : PySem.W.hasDictIn K A_BadWay = true)
    (e_ha_BadWay : PySem.W.findIn K (.ref A_BadWay) "__class__" = some (some (.builtin "object.__class__")))
    (e_hm_BadWay : PySem.W.mroIn K A_BadWay (.type "object") = some true)
    (su_BadWay : PySem.W.subIn K (.ref A_BadWay) (.ref A_HeadError) = some true)
    (kt_BadWay_BadTree : PySem.W.subIn K (.ref A_BadWay) (.ref A_BadTree) = some false)
    (kt_BadWay_BadWay : PySem.W.subIn K (.ref A_BadWay) (.ref A_BadWay) = some true)
    (kt_BadWay_BadTimes : PySem.W.subIn K (.ref A_BadWay) (.ref A_BadTimes) = some false)
    (kt_BadWay_BadNumber : PySem.W.subIn K (.ref A_BadWay) (.ref A_BadNumber) = some false)
    (kt_BadWay_BadBase : PySem.W.subIn K (.ref A_BadWay) (.ref A_BadBase) = some false)
    (kt_BadWay_BadText : PySem.W.subIn K (.ref A_BadWay) (.ref A_BadText) = some false)
    (kt_BadWay_TooGreat : PySem.W.subIn K (.ref A_BadWay) (.ref A_TooGreat) = some false)
    (kt_BadWay_ValueError : PySem.W.subIn K (.ref A_BadWay) (.type "ValueError") = some true)
    (ks_BadWay : PySem.W.subIn K (.ref A_BadWay) (.ref A_BadWay) = some true)
    (e_hg_BadTimes : PySem.W.findIn K (.ref A_BadTimes) "__getattribute__" = some (some (.builtin "BaseException.__getattribute__")))
    (e_hk_BadTimes : PySem.W.findIn K (.ref A_BadTimes) "__getattr__" = some none)
    (e_hd_BadTimes : PySem.W.hasDictIn K A_BadTimes = true)
    (e_ha_BadTimes : PySem.W.findIn K (.ref A_BadTimes) "__class__" = some (some (.builtin "object.__class__")))
    (e_hm_BadTimes : PySem.W.mroIn K A_BadTimes (.type "object") = some true)
    (su_BadTimes : PySem.W.subIn K (.ref A_BadTimes) (.ref A_HeadError) = some true)
    (kt_BadTimes_BadTree : PySem.W.subIn K (.ref A_BadTimes) (.ref A_BadTree) = some false)
    (kt_BadTimes_BadWay : PySem.W.subIn K (.ref A_BadTimes) (.ref A_BadWay) = some false)
    (kt_BadTimes_BadTimes : PySem.W.subIn K (.ref A_BadTimes) (.ref A_BadTimes) = some true)
    (kt_BadTimes_BadNumber : PySem.W.subIn K (.ref A_BadTimes) (.ref A_BadNumber) = some false)
    (kt_BadTimes_BadBase : PySem.W.subIn K (.ref A_BadTimes) (.ref A_BadBase) = some false)
    (kt_BadTimes_BadText : PySem.W.subIn K (.ref A_BadTimes) (.ref A_BadText) = some false)
    (kt_BadTimes_TooGreat : PySem.W.subIn K (.ref A_BadTimes) (.ref A_TooGreat) = some false)
    (kt_BadTimes_ValueError : PySem.W.subIn K (.ref A_BadTimes) (.type "ValueError") = some true)
    (ks_BadTimes : PySem.W.subIn K (.ref A_BadTimes) (.ref A_BadTimes) = some true)
    (e_hg_BadBase : PySem.W.findIn K (.ref A_BadBase) "__getattribute__" = some (some (.builtin "BaseException.__getattribute__")))
    (e_hk_BadBase : PySem.W.findIn K (.ref A_BadBase) "__getattr__" = some none)
    (e_hd_BadBase : PySem.W.hasDictIn K A_BadBase = true)
    (e_ha_BadBase : PySem.W.findIn K (.ref A_BadBase) "__class__" = some (some (.builtin "object.__class__")))
    (e_hm_BadBase : PySem.W.mroIn K A_BadBase (.type "object") = some true)
    (su_BadBase : PySem.W.subIn K (.ref A_BadBase) (.ref A_HeadError) = some true)
    (kt_BadBase_BadTree : PySem.W.subIn K (.ref A_BadBase) (.ref A_BadTree) = some false)
    (kt_BadBase_BadWay : PySem.W.subIn K (.ref A_BadBase) (.ref A_BadWay) = some false)
    (kt_BadBase_BadTimes : PySem.W.subIn K (.ref A_BadBase) (.ref A_BadTimes) = some false)
    (kt_BadBase_BadNumber : PySem.W.subIn K (.ref A_BadBase) (.ref A_BadNumber) = some false)
    (kt_BadBase_BadBase : PySem.W.subIn K (.ref A_BadBase) (.ref A_BadBase) = some true)
    (kt_BadBase_BadText : PySem.W.subIn K (.ref A_BadBase) (.ref A_BadText) = some false)
    (kt_BadBase_TooGreat : PySem.W.subIn K (.ref A_BadBase) (.ref A_TooGreat) = some false)
    (kt_BadBase_ValueError : PySem.W.subIn K (.ref A_BadBase) (.type "ValueError") = some true)
    (ks_BadBase : PySem.W.subIn K (.ref A_BadBase) (.ref A_BadBase) = some true)
    (e_hg_BadNumber : PySem.W.findIn K (.ref A_BadNumber) "__getattribute__" = some (some (.builtin "BaseException.__getattribute__")))
    (e_hk_BadNumber : PySem.W.findIn K (.ref A_BadNumber) "__getattr__" = some none)
    (e_hd_BadNumber : PySem.W.hasDictIn K A_BadNumber = true)
    (e_ha_BadNumber : PySem.W.findIn K (.ref A_BadNumber) "__class__" = some (some (.builtin "object.__class__")))
    (e_hm_BadNumber : PySem.W.mroIn K A_BadNumber (.type "object") = some true)
    (su_BadNumber : PySem.W.subIn K (.ref A_BadNumber) (.ref A_HeadError) = some true)
    (kt_BadNumber_BadTree : PySem.W.subIn K (.ref A_BadNumber) (.ref A_BadTree) = some false)
    (kt_BadNumber_BadWay : PySem.W.subIn K (.ref A_BadNumber) (.ref A_BadWay) = some false)
    (kt_BadNumber_BadTimes : PySem.W.subIn K (.ref A_BadNumber) (.ref A_BadTimes) = some false)
    (kt_BadNumber_BadNumber : PySem.W.subIn K (.ref A_BadNumber) (.ref A_BadNumber) = some true)
    (kt_BadNumber_BadBase : PySem.W.subIn K (.ref A_BadNumber) (.ref A_BadBase) = some false)
    (kt_BadNumber_BadText : PySem.W.subIn K (.ref A_BadNumber) (.ref A_BadText) = some false)
    (kt_BadNumber_TooGreat : PySem.W.subIn K (.ref A_BadNumber) (.ref A_TooGreat) = some false)
    (kt_BadNumber_ValueError : PySem.W.subIn K (.ref A_BadNumber) (.type "ValueError") = some true)
    (ks_BadNumber : PySem.W.subIn K (.ref A_BadNumber) (.ref A_BadNumber) = some true)
    (e_hg_BadText : PySem.W.findIn K (.ref A_BadText) "__getattribute__" = some (some (.builtin "BaseException.__getattribute__")))
    (e_hk_BadText : PySem.W.findIn K (.ref A_BadText) "__getattr__" = some none)
    (e_hd_BadText : PySem.W.hasDictIn K A_BadText = true)
    (e_ha_BadText : PySem.W.findIn K (.ref A_BadText) "__class__" = some (some (.builtin "object.__class__")))
    (e_hm_BadText : PySem.W.mroIn K A_BadText (.type "object") = some true)
    (su_BadText : PySem.W.subIn K (.ref A_BadText) (.ref A_HeadError) = some true)
    (kt_BadText_BadTree : PySem.W.subIn K (.ref A_BadText) (.ref A_BadTree) = some false)
    (kt_BadText_BadWay : PySem.W.subIn K (.ref A_BadText) (.ref A_BadWay) = some false)
    (kt_BadText_BadTimes : PySem.W.subIn K (.ref A_BadText) (.ref A_BadTimes) = some false)
    (kt_BadText_BadNumber : PySem.W.subIn K (.ref A_BadText) (.ref A_BadNumber) = some false)
    (kt_BadText_BadBase : PySem.W.subIn K (.ref A_BadText) (.ref A_BadBase) = some false)
    (kt_BadText_BadText : PySem.W.subIn K (.ref A_BadText) (.ref A_BadText) = some true)
    (kt_BadText_TooGreat : PySem.W.subIn K (.ref A_BadText) (.ref A_TooGreat) = some false)
    (kt_BadText_ValueError : PySem.W.subIn K (.ref A_BadText) (.type "ValueError") = some true)
    (ks_BadText : PySem.W.subIn K (.ref A_BadText) (.ref A_BadText) = some true)
    (ic_BadTree : PySem.W.isClsIn K A_BadTree = true)
    (ic_BadWay : PySem.W.isClsIn K A_BadWay = true)
    (ic_BadTimes : PySem.W.isClsIn K A_BadTimes = true)
    (ic_BadNumber : PySem.W.isClsIn K A_BadNumber = true)
    (ic_BadBase : PySem.W.isClsIn K A_BadBase = true)
    (ic_BadText : PySem.W.isClsIn K A_BadText = true)
    (ic_TooGreat : PySem.W.isClsIn K A_TooGreat = true) :
    ∃ fd : FuncData, (∀ (s : Shared) (v : Value), BindsTo s fd ⟨[v], []⟩ [("_law_script", v)]) ∧ ∀ base : Heap, K.In base → base.Ns mainGlobals mg → FnOk l.prog w K mg base CX0 47 fa fd ["_law_script"] (spLaw K) := by
  have e := hfa.symm.trans (PySem.W.mg_of X G n33)
  cases e
  have F0 := fun_mk (st := s_is_tree) l0 c0 k0
  have F1 := fun_mk (st := s_asked_tree) l1 c1 k1
  have F2 := fun_mk (st := s_compared) l2 c2 k2
  have F3 := fun_mk (st := s_merged) l3 c3 k3
  have F4 := fun_mk (st := s_copied) l4 c4 k4
  have F5 := fun_mk (st := s_told_of) l5 c5 k5
  have F6 := fun_mk (st := s_told) l6 c6 k6
  have F7 := fun_mk (st := s_compare) l7 c7 k7
  have F8 := fun_mk (st := s_knots) l8 c8 k8
  have F9 := fun_mk (st := s_asked_great) l9 c9 k9
  have F10 := fun_mk (st := s_together) l10 c10 k10
  have F11 := fun_mk (st := s_behind) l11 c11 k11
  have F12 := fun_mk (st := s_is_number) l12 c12 k12
  have F13 := fun_mk (st := s_heads_of) l13 c13 k13
  have F14 := fun_mk (st := s_heads) l14 c14 k14
  have F15 := fun_mk (st := s_knot_at) l15 c15 k15
  have F16 := fun_mk (st := s_cut_of) l16 c16 k16
  have F17 := fun_mk (st := s_cut) l17 c17 k17
  have F18 := fun_mk (st := s_asked_base) l18 c18 k18
  have F19 := fun_mk (st := s_written_of) l19 c19 k19
  have F20 := fun_mk (st := s_written) l20 c20 k20
  have F21 := fun_mk (st := s_can_write) l21 c21 k21
  have F22 := fun_mk (st := s_value_of) l22 c22 k22
  have F23 := fun_mk (st := s_number_of) l23 c23 k23
  have F24 := fun_mk (st := s_stepped) l24 c24 k24
  have F25 := fun_mk (st := s_text_of) l25 c25 k25
  have F26 := fun_mk (st := s_text) l26 c26 k26
  have F27 := fun_mk (st := s_read) l27 c27 k27
  have F28 := fun_mk (st := s__law_with_tree) l28 c28 k28
  have F29 := fun_mk (st := s__law_bad_tree) l29 c29 k29
  have F30 := fun_mk (st := s__law_with_other) l30 c30 k30
  have F31 := fun_mk (st := s__law_great) l31 c31 k31
  have F32 := fun_mk (st := s__law_told) l32 c32 k32
  have F33 := fun_mk (st := s_law) l33 c33 k33
  let T : Txt K mg := {
    a_is_tree := a_is_tree, d_is_tree := _, F_is_tree := F0, b_is_tree := (F0.binds (ps := ["thing", "depth", "left"]) fun _ _ _ _ _ _ us hl => match us, hl with | [_, _, _], _ => rfl), m_is_tree := PySem.W.mg_of X G n0, k_is_tree := k0,
    a_asked_tree := a_asked_tree, d_asked_tree := _, F_asked_tree := F1, b_asked_tree := (F1.binds (ps := ["tree"]) fun _ _ _ _ _ _ us hl => match us, hl with | [_], _ => rfl), m_asked_tree := PySem.W.mg_of X G n1, k_asked_tree := k1,
    a_compared := a_compared, d_compared := _, F_compared := F2, b_compared := (F2.binds (ps := ["one", "other"]) fun _ _ _ _ _ _ us hl => match us, hl with | [_, _], _ => rfl), m_compared := PySem.W.mg_of X G n2, k_compared := k2,
    a_merged := a_merged, d_merged := _, F_merged := F3, b_merged := (F3.binds (ps := ["one", "other"]) fun _ _ _ _ _ _ us hl => match us, hl with | [_, _], _ => rfl), m_merged := PySem.W.mg_of X G n3, k_merged := k3,
    a_copied := a_copied, d_copied := _, F_copied := F4, b_copied := (F4.binds (ps := ["tree"]) fun _ _ _ _ _ _ us hl => match us, hl with | [_], _ => rfl), m_copied := PySem.W.mg_of X G n4, k_copied := k4,
    a_told_of := a_told_of, d_told_of := _, F_told_of := F5, b_told_of := (F5.binds (ps := ["tree"]) fun _ _ _ _ _ _ us hl => match us, hl with | [_], _ => rfl), m_told_of := PySem.W.mg_of X G n5, k_told_of := k5,
    a_told := a_told, d_told := _, F_told := F6, b_told := (F6.binds (ps := ["tree"]) fun _ _ _ _ _ _ us hl => match us, hl with | [_], _ => rfl), m_told := PySem.W.mg_of X G n6, k_told := k6,
    a_compare := a_compare, d_compare := _, F_compare := F7, b_compare := (F7.binds (ps := ["one", "other"]) fun _ _ _ _ _ _ us hl => match us, hl with | [_, _], _ => rfl), m_compare := PySem.W.mg_of X G n7, k_compare := k7,
    a_knots := a_knots, d_knots := _, F_knots := F8, b_knots := (F8.binds (ps := ["tree"]) fun _ _ _ _ _ _ us hl => match us, hl with | [_], _ => rfl), m_knots := PySem.W.mg_of X G n8, k_knots := k8,
    a_asked_great := a_asked_great, d_asked_great := _, F_asked_great := F9, b_asked_great := (F9.binds (ps := ["tree"]) fun _ _ _ _ _ _ us hl => match us, hl with | [_], _ => rfl), m_asked_great := PySem.W.mg_of X G n9, k_asked_great := k9,
    a_together := a_together, d_together := _, F_together := F10, b_together := (F10.binds (ps := ["one", "other"]) fun _ _ _ _ _ _ us hl => match us, hl with | [_, _], _ => rfl), m_together := PySem.W.mg_of X G n10, k_together := k10,
    a_behind := a_behind, d_behind := _, F_behind := F11, b_behind := (F11.binds (ps := ["one", "other"]) fun _ _ _ _ _ _ us hl => match us, hl with | [_, _], _ => rfl), m_behind := PySem.W.mg_of X G n11, k_behind := k11,
    a_is_number := a_is_number, d_is_number := _, F_is_number := F12, b_is_number := (F12.binds (ps := ["thing"]) fun _ _ _ _ _ _ us hl => match us, hl with | [_], _ => rfl), m_is_number := PySem.W.mg_of X G n12, k_is_number := k12,
    a_heads_of := a_heads_of, d_heads_of := _, F_heads_of := F13, b_heads_of := (F13.binds (ps := ["tree"]) fun _ _ _ _ _ _ us hl => match us, hl with | [_], _ => rfl), m_heads_of := PySem.W.mg_of X G n13, k_heads_of := k13,
    a_heads := a_heads, d_heads := _, F_heads := F14, b_heads := (F14.binds (ps := ["tree"]) fun _ _ _ _ _ _ us hl => match us, hl with | [_], _ => rfl), m_heads := PySem.W.mg_of X G n14, k_heads := k14,
    a_knot_at := a_knot_at, d_knot_at := _, F_knot_at := F15, b_knot_at := (F15.binds (ps := ["tree", "way"]) fun _ _ _ _ _ _ us hl => match us, hl with | [_, _], _ => rfl), m_knot_at := PySem.W.mg_of X G n15, k_knot_at := k15,
    a_cut_of := a_cut_of, d_cut_of := _, F_cut_of := F16, b_cut_of := (F16.binds (ps := ["tree", "way", "times"]) fun _ _ _ _ _ _ us hl => match us, hl with | [_, _, _], _ => rfl), m_cut_of := PySem.W.mg_of X G n16, k_cut_of := k16,
    a_cut := a_cut, d_cut := _, F_cut := F17, b_cut := (F17.binds (ps := ["tree", "way", "times"]) fun _ _ _ _ _ _ us hl => match us, hl with | [_, _, _], _ => rfl), m_cut := PySem.W.mg_of X G n17, k_cut := k17,
    a_asked_base := a_asked_base, d_asked_base := _, F_asked_base := F18, b_asked_base := (F18.binds (ps := ["base"]) fun _ _ _ _ _ _ us hl => match us, hl with | [_], _ => rfl), m_asked_base := PySem.W.mg_of X G n18, k_asked_base := k18,
    a_written_of := a_written_of, d_written_of := _, F_written_of := F19, b_written_of := (F19.binds (ps := ["number", "base", "left"]) fun _ _ _ _ _ _ us hl => match us, hl with | [_, _, _], _ => rfl), m_written_of := PySem.W.mg_of X G n19, k_written_of := k19,
    a_written := a_written, d_written := _, F_written := F20, b_written := (F20.binds (ps := ["number", "base"]) fun _ _ _ _ _ _ us hl => match us, hl with | [_, _], _ => rfl), m_written := PySem.W.mg_of X G n20, k_written := k20,
    a_can_write := a_can_write, d_can_write := _, F_can_write := F21, b_can_write := (F21.binds (ps := ["tree", "base"]) fun _ _ _ _ _ _ us hl => match us, hl with | [_, _], _ => rfl), m_can_write := PySem.W.mg_of X G n21, k_can_write := k21,
    a_value_of := a_value_of, d_value_of := _, F_value_of := F22, b_value_of := (F22.binds (ps := ["tree", "base"]) fun _ _ _ _ _ _ us hl => match us, hl with | [_, _], _ => rfl), m_value_of := PySem.W.mg_of X G n22, k_value_of := k22,
    a_number_of := a_number_of, d_number_of := _, F_number_of := F23, b_number_of := (F23.binds (ps := ["tree", "base"]) fun _ _ _ _ _ _ us hl => match us, hl with | [_, _], _ => rfl), m_number_of := PySem.W.mg_of X G n23, k_number_of := k23,
    a_stepped := a_stepped, d_stepped := _, F_stepped := F24, b_stepped := (F24.binds (ps := ["number", "base"]) fun _ _ _ _ _ _ us hl => match us, hl with | [_, _], _ => rfl), m_stepped := PySem.W.mg_of X G n24, k_stepped := k24,
    a_text_of := a_text_of, d_text_of := _, F_text_of := F25, b_text_of := (F25.binds (ps := ["tree"]) fun _ _ _ _ _ _ us hl => match us, hl with | [_], _ => rfl), m_text_of := PySem.W.mg_of X G n25, k_text_of := k25,
    a_text := a_text, d_text := _, F_text := F26, b_text := (F26.binds (ps := ["tree"]) fun _ _ _ _ _ _ us hl => match us, hl with | [_], _ => rfl), m_text := PySem.W.mg_of X G n26, k_text := k26,
    a_read := a_read, d_read := _, F_read := F27, b_read := (F27.binds (ps := ["text"]) fun _ _ _ _ _ _ us hl => match us, hl with | [_], _ => rfl), m_read := PySem.W.mg_of X G n27, k_read := k27,
    a__law_with_tree := a__law_with_tree, d__law_with_tree := _, F__law_with_tree := F28, b__law_with_tree := (F28.binds (ps := ["_law_door", "_law_tree"]) fun _ _ _ _ _ _ us hl => match us, hl with | [_, _], _ => rfl), m__law_with_tree := PySem.W.mg_of X G n28, k__law_with_tree := k28,
    a__law_bad_tree := a__law_bad_tree, d__law_bad_tree := _, F__law_bad_tree := F29, b__law_bad_tree := (F29.binds (ps := ["_law_which", "_law_more"]) fun _ _ _ _ _ _ us hl => match us, hl with | [_, _], _ => rfl), m__law_bad_tree := PySem.W.mg_of X G n29, k__law_bad_tree := k29,
    a__law_with_other := a__law_with_other, d__law_with_other := _, F__law_with_other := F30, b__law_with_other := (F30.binds (ps := ["_law_kind", "_law_which", "_law_more"]) fun _ _ _ _ _ _ us hl => match us, hl with | [_, _, _], _ => rfl), m__law_with_other := PySem.W.mg_of X G n30, k__law_with_other := k30,
    a__law_great := a__law_great, d__law_great := _, F__law_great := F31, b__law_great := (F31.binds (ps := ["_law_which", "_law_more"]) fun _ _ _ _ _ _ us hl => match us, hl with | [_, _], _ => rfl), m__law_great := PySem.W.mg_of X G n31, k__law_great := k31,
    a__law_told := a__law_told, d__law_told := _, F__law_told := F32, b__law_told := (F32.binds (ps := ["_law_kind", "_law_which", "_law_more"]) fun _ _ _ _ _ _ us hl => match us, hl with | [_, _, _], _ => rfl), m__law_told := PySem.W.mg_of X G n32, k__law_told := k32,
    a_law := fa, d_law := _, F_law := F33, b_law := (F33.binds (ps := ["_law_script"]) fun _ _ _ _ _ _ us hl => match us, hl with | [_], _ => rfl), m_law := PySem.W.mg_of X G n33, k_law := k33,
    z_len := PySem.W.mg_none_of X G z_len,
    z_list := PySem.W.mg_none_of X G z_list,
    z_range := PySem.W.mg_none_of X G z_range,
    z_zip := PySem.W.mg_none_of X G z_zip,
    z_enumerate := PySem.W.mg_none_of X G z_enumerate,
    z_min := PySem.W.mg_none_of X G z_min,
    z_max := PySem.W.mg_none_of X G z_max,
    z_sum := PySem.W.mg_none_of X G z_sum,
    z_all := PySem.W.mg_none_of X G z_all,
    z_isinstance := PySem.W.mg_none_of X G z_isinstance,
    z_int := PySem.W.mg_none_of X G z_int,
    z_bool := PySem.W.mg_none_of X G z_bool,
    z_str := PySem.W.mg_none_of X G z_str,
    z_ValueError := PySem.W.mg_none_of X G z_ValueError,
    t_MOST := t_MOST, c_MOST := PySem.W.mg_of X G c_MOST,
    t_DEEPEST := t_DEEPEST, c_DEEPEST := PySem.W.mg_of X G c_DEEPEST,
    t_GREATEST := t_GREATEST, c_GREATEST := PySem.W.mg_of X G c_GREATEST,
    A_HeadError := A_HeadError, g_HeadError := PySem.W.mg_of X G g_HeadError, k_HeadError := kk_HeadError, x_HeadError := x_HeadError, sb_HeadError := sb_HeadError, tt_HeadError := tt_HeadError,
    A_BadTree := A_BadTree, g_BadTree := PySem.W.mg_of X G g_BadTree, k_BadTree := kk_BadTree, x_BadTree := x_BadTree, sb_BadTree := sb_BadTree, tt_BadTree := tt_BadTree,
    A_BadWay := A_BadWay, g_BadWay := PySem.W.mg_of X G g_BadWay, k_BadWay := kk_BadWay, x_BadWay := x_BadWay, sb_BadWay := sb_BadWay, tt_BadWay := tt_BadWay,
    A_BadTimes := A_BadTimes, g_BadTimes := PySem.W.mg_of X G g_BadTimes, k_BadTimes := kk_BadTimes, x_BadTimes := x_BadTimes, sb_BadTimes := sb_BadTimes, tt_BadTimes := tt_BadTimes,
    A_BadNumber := A_BadNumber, g_BadNumber := PySem.W.mg_of X G g_BadNumber, k_BadNumber := kk_BadNumber, x_BadNumber := x_BadNumber, sb_BadNumber := sb_BadNumber, tt_BadNumber := tt_BadNumber,
    A_BadBase := A_BadBase, g_BadBase := PySem.W.mg_of X G g_BadBase, k_BadBase := kk_BadBase, x_BadBase := x_BadBase, sb_BadBase := sb_BadBase, tt_BadBase := tt_BadBase,
    A_BadText := A_BadText, g_BadText := PySem.W.mg_of X G g_BadText, k_BadText := kk_BadText, x_BadText := x_BadText, sb_BadText := sb_BadText, tt_BadText := tt_BadText,
    A_TooGreat := A_TooGreat, g_TooGreat := PySem.W.mg_of X G g_TooGreat, k_TooGreat := kk_TooGreat, x_TooGreat := x_TooGreat, sb_TooGreat := sb_TooGreat, tt_TooGreat := tt_TooGreat,
    hd_HeadError := hd_HeadError,
    ex_BadTree := ⟨e_hg_BadTree, e_hk_BadTree, sb_BadTree, e_hd_BadTree, e_ha_BadTree, e_hn, e_ht, e_hm_BadTree⟩, su_BadTree := su_BadTree,
    kt_BadTree_BadTree := kit_mk ic_BadTree tt_BadTree kt_BadTree_BadTree ks_BadTree,
    kt_BadTree_BadWay := kit_mk ic_BadWay tt_BadWay kt_BadTree_BadWay ks_BadTree,
    kt_BadTree_BadTimes := kit_mk ic_BadTimes tt_BadTimes kt_BadTree_BadTimes ks_BadTree,
    kt_BadTree_BadNumber := kit_mk ic_BadNumber tt_BadNumber kt_BadTree_BadNumber ks_BadTree,
    kt_BadTree_BadBase := kit_mk ic_BadBase tt_BadBase kt_BadTree_BadBase ks_BadTree,
    kt_BadTree_BadText := kit_mk ic_BadText tt_BadText kt_BadTree_BadText ks_BadTree,
    kt_BadTree_TooGreat := kit_mk ic_TooGreat tt_TooGreat kt_BadTree_TooGreat ks_BadTree,
    kt_BadTree_ValueError := kit_mkT (by decide +kernel) kt_BadTree_ValueError,
    ex_TooGreat := ⟨e_hg_TooGreat, e_hk_TooGreat, sb_TooGreat, e_hd_TooGreat, e_ha_TooGreat, e_hn, e_ht, e_hm_TooGreat⟩, su_TooGreat := su_TooGreat,
    kt_TooGreat_BadTree := kit_mk ic_BadTree tt_BadTree kt_TooGreat_BadTree ks_TooGreat,
    kt_TooGreat_BadWay := kit_mk ic_BadWay tt_BadWay kt_TooGreat_BadWay ks_TooGreat,
    kt_TooGreat_BadTimes := kit_mk ic_BadTimes tt_BadTimes kt_TooGreat_BadTimes ks_TooGreat,
    kt_TooGreat_BadNumber := kit_mk ic_BadNumber tt_BadNumber kt_TooGreat_BadNumber ks_TooGreat,
    kt_TooGreat_BadBase := kit_mk ic_BadBase tt_BadBase kt_TooGreat_BadBase ks_TooGreat,
    kt_TooGreat_BadText := kit_mk ic_BadText tt_BadText kt_TooGreat_BadText ks_TooGreat,
    kt_TooGreat_TooGreat := kit_mk ic_TooGreat tt_TooGreat kt_TooGreat_TooGreat ks_TooGreat,
    kt_TooGreat_ValueError := kit_mkT (by decide +kernel) kt_TooGreat_ValueError,
    ex_BadWay := ⟨e_hg_BadWay, e_hk_BadWay, sb_BadWay, e_hd_BadWay, e_ha_BadWay, e_hn, e_ht, e_hm_BadWay⟩, su_BadWay := su_BadWay,
    kt_BadWay_BadTree := kit_mk ic_BadTree tt_BadTree kt_BadWay_BadTree ks_BadWay,
    kt_BadWay_BadWay := kit_mk ic_BadWay tt_BadWay kt_BadWay_BadWay ks_BadWay,
    kt_BadWay_BadTimes := kit_mk ic_BadTimes tt_BadTimes kt_BadWay_BadTimes ks_BadWay,
    kt_BadWay_BadNumber := kit_mk ic_BadNumber tt_BadNumber kt_BadWay_BadNumber ks_BadWay,
    kt_BadWay_BadBase := kit_mk ic_BadBase tt_BadBase kt_BadWay_BadBase ks_BadWay,
    kt_BadWay_BadText := kit_mk ic_BadText tt_BadText kt_BadWay_BadText ks_BadWay,
    kt_BadWay_TooGreat := kit_mk ic_TooGreat tt_TooGreat kt_BadWay_TooGreat ks_BadWay,
    kt_BadWay_ValueError := kit_mkT (by decide +kernel) kt_BadWay_ValueError,
    ex_BadTimes := ⟨e_hg_BadTimes, e_hk_BadTimes, sb_BadTimes, e_hd_BadTimes, e_ha_BadTimes, e_hn, e_ht, e_hm_BadTimes⟩, su_BadTimes := su_BadTimes,
    kt_BadTimes_BadTree := kit_mk ic_BadTree tt_BadTree kt_BadTimes_BadTree ks_BadTimes,
    kt_BadTimes_BadWay := kit_mk ic_BadWay tt_BadWay kt_BadTimes_BadWay ks_BadTimes,
    kt_BadTimes_BadTimes := kit_mk ic_BadTimes tt_BadTimes kt_BadTimes_BadTimes ks_BadTimes,
    kt_BadTimes_BadNumber := kit_mk ic_BadNumber tt_BadNumber kt_BadTimes_BadNumber ks_BadTimes,
    kt_BadTimes_BadBase := kit_mk ic_BadBase tt_BadBase kt_BadTimes_BadBase ks_BadTimes,
    kt_BadTimes_BadText := kit_mk ic_BadText tt_BadText kt_BadTimes_BadText ks_BadTimes,
    kt_BadTimes_TooGreat := kit_mk ic_TooGreat tt_TooGreat kt_BadTimes_TooGreat ks_BadTimes,
    kt_BadTimes_ValueError := kit_mkT (by decide +kernel) kt_BadTimes_ValueError,
    ex_BadBase := ⟨e_hg_BadBase, e_hk_BadBase, sb_BadBase, e_hd_BadBase, e_ha_BadBase, e_hn, e_ht, e_hm_BadBase⟩, su_BadBase := su_BadBase,
    kt_BadBase_BadTree := kit_mk ic_BadTree tt_BadTree kt_BadBase_BadTree ks_BadBase,
    kt_BadBase_BadWay := kit_mk ic_BadWay tt_BadWay kt_BadBase_BadWay ks_BadBase,
    kt_BadBase_BadTimes := kit_mk ic_BadTimes tt_BadTimes kt_BadBase_BadTimes ks_BadBase,
    kt_BadBase_BadNumber := kit_mk ic_BadNumber tt_BadNumber kt_BadBase_BadNumber ks_BadBase,
    kt_BadBase_BadBase := kit_mk ic_BadBase tt_BadBase kt_BadBase_BadBase ks_BadBase,
    kt_BadBase_BadText := kit_mk ic_BadText tt_BadText kt_BadBase_BadText ks_BadBase,
    kt_BadBase_TooGreat := kit_mk ic_TooGreat tt_TooGreat kt_BadBase_TooGreat ks_BadBase,
    kt_BadBase_ValueError := kit_mkT (by decide +kernel) kt_BadBase_ValueError,
    ex_BadNumber := ⟨e_hg_BadNumber, e_hk_BadNumber, sb_BadNumber, e_hd_BadNumber, e_ha_BadNumber, e_hn, e_ht, e_hm_BadNumber⟩, su_BadNumber := su_BadNumber,
    kt_BadNumber_BadTree := kit_mk ic_BadTree tt_BadTree kt_BadNumber_BadTree ks_BadNumber,
    kt_BadNumber_BadWay := kit_mk ic_BadWay tt_BadWay kt_BadNumber_BadWay ks_BadNumber,
    kt_BadNumber_BadTimes := kit_mk ic_BadTimes tt_BadTimes kt_BadNumber_BadTimes ks_BadNumber,
    kt_BadNumber_BadNumber := kit_mk ic_BadNumber tt_BadNumber kt_BadNumber_BadNumber ks_BadNumber,
    kt_BadNumber_BadBase := kit_mk ic_BadBase tt_BadBase kt_BadNumber_BadBase ks_BadNumber,
    kt_BadNumber_BadText := kit_mk ic_BadText tt_BadText kt_BadNumber_BadText ks_BadNumber,
    kt_BadNumber_TooGreat := kit_mk ic_TooGreat tt_TooGreat kt_BadNumber_TooGreat ks_BadNumber,
    kt_BadNumber_ValueError := kit_mkT (by decide +kernel) kt_BadNumber_ValueError,
    ex_BadText := ⟨e_hg_BadText, e_hk_BadText, sb_BadText, e_hd_BadText, e_ha_BadText, e_hn, e_ht, e_hm_BadText⟩, su_BadText := su_BadText,
    kt_BadText_BadTree := kit_mk ic_BadTree tt_BadTree kt_BadText_BadTree ks_BadText,
    kt_BadText_BadWay := kit_mk ic_BadWay tt_BadWay kt_BadText_BadWay ks_BadText,
    kt_BadText_BadTimes := kit_mk ic_BadTimes tt_BadTimes kt_BadText_BadTimes ks_BadText,
    kt_BadText_BadNumber := kit_mk ic_BadNumber tt_BadNumber kt_BadText_BadNumber ks_BadText,
    kt_BadText_BadBase := kit_mk ic_BadBase tt_BadBase kt_BadText_BadBase ks_BadText,
    kt_BadText_BadText := kit_mk ic_BadText tt_BadText kt_BadText_BadText ks_BadText,
    kt_BadText_TooGreat := kit_mk ic_TooGreat tt_TooGreat kt_BadText_TooGreat ks_BadText,
    kt_BadText_ValueError := kit_mkT (by decide +kernel) kt_BadText_ValueError }
  exact ⟨PySem.W.fnOf "law" "law" (defArgs s_law) (defBody s_law) (defScope s_law) .none kV33 dc33 pm33 an33 cd33 ct33, fun s v => .of_eq rfl, fun base _ _ => ok_law T⟩
theorem walk {l : PySem.W.OpenLaw} {q : Program} {loose : List Str} {XP : (Str → Option Value) → Heap → Prop} {YP : World → Heap → Prop} {d : DefRec} {K : Params → PySem.W.Frag} (hn : l.most = some 63) (hdf : d.params.defaults = [])
    (hY : ∀ (w : World) (h : Heap), YP w h → (K w.params).In h)
    (F : ∀ (w : World) (mg : Str → Option Value) (fa : Addr) (h : Heap), (K w.params).In h → h.Ns mainGlobals mg → mg d.name = some (.ref fa) →
      ∃ fd : FuncData, (∀ (s : Shared) (u : Value), BindsTo s fd ⟨[u], []⟩ [("_law_script", u)]) ∧ ∀ base : Heap, (K w.params).In base → base.Ns mainGlobals mg → FnOk l.prog w (K w.params) mg base CX0 47 fa fd ["_law_script"] (spLaw (K w.params))) :
    PySem.W.WalkO q loose XP YP l.row.toRowW d [] (fun f vs => PySem.call f vs) :=
  L2.walk_ofB (n := 63) (k := 47) (x := "_law_script") (CX := fun _ => CX0) (sp := fun w => spLaw (K w.params)) hn (by decide) hdf ⟨rfl, by decide, by decide⟩ hY F (fun _ _ a ns hl hb _ hS => ⟨a, ns, rfl, hS, hl, fun n hn => (Bits.of_bits (hb n hn)).mono (by decide), fun _ => rfl⟩) fun _ _ _ _ _ z => z
end Hg
open PySem PySem.W PyProof.Rows
set_option maxRecDepth 100000 in
set_option maxHeartbeats 0 in
theorem PySem.Challenge.cw_headsgrow_k05_refused_holds : PySem.Challenge.rw_headsgrow_k05_refused.Holds := by
  w_on; o_law; k_head; (case hw => w_witness2)
  k_fill
  refine Hg.walk (l := PySem.Challenge.rw_headsgrow_k05_refused) rfl rfl (fun w h Y => PySem.W.kIn_of Y) ?F
  case F =>
    intro w mg fa h KX G hmg
    refine' Hg.all_mk KX G hmg ?n0 ?l0 ?c0 ?k0 ?n1 ?l1 ?c1 ?k1 ?n2 ?l2 ?c2 ?k2 ?n3 ?l3 ?c3 ?k3 ?n4 ?l4 ?c4 ?k4 ?n5 ?l5 ?c5 ?k5 ?n6 ?l6 ?c6 ?k6 ?n7 ?l7 ?c7 ?k7 ?n8 ?l8 ?c8 ?k8 ?n9 ?l9 ?c9 ?k9 ?n10 ?l10 ?c10 ?k10 ?n11 ?l11 ?c11 ?k11 ?n12 ?l12 ?c12 ?k12 ?n13 ?l13 ?c13 ?k13 ?n14 ?l14 ?c14 ?k14 ?n15 ?l15 ?c15 ?k15 ?n16 ?l16 ?c16 ?k16 ?n17 ?l17 ?c17 ?k17 ?n18 ?l18 ?c18 ?k18 ?n19 ?l19 ?c19 ?k19 ?n20 ?l20 ?c20 ?k20 ?n21 ?l21 ?c21 ?k21 ?n22 ?l22 ?c22 ?k22 ?n23 ?l23 ?c23 ?k23 ?n24 ?l24 ?c24 ?k24 ?n25 ?l25 ?c25 ?k25 ?n26 ?l26 ?c26 ?k26 ?n27 ?l27 ?c27 ?k27 ?n28 ?l28 ?c28 ?k28 ?n29 ?l29 ?c29 ?k29 ?n30 ?l30 ?c30 ?k30 ?n31 ?l31 ?c31 ?k31 ?n32 ?l32 ?c32 ?k32 ?n33 ?l33 ?c33 ?k33 ?z_len ?z_list ?z_range ?z_zip ?z_enumerate ?z_min ?z_max ?z_sum ?z_all ?z_isinstance ?z_int ?z_bool ?z_str ?z_ValueError ?c_MOST ?c_DEEPEST ?c_GREATEST ?g_HeadError ?kk_HeadError ?x_HeadError ?sb_HeadError ?tt_HeadError ?g_BadTree ?kk_BadTree ?x_BadTree ?sb_BadTree ?tt_BadTree ?g_BadWay ?kk_BadWay ?x_BadWay ?sb_BadWay ?tt_BadWay ?g_BadTimes ?kk_BadTimes ?x_BadTimes ?sb_BadTimes ?tt_BadTimes ?g_BadNumber ?kk_BadNumber ?x_BadNumber ?sb_BadNumber ?tt_BadNumber ?g_BadBase ?kk_BadBase ?x_BadBase ?sb_BadBase ?tt_BadBase ?g_BadText ?kk_BadText ?x_BadText ?sb_BadText ?tt_BadText ?g_TooGreat ?kk_TooGreat ?x_TooGreat ?sb_TooGreat ?tt_TooGreat ?hd_HeadError ?e_hn ?e_ht ?e_hg_BadTree ?e_hk_BadTree ?e_hd_BadTree ?e_ha_BadTree ?e_hm_BadTree ?su_BadTree ?kt_BadTree_BadTree ?kt_BadTree_BadWay ?kt_BadTree_BadTimes ?kt_BadTree_BadNumber ?kt_BadTree_BadBase ?kt_BadTree_BadText ?kt_BadTree_TooGreat ?kt_BadTree_ValueError ?ks_BadTree ?e_hg_TooGreat ?e_hk_TooGreat ?e_hd_TooGreat ?e_ha_TooGreat ?e_hm_TooGreat ?su_TooGreat ?kt_TooGreat_BadTree ?kt_TooGreat_BadWay ?kt_TooGreat_BadTimes ?kt_TooGreat_BadNumber ?kt_TooGreat_BadBase ?kt_TooGreat_BadText ?kt_TooGreat_TooGreat ?kt_TooGreat_ValueError ?ks_TooGreat ?e_hg_BadWay ?e_hk_BadWay ?e_hd_BadWay ?e_ha_BadWay ?e_hm_BadWay ?su_BadWay ?kt_BadWay_BadTree ?kt_BadWay_BadWay ?kt_BadWay_BadTimes ?kt_BadWay_BadNumber ?kt_BadWay_BadBase ?kt_BadWay_BadText ?kt_BadWay_TooGreat ?kt_BadWay_ValueError ?ks_BadWay ?e_hg_BadTimes ?e_hk_BadTimes ?e_hd_BadTimes ?e_ha_BadTimes ?e_hm_BadTimes ?su_BadTimes ?kt_BadTimes_BadTree ?kt_BadTimes_BadWay ?kt_BadTimes_BadTimes ?kt_BadTimes_BadNumber ?kt_BadTimes_BadBase ?kt_BadTimes_BadText ?kt_BadTimes_TooGreat ?kt_BadTimes_ValueError ?ks_BadTimes ?e_hg_BadBase ?e_hk_BadBase ?e_hd_BadBase ?e_ha_BadBase ?e_hm_BadBase ?su_BadBase ?kt_BadBase_BadTree ?kt_BadBase_BadWay ?kt_BadBase_BadTimes ?kt_BadBase_BadNumber ?kt_BadBase_BadBase ?kt_BadBase_BadText ?kt_BadBase_TooGreat ?kt_BadBase_ValueError ?ks_BadBase ?e_hg_BadNumber ?e_hk_BadNumber ?e_hd_BadNumber ?e_ha_BadNumber ?e_hm_BadNumber ?su_BadNumber ?kt_BadNumber_BadTree ?kt_BadNumber_BadWay ?kt_BadNumber_BadTimes ?kt_BadNumber_BadNumber ?kt_BadNumber_BadBase ?kt_BadNumber_BadText ?kt_BadNumber_TooGreat ?kt_BadNumber_ValueError ?ks_BadNumber ?e_hg_BadText ?e_hk_BadText ?e_hd_BadText ?e_ha_BadText ?e_hm_BadText ?su_BadText ?kt_BadText_BadTree ?kt_BadText_BadWay ?kt_BadText_BadTimes ?kt_BadText_BadNumber ?kt_BadText_BadBase ?kt_BadText_BadText ?kt_BadText_TooGreat ?kt_BadText_ValueError ?ks_BadText ?ic_BadTree ?ic_BadWay ?ic_BadTimes ?ic_BadNumber ?ic_BadBase ?ic_BadText ?ic_TooGreat
    (case n0 => k_is)
    (case l0 => k_is)
    (case c0 => k_is)
    (case k0 => k_is)
    (case n1 => k_is)
    (case l1 => k_is)
    (case c1 => k_is)
    (case k1 => k_is)
    (case n2 => k_is)
    (case l2 => k_is)
    (case c2 => k_is)
    (case k2 => k_is)
    (case n3 => k_is)
    (case l3 => k_is)
    (case c3 => k_is)
    (case k3 => k_is)
    (case n4 => k_is)
    (case l4 => k_is)
    (case c4 => k_is)
    (case k4 => k_is)
    (case n5 => k_is)
    (case l5 => k_is)
    (case c5 => k_is)
    (case k5 => k_is)
    (case n6 => k_is)
    (case l6 => k_is)
    (case c6 => k_is)
    (case k6 => k_is)
    (case n7 => k_is)
    (case l7 => k_is)
    (case c7 => k_is)
    (case k7 => k_is)
    (case n8 => k_is)
    (case l8 => k_is)
    (case c8 => k_is)
    (case k8 => k_is)
    (case n9 => k_is)
    (case l9 => k_is)
    (case c9 => k_is)
    (case k9 => k_is)
    (case n10 => k_is)
    (case l10 => k_is)
    (case c10 => k_is)
    (case k10 => k_is)
    (case n11 => k_is)
    (case l11 => k_is)
    (case c11 => k_is)
    (case k11 => k_is)
    (case n12 => k_is)
    (case l12 => k_is)
    (case c12 => k_is)
    (case k12 => k_is)
    (case n13 => k_is)
    (case l13 => k_is)
    (case c13 => k_is)
    (case k13 => k_is)
    (case n14 => k_is)
    (case l14 => k_is)
    (case c14 => k_is)
    (case k14 => k_is)
    (case n15 => k_is)
    (case l15 => k_is)
    (case c15 => k_is)
    (case k15 => k_is)
    (case n16 => k_is)
    (case l16 => k_is)
    (case c16 => k_is)
    (case k16 => k_is)
    (case n17 => k_is)
    (case l17 => k_is)
    (case c17 => k_is)
    (case k17 => k_is)
    (case n18 => k_is)
    (case l18 => k_is)
    (case c18 => k_is)
    (case k18 => k_is)
    (case n19 => k_is)
    (case l19 => k_is)
    (case c19 => k_is)
    (case k19 => k_is)
    (case n20 => k_is)
    (case l20 => k_is)
    (case c20 => k_is)
    (case k20 => k_is)
    (case n21 => k_is)
    (case l21 => k_is)
    (case c21 => k_is)
    (case k21 => k_is)
    (case n22 => k_is)
    (case l22 => k_is)
    (case c22 => k_is)
    (case k22 => k_is)
    (case n23 => k_is)
    (case l23 => k_is)
    (case c23 => k_is)
    (case k23 => k_is)
    (case n24 => k_is)
    (case l24 => k_is)
    (case c24 => k_is)
    (case k24 => k_is)
    (case n25 => k_is)
    (case l25 => k_is)
    (case c25 => k_is)
    (case k25 => k_is)
    (case n26 => k_is)
    (case l26 => k_is)
    (case c26 => k_is)
    (case k26 => k_is)
    (case n27 => k_is)
    (case l27 => k_is)
    (case c27 => k_is)
    (case k27 => k_is)
    (case n28 => k_is)
    (case l28 => k_is)
    (case c28 => k_is)
    (case k28 => k_is)
    (case n29 => k_is)
    (case l29 => k_is)
    (case c29 => k_is)
    (case k29 => k_is)
    (case n30 => k_is)
    (case l30 => k_is)
    (case c30 => k_is)
    (case k30 => k_is)
    (case n31 => k_is)
    (case l31 => k_is)
    (case c31 => k_is)
    (case k31 => k_is)
    (case n32 => k_is)
    (case l32 => k_is)
    (case c32 => k_is)
    (case k32 => k_is)
    (case n33 => k_is)
    (case l33 => k_is)
    (case c33 => k_is)
    (case k33 => k_is)
    (case z_len => k_is)
    (case z_list => k_is)
    (case z_range => k_is)
    (case z_zip => k_is)
    (case z_enumerate => k_is)
    (case z_min => k_is)
    (case z_max => k_is)
    (case z_sum => k_is)
    (case z_all => k_is)
    (case z_isinstance => k_is)
    (case z_int => k_is)
    (case z_bool => k_is)
    (case z_str => k_is)
    (case z_ValueError => k_is)
    (case c_MOST => k_is)
    (case c_DEEPEST => k_is)
    (case c_GREATEST => k_is)
    (case g_HeadError => k_is)
    (case kk_HeadError => k_is)
    (case x_HeadError => k_exc)
    (case sb_HeadError => k_is)
    (case tt_HeadError => k_is)
    (case g_BadTree => k_is)
    (case kk_BadTree => k_is)
    (case x_BadTree => k_exc)
    (case sb_BadTree => k_is)
    (case tt_BadTree => k_is)
    (case g_BadWay => k_is)
    (case kk_BadWay => k_is)
    (case x_BadWay => k_exc)
    (case sb_BadWay => k_is)
    (case tt_BadWay => k_is)
    (case g_BadTimes => k_is)
    (case kk_BadTimes => k_is)
    (case x_BadTimes => k_exc)
    (case sb_BadTimes => k_is)
    (case tt_BadTimes => k_is)
    (case g_BadNumber => k_is)
    (case kk_BadNumber => k_is)
    (case x_BadNumber => k_exc)
    (case sb_BadNumber => k_is)
    (case tt_BadNumber => k_is)
    (case g_BadBase => k_is)
    (case kk_BadBase => k_is)
    (case x_BadBase => k_exc)
    (case sb_BadBase => k_is)
    (case tt_BadBase => k_is)
    (case g_BadText => k_is)
    (case kk_BadText => k_is)
    (case x_BadText => k_exc)
    (case sb_BadText => k_is)
    (case tt_BadText => k_is)
    (case g_TooGreat => k_is)
    (case kk_TooGreat => k_is)
    (case x_TooGreat => k_exc)
    (case sb_TooGreat => k_is)
    (case tt_TooGreat => k_is)
    (case hd_HeadError => k_is)
    (case e_hn => k_is)
    (case e_ht => k_is)
    (case e_hg_BadTree => k_is)
    (case e_hk_BadTree => k_is)
    (case e_hd_BadTree => k_is)
    (case e_ha_BadTree => k_is)
    (case e_hm_BadTree => k_is)
    (case su_BadTree => k_is)
    (case kt_BadTree_BadTree => k_is)
    (case kt_BadTree_BadWay => k_is)
    (case kt_BadTree_BadTimes => k_is)
    (case kt_BadTree_BadNumber => k_is)
    (case kt_BadTree_BadBase => k_is)
    (case kt_BadTree_BadText => k_is)
    (case kt_BadTree_TooGreat => k_is)
    (case kt_BadTree_ValueError => k_is)
    (case ks_BadTree => k_is)
    (case e_hg_TooGreat => k_is)
    (case e_hk_TooGreat => k_is)
    (case e_hd_TooGreat => k_is)
    (case e_ha_TooGreat => k_is)
    (case e_hm_TooGreat => k_is)
    (case su_TooGreat => k_is)
    (case kt_TooGreat_BadTree => k_is)
    (case kt_TooGreat_BadWay => k_is)
    (case kt_TooGreat_BadTimes => k_is)
    (case kt_TooGreat_BadNumber => k_is)
    (case kt_TooGreat_BadBase => k_is)
    (case kt_TooGreat_BadText => k_is)
    (case kt_TooGreat_TooGreat => k_is)
    (case kt_TooGreat_ValueError => k_is)
    (case ks_TooGreat => k_is)
    (case e_hg_BadWay => k_is)
    (case e_hk_BadWay => k_is)
    (case e_hd_BadWay => k_is)
    (case e_ha_BadWay => k_is)
    (case e_hm_BadWay => k_is)
    (case su_BadWay => k_is)
    (case kt_BadWay_BadTree => k_is)
    (case kt_BadWay_BadWay => k_is)
    (case kt_BadWay_BadTimes => k_is)
    (case kt_BadWay_BadNumber => k_is)
    (case kt_BadWay_BadBase => k_is)
    (case kt_BadWay_BadText => k_is)
    (case kt_BadWay_TooGreat => k_is)
    (case kt_BadWay_ValueError => k_is)
    (case ks_BadWay => k_is)
    (case e_hg_BadTimes => k_is)
    (case e_hk_BadTimes => k_is)
    (case e_hd_BadTimes => k_is)
    (case e_ha_BadTimes => k_is)
    (case e_hm_BadTimes => k_is)
    (case su_BadTimes => k_is)
    (case kt_BadTimes_BadTree => k_is)
    (case kt_BadTimes_BadWay => k_is)
    (case kt_BadTimes_BadTimes => k_is)
    (case kt_BadTimes_BadNumber => k_is)
    (case kt_BadTimes_BadBase => k_is)
    (case kt_BadTimes_BadText => k_is)
    (case kt_BadTimes_TooGreat => k_is)
    (case kt_BadTimes_ValueError => k_is)
    (case ks_BadTimes => k_is)
    (case e_hg_BadBase => k_is)
    (case e_hk_BadBase => k_is)
    (case e_hd_BadBase => k_is)
    (case e_ha_BadBase => k_is)
    (case e_hm_BadBase => k_is)
    (case su_BadBase => k_is)
    (case kt_BadBase_BadTree => k_is)
    (case kt_BadBase_BadWay => k_is)
    (case kt_BadBase_BadTimes => k_is)
    (case kt_BadBase_BadNumber => k_is)
    (case kt_BadBase_BadBase => k_is)
    (case kt_BadBase_BadText => k_is)
    (case kt_BadBase_TooGreat => k_is)
    (case kt_BadBase_ValueError => k_is)
    (case ks_BadBase => k_is)
    (case e_hg_BadNumber => k_is)
    (case e_hk_BadNumber => k_is)
    (case e_hd_BadNumber => k_is)
    (case e_ha_BadNumber => k_is)
    (case e_hm_BadNumber => k_is)
    (case su_BadNumber => k_is)
    (case kt_BadNumber_BadTree => k_is)
    (case kt_BadNumber_BadWay => k_is)
    (case kt_BadNumber_BadTimes => k_is)
    (case kt_BadNumber_BadNumber => k_is)
    (case kt_BadNumber_BadBase => k_is)
    (case kt_BadNumber_BadText => k_is)
    (case kt_BadNumber_TooGreat => k_is)
    (case kt_BadNumber_ValueError => k_is)
    (case ks_BadNumber => k_is)
    (case e_hg_BadText => k_is)
    (case e_hk_BadText => k_is)
    (case e_hd_BadText => k_is)
    (case e_ha_BadText => k_is)
    (case e_hm_BadText => k_is)
    (case su_BadText => k_is)
    (case kt_BadText_BadTree => k_is)
    (case kt_BadText_BadWay => k_is)
    (case kt_BadText_BadTimes => k_is)
    (case kt_BadText_BadNumber => k_is)
    (case kt_BadText_BadBase => k_is)
    (case kt_BadText_BadText => k_is)
    (case kt_BadText_TooGreat => k_is)
    (case kt_BadText_ValueError => k_is)
    (case ks_BadText => k_is)
    (case ic_BadTree => k_is)
    (case ic_BadWay => k_is)
    (case ic_BadTimes => k_is)
    (case ic_BadNumber => k_is)
    (case ic_BadBase => k_is)
    (case ic_BadText => k_is)
    (case ic_TooGreat => k_is)
#print axioms PySem.Challenge.cw_headsgrow_k05_refused_holds
